import PyProof.Rows.All
import Wide.All
import OpenK.AllK
import Wide.FinOn
import HandS.ForMost
import HandS.ForExc
import HandS.TupAny
import HandS.TupMul
import HandS.Wide
import HandS.SortInts
import HandS.Style
import HandS.IsInst
import HandS.More
import KE.GoesMore
import KE.GoesEnum
import HandS.CallSlots
import HandS.WordsExc
import HandS.ExcInit
import KE.KExcSuper
import KE.KExcLine
import HandS.ExcIs
import HandS.ExcField
import KE.KExcIs
import HandS.SetFor
import HandS.Conv
import HandS.RevTup
import HandS.Ends
import HandS.Defaults
import KE.DatumIndex
import PyProof.Rows.ReprShort
import PySem.Challenge.RW_sharedunseen_k37_products_powers_and_wha
set_option Elab.async false
set_option linter.all false
set_option maxRecDepth 100000
set_option maxHeartbeats 4000000
set_option maxHeartbeats 4000000
/-! new tuples, known to the object: they have no dict of their own -/
namespace Tr
open PySem PySem.Spec PyProof.Rows L2
/-- a new tuple of these items stands at a free place -/
def NewT (H : Hp) (xs : List V) (Q : VK) : Prop := ∀ p (o : Obj), H p = none → o.dict = none → Q (.ref p) (upd H p (.frz o (.tup xs)))
section
variable {X : Cx} {es : List Expr} {pos : Pos} {t : TA}
theorem lay_tup {pins : List (Addr × Obj)} {σ : L2.St} {H : Hp} {s : Shared} {xs : List V} {us : List Value} {Q : VK} (I : Inv X pins σ H s) (r : Vals xs us) (hz : xs.length ≤ sizeLine) (q : NewT H xs Q) :
    EP X pins σ Q (.ref s.heap.objs.size) { s with heap := s.heap.push { cls := .type "tuple", data := .seq us.toArray } } :=
  ⟨.ref s.heap.objs.size, _, I.laid (t' := s.toks) (o := .frz { cls := .type "tuple", data := .seq us.toArray } (.tup xs)) (fun b u e => Heap.get?_push_of_some _ e) (Nat.le_refl _) ⟨Heap.get?_push_size _ rfl, hz, us, r, IsTup.new _ _⟩, rfl, q _ _ (I.hok.fresh (Nat.le_refl _)) rfl⟩
def tTupB (t : TA) : TE := fun σ H Q => t σ H fun xs H1 => xs.length ≤ sizeLine ∧ NewT H1 xs Q
theorem pe_tupB {k : Nat} (h : PA X es t) : PE X (.Tuple es k pos) (tTupB t) := ⟨fun pins s σ H Q I want =>
  wpAny_Tuple_spliced (thn (h.run pos pins s σ H _ I want) fun us s1 ⟨xs, H1, I1, r, hz, q⟩ => ⟨r.length ▸ hz, lay_tup I1 r hz q⟩)⟩
def rTupB (K : PySem.W.Frag) : List V → Hp → VK → Prop := fun xs H Q => ∃ p ys, xs = [.ref p] ∧ ((SqL K H p ys ∧ NewT H ys Q) ∨ (SqT K H p ys ∧ Q (.ref p) H))
theorem call_tupB : CallR X (.type "tuple") (rTupB X.K) := fun pins s σ H xs us Q I r ⟨p, ys, e, h⟩ => by
  subst e
  obtain ⟨u, rfl, ru⟩ := vals1 r
  have eu : u = Value.ref p := ru
  subst eu
  cases h with
  | inl h =>
    obtain ⟨its, rv, pl, hz⟩ := I.list h.1
    have same := rv.length
    exact call_tuple_list pl.isList (fun h' keeps => lay_tup (s := { s with heap := h' }) (I.kept (t' := s.toks) keeps) rv hz h.2) (by rw [List.size_toArray]; omega)
  | inr h =>
    obtain ⟨its, rv, pl, hz⟩ := I.tuple h.1
    exact call_tuple_same pl ⟨.ref p, H, I, rfl, h.2⟩
def rCatB (K : PySem.W.Frag) : R2 := fun x y H Q => ∃ a b xs ys, x = .ref a ∧ y = .ref b ∧ SqT K H a xs ∧ SqT K H b ys ∧ xs.length + ys.length ≤ sizeLine ∧ (xs = [] → Q (.ref b) H) ∧ (xs ≠ [] → ys = [] → Q (.ref a) H) ∧ (xs ≠ [] → ys ≠ [] → NewT H (xs ++ ys) Q)
theorem op_catB : OpR X (binaryOp .Add) (rCatB X.K) := fun pins s σ H x y v u Q I rx ry ⟨a, b, xs, ys, ex, ey, ha, hb, hz, q0, q1, q2⟩ => by
  subst ex ey
  have ev : v = Value.ref a := rx
  have eu : u = Value.ref b := ry
  subst ev eu
  obtain ⟨is, ri, pi, _⟩ := I.tuple ha
  obtain ⟨js, rj, pj, _⟩ := I.tuple hb
  by_cases hx : xs = []
  · subst hx
    cases ri
    exact cat_tup0 pi pj ⟨.ref b, H, I, rfl, q0 rfl⟩
  · refine HT.cat_tup pi pj (fun z => hx (ri.nil_iff.mp z)) (fun z => ⟨.ref a, H, I, rfl, q1 hx (rj.nil_iff.mp z)⟩) (fun z => ?_) (by rw [← ri.length, ← rj.length]; exact hz)
    exact lay_tup I (ri.append rj) (by rw [List.length_append]; exact hz) (q2 hx fun w => z (rj.nil_iff.mpr w))
def rSlT2 (K : PySem.W.Frag) : V → Option Int → Option Int → Hp → VK → Prop := fun x lo hi H Q => ∃ a xs, x = .ref a ∧ SqT K H a xs ∧
  (HT.sIx xs.length 0 lo = 0 ∧ HT.sIx xs.length xs.length hi = xs.length → Q (.ref a) H) ∧ (¬ (HT.sIx xs.length 0 lo = 0 ∧ HT.sIx xs.length xs.length hi = xs.length) → NewT H (cutV xs lo hi) Q)
theorem sl_tupB : SlR X (rSlT2 X.K) := fun pins s σ H x v vl vu lo hi sl Q I rx hs pl pu ⟨a, xs, ex, hx, q1, q2⟩ => by
  subst ex
  have ev : v = Value.ref a := rx
  subst ev
  obtain ⟨its, r, ht, hz⟩ := I.tuple hx
  have size : its.toArray.size = xs.length := by rw [List.size_toArray, r.length]
  refine ⟨"tuple", _, PyProof.Rows.slot_tuple_getitem.lookup, ht.typeIs, ?_⟩
  by_cases whole : HT.sIx xs.length 0 lo = 0 ∧ HT.sIx xs.length xs.length hi = xs.length
  · exact getItem_tuple_whole ht hs pl pu (by rw [size]; exact whole) ⟨.ref a, H, I, rfl, q1 whole⟩
  · refine HT.getItem_tuple_cut ht hs pl pu (by rw [size]; exact whole) ?_ (by rw [size]; exact hz)
    rw [size]
    exact lay_tup I ((r.drop (HT.sIx xs.length 0 lo)).take (HT.sIx xs.length xs.length hi - HT.sIx xs.length 0 lo)) (Nat.le_trans (cutV_length xs lo hi) hz) (q2 whole)
def rRepB (K : PySem.W.Frag) : R2 := fun x y H Q => ∃ l k xs, x = .ref l ∧ y = .int k ∧ SqT K H l xs ∧ xs ≠ [] ∧ 2 ≤ k ∧ k ≤ 1000 ∧ xs.length ≤ 1000 ∧ NewT H (List.replicate k.toNat xs).flatten Q
theorem op_repB : OpR X (binaryOp .Mult) (rRepB X.K) := fun pins s σ H x y v u Q I rx ry ⟨l, k, xs, ex, ey, hT, hne, h1, h2, hz, q⟩ => by
  subst ex ey
  have ev : v = Value.ref l := rx
  subst ev
  obtain ⟨t, rfl⟩ := ry
  obtain ⟨its, r, ⟨⟨cls, dd, data, slots⟩, there, hc, n, hd⟩, _⟩ := I.tuple hT
  have hc1 : cls = .type "tuple" := hc
  have hd1 : data = .seq its.toArray n := hd
  subst hc1 hd1
  have len : its.length = xs.length := r.length.symm
  have pos1 : 0 < its.length := by rw [len]; exact List.length_pos_iff.mpr hne
  have empty : its.toArray.isEmpty = false := by cases its with
    | nil => exact absurd pos1 (Nat.lt_irrefl 0)
    | cons _ _ => rfl
  have cells : ((its.toArray.size : Nat) : Int) * k ≤ 1000000 := by
    rw [List.size_toArray, len]
    have : (xs.length : Int) * k ≤ 1000 * k := Int.mul_le_mul_of_nonneg_right (by omega) (by omega)
    omega
  have most : ∀ {α : Type} (ys : List α), ys.length = xs.length → (List.replicate k.toNat ys).flatten.length ≤ sizeLine := fun ys e => by
    rw [PyProof.Rows.lm_len_rep_flat, e, sizeLine_eq]
    have : k.toNat * xs.length ≤ 1000 * 1000 := Nat.mul_le_mul (by omega) hz
    omega
  have few : Builtin.Tuple.tupleTooMany (((its.toArray.size : Nat) : Int) * k) = false := by
    show decide _ = false
    rw [sizeLine_eq]
    exact decide_eq_false (by omega)
  have ends : EP X pins σ Q (.ref s.heap.objs.size) { s with heap := s.heap.push { cls := .type "tuple", data := .seq (List.foldl (fun x1 x2 => x1 ++ x2) #[] (List.replicate k.toNat its.toArray)) } } := by
    rw [size_rep]
    exact lay_tup I (r.rep k.toNat) (most xs rfl) q
  refine wpAny_binaryOp_repeat_ref (T := "tuple") (U := "int") (by decide) ⟨_, there, rfl⟩ (fun s' => typeIs_int s' k t) noFill_tuple_mul F.fills_int_mul F.slot_int_rmul repeat_tuple F.slot_int_index.lookup
    (call_meets F.slot_int_rmul (typeIs_int s k t) F.entry_int_rmul (F.args_int_rmul_2 _ _) (int_rmul_tuple k t l its.toArray n dd slots) ⟨there, rfl, ⟨_, there, rfl⟩, call_meets F.slot_tuple_mul ⟨_, there, rfl⟩ F.entry_tuple_mul (F.args_tuple_mul_2 _ _) (tuple_mulW l its.toArray n dd slots k t
      (by rw [Bool.or_eq_false_iff]; exact ⟨decide_eq_false (by omega), decide_eq_false (by omega)⟩) (by rw [empty, Bool.false_or]; exact beq_eq_false_iff_ne.mpr (by omega)) (by rw [empty, Bool.or_false]; exact decide_eq_false (by omega)) (by omega) few (by rw [size_rep, List.size_toArray]; exact most its len)) ⟨there, ends⟩⟩)
end
end Tr
namespace Tr
open PySem PySem.Spec PyProof.Rows L2

/-- frozen data -/
inductive D where
  | non | bl (b : Bool) | int (i : Int) | str (x : Str) | ty (n : String)
  | tup (ds : List D) | lst (ds : List D) | scr (ns : List Int)
  | dic (kvs : List (Key × D)) | ob (C : Addr) (fs : List (Str × D))
  | er (a c dd : Addr) (fs : List (Str × D))
/-- owned data -/
inductive O where
  | fr (d : D) | fl (ds : List D) | ol (os : List O) | od (kvs : List (Key × D))
mutual
def O.fz : O → D
  | .fr d => d
  | .fl ds => .lst ds
  | .ol os => .lst (O.fzs os)
  | .od kvs => .dic kvs
def O.fzs : List O → List D
  | [] => []
  | o :: os => O.fz o :: O.fzs os
end
theorem fzs_eq : ∀ os : List O, O.fzs os = os.map O.fz
  | [] => by rw [O.fzs, List.map_nil]
  | o :: os => by rw [O.fzs, List.map_cons, fzs_eq os]
/-- where an owned cell hangs: a slot, a temporary -/
inductive Rt where
  | s (i : Nat) | t (k : Nat)
  deriving DecidableEq
abbrev Lab := Rt × List Nat
abbrev Own := Addr → Option Lab

/-- a tuple that stands, without a dict of its own -/
def TupB (H : Hp) (a : Addr) (xs : List V) : Prop := ∃ o : Obj, o.dict = none ∧ H a = some (.frz o (.tup xs))
theorem TupB.sq {K : PySem.W.Frag} {H : Hp} {a : Addr} {xs : List V} (h : TupB H a xs) : SqT K H a xs := .inl (.inr (h.elim fun o p => ⟨o, p.2⟩))
theorem TupB.new {H : Hp} {a : Addr} {xs : List V} {o : Obj} (h : o.dict = none) : TupB (upd H a (.frz o (.tup xs))) a xs := ⟨o, h, upd_same⟩
mutual
def Rep (K : PySem.W.Frag) (G : Hp) : D → V → Prop
  | .non, v => v = .non
  | .bl b, v => v = .bl b
  | .int i, v => v = .int i
  | .str x, v => v = .str x
  | .ty n, v => v = .ty n
  | .tup ds, v => ∃ a xs, v = .ref a ∧ TupB G a xs ∧ Reps K G ds xs ∧ ds.length ≤ sizeLine
  | .lst ds, v => ∃ a xs, v = .ref a ∧ G a = some (.lst xs) ∧ Reps K G ds xs ∧ ds.length ≤ sizeLine
  | .scr ns, v => ∃ a, v = .ref a ∧ SqL K G a (ns.map V.int) ∧ ns.length ≤ sizeLine
  | .dic kvs, v => ∃ a ys, v = .ref a ∧ G a = some (.dK ys) ∧ RepK K G kvs ys
  | .ob C fs, v => ∃ a dx ys, v = .ref a ∧ G a = some (.ins C dx ys) ∧ RepF K G fs ys
  | .er a _ dd fs, v => v = .ref a ∧ ∃ ys, G dd = some (.xd ys) ∧ RepF K G fs ys
def RepK (K : PySem.W.Frag) (G : Hp) : List (Key × D) → List (Key × V) → Prop
  | [], xs => xs = []
  | (k, d) :: ds, xs => ∃ x r, xs = (k, x) :: r ∧ Rep K G d x ∧ RepK K G ds r
def RepF (K : PySem.W.Frag) (G : Hp) : List (Str × D) → List (Str × V) → Prop
  | [], xs => xs = []
  | (k, d) :: ds, xs => ∃ x r, xs = (k, x) :: r ∧ Rep K G d x ∧ RepF K G ds r
def Reps (K : PySem.W.Frag) (G : Hp) : List D → List V → Prop
  | [], xs => xs = []
  | d :: ds, xs => ∃ x r, xs = x :: r ∧ Rep K G d x ∧ Reps K G ds r
end
mutual
def Ow (K : PySem.W.Frag) (G H : Hp) (W : Own) : O → V → Rt → List Nat → Prop
  | .fr d, v, _, _ => Rep K G d v
  | .ol os, v, r, p => ∃ a xs, v = .ref a ∧ H a = some (.lst xs) ∧ W a = some (r, p) ∧ Ows K G H W os xs r p 0 ∧ os.length ≤ sizeLine
  | .fl ds, v, r, p => ∃ a xs, v = .ref a ∧ H a = some (.lst xs) ∧ W a = some (r, p) ∧ Reps K G ds xs ∧ ds.length ≤ sizeLine
  | .od kvs, v, r, p => ∃ a ys, v = .ref a ∧ H a = some (.dK ys) ∧ W a = some (r, p) ∧ RepK K G kvs ys
def Ows (K : PySem.W.Frag) (G H : Hp) (W : Own) : List O → List V → Rt → List Nat → Nat → Prop
  | [], xs, _, _, _ => xs = []
  | o :: os, xs, r, p, k => ∃ x xr, xs = x :: xr ∧ Ow K G H W o x r (p ++ [k]) ∧ Ows K G H W os xr r p (k + 1)
end
theorem SqT_same {K : PySem.W.Frag} {H H' : Hp} {a : Addr} {xs : List V} (e : Same H H') (h : SqT K H a xs) : SqT K H' a xs := by
  rcases h with (h | ⟨o, h⟩) | h
  · exact .inl (.inl (e _ _ h))
  · exact .inl (.inr ⟨o, e _ _ h⟩)
  · exact .inr h
theorem TupB.same {H H' : Hp} {a : Addr} {xs : List V} (e : Same H H') (h : TupB H a xs) : TupB H' a xs := h.elim fun o p => ⟨o, p.1, e _ _ p.2⟩
mutual
theorem Rep.mono {K : PySem.W.Frag} {G G' : Hp} (e : Same G G') : ∀ {d : D} {v : V}, Rep K G d v → Rep K G' d v
  | .non, _, h => by rw [Rep] at h ⊢; exact h
  | .bl _, _, h => by rw [Rep] at h ⊢; exact h
  | .int _, _, h => by rw [Rep] at h ⊢; exact h
  | .str _, _, h => by rw [Rep] at h ⊢; exact h
  | .ty _, _, h => by rw [Rep] at h ⊢; exact h
  | .tup ds, _, h => by
    rw [Rep] at h ⊢
    obtain ⟨a, xs, e1, h1, h2, hz⟩ := h
    exact ⟨a, xs, e1, TupB.same e h1, Reps.mono e h2, hz⟩
  | .lst ds, _, h => by
    rw [Rep] at h ⊢
    obtain ⟨a, xs, e1, h1, h2, hz⟩ := h
    exact ⟨a, xs, e1, e _ _ h1, Reps.mono e h2, hz⟩
  | .scr ns, _, h => by
    rw [Rep] at h ⊢
    obtain ⟨a, e1, h1, hz⟩ := h
    exact ⟨a, e1, e.seq h1, hz⟩
  | .dic kvs, _, h => by
    rw [Rep] at h ⊢
    obtain ⟨a, ys, e1, h1, h2⟩ := h
    exact ⟨a, ys, e1, e _ _ h1, RepK.mono e h2⟩
  | .ob C fs, _, h => by
    rw [Rep] at h ⊢
    obtain ⟨a, dx, ys, e1, h1, h2⟩ := h
    exact ⟨a, dx, ys, e1, e _ _ h1, RepF.mono e h2⟩
  | .er _ _ _ fs, _, h => by
    rw [Rep] at h ⊢
    obtain ⟨e1, ys, h1, h2⟩ := h
    exact ⟨e1, ys, e _ _ h1, RepF.mono e h2⟩
theorem RepK.mono {K : PySem.W.Frag} {G G' : Hp} (e : Same G G') : ∀ {ds : List (Key × D)} {xs : List (Key × V)}, RepK K G ds xs → RepK K G' ds xs
  | [], _, h => by rw [RepK] at h ⊢; exact h
  | (k, d) :: ds, _, h => by
    rw [RepK] at h ⊢
    obtain ⟨x, r, e1, h1, h2⟩ := h
    exact ⟨x, r, e1, Rep.mono e h1, RepK.mono e h2⟩
theorem RepF.mono {K : PySem.W.Frag} {G G' : Hp} (e : Same G G') : ∀ {ds : List (Str × D)} {xs : List (Str × V)}, RepF K G ds xs → RepF K G' ds xs
  | [], _, h => by rw [RepF] at h ⊢; exact h
  | (k, d) :: ds, _, h => by
    rw [RepF] at h ⊢
    obtain ⟨x, r, e1, h1, h2⟩ := h
    exact ⟨x, r, e1, Rep.mono e h1, RepF.mono e h2⟩
theorem Reps.mono {K : PySem.W.Frag} {G G' : Hp} (e : Same G G') : ∀ {ds : List D} {xs : List V}, Reps K G ds xs → Reps K G' ds xs
  | [], _, h => by rw [Reps] at h ⊢; exact h
  | d :: ds, _, h => by
    rw [Reps] at h ⊢
    obtain ⟨x, r, e1, h1, h2⟩ := h
    exact ⟨x, r, e1, Rep.mono e h1, Reps.mono e h2⟩
end
mutual
/-- an owned tree in another heap, under another label -/
theorem Ow.move {K : PySem.W.Frag} {G G' H H' : Hp} {W W' : Own} (e : Same G G') {r r' : Rt} {q q' : List Nat} : ∀ {o : O} {v : V} (p : List Nat),
    (∀ a z, W a = some (r, q ++ (p ++ z)) → H' a = H a ∧ W' a = some (r', q' ++ (p ++ z))) → Ow K G H W o v r (q ++ p) → Ow K G' H' W' o v r' (q' ++ p)
  | .fr d, _, p, hm, h => by rw [Ow] at h ⊢; exact h.mono e
  | .ol os, _, p, hm, h => by
    rw [Ow] at h ⊢
    obtain ⟨a, xs, e1, h1, h2, h3, hz⟩ := h
    have m := hm a [] (by rw [List.append_nil]; exact h2)
    rw [List.append_nil] at m
    exact ⟨a, xs, e1, m.1.trans h1, m.2, Ows.move e p 0 hm h3, hz⟩
  | .fl ds, _, p, hm, h => by
    rw [Ow] at h ⊢
    obtain ⟨a, xs, e1, h1, h2, h3, hz⟩ := h
    have m := hm a [] (by rw [List.append_nil]; exact h2)
    rw [List.append_nil] at m
    exact ⟨a, xs, e1, m.1.trans h1, m.2, h3.mono e, hz⟩
  | .od kvs, _, p, hm, h => by
    rw [Ow] at h ⊢
    obtain ⟨a, xs, e1, h1, h2, h3⟩ := h
    have m := hm a [] (by rw [List.append_nil]; exact h2)
    rw [List.append_nil] at m
    exact ⟨a, xs, e1, m.1.trans h1, m.2, h3.mono e⟩
theorem Ows.move {K : PySem.W.Frag} {G G' H H' : Hp} {W W' : Own} (e : Same G G') {r r' : Rt} {q q' : List Nat} : ∀ {os : List O} {xs : List V} (p : List Nat) (k : Nat),
    (∀ a z, W a = some (r, q ++ (p ++ z)) → H' a = H a ∧ W' a = some (r', q' ++ (p ++ z))) → Ows K G H W os xs r (q ++ p) k → Ows K G' H' W' os xs r' (q' ++ p) k
  | [], _, p, k, hm, h => by rw [Ows] at h ⊢; exact h
  | o :: os, _, p, k, hm, h => by
    rw [Ows] at h ⊢
    obtain ⟨x, xr, e1, h1, h2⟩ := h
    refine ⟨x, xr, e1, ?_, Ows.move e p (k + 1) hm h2⟩
    rw [List.append_assoc] at h1 ⊢
    exact Ow.move e (p ++ [k]) (fun a z w => by
      have := hm a (k :: z) (by rw [w]; simp)
      simpa using this) h1
end
mutual
/-- all of an owned tree is given to the frozen part -/
theorem Ow.froze {K : PySem.W.Frag} {G G' H : Hp} {W : Own} (e : Same G G') {r : Rt} {q : List Nat} : ∀ {o : O} {v : V} (p : List Nat),
    (∀ a z, W a = some (r, q ++ (p ++ z)) → G' a = H a) → Ow K G H W o v r (q ++ p) → Rep K G' o.fz v
  | .fr d, _, p, hm, h => by rw [Ow] at h; rw [O.fz]; exact h.mono e
  | .ol os, _, p, hm, h => by
    rw [Ow] at h
    rw [O.fz, Rep]
    obtain ⟨a, xs, e1, h1, h2, h3, hz⟩ := h
    have m := hm a [] (by rw [List.append_nil]; exact h2)
    exact ⟨a, xs, e1, m.trans h1, Ows.froze e p 0 hm h3, by rw [fzs_eq, List.length_map]; exact hz⟩
  | .fl ds, _, p, hm, h => by
    rw [Ow] at h
    rw [O.fz, Rep]
    obtain ⟨a, xs, e1, h1, h2, h3, hz⟩ := h
    have m := hm a [] (by rw [List.append_nil]; exact h2)
    exact ⟨a, xs, e1, m.trans h1, h3.mono e, hz⟩
  | .od kvs, _, p, hm, h => by
    rw [Ow] at h
    rw [O.fz, Rep]
    obtain ⟨a, xs, e1, h1, h2, h3⟩ := h
    have m := hm a [] (by rw [List.append_nil]; exact h2)
    exact ⟨a, xs, e1, m.trans h1, h3.mono e⟩
theorem Ows.froze {K : PySem.W.Frag} {G G' H : Hp} {W : Own} (e : Same G G') {r : Rt} {q : List Nat} : ∀ {os : List O} {xs : List V} (p : List Nat) (k : Nat),
    (∀ a z, W a = some (r, q ++ (p ++ z)) → G' a = H a) → Ows K G H W os xs r (q ++ p) k → Reps K G' (O.fzs os) xs
  | [], _, p, k, hm, h => by rw [Ows] at h; rw [O.fzs, Reps]; exact h
  | o :: os, _, p, k, hm, h => by
    rw [Ows] at h
    rw [O.fzs, Reps]
    obtain ⟨x, xr, e1, h1, h2⟩ := h
    refine ⟨x, xr, e1, ?_, Ows.froze e p (k + 1) hm h2⟩
    rw [List.append_assoc] at h1
    exact Ow.froze e (p ++ [k]) (fun a z w => hm a (k :: z) (by rw [w]; simp)) h1
end
end Tr
namespace Tr
open PySem PySem.Spec PyProof.Rows L2
inductive Sl where
  | no | ow (o : O) | le (o : O)
abbrev Rho := List Sl
/-- what a body's run is measured by: the cells that it may not touch, the frozen part at its start, the lent values -/
structure Gs where
  kp : Hp
  g0 : Hp
  lv : List V
def SlOk (K : PySem.W.Frag) (g : Gs) (G H : Hp) (W : Own) (σ : L2.St) (i : Nat) : Sl → Prop
  | .no => True
  | .ow o => ∃ v, σ[i]? = some (some v) ∧ Ow K G H W o v (.s i) []
  | .le o => ∃ v, σ[i]? = some (some v) ∧ g.lv[i]? = some v ∧ Ow K G H W o v (.s i) []
structure R (K : PySem.W.Frag) (g : Gs) (ρ : Rho) (T : List (O × V)) (σ : L2.St) (H G : Hp) (W : Own) : Prop where
  gh : Same G H
  kh : Same g.kp H
  gg : Same g.g0 G
  sep : ∀ b, G b ≠ none → g.kp b ≠ none → g.g0 b ≠ none
  wl : ∀ b l, W b = some l → G b = none ∧ g.kp b = none ∧ H b ≠ none
  len : ρ.length = σ.length
  sl : ∀ i s, ρ[i]? = some s → SlOk K g G H W σ i s
  tm : ∀ k o v, T[k]? = some (o, v) → Ow K G H W o v (.t k) []
/-- the cells under a root stay -/
def Keep (W W' : Own) (H H' : Hp) (r : Rt) : Prop := ∀ a z, W a = some (r, z) → H' a = H a ∧ W' a = some (r, z)
section
variable {K : PySem.W.Frag} {g : Gs} {ρ ρ' : Rho} {T T' : List (O × V)} {σ σ' : L2.St} {H H' G G' : Hp} {W W' : Own} {o : O} {v : V} {p : Addr} {d : D} {i k : Nat} {u : HO}
theorem Ow.keep {r : Rt} (e : Same G G') (k : Keep W W' H H' r) (h : Ow K G H W o v r []) : Ow K G' H' W' o v r [] :=
  Ow.move (q := []) (q' := []) e [] (fun a z w => k a z w) h
theorem Ow.same {r : Rt} {q : List Nat} (e : Same G G') (eh : Same H H') (hw : ∀ b l, W b = some l → H b ≠ none) (h : Ow K G H W o v r q) : Ow K G' H' W o v r q := by
  have := Ow.move (K := K) (G := G) (G' := G') (H := H) (H' := H') (W := W) (W' := W) (r := r) (r' := r) (q := q) (q' := q) (o := o) (v := v) e [] (fun a z w => ⟨by
    cases x : H a with
    | none => exact absurd x (hw _ _ w)
    | some y => exact eh _ _ x, w⟩) (by rw [List.append_nil]; exact h)
  rw [List.append_nil] at this
  exact this
theorem SlOk.keep {s : Sl} (e : Same G G') (k : Keep W W' H H' (.s i)) (es : σ'[i]? = σ[i]?) (h : SlOk K g G H W σ i s) : SlOk K g G' H' W' σ' i s := by
  cases s with
  | no => trivial
  | ow o =>
    obtain ⟨v, h1, h2⟩ := h
    exact ⟨v, es.trans h1, h2.keep e k⟩
  | le o =>
    obtain ⟨v, h1, h3, h2⟩ := h
    exact ⟨v, es.trans h1, h3, h2.keep e k⟩
theorem Ow.bor {r : Rt} {q : List Nat} (e : Same G H) (h : Ow K G H W o v r q) : Rep K H o.fz v := by
  have := Ow.froze (K := K) (G := G) (G' := H) (H := H) (W := W) (r := r) (q := q) (o := o) (v := v) e [] (fun _ _ _ => rfl) (by rw [List.append_nil]; exact h)
  exact this
/-- a new object that nothing speaks of, or that is frozen at once -/
theorem R.ext (h : R K g ρ T σ H G W) (e : Same H H') : R K g ρ T σ H' G W where
  gh := h.gh.trans e
  kh := h.kh.trans e
  gg := h.gg
  sep := h.sep
  wl := fun b l w => ⟨(h.wl b l w).1, (h.wl b l w).2.1, by
    cases x : H b with
    | none => exact absurd x (h.wl b l w).2.2
    | some y => rw [e _ _ x]; exact fun z => nomatch z⟩
  len := h.len
  sl := fun i s q => (h.sl i s q).keep (Same.refl G) (fun a z w => ⟨by
    cases x : H a with
    | none => exact absurd x (h.wl _ _ w).2.2
    | some y => exact e _ _ x, w⟩) rfl
  tm := fun k o v q => (h.tm k o v q).same (Same.refl G) e fun b l w => (h.wl b l w).2.2
theorem same_upd (h : H p = none) : Same H (upd H p u) := fun b x e => by
  rw [upd_ne (ne_of_none e h)]
  exact e
theorem same_upd2 (h : H p = none) (e : Same G H) : Same (upd G p u) (upd H p u) := fun b x q => by
  by_cases hb : b = p
  · subst hb; rw [upd_same] at q ⊢; exact q
  · rw [upd_ne hb] at q ⊢; exact e _ _ q
theorem R.new (h : R K g ρ T σ H G W) (hp : H p = none) : R K g ρ T σ (upd H p u) (upd G p u) W where
  gh := same_upd2 hp h.gh
  kh := h.kh.trans (same_upd hp)
  gg := h.gg.trans (same_upd (h.gh.free hp))
  sep := fun b x y => by
    by_cases hb : b = p
    · subst hb; exact absurd (h.kh.free hp) y
    · rw [upd_ne hb] at x; exact h.sep b x y
  wl := fun b l w => by
    have z := h.wl b l w
    have hb : b ≠ p := fun e => z.2.2 (by rw [e]; exact hp)
    rw [upd_ne hb, upd_ne hb]; exact z
  len := h.len
  sl := fun i s q => (h.sl i s q).keep (same_upd (h.gh.free hp)) (fun a z w => ⟨by
    have z := (h.wl _ _ w).2.2
    exact upd_ne (fun e => z (by rw [e]; exact hp)), w⟩) rfl
  tm := fun k o v q => (h.tm k o v q).same (same_upd (h.gh.free hp)) (same_upd hp) fun b l w => (h.wl b l w).2.2
/-- the frozen part with all that hangs at a root -/
def frz (G H : Hp) (W : Own) (r : Rt) : Hp := fun b => match W b with
  | some l => if l.1 = r then H b else G b
  | none => G b
def drp (W : Own) (r : Rt) : Own := fun b => match W b with
  | some l => if l.1 = r then none else some l
  | none => none
theorem frz_same (h : R K g ρ T σ H G W) (r : Rt) : Same G (frz G H W r) := fun b x e => by
  unfold frz
  split
  · rename_i l w
    rw [(h.wl b l w).1] at e; cases e
  · exact e
theorem frz_gh (h : R K g ρ T σ H G W) (r : Rt) : Same (frz G H W r) H := fun b x e => by
  unfold frz at e
  split at e
  · split at e
    · exact e
    · exact h.gh _ _ e
  · exact h.gh _ _ e
theorem drp_some {r : Rt} {b : Addr} {l : Lab} (h : drp W r b = some l) : W b = some l ∧ l.1 ≠ r := by
  unfold drp at h
  split at h
  · split at h
    · cases h
    · rename_i w n; cases h; exact ⟨w, n⟩
  · cases h
theorem drp_of {r : Rt} {b : Addr} {l : Lab} (h : W b = some l) (n : l.1 ≠ r) : drp W r b = some l := by
  unfold drp; rw [h]; exact if_neg n
theorem keep_drp {r r' : Rt} (n : r' ≠ r) : Keep W (drp W r) H H r' := fun a z w => ⟨rfl, drp_of w n⟩
/-- the state with the cells of a root frozen; what hung there is dropped from the lists -/
theorem R.frz0 (h : R K g ρ T σ H G W) (r : Rt) (hl : ρ'.length = ρ.length) (hs : ∀ i s, ρ'[i]? = some s → (ρ[i]? = some s ∧ Rt.s i ≠ r) ∨ SlOk K g (frz G H W r) H (drp W r) σ i s)
    (ht : ∀ k o v, T'[k]? = some (o, v) → (T[k]? = some (o, v) ∧ Rt.t k ≠ r)) : R K g ρ' T' σ H (frz G H W r) (drp W r) where
  gh := frz_gh h r
  kh := h.kh
  gg := h.gg.trans (frz_same h r)
  sep := fun b x y => by
    unfold frz at x
    split at x
    · rename_i l w
      exact absurd (h.wl b l w).2.1 y
    · exact h.sep b x y
  wl := fun b l w => by
    obtain ⟨w, n⟩ := drp_some w
    have z := h.wl b l w
    refine ⟨?_, z.2⟩
    unfold frz; rw [w]
    show (if l.1 = r then H b else G b) = none
    rw [if_neg n]; exact z.1
  len := hl.trans h.len
  sl := fun i s q => by
    rcases hs i s q with ⟨q, n⟩ | q
    · exact (h.sl i s q).keep (frz_same h r) (keep_drp n) rfl
    · exact q
  tm := fun k o v q => by
    obtain ⟨q, n⟩ := ht k o v q
    exact (h.tm k o v q).keep (frz_same h r) (keep_drp n)
theorem get_frz {r : Rt} {a : Addr} {z : List Nat} (w : W a = some (r, z)) : frz G H W r a = H a := by
  unfold frz; rw [w]; exact if_pos rfl
theorem Ow.rep {r : Rt} (h : R K g ρ T σ H G W) (q : Ow K G H W o v r []) : Rep K (frz G H W r) o.fz v :=
  Ow.froze (q := []) (frz_same h r) [] (fun a z w => get_frz w) q
theorem getElem?_snoc {α : Type} {l : List α} {a x : α} {k : Nat} (h : (l ++ [a])[k]? = some x) : (l[k]? = some x ∧ k < l.length) ∨ (k = l.length ∧ x = a) := by
  by_cases hk : k < l.length
  · rw [List.getElem?_append_left hk] at h; exact .inl ⟨h, hk⟩
  · rw [List.getElem?_append_right (by omega)] at h
    have : k - l.length = 0 := by
      cases e : k - l.length with
      | zero => rfl
      | succ n => rw [e] at h; simp at h
    rw [this] at h
    simp at h
    exact .inr ⟨by omega, h.symm⟩
/-- the last temporary is frozen -/
theorem R.frzT (h : R K g ρ (T ++ [(o, v)]) σ H G W) : R K g ρ T σ H (frz G H W (.t T.length)) (drp W (.t T.length)) ∧ Rep K (frz G H W (.t T.length)) o.fz v := by
  refine ⟨h.frz0 _ rfl (fun i s q => .inl ⟨q, fun e => nomatch e⟩) fun k o' v' q => ?_, ?_⟩
  · have hk : k < T.length := by
      by_cases hk : k < T.length
      · exact hk
      · rw [List.getElem?_eq_none (by omega)] at q; cases q
    exact ⟨by rw [List.getElem?_append_left hk]; exact q, fun e => by cases e; exact absurd hk (Nat.lt_irrefl _)⟩
  · exact Ow.rep h (h.tm T.length o v (by simp))
/-- a frozen temporary more -/
theorem R.addT (h : R K g ρ T σ H G W) (q : Rep K G d v) : R K g ρ (T ++ [(.fr d, v)]) σ H G W := { h with
  tm := fun k o v' e => by
    rcases getElem?_snoc e with ⟨e, _⟩ | ⟨_, e⟩
    · exact h.tm k o v' e
    · cases e; rw [Ow]; exact q }
/-- a slot is frozen -/
theorem R.frzS (h : R K g ρ T σ H G W) (e : ρ[i]? = some (.ow o)) : ∃ v, σ[i]? = some (some v) ∧ R K g (ρ.set i (.ow (.fr o.fz))) T σ H (frz G H W (.s i)) (drp W (.s i)) ∧ Rep K (frz G H W (.s i)) o.fz v := by
  obtain ⟨v, h1, h2⟩ := h.sl i _ e
  have rp := Ow.rep h h2
  refine ⟨v, h1, h.frz0 _ (List.length_set ..) (fun j s q => ?_) fun k o' v' q => ⟨q, fun e => nomatch e⟩, rp⟩
  by_cases hj : i = j
  · subst hj
    rw [List.getElem?_set_self' , e] at q
    cases q
    refine .inr ⟨v, h1, ?_⟩
    rw [Ow]; exact rp
  · rw [List.getElem?_set_ne hj] at q
    exact .inl ⟨q, fun z => hj (Rt.s.inj z).symm⟩
/-- roots renamed -/
def wRen (W : Own) (r r' : Rt) (q : List Nat) : Own := fun b => match W b with
  | some l => if l.1 = r then some (r', q ++ l.2) else some l
  | none => none
theorem wRen_ne {r r' : Rt} {q : List Nat} {b : Addr} {l : Lab} (h : W b = some l) (n : l.1 ≠ r) : wRen W r r' q b = some l := by
  unfold wRen; rw [h]; exact if_neg n
theorem wRen_eq {r r' : Rt} {q z : List Nat} {b : Addr} (h : W b = some (r, z)) : wRen W r r' q b = some (r', q ++ z) := by
  unfold wRen; rw [h]; exact if_pos rfl
theorem wRen_none {r r' : Rt} {q : List Nat} {b : Addr} {l : Lab} (h : wRen W r r' q b = some l) : ∃ l', W b = some l' := by
  unfold wRen at h
  split at h
  · rename_i l' w; exact ⟨l', w⟩
  · cases h
theorem Ow.rena {r r' : Rt} {q : List Nat} (h : Ow K G H W o v r []) : Ow K G H (wRen W r r' q) o v r' q := by
  have := Ow.move (K := K) (G := G) (G' := G) (H := H) (H' := H) (W := W) (W' := wRen W r r' q) (r := r) (r' := r') (q := []) (q' := q) (o := o) (v := v) (Same.refl G) [] (fun a z w => ⟨rfl, wRen_eq w⟩) h
  rw [List.append_nil] at this
  exact this
end
end Tr
namespace Tr
open PySem PySem.Spec PyProof.Rows L2
section
variable {K : PySem.W.Frag} {g : Gs} {ρ ρ' : Rho} {T T' : List (O × V)} {σ σ' : L2.St} {H H' G G' : Hp} {W W' : Own} {o : O} {v : V} {p : Addr} {d : D} {i k : Nat} {u : HO}
/-- the general change: labels may be renamed, cells are kept -/
theorem R.relab (h : R K g ρ T σ H G W) (hl : ρ'.length = σ'.length) (hw : ∀ b l, W' b = some l → ∃ l', W b = some l')
    (hs : ∀ i s, ρ'[i]? = some s → SlOk K g G H W' σ' i s) (ht : ∀ k o v, T'[k]? = some (o, v) → Ow K G H W' o v (.t k) []) : R K g ρ' T' σ' H G W' where
  gh := h.gh
  kh := h.kh
  gg := h.gg
  sep := h.sep
  wl := fun b l w => by
    obtain ⟨l', w'⟩ := hw b l w
    exact h.wl b l' w'
  len := hl
  sl := hs
  tm := ht
theorem keep_ren {r r' r2 : Rt} {q : List Nat} (n : r2 ≠ r) : Keep W (wRen W r r' q) H H r2 := fun a z w => ⟨rfl, wRen_ne w n⟩
theorem snoc_last {α : Type} {l : List α} {a : α} : (l ++ [a])[l.length]? = some a := by simp
/-- a slot's tree becomes a temporary -/
theorem R.movS (h : R K g ρ T σ H G W) (e : ρ[i]? = some (.ow o)) : ∃ v, σ[i]? = some (some v) ∧ R K g (ρ.set i .no) (T ++ [(o, v)]) σ H G (wRen W (.s i) (.t T.length) []) := by
  obtain ⟨v, h1, h2⟩ := h.sl i _ e
  refine ⟨v, h1, h.relab ((List.length_set ..).trans h.len) (fun b l w => wRen_none w) (fun j s q => ?_) fun k o' v' q => ?_⟩
  · by_cases hj : i = j
    · subst hj
      rw [List.getElem?_set_self', e] at q
      cases q
      trivial
    · rw [List.getElem?_set_ne hj] at q
      exact (h.sl j s q).keep (Same.refl G) (keep_ren fun z => hj (Rt.s.inj z).symm) rfl
  · rcases getElem?_snoc q with ⟨q2, hk⟩ | ⟨ek, q2⟩
    · exact (h.tm k o' v' q2).keep (Same.refl G) (keep_ren fun z => nomatch z)
    · cases q2; subst ek; exact h2.rena
/-- the last temporary becomes a slot's tree -/
theorem R.setS (h : R K g ρ (T ++ [(o, v)]) σ H G W) (hi : i < ρ.length) : R K g (ρ.set i (.ow o)) T (σ.set i (some v)) H G (wRen W (.t T.length) (.s i) []) := by
  have hq := h.tm T.length o v snoc_last
  refine h.relab (by rw [List.length_set, List.length_set]; exact h.len) (fun b l w => wRen_none w) (fun j s q => ?_) fun k o' v' q => ?_
  · by_cases hj : i = j
    · subst hj
      rw [List.getElem?_set_self hi] at q
      cases q
      exact ⟨v, List.getElem?_set_self (by rw [← h.len]; exact hi), hq.rena⟩
    · rw [List.getElem?_set_ne hj] at q
      exact (h.sl j s q).keep (Same.refl G) (keep_ren fun z => nomatch z) (List.getElem?_set_ne hj)
  · have hk : k < T.length := by
      by_cases hk : k < T.length
      · exact hk
      · rw [List.getElem?_eq_none (by omega)] at q; cases q
    exact (h.tm k o' v' (by rw [List.getElem?_append_left hk]; exact q)).keep (Same.refl G) (keep_ren fun z => by cases z; exact absurd hk (Nat.lt_irrefl _))
/-- temporaries from the n-th on are forgotten -/
theorem R.dropT (h : R K g ρ (T ++ T') σ H G W) : R K g ρ T σ H G W := { h with
  tm := fun k o v q => h.tm k o v (by
    have hk : k < T.length := by
      by_cases hk : k < T.length
      · exact hk
      · rw [List.getElem?_eq_none (by omega)] at q; cases q
    rw [List.getElem?_append_left hk]; exact q) }
/-- a slot forgotten -/
theorem R.noS (h : R K g ρ T σ H G W) {x : Option V} : R K g (ρ.set i .no) T (σ.set i x) H G W :=
  h.relab (by rw [List.length_set, List.length_set]; exact h.len) (fun b l w => ⟨l, w⟩) (fun j s q => by
    by_cases hj : i = j
    · subst hj
      by_cases hi : i < ρ.length
      · rw [List.getElem?_set_self hi] at q; cases q; trivial
      · rw [List.getElem?_eq_none (by rw [List.length_set]; omega)] at q; cases q
    · rw [List.getElem?_set_ne hj] at q
      exact (h.sl j s q).keep (Same.refl G) (fun a z w => ⟨rfl, w⟩) (List.getElem?_set_ne hj)) h.tm
/-! ### a new list of temporaries -/
def wJoin (W : Own) (n : Nat) (p : Addr) : Own := fun b => if b = p then some (.t n, []) else match W b with
  | some (.t k, q) => if n ≤ k then some (.t n, (k - n) :: q) else some (.t k, q)
  | x => x
theorem wJoin_s {n j : Nat} {b : Addr} {z : List Nat} (w : W b = some (.s j, z)) (hb : b ≠ p) : wJoin W n p b = some (.s j, z) := by
  unfold wJoin; rw [if_neg hb, w]
theorem wJoin_lt {n k : Nat} {b : Addr} {z : List Nat} (w : W b = some (.t k, z)) (hb : b ≠ p) (hk : k < n) : wJoin W n p b = some (.t k, z) := by
  unfold wJoin; rw [if_neg hb, w]; exact if_neg (by omega)
theorem wJoin_ge {n k : Nat} {b : Addr} {z : List Nat} (w : W b = some (.t k, z)) (hb : b ≠ p) (hk : n ≤ k) : wJoin W n p b = some (.t n, (k - n) :: z) := by
  unfold wJoin; rw [if_neg hb, w]; exact if_pos hk
theorem Ows.of_tm {W' : Own} {r : Rt} {q : List Nat} : ∀ (ts : List (O × V)) (k : Nat), (∀ j o v, ts[j]? = some (o, v) → Ow K G H W' o v r (q ++ [k + j])) → Ows K G H W' (ts.map (·.1)) (ts.map (·.2)) r q k
  | [], k, h => by rw [List.map_nil, List.map_nil, Ows]
  | (o, v) :: ts, k, h => by
    rw [List.map_cons, List.map_cons, Ows]
    refine ⟨v, _, rfl, h 0 o v rfl, Ows.of_tm ts (k + 1) fun j o' v' e => ?_⟩
    have := h (j + 1) o' v' (by simpa using e)
    rw [show k + 1 + j = k + (j + 1) by omega]
    exact this
theorem R.newL {ts : List (O × V)} (h : R K g ρ (T ++ ts) σ H G W) (hp : H p = none) (hz : ts.length ≤ sizeLine) :
    R K g ρ (T ++ [(.ol (ts.map (·.1)), .ref p)]) σ (upd H p (.lst (ts.map (·.2)))) G (wJoin W T.length p) := by
  have ne : ∀ {b l}, W b = some l → b ≠ p := fun {b l} w e => (h.wl b l w).2.2 (by rw [e]; exact hp)
  have hu : Same H (upd H p (.lst (ts.map (·.2)))) := same_upd hp
  refine ⟨h.gh.trans hu, h.kh.trans hu, h.gg, h.sep, fun b l w => ?_, h.len, fun j s q => ?_, fun k o v q => ?_⟩
  · by_cases hb : b = p
    · subst hb
      exact ⟨h.gh.free hp, h.kh.free hp, by rw [upd_same]; exact fun z => nomatch z⟩
    · have : ∃ l', W b = some l' := by
        unfold wJoin at w
        rw [if_neg hb] at w
        cases e : W b with
        | none => rw [e] at w; cases w
        | some l' => exact ⟨l', rfl⟩
      obtain ⟨l', w'⟩ := this
      rw [upd_ne hb]
      exact h.wl b l' w'
  · exact (h.sl j s q).keep (Same.refl G) (fun a z w => ⟨upd_ne (ne w), wJoin_s w (ne w)⟩) rfl
  · rcases getElem?_snoc q with ⟨q2, hk⟩ | ⟨ek, q2⟩
    · exact (h.tm k o v (by rw [List.getElem?_append_left hk]; exact q2)).keep (Same.refl G) fun a z w => ⟨upd_ne (ne w), wJoin_lt w (ne w) hk⟩
    · cases q2
      subst ek
      rw [Ow]
      refine ⟨p, _, rfl, upd_same, if_pos rfl, Ows.of_tm ts 0 fun j o v e => ?_, by rw [List.length_map]; exact hz⟩
      have q := h.tm (T.length + j) o v (by rw [List.getElem?_append_right (by omega), Nat.add_sub_cancel_left]; exact e)
      have := Ow.move (K := K) (G := G) (G' := G) (H := H) (H' := upd H p (.lst (ts.map (·.2)))) (W := W) (W' := wJoin W T.length p) (r := .t (T.length + j)) (r' := .t T.length) (q := []) (q' := [j]) (o := o) (v := v) (Same.refl G) []
        (fun a z w => ⟨upd_ne (ne w), by
          have := wJoin_ge (z := z) (n := T.length) (k := T.length + j) (p := p) w (ne w) (by omega)
          rw [Nat.add_sub_cancel_left] at this
          exact this⟩) q
      simpa using this
/-! ### writes -/
/-- a frozen list's items -/
theorem Ows.fr {r : Rt} {q : List Nat} : ∀ (ds : List D) (xs : List V) (k : Nat), Reps K G ds xs → Ows K G H W (ds.map .fr) xs r q k
  | [], xs, k, h => by rw [Reps] at h; rw [List.map_nil, Ows]; exact h
  | d :: ds, xs, k, h => by
    rw [Reps] at h
    rw [List.map_cons, Ows]
    obtain ⟨x, xr, e, h1, h2⟩ := h
    refine ⟨x, xr, e, ?_, Ows.fr ds xr (k + 1) h2⟩
    rw [Ow]; exact h1
theorem Ows.len {r : Rt} {q : List Nat} : ∀ {os : List O} {xs : List V} {k : Nat}, Ows K G H W os xs r q k → os.length = xs.length
  | [], xs, k, h => by rw [Ows] at h; rw [h]; rfl
  | o :: os, xs, k, h => by
    rw [Ows] at h
    obtain ⟨x, xr, e, _, h2⟩ := h
    rw [e, List.length_cons, List.length_cons, Ows.len h2]
theorem Ows.get {r : Rt} {q : List Nat} : ∀ {os : List O} {xs : List V} {k j : Nat} {o : O}, Ows K G H W os xs r q k → os[j]? = some o → ∃ x, xs[j]? = some x ∧ Ow K G H W o x r (q ++ [k + j])
  | [], xs, k, j, o, h, e => by simp at e
  | o' :: os, xs, k, 0, o, h, e => by
    rw [Ows] at h
    obtain ⟨x, xr, e1, h1, h2⟩ := h
    simp at e; subst e; subst e1
    exact ⟨x, rfl, h1⟩
  | o' :: os, xs, k, j + 1, o, h, e => by
    rw [Ows] at h
    obtain ⟨x, xr, e1, h1, h2⟩ := h
    obtain ⟨y, e2, h3⟩ := Ows.get h2 (show os[j]? = some o by simpa using e)
    subst e1
    refine ⟨y, by simpa using e2, ?_⟩
    rw [show k + (j + 1) = k + 1 + j by omega]; exact h3
theorem Ows.set {r : Rt} {q : List Nat} : ∀ {os : List O} {xs : List V} {k j : Nat} {o : O} {x : V}, Ows K G H W os xs r q k → Ow K G H W o x r (q ++ [k + j]) → Ows K G H W (os.set j o) (xs.set j x) r q k
  | [], xs, k, j, o, x, h, e => by rw [Ows] at h; subst h; simp [Ows]
  | o' :: os, xs, k, 0, o, x, h, e => by
    rw [Ows] at h
    obtain ⟨y, xr, e1, h1, h2⟩ := h
    subst e1
    rw [List.set_cons_zero, List.set_cons_zero, Ows]
    exact ⟨x, xr, rfl, e, h2⟩
  | o' :: os, xs, k, j + 1, o, x, h, e => by
    rw [Ows] at h
    obtain ⟨y, xr, e1, h1, h2⟩ := h
    subst e1
    rw [List.set_cons_succ, List.set_cons_succ, Ows]
    refine ⟨y, _, rfl, h1, Ows.set h2 ?_⟩
    rw [show k + 1 + j = k + (j + 1) by omega]; exact e
theorem Ows.append {r : Rt} {q : List Nat} : ∀ {os os' : List O} {xs xs' : List V} {k : Nat}, Ows K G H W os xs r q k → Ows K G H W os' xs' r q (k + os.length) → Ows K G H W (os ++ os') (xs ++ xs') r q k
  | [], os', xs, xs', k, h, e => by rw [Ows] at h; subst h; exact e
  | o :: os, os', xs, xs', k, h, e => by
    rw [Ows] at h
    obtain ⟨y, xr, e1, h1, h2⟩ := h
    subst e1
    rw [List.cons_append, List.cons_append, Ows]
    refine ⟨y, _, rfl, h1, Ows.append h2 ?_⟩
    rw [show k + 1 + os.length = k + (o :: os).length by rw [List.length_cons]; omega]; exact e
theorem Ows.take {r : Rt} {q : List Nat} : ∀ {os : List O} {xs : List V} {k : Nat} (n : Nat), Ows K G H W os xs r q k → Ows K G H W (os.take n) (xs.take n) r q k
  | os, xs, k, 0, h => by rw [List.take_zero, List.take_zero, Ows]
  | [], xs, k, n + 1, h => by rw [Ows] at h; subst h; rw [List.take_nil, List.take_nil, Ows]
  | o :: os, xs, k, n + 1, h => by
    rw [Ows] at h
    obtain ⟨y, xr, e1, h1, h2⟩ := h
    subst e1
    rw [List.take_succ_cons, List.take_succ_cons, Ows]
    exact ⟨y, _, rfl, h1, Ows.take n h2⟩
theorem Ows.move1 {r : Rt} {q : List Nat} {os : List O} {xs : List V} {k : Nat} (e : Same G G') (hm : ∀ a z, W a = some (r, q ++ z) → z ≠ [] → H' a = H a ∧ W' a = some (r, q ++ z)) (h : Ows K G H W os xs r q k) : Ows K G' H' W' os xs r q k := by
  induction os generalizing xs k with
  | nil => rw [Ows] at h ⊢; exact h
  | cons o os ih =>
    rw [Ows] at h ⊢
    obtain ⟨y, xr, e1, h1, h2⟩ := h
    refine ⟨y, xr, e1, ?_, ih h2⟩
    have := Ow.move (K := K) (G := G) (G' := G') (H := H) (H' := H') (W := W) (W' := W') (r := r) (r' := r) (q := q ++ [k]) (q' := q ++ [k]) (o := o) (v := y) e [] (fun a z w => by
      rw [List.nil_append, List.append_assoc] at w ⊢
      exact hm a _ w (by simp)) (by rw [List.append_nil]; exact h1)
    rw [List.append_nil] at this
    exact this
theorem Ows.un_fr {r : Rt} {q : List Nat} : ∀ (ds : List D) (xs : List V) (k : Nat), Ows K G H W (ds.map .fr) xs r q k → Reps K G ds xs
  | [], xs, k, h => by rw [List.map_nil, Ows] at h; rw [Reps]; exact h
  | d :: ds, xs, k, h => by
    rw [List.map_cons, Ows] at h
    rw [Reps]
    obtain ⟨x, xr, e, h1, h2⟩ := h
    rw [Ow] at h1
    exact ⟨x, xr, e, h1, Ows.un_fr ds xr (k + 1) h2⟩
/-- all items frozen -/
def frs? : List O → Option (List D)
  | [] => some []
  | .fr d :: r => (frs? r).map (d :: ·)
  | _ :: _ => none
theorem frs?_some : ∀ {os : List O} {ds : List D}, frs? os = some ds → os = ds.map .fr
  | [], ds, h => by cases h; rfl
  | .fr d :: r, ds, h => by
    unfold frs? at h
    cases e : frs? r with
    | none => rw [e] at h; cases h
    | some l => rw [e] at h; cases h; rw [List.map_cons, frs?_some e]
  | .fl _ :: _, _, h => by cases h
  | .ol _ :: _, _, h => by cases h
  | .od _ :: _, _, h => by cases h
theorem frs?_map : ∀ ds : List D, frs? (ds.map .fr) = some ds
  | [] => rfl
  | d :: ds => by rw [List.map_cons, frs?, frs?_map ds]; rfl
/-- a new list of owned things -/
def mkL (os : List O) : O := match frs? os with
  | some ds => .fl ds
  | none => .ol os
theorem mkL_fr (ds : List D) : mkL (ds.map .fr) = .fl ds := by unfold mkL; rw [frs?_map]
theorem Ow.mkL {os : List O} {r : Rt} {q : List Nat} (h : Ow K G H W (.ol os) v r q) : Ow K G H W (mkL os) v r q := by
  unfold Tr.mkL
  cases e : frs? os with
  | none => exact h
  | some ds =>
    have e2 := frs?_some e
    subst e2
    show Tr.Ow K G H W (.fl ds) v r q
    have h' := h
    rw [Tr.Ow] at h'
    obtain ⟨a, xs, e1, h1, h2, h3, hz⟩ := h'
    rw [Tr.Ow]
    exact ⟨a, xs, e1, h1, h2, Ows.un_fr _ _ _ h3, by rw [List.length_map] at hz; exact hz⟩
/-- what a slot holds -/
def Sl.tr : Sl → Option O
  | .no => none
  | .ow o => some o
  | .le o => some o
def Sl.put : Sl → O → Sl
  | .no, _ => .no
  | .ow _, o => .ow o
  | .le _, o => .le o
theorem R.slo (h : R K g ρ T σ H G W) {s : Sl} (e : ρ[i]? = some s) (eo : s.tr = some o) : ∃ v, σ[i]? = some (some v) ∧ Ow K G H W o v (.s i) [] := by
  cases s with
  | no => cases eo
  | ow o' => cases eo; exact h.sl i _ e
  | le o' =>
    cases eo
    obtain ⟨v, h1, _, h2⟩ := h.sl i _ e
    exact ⟨v, h1, h2⟩
/-- a slot's cell is written: what it holds is then o' -/
theorem R.wr0 {s : Sl} {o' : O} {a : Addr} {u : HO} (h : R K g ρ T σ H G W) (h' : R K g ρ T σ H G' W) (e : ρ[i]? = some s) (hv : σ[i]? = some (some (.ref a))) (hw : W a = some (.s i, [])) (es : s ≠ .no) (ho : Ow K G' (upd H a u) W o' (.ref a) (.s i) []) :
    R K g (ρ.set i (s.put o')) T σ (upd H a u) G' W := by
  have hne : ∀ {b : Addr} {l : Lab}, W b = some l → l ≠ (.s i, []) → b ≠ a := fun {b l} w n eq => n (by rw [eq, hw] at w; exact (Option.some.inj w).symm)
  have g' := (h'.wl a _ hw)
  refine ⟨fun b x q => ?_, fun b x q => ?_, h'.gg, h'.sep, fun b l w => ?_, (List.length_set ..).trans h.len, fun j s' q => ?_, fun k o v q => ?_⟩
  · rw [upd_ne (fun z => by rw [z, g'.1] at q; cases q)]; exact h'.gh b x q
  · rw [upd_ne (fun z => by rw [z, g'.2.1] at q; cases q)]; exact h'.kh b x q
  · refine ⟨(h'.wl b l w).1, (h'.wl b l w).2.1, ?_⟩
    by_cases hb : b = a
    · rw [hb, upd_same]; exact fun z => nomatch z
    · rw [upd_ne hb]; exact (h'.wl b l w).2.2
  · by_cases hj : i = j
    · subst hj
      have hi : i < ρ.length := by
        by_cases hi : i < ρ.length
        · exact hi
        · rw [List.getElem?_eq_none (by omega)] at e; cases e
      rw [List.getElem?_set_self hi] at q
      cases q
      cases s with
      | no => trivial
      | ow o'' => exact ⟨.ref a, hv, ho⟩
      | le o'' =>
        obtain ⟨v', h1, h3, _⟩ := h.sl i _ e
        rw [hv] at h1; cases h1
        exact ⟨.ref a, hv, h3, ho⟩
    · rw [List.getElem?_set_ne hj] at q
      exact (h'.sl j s' q).keep (Same.refl G') (fun b z w => ⟨upd_ne (hne w fun z => hj (by cases z; rfl)), w⟩) rfl
  · exact (h'.tm k o v q).keep (Same.refl G') fun b z w => ⟨upd_ne (hne w fun z => nomatch z), w⟩
/-- the flat list in a slot is written -/
theorem R.wrF {s : Sl} {ds : List D} (h : R K g ρ T σ H G W) (e : ρ[i]? = some s) (eo : s.tr = some (.fl ds)) :
    ∃ a xs, σ[i]? = some (some (.ref a)) ∧ H a = some (.lst xs) ∧ G a = none ∧ Reps K G ds xs ∧
      ∀ G' ds' xs', Same G G' → R K g ρ T σ H G' W → Reps K G' ds' xs' → ds'.length ≤ sizeLine → R K g (ρ.set i (s.put (.fl ds'))) T σ (upd H a (.lst xs')) G' W := by
  obtain ⟨v, hv, ho⟩ := h.slo e eo
  rw [Ow] at ho
  obtain ⟨a, xs, rfl, ha, hw, hos, hz⟩ := ho
  refine ⟨a, xs, hv, ha, (h.wl a _ hw).1, hos, fun G' ds' xs' eg h' hos' hz' => h.wr0 h' e hv hw (fun z => by rw [z] at eo; cases eo) ?_⟩
  rw [Ow]; exact ⟨a, xs', rfl, upd_same, hw, hos', hz'⟩
/-- the dict in a slot is written -/
theorem R.wrD {s : Sl} {ds : List (Key × D)} (h : R K g ρ T σ H G W) (e : ρ[i]? = some s) (eo : s.tr = some (.od ds)) :
    ∃ a xs, σ[i]? = some (some (.ref a)) ∧ H a = some (.dK xs) ∧ G a = none ∧ RepK K G ds xs ∧
      ∀ G' ds' xs', Same G G' → R K g ρ T σ H G' W → RepK K G' ds' xs' → R K g (ρ.set i (s.put (.od ds'))) T σ (upd H a (.dK xs')) G' W := by
  obtain ⟨v, hv, ho⟩ := h.slo e eo
  rw [Ow] at ho
  obtain ⟨a, xs, rfl, ha, hw, hos⟩ := ho
  refine ⟨a, xs, hv, ha, (h.wl a _ hw).1, hos, fun G' ds' xs' eg h' hos' => h.wr0 h' e hv hw (fun z => by rw [z] at eo; cases eo) ?_⟩
  rw [Ow]; exact ⟨a, xs', rfl, upd_same, hw, hos'⟩
/-- the list in a slot is written -/
theorem R.wr {s : Sl} {os os' : List O} (h : R K g ρ T σ H G W) (e : ρ[i]? = some s) (eo : s.tr = some (.ol os)) :
    ∃ a xs, σ[i]? = some (some (.ref a)) ∧ H a = some (.lst xs) ∧ G a = none ∧ os.length = xs.length ∧ Ows K G H W os xs (.s i) [] 0 ∧
      ∀ G' os' xs', Same G G' → R K g ρ T σ H G' W → (Ows K G' (upd H a (.lst xs')) W os' xs' (.s i) [] 0) → os'.length ≤ sizeLine → R K g (ρ.set i (s.put (.ol os'))) T σ (upd H a (.lst xs')) G' W := by
  obtain ⟨v, hv, ho⟩ := h.slo e eo
  rw [Ow] at ho
  obtain ⟨a, xs, rfl, ha, hw, hos, hz⟩ := ho
  refine ⟨a, xs, hv, ha, (h.wl a _ hw).1, hos.len, hos, fun G' os' xs' eg h' hos' hz' => ?_⟩
  have hne : ∀ {b : Addr} {l : Lab}, W b = some l → l ≠ (.s i, []) → b ≠ a := fun {b l} w n eq => n (by rw [eq, hw] at w; exact (Option.some.inj w).symm)
  have g' := (h'.wl a _ hw)
  refine ⟨fun b x q => ?_, fun b x q => ?_, h'.gg, h'.sep, fun b l w => ?_, (List.length_set ..).trans h.len, fun j s' q => ?_, fun k o v q => ?_⟩
  · rw [upd_ne (fun z => by rw [z, g'.1] at q; cases q)]; exact h'.gh b x q
  · rw [upd_ne (fun z => by rw [z, g'.2.1] at q; cases q)]; exact h'.kh b x q
  · refine ⟨(h'.wl b l w).1, (h'.wl b l w).2.1, ?_⟩
    by_cases hb : b = a
    · rw [hb, upd_same]; exact fun z => nomatch z
    · rw [upd_ne hb]; exact (h'.wl b l w).2.2
  · by_cases hj : i = j
    · subst hj
      have hi : i < ρ.length := by
        by_cases hi : i < ρ.length
        · exact hi
        · rw [List.getElem?_eq_none (by omega)] at e; cases e
      rw [List.getElem?_set_self hi] at q
      cases q
      have ow : Ow K G' (upd H a (.lst xs')) W (.ol os') (.ref a) (.s i) [] := by
        rw [Ow]; exact ⟨a, xs', rfl, upd_same, hw, hos', hz'⟩
      cases s with
      | no => trivial
      | ow o' => exact ⟨.ref a, hv, ow⟩
      | le o' =>
        obtain ⟨v', h1, h3, _⟩ := h.sl i _ e
        rw [hv] at h1; cases h1
        exact ⟨.ref a, hv, h3, ow⟩
    · rw [List.getElem?_set_ne hj] at q
      exact (h'.sl j s' q).keep (Same.refl G') (fun b z w => ⟨upd_ne (hne w fun z => hj (by cases z; rfl)), w⟩) rfl
  · exact (h'.tm k o v q).keep (Same.refl G') fun b z w => ⟨upd_ne (hne w fun z => nomatch z), w⟩
end
end Tr
namespace Tr
open PySem PySem.Spec PyProof.Rows L2
/-- a result: a value, or an error of a class (by its name) with its fields -/
inductive Re (α : Type) where
  | ok (a : α) (ρ : Rho)
  | ex (c : Str) (fs : List (Str × D)) (ρ : Rho)
/-- a statement's result -/
inductive So where
  | nx (ρ : Rho) | rt (o : O) (ρ : Rho) | bk (ρ : Rho) | ct (ρ : Rho)
  | ex (c : Str) (fs : List (Str × D)) (ρ : Rho)
abbrev Mo (α : Type) := Rho → Option (Re α)
abbrev Pu (α : Type) := Rho → Option α
abbrev MS := Rho → Option So
abbrev MG := Str → Option Value
def FsRep (K : PySem.W.Frag) (G : Hp) (fs : List (Str × D)) (fv : List (Str × V)) : Prop := fv.map (·.1) = fs.map (·.1) ∧ Reps K G (fs.map (·.2)) (fv.map (·.2))
/-- what is wanted of an error -/
def WE' (K : PySem.W.Frag) (mg : MG) (Wx : WX) (g : Gs) (T : List (O × V)) (G : Hp) (c : Str) (fs : List (Str × D)) (ρ' : Rho) : Prop :=
  ∀ C d fv σ' H' G' W', mg c = some (.ref C) → R K g ρ' T σ' H' G' W' → Same G G' → G' d = some (.xd fv) → FsRep K G' fs fv → Wx (.ref C) (some d) σ' H'
def GE {α : Type} (K : PySem.W.Frag) (mg : MG) (Wx : WX) (g : Gs) (T : List (O × V)) (G : Hp) (k : α → Rho → Prop) : Option (Re α) → Prop
  | none => False
  | some (.ok a ρ') => k a ρ'
  | some (.ex c fs ρ') => WE' K mg Wx g T G c fs ρ'
section
variable (K : PySem.W.Frag) (mg : MG) (Wx : WX)
/-- an expression: the value as an owned tree -/
def tX (f : Mo O) : TE := fun σ H Q => ∃ g ρ T G W, R K g ρ T σ H G W ∧ GE K mg Wx g T G (fun o ρ' => ∀ v H' G' W', R K g ρ' (T ++ [(o, v)]) σ H' G' W' → Same G G' → Q v H') (f ρ)
/-- an argument list: all its values as temporaries -/
def tA (f : Mo (List O)) : TA := fun σ H Q => ∃ g ρ T G W, R K g ρ T σ H G W ∧ GE K mg Wx g T G (fun os ρ' => ∀ vs H' G' W', vs.length = os.length → R K g ρ' (T ++ os.zip vs) σ H' G' W' → Same G G' → Q vs H') (f ρ)
/-- an expression that changes nothing, its value frozen -/
def tP (f : Pu D) : TE := fun σ H Q => ∃ g ρ T G W d, R K g ρ T σ H G W ∧ f ρ = some d ∧ ∀ v H' G', R K g ρ T σ H' G' W → Same G G' → Same H H' → Rep K G' d v → Q v H'
/-- .. its value readable as the heap stands -/
def tB (f : Pu D) : TE := fun σ H Q => ∃ g ρ T G W d, R K g ρ T σ H G W ∧ f ρ = some d ∧ ∀ v H' G', R K g ρ T σ H' G' W → Same G G' → Same H H' → Rep K H' d v → Q v H'
/-- tests -/
def tQ (f : Pu Bool) : TT := fun σ H Q => ∃ g ρ T G W b, R K g ρ T σ H G W ∧ f ρ = some b ∧ ∀ H' G', R K g ρ T σ H' G' W → Same G G' → Same H H' → Q b H'
def tY (f : Mo Bool) : TT := fun σ H Q => ∃ g ρ T G W, R K g ρ T σ H G W ∧ GE K mg Wx g T G (fun b ρ' => ∀ H' G' W', R K g ρ' T σ H' G' W' → Same G G' → Q b H') (f ρ)
/-- statements -/
def GS (D : Ends) (g : Gs) (T : List (O × V)) (G : Hp) : Option So → Prop
  | none => False
  | some (.nx ρ') => ∀ σ' H' G' W', R K g ρ' T σ' H' G' W' → Same G G' → D.nx σ' H'
  | some (.bk ρ') => ∀ σ' H' G' W', R K g ρ' T σ' H' G' W' → Same G G' → D.bk σ' H'
  | some (.ct ρ') => ∀ σ' H' G' W', R K g ρ' T σ' H' G' W' → Same G G' → D.ct σ' H'
  | some (.rt o ρ') => ∀ v σ' H' G' W', R K g ρ' (T ++ [(o, v)]) σ' H' G' W' → Same G G' → D.rt v H'
  | some (.ex c fs ρ') => WE' K mg Wx g T G c fs ρ'
def tS (f : MS) : TS := fun D σ H => ∃ g ρ T G W, R K g ρ T σ H G W ∧ GS K mg Wx D g T G (f ρ)
end
theorem _root_.L2.PE.wk {X : Cx} {e : Expr} {t t' : TE} (h : PE X e t) (w : ∀ σ H Q, t' σ H Q → t σ H Q) : PE X e t' := ⟨fun pins s σ H Q I q => h.run pins s σ H Q I (w σ H Q q)⟩
theorem _root_.L2.PT.wk {X : Cx} {e : Expr} {t t' : TT} (h : PT X e t) (w : ∀ σ H Q, t' σ H Q → t σ H Q) : PT X e t' := ⟨fun pins s σ H Q I q => h.run pins s σ H Q I (w σ H Q q)⟩
theorem _root_.L2.PA.wk {X : Cx} {e : List Expr} {t t' : TA} (h : PA X e t) (w : ∀ σ H Q, t' σ H Q → t σ H Q) : PA X e t' := ⟨fun pos pins s σ H Q I q => h.run pos pins s σ H Q I (w σ H Q q)⟩
theorem _root_.L2.PS.wk {X : Cx} {e : Stmt} {t t' : TS} (h : PS X e t) (w : ∀ D σ H, t' D σ H → t D σ H) : PS X e t' := ⟨fun pins s σ H Q I q => h.run pins s σ H Q I (w Q σ H q)⟩
theorem _root_.L2.PSs.wk {X : Cx} {e : List Stmt} {t t' : TS} (h : PSs X e t) (w : ∀ D σ H, t' D σ H → t D σ H) : PSs X e t' := ⟨fun pins s σ H Q I q => h.run pins s σ H Q I (w Q σ H q)⟩

theorem WE'.mono {K : PySem.W.Frag} {mg : MG} {Wx : WX} {g : Gs} {T : List (O × V)} {G G' : Hp} {c : Str} {fs : List (Str × D)} {ρ : Rho} (e : Same G G') (h : WE' K mg Wx g T G c fs ρ) : WE' K mg Wx g T G' c fs ρ :=
  fun C d fv σ' H' G2 W' a b s x y => h C d fv σ' H' G2 W' a b (e.trans s) x y
theorem WE'.drop {K : PySem.W.Frag} {mg : MG} {Wx : WX} {g : Gs} {T T' : List (O × V)} {G : Hp} {c : Str} {fs : List (Str × D)} {ρ : Rho} (h : WE' K mg Wx g T G c fs ρ) : WE' K mg Wx g (T ++ T') G c fs ρ :=
  fun C d fv σ' H' G2 W' a b s x y => h C d fv σ' H' G2 W' a b.dropT s x y
/-! ### from one reading to another -/
/-- pure to general -/
def ofP (f : Pu D) : Mo O := fun ρ => match f ρ with
  | some d => some (.ok (.fr d) ρ)
  | none => none
/-- general, its value frozen -/
def frzM (f : Mo O) : Mo D := fun ρ => match f ρ with
  | some (.ok o ρ') => some (.ok o.fz ρ')
  | some (.ex c fs ρ') => some (.ex c fs ρ')
  | none => none
section
variable {X : Cx} {e a b : Expr} {Wx : WX} {pos : Pos}
theorem _root_.L2.PE.px {f : Pu D} (h : PE X e (tP X.K f)) : PE X e (tX X.K X.mg Wx (ofP f)) := h.wk fun σ H Q ⟨g, ρ, T, G, W, hR, k⟩ => by
  unfold ofP at k
  cases hf : f ρ with
  | none => rw [hf] at k; exact k.elim
  | some d =>
    rw [hf] at k
    exact ⟨g, ρ, T, G, W, d, hR, hf, fun v H' G' R' eg eh r => k v H' G' W (R'.addT r) eg⟩
theorem _root_.L2.PE.pb {f : Pu D} (h : PE X e (tP X.K f)) : PE X e (tB X.K f) := h.wk fun σ H Q ⟨g, ρ, T, G, W, d, hR, hf, k⟩ =>
  ⟨g, ρ, T, G, W, d, hR, hf, fun v H' G' R' eg eh r => k v H' G' R' eg eh (r.mono R'.gh)⟩
/-- a value, frozen (for the readings of rules) -/
def tV (K : PySem.W.Frag) (mg : MG) (Wx : WX) (f : Mo D) : TE := fun σ H Q => ∃ g ρ T G W, R K g ρ T σ H G W ∧ GE K mg Wx g T G (fun d ρ' => ∀ v H' G' W', R K g ρ' T σ H' G' W' → Same G G' → Rep K G' d v → Q v H') (f ρ)
theorem _root_.L2.PE.pv {f : Mo O} (h : PE X e (tX X.K X.mg Wx f)) : PE X e (tV X.K X.mg Wx (frzM f)) := h.wk fun σ H Q ⟨g, ρ, T, G, W, hR, k⟩ => by
  refine ⟨g, ρ, T, G, W, hR, ?_⟩
  unfold frzM at k
  cases hf : f ρ with
  | none => rw [hf] at k; exact k.elim
  | some r =>
    rw [hf] at k
    cases r with
    | ex c fs ρ' => exact k
    | ok o ρ' =>
      intro v H' G' W' R' eg
      obtain ⟨R2, rp⟩ := R'.frzT
      exact k v _ _ _ R2 (eg.trans (frz_same R' _)) rp
/-- what a value frozen becomes -/
def frM (f : Mo D) : Mo O := fun ρ => match f ρ with
  | some (.ok d ρ') => some (.ok (.fr d) ρ')
  | some (.ex c fs ρ') => some (.ex c fs ρ')
  | none => none
theorem _root_.L2.PE.vx {f : Mo D} (h : PE X e (tV X.K X.mg Wx f)) : PE X e (tX X.K X.mg Wx (frM f)) := h.wk fun σ H Q ⟨g, ρ, T, G, W, hR, k⟩ => by
  refine ⟨g, ρ, T, G, W, hR, ?_⟩
  unfold frM at k
  cases hf : f ρ with
  | none => rw [hf] at k; exact k.elim
  | some r =>
    rw [hf] at k
    cases r with
    | ex c fs ρ' => exact k
    | ok d ρ' => exact fun v H' G' W' R' eg r => k v H' G' W' (R'.addT r) eg
def puV (f : Pu D) : Mo D := fun ρ => match f ρ with
  | some d => some (.ok d ρ)
  | none => none
theorem _root_.L2.PE.pV {f : Pu D} (h : PE X e (tP X.K f)) : PE X e (tV X.K X.mg Wx (puV f)) := h.wk fun σ H Q ⟨g, ρ, T, G, W, hR, k⟩ => by
  unfold puV at k
  cases hf : f ρ with
  | none => rw [hf] at k; exact k.elim
  | some d =>
    rw [hf] at k
    exact ⟨g, ρ, T, G, W, d, hR, hf, fun v H' G' R' eg eh r => k v H' G' W R' eg r⟩
/-! ### constants and names -/
def cst (d : D) : Pu D := fun _ => some d
theorem p_cst {v : V} {d : D} (h : PE X e (tC v)) (r : ∀ G, Rep X.K G d v) : PE X e (tP X.K (cst d)) := h.wk fun σ H Q ⟨g, ρ, T, G, W, d', hR, hf, k⟩ => by
  cases hf
  exact k v H G hR (Same.refl _) (Same.refl _) (r G)
theorem p_int {i j} : PE X (.Constant (.int i) j pos) (tP X.K (cst (.int i))) := p_cst pe_int fun G => by rw [Rep]
theorem p_bl {b j} : PE X (.Constant (.bool b) j pos) (tP X.K (cst (.bl b))) := p_cst pe_bl fun G => by rw [Rep]
theorem p_non {j} : PE X (.Constant .none j pos) (tP X.K (cst .non)) := p_cst pe_non fun G => by rw [Rep]
theorem p_str {x j} : PE X (.Constant (.str x) j pos) (tP X.K (cst (.str x))) := p_cst pe_str fun G => by rw [Rep]
/-- a frozen slot -/
def var (i : Nat) : Pu D := fun ρ => match ρ[i]? with
  | some (.ow (.fr d)) => some d
  | some (.le (.fr d)) => some d
  | _ => none
theorem var_some {i : Nat} {ρ : Rho} {d : D} (h : var i ρ = some d) : ∃ s, ρ[i]? = some s ∧ s.tr = some (.fr d) := by
  unfold var at h
  split at h
  · rename_i e; cases h; exact ⟨_, e, rfl⟩
  · rename_i e; cases h; exact ⟨_, e, rfl⟩
  · cases h
theorem p_var {i : Nat} (h : PE X e (tVar i)) : PE X e (tP X.K (var i)) := h.wk fun σ H Q ⟨g, ρ, T, G, W, d, hR, hf, k⟩ => by
  obtain ⟨s, e1, e2⟩ := var_some hf
  obtain ⟨v, h1, h2⟩ := hR.slo e1 e2
  rw [Ow] at h2
  exact ⟨v, h1, k v H G hR (Same.refl _) (Same.refl _) h2⟩
/-- any slot, read -/
def bor (i : Nat) : Pu D := fun ρ => match ρ[i]? with
  | some (.ow o) => some o.fz
  | some (.le o) => some o.fz
  | _ => none
theorem bor_some {i : Nat} {ρ : Rho} {d : D} (h : bor i ρ = some d) : ∃ s o, ρ[i]? = some s ∧ s.tr = some o ∧ d = o.fz := by
  unfold bor at h
  split at h
  · rename_i e; cases h; exact ⟨_, _, e, rfl, rfl⟩
  · rename_i e; cases h; exact ⟨_, _, e, rfl, rfl⟩
  · cases h
theorem b_var {i : Nat} (h : PE X e (tVar i)) : PE X e (tB X.K (bor i)) := h.wk fun σ H Q ⟨g, ρ, T, G, W, d, hR, hf, k⟩ => by
  obtain ⟨s, o, e1, e2, e3⟩ := bor_some hf
  obtain ⟨v, h1, h2⟩ := hR.slo e1 e2
  subst e3
  exact ⟨v, h1, k v H G hR (Same.refl _) (Same.refl _) (h2.bor hR.gh)⟩
/-- a slot, frozen for good -/
def frzS (i : Nat) : Mo D := fun ρ => match ρ[i]? with
  | some (.ow o) => some (.ok o.fz (ρ.set i (.ow (.fr o.fz))))
  | _ => none
theorem v_frz {i : Nat} (h : PE X e (tVar i)) : PE X e (tV X.K X.mg Wx (frzS i)) := h.wk fun σ H Q ⟨g, ρ, T, G, W, hR, k⟩ => by
  unfold frzS at k
  cases e : ρ[i]? with
  | none => rw [e] at k; exact k.elim
  | some s =>
    rw [e] at k
    cases s with
    | no => exact k.elim
    | le o => exact k.elim
    | ow o =>
      obtain ⟨v, h1, R2, rp⟩ := hR.frzS e
      exact ⟨v, h1, k v H _ _ R2 (frz_same hR _) rp⟩
/-- a slot, given away -/
def mov (i : Nat) : Mo O := fun ρ => match ρ[i]? with
  | some (.ow o) => some (.ok o (ρ.set i .no))
  | _ => none
theorem x_mov {i : Nat} (h : PE X e (tVar i)) : PE X e (tX X.K X.mg Wx (mov i)) := h.wk fun σ H Q ⟨g, ρ, T, G, W, hR, k⟩ => by
  unfold mov at k
  cases e : ρ[i]? with
  | none => rw [e] at k; exact k.elim
  | some s =>
    rw [e] at k
    cases s with
    | no => exact k.elim
    | le o => exact k.elim
    | ow o =>
      obtain ⟨v, h1, R2⟩ := hR.movS e
      exact ⟨v, h1, k v H _ _ R2 (Same.refl G)⟩
/-! ### operators -/
inductive Grow (H G : Hp) : Hp → Hp → Prop where
  | st : Grow H G H G
  | nw (p : Addr) (u : HO) (hp : H p = none) : Grow H G (upd H p u) (upd G p u)
theorem R.grow {K : PySem.W.Frag} {g : Gs} {ρ : Rho} {T : List (O × V)} {σ : L2.St} {H H' G G' : Hp} {W : Own} (h : R K g ρ T σ H G W) (w : Grow H G H' G') : R K g ρ T σ H' G' W ∧ Same H H' ∧ Same G G' := by
  cases w with
  | st => exact ⟨h, Same.refl _, Same.refl _⟩
  | nw p u hp => exact ⟨h.new hp, same_upd hp, same_upd (h.gh.free hp)⟩
/-- a rule for two values reckons g -/
def OpS (K : PySem.W.Frag) (r : R2) (f : D → D → Option D) : Prop := ∀ (d1 d2 d : D) (x y : V) (H G : Hp) (Q : VK), Same G H → f d1 d2 = some d → Rep K G d1 x → Rep K G d2 y → (∀ v H' G', Grow H G H' G' → Rep K G' d v → Q v H') → r x y H Q
/-- .. of values read in the heap, a value that is no object -/
def OpB (K : PySem.W.Frag) (r : R2) (f : D → D → Option D) : Prop := ∀ (d1 d2 d : D) (x y : V) (H : Hp) (Q : VK), f d1 d2 = some d → Rep K H d1 x → Rep K H d2 y → (∀ v, (∀ G, Rep K G d v) → Q v H) → r x y H Q
theorem OpB.s {K : PySem.W.Frag} {r : R2} {f : D → D → Option D} (h : OpB K r f) : OpS K r f := fun d1 d2 d x y H G Q e hf r1 r2 k => h d1 d2 d x y H Q hf (r1.mono e) (r2.mono e) fun v hv => k v H G .st (hv G)
def pu2 (g : D → D → Option D) (fa fb : Pu D) : Pu D := fun ρ => match fa ρ, fb ρ with
  | some x, some y => g x y
  | _, _ => none
theorem pu2_some {g : D → D → Option D} {fa fb : Pu D} {ρ : Rho} {d : D} (h : pu2 g fa fb ρ = some d) : ∃ x y, fa ρ = some x ∧ fb ρ = some y ∧ g x y = some d := by
  unfold pu2 at h
  split at h
  · rename_i x y e1 e2; exact ⟨x, y, e1, e2, h⟩
  · cases h
theorem tOp_p {K : PySem.W.Frag} {r : R2} {g : D → D → Option D} {fa fb : Pu D} (h : OpS K r g) : ∀ σ H Q, tP K (pu2 g fa fb) σ H Q → tOp r (tP K fa) (tP K fb) σ H Q := fun σ H Q ⟨g', ρ, T, G, W, d, hR, hf, k⟩ => by
  obtain ⟨x, y, e1, e2, e3⟩ := pu2_some hf
  refine ⟨g', ρ, T, G, W, x, hR, e1, fun u H1 G1 R1 eg1 eh1 r1 => ⟨g', ρ, T, G1, W, y, R1, e2, fun u2 H2 G2 R2 eg2 eh2 r2 => ?_⟩⟩
  refine h x y d u u2 H2 G2 Q R2.gh e3 (r1.mono eg2) r2 fun v H' G' w rv => ?_
  obtain ⟨R3, a, b⟩ := R2.grow w
  exact k v H' G' R3 ((eg1.trans eg2).trans b) ((eh1.trans eh2).trans a) rv
theorem tOp_b {K : PySem.W.Frag} {r : R2} {g : D → D → Option D} {fa fb : Pu D} (h : OpB K r g) : ∀ σ H Q, tP K (pu2 g fa fb) σ H Q → tOp r (tB K fa) (tB K fb) σ H Q := fun σ H Q ⟨g', ρ, T, G, W, d, hR, hf, k⟩ => by
  obtain ⟨x, y, e1, e2, e3⟩ := pu2_some hf
  refine ⟨g', ρ, T, G, W, x, hR, e1, fun u H1 G1 R1 eg1 eh1 r1 => ⟨g', ρ, T, G1, W, y, R1, e2, fun u2 H2 G2 R2 eg2 eh2 r2 => ?_⟩⟩
  exact h x y d u u2 H2 Q e3 (r1.mono eh2) r2 fun v rv => k v H2 G2 R2 (eg1.trans eg2) (eh1.trans eh2) (rv G2)
def mo2 (g : D → D → Option D) (fa fb : Mo D) : Mo D := fun ρ => match fa ρ with
  | some (.ok x ρ1) => (match fb ρ1 with
    | some (.ok y ρ2) => (match g x y with
      | some d => some (.ok d ρ2)
      | none => none)
    | some (.ex c fs ρ2) => some (.ex c fs ρ2)
    | none => none)
  | some (.ex c fs ρ1) => some (.ex c fs ρ1)
  | none => none
theorem tOp_v {K : PySem.W.Frag} {mg : MG} {r : R2} {g : D → D → Option D} {fa fb : Mo D} (h : OpS K r g) : ∀ σ H Q, tV K mg Wx (mo2 g fa fb) σ H Q → tOp r (tV K mg Wx fa) (tV K mg Wx fb) σ H Q := fun σ H Q ⟨g', ρ, T, G, W, hR, k⟩ => by
  refine ⟨g', ρ, T, G, W, hR, ?_⟩
  unfold mo2 at k
  cases ha : fa ρ with
  | none => rw [ha] at k; exact k.elim
  | some ra =>
    rw [ha] at k
    cases ra with
    | ex c fs ρ1 => exact k
    | ok x ρ1 =>
      intro u H1 G1 W1 R1 eg1 r1
      refine ⟨g', ρ1, T, G1, W1, R1, ?_⟩
      dsimp only at k
      cases hb : fb ρ1 with
      | none => rw [hb] at k; exact k.elim
      | some rb =>
        rw [hb] at k
        cases rb with
        | ex c fs ρ2 => exact WE'.mono eg1 k
        | ok y ρ2 =>
          intro u2 H2 G2 W2 R2 eg2 r2
          dsimp only at k
          cases hg : g x y with
          | none => rw [hg] at k; exact k.elim
          | some d =>
            rw [hg] at k
            refine h x y d u u2 H2 G2 Q R2.gh hg (r1.mono eg2) r2 fun v H' G' w rv => ?_
            obtain ⟨R3, a, b⟩ := R2.grow w
            exact k v H' G' W2 R3 ((eg1.trans eg2).trans b) rv
theorem p_op {op : Operator} {r : R2} {g : D → D → Option D} {fa fb : Pu D} (ho : OpR X (binaryOp op) r) (h : OpS X.K r g) (ha : PE X a (tP X.K fa)) (hb : PE X b (tP X.K fb)) : PE X (.BinOp a op b pos) (tP X.K (pu2 g fa fb)) := (pe_op ho ha hb).wk (tOp_p h)
theorem v_op {op : Operator} {r : R2} {g : D → D → Option D} {fa fb : Mo D} (ho : OpR X (binaryOp op) r) (h : OpS X.K r g) (ha : PE X a (tV X.K X.mg Wx fa)) (hb : PE X b (tV X.K X.mg Wx fb)) : PE X (.BinOp a op b pos) (tV X.K X.mg Wx (mo2 g fa fb)) := (pe_op ho ha hb).wk (tOp_v h)
theorem p_cmp {op : CmpOp} {r : R2} {g : D → D → Option D} {fa fb : Pu D} (ho : OpR X (compareOp op) r) (h : OpB X.K r g) (ha : PE X a (tB X.K fa)) (hb : PE X b (tB X.K fb)) (hm : behindInMarks op b = false) : PE X (.Compare a [op] [b] pos) (tP X.K (pu2 g fa fb)) := (pe_cmpR ho ha hb hm).wk (tOp_b h)
theorem v_cmp {op : CmpOp} {r : R2} {g : D → D → Option D} {fa fb : Mo D} (ho : OpR X (compareOp op) r) (h : OpS X.K r g) (ha : PE X a (tV X.K X.mg Wx fa)) (hb : PE X b (tV X.K X.mg Wx fb)) (hm : behindInMarks op b = false) : PE X (.Compare a [op] [b] pos) (tV X.K X.mg Wx (mo2 g fa fb)) := (pe_cmpR ho ha hb hm).wk (tOp_v h)
end
end Tr
namespace Tr
open PySem PySem.Spec PyProof.Rows L2
section
variable {K : PySem.W.Frag} {G H : Hp} {d : D} {v : V}
theorem Reps.len : ∀ {ds : List D} {xs : List V}, Reps K G ds xs → ds.length = xs.length
  | [], _, h => by rw [Reps] at h; rw [h]; rfl
  | d :: ds, _, h => by
    rw [Reps] at h
    obtain ⟨x, r, e, _, h2⟩ := h
    rw [e, List.length_cons, List.length_cons, Reps.len h2]
theorem Reps.get : ∀ {ds : List D} {xs : List V} {j : Nat} {d : D}, Reps K G ds xs → ds[j]? = some d → ∃ x, xs[j]? = some x ∧ Rep K G d x
  | [], _, _, _, h, e => by simp at e
  | d :: ds, _, 0, _, h, e => by
    rw [Reps] at h
    obtain ⟨x, r, e1, h1, _⟩ := h
    subst e1; simp at e; subst e
    exact ⟨x, rfl, h1⟩
  | d :: ds, _, j + 1, _, h, e => by
    rw [Reps] at h
    obtain ⟨x, r, e1, _, h2⟩ := h
    subst e1
    obtain ⟨y, e2, h3⟩ := Reps.get h2 (show ds[j]? = some _ by simpa using e)
    exact ⟨y, by simpa using e2, h3⟩
theorem Reps.app : ∀ {ds es : List D} {xs ys : List V}, Reps K G ds xs → Reps K G es ys → Reps K G (ds ++ es) (xs ++ ys)
  | [], _, _, _, h, h' => by rw [Reps] at h; subst h; exact h'
  | d :: ds, _, _, _, h, h' => by
    rw [Reps] at h
    obtain ⟨x, r, e1, h1, h2⟩ := h
    subst e1
    rw [List.cons_append, List.cons_append, Reps]
    exact ⟨x, _, rfl, h1, h2.app h'⟩
theorem Reps.take : ∀ {ds : List D} {xs : List V} (n : Nat), Reps K G ds xs → Reps K G (ds.take n) (xs.take n)
  | ds, xs, 0, h => by rw [List.take_zero, List.take_zero, Reps]
  | [], _, n + 1, h => by rw [Reps] at h; subst h; rw [List.take_nil, List.take_nil, Reps]
  | d :: ds, _, n + 1, h => by
    rw [Reps] at h
    obtain ⟨x, r, e1, h1, h2⟩ := h
    subst e1
    rw [List.take_succ_cons, List.take_succ_cons, Reps]
    exact ⟨x, _, rfl, h1, h2.take n⟩
theorem Reps.drop : ∀ {ds : List D} {xs : List V} (n : Nat), Reps K G ds xs → Reps K G (ds.drop n) (xs.drop n)
  | ds, xs, 0, h => h
  | [], _, n + 1, h => by rw [Reps] at h; subst h; rw [List.drop_nil, List.drop_nil, Reps]
  | d :: ds, _, n + 1, h => by
    rw [Reps] at h
    obtain ⟨x, r, e1, h1, h2⟩ := h
    subst e1
    exact h2.drop n
theorem Reps.nil_iff {ds : List D} {xs : List V} (h : Reps K G ds xs) : ds = [] ↔ xs = [] := by
  have := h.len
  constructor
  · intro e; subst e; exact List.eq_nil_of_length_eq_zero this.symm
  · intro e; subst e; exact List.eq_nil_of_length_eq_zero this
theorem Reps.rep : ∀ {ds : List D} {xs : List V} (n : Nat), Reps K G ds xs → Reps K G (List.replicate n ds).flatten (List.replicate n xs).flatten
  | ds, xs, 0, h => by simp [Reps]
  | ds, xs, n + 1, h => by
    rw [List.replicate_succ, List.replicate_succ, List.flatten_cons, List.flatten_cons]
    exact h.app (h.rep n)
theorem Reps.rev : ∀ {ds : List D} {xs : List V}, Reps K G ds xs → Reps K G ds.reverse xs.reverse
  | [], _, h => by rw [Reps] at h; subst h; simp [Reps]
  | d :: ds, _, h => by
    rw [Reps] at h
    obtain ⟨x, r, e1, h1, h2⟩ := h
    subst e1
    rw [List.reverse_cons, List.reverse_cons]
    refine h2.rev.app ?_
    rw [Reps]
    exact ⟨x, [], rfl, h1, by rw [Reps]⟩
theorem Reps.ints : ∀ {ns : List Int} {xs : List V}, Reps K G (ns.map D.int) xs ↔ xs = ns.map V.int
  | [], xs => by rw [List.map_nil, List.map_nil, Reps]
  | n :: ns, xs => by
    rw [List.map_cons, List.map_cons, Reps]
    constructor
    · rintro ⟨x, r, rfl, h1, h2⟩
      rw [Rep] at h1
      rw [h1, Reps.ints.mp h2]
    · intro e
      exact ⟨_, _, e, by rw [Rep], Reps.ints.mpr rfl⟩
end
/-- a list's items (the script's too) -/
def D.lsq : D → Option (List D)
  | .lst ds => some ds
  | .scr ns => some (ns.map .int)
  | _ => none
/-- a list's or a tuple's -/
def D.sq : D → Option (List D)
  | .lst ds => some ds
  | .scr ns => some (ns.map .int)
  | .tup ds => some ds
  | _ => none
section
variable {K : PySem.W.Frag} {G H : Hp} {d : D} {v : V} {ds : List D}
theorem Rep.lsq (h : Rep K G d v) (e : d.lsq = some ds) : ∃ a xs, v = .ref a ∧ SqL K G a xs ∧ Reps K G ds xs := by
  cases d <;> cases e
  · rw [Rep] at h
    obtain ⟨a, xs, e1, h1, h2, _⟩ := h
    exact ⟨a, xs, e1, SqL.of h1, h2⟩
  · rw [Rep] at h
    obtain ⟨a, e1, h1, _⟩ := h
    exact ⟨a, _, e1, h1, Reps.ints.mpr rfl⟩
theorem Rep.sql (h : Rep K G d v) (e : d.sq = some ds) : ds.length ≤ sizeLine := by
  cases d <;> cases e
  · rw [Rep] at h
    obtain ⟨a, xs, e1, h1, h2, hz⟩ := h
    exact hz
  · rw [Rep] at h
    obtain ⟨a, xs, e1, h1, h2, hz⟩ := h
    exact hz
  · rw [Rep] at h
    obtain ⟨a, e1, h1, hz⟩ := h
    rw [List.length_map]; exact hz
theorem D.sq_of_lsq (e : d.lsq = some ds) : d.sq = some ds := by cases d <;> cases e <;> rfl
theorem Rep.sq (h : Rep K G d v) (e : d.sq = some ds) : ∃ a xs, v = .ref a ∧ (SqL K G a xs ∨ SqT K G a xs) ∧ Reps K G ds xs := by
  cases d <;> cases e
  · rw [Rep] at h
    obtain ⟨a, xs, e1, h1, h2, _⟩ := h
    exact ⟨a, xs, e1, .inr h1.sq, h2⟩
  · rw [Rep] at h
    obtain ⟨a, xs, e1, h1, h2, _⟩ := h
    exact ⟨a, xs, e1, .inl (SqL.of h1), h2⟩
  · rw [Rep] at h
    obtain ⟨a, e1, h1, _⟩ := h
    exact ⟨a, _, e1, .inl h1, Reps.ints.mpr rfl⟩
theorem Rep.tp (h : Rep K G (.tup ds) v) : ∃ a xs, v = .ref a ∧ SqT K G a xs ∧ Reps K G ds xs := by
  rw [Rep] at h
  obtain ⟨a, xs, e1, h1, h2, _⟩ := h
  exact ⟨a, xs, e1, h1.sq, h2⟩
theorem Rep.tr (h : Rep K G (.tup ds) v) : ∃ a xs, v = .ref a ∧ TupB G a xs ∧ Reps K G ds xs := by
  rw [Rep] at h
  obtain ⟨a, xs, e1, h1, h2, _⟩ := h
  exact ⟨a, xs, e1, h1, h2⟩
theorem Rep.ls (h : Rep K G (.lst ds) v) : ∃ a xs, v = .ref a ∧ G a = some (.lst xs) ∧ Reps K G ds xs := by
  rw [Rep] at h
  obtain ⟨a, xs, e1, h1, h2, _⟩ := h
  exact ⟨a, xs, e1, h1, h2⟩
theorem Rep.i {i : Int} : Rep K G (.int i) v ↔ v = .int i := by rw [Rep]
theorem Rep.b {i : Bool} : Rep K G (.bl i) v ↔ v = .bl i := by rw [Rep]
theorem Rep.st {i : Str} : Rep K G (.str i) v ↔ v = .str i := by rw [Rep]
theorem Rep.nn : Rep K G .non v ↔ v = .non := by rw [Rep]
theorem Rep.newT {p : Addr} {xs : List V} {o : Obj} (ho : o.dict = none) (h : Reps K G ds xs) (hp : G p = none) (hz : ds.length ≤ sizeLine) : Rep K (upd G p (.frz o (.tup xs))) (.tup ds) (.ref p) := by
  rw [Rep]; exact ⟨p, xs, rfl, .new ho, h.mono (same_upd hp), hz⟩
theorem Rep.newL {p : Addr} {xs : List V} (h : Reps K G ds xs) (hp : G p = none) (hz : ds.length ≤ sizeLine) : Rep K (upd G p (.lst xs)) (.lst ds) (.ref p) := by
  rw [Rep]; exact ⟨p, xs, rfl, upd_same, h.mono (same_upd hp), hz⟩
end
/-! ### rules by alternatives -/
def orO (f g : D → D → Option D) : D → D → Option D := fun a b => match f a b with
  | some d => some d
  | none => g a b
theorem OpS.or {K : PySem.W.Frag} {r r' : R2} {f f' : D → D → Option D} (h : OpS K r f) (h' : OpS K r' f') : OpS K (fun x y H Q => r x y H Q ∨ r' x y H Q) (orO f f') := fun d1 d2 d x y H G Q e hf r1 r2 k => by
  unfold orO at hf
  cases e1 : f d1 d2 with
  | some z => rw [e1] at hf; exact .inl (h d1 d2 d x y H G Q e (by rw [e1]; exact hf) r1 r2 k)
  | none => rw [e1] at hf; exact .inr (h' d1 d2 d x y H G Q e hf r1 r2 k)
theorem OpB.or {K : PySem.W.Frag} {r r' : R2} {f f' : D → D → Option D} (h : OpB K r f) (h' : OpB K r' f') : OpB K (fun x y H Q => r x y H Q ∨ r' x y H Q) (orO f f') := fun d1 d2 d x y H Q hf r1 r2 k => by
  unfold orO at hf
  cases e1 : f d1 d2 with
  | some z => rw [e1] at hf; exact .inl (h d1 d2 d x y H Q (by rw [e1]; exact hf) r1 r2 k)
  | none => rw [e1] at hf; exact .inr (h' d1 d2 d x y H Q hf r1 r2 k)
theorem OpS.imp {K : PySem.W.Frag} {r : R2} {f f' : D → D → Option D} (h : OpS K r f) (hi : ∀ a b d, f' a b = some d → f a b = some d) : OpS K r f' := fun d1 d2 d x y H G Q e hf => h d1 d2 d x y H G Q e (hi _ _ _ hf)
theorem OpB.imp {K : PySem.W.Frag} {r : R2} {f f' : D → D → Option D} (h : OpB K r f) (hi : ∀ a b d, f' a b = some d → f a b = some d) : OpB K r f' := fun d1 d2 d x y H Q hf => h d1 d2 d x y H Q (hi _ _ _ hf)
/-! ### ints -/
def onI (C : Int → Int → Prop) [∀ i j, Decidable (C i j)] (g : Int → Int → D) : D → D → Option D
  | .int i, .int j => if C i j then some (g i j) else none
  | _, _ => none
theorem onI_ok {K : PySem.W.Frag} {C C' : Int → Int → Prop} [∀ i j, Decidable (C i j)] {g : Int → Int → D} {g' : Int → Int → V} (hc : ∀ i j, C i j → C' i j) (h : ∀ i j G, C i j → Rep K G (g i j) (g' i j)) : OpB K (rI C' g') (onI C g) := fun d1 d2 d x y H Q hf r1 r2 k => by
  unfold onI at hf
  split at hf
  · split at hf
    · rename_i c; cases hf
      exact ⟨_, _, Rep.i.mp r1, Rep.i.mp r2, hc _ _ c, k _ fun G => h _ _ G c⟩
    · cases hf
  · cases hf
def onI0 (g : Int → Int → D) : D → D → Option D
  | .int i, .int j => some (g i j)
  | _, _ => none
theorem onI0_ok {K : PySem.W.Frag} {g : Int → Int → D} {g' : Int → Int → V} (h : ∀ i j G, Rep K G (g i j) (g' i j)) : OpB K (rI0 g') (onI0 g) := fun d1 d2 d x y H Q hf r1 r2 k => by
  unfold onI0 at hf
  split at hf
  · cases hf
    exact ⟨_, _, Rep.i.mp r1, Rep.i.mp r2, k _ fun G => h _ _ G⟩
  · cases hf
/-- a + b -/
def addD : D → D → Option D
  | .int i, .int j => some (.int (i + j))
  | .str i, .str j => if i.length + j.length ≤ sizeLine then some (.str (i ++ j)) else none
  | .tup a, .tup b => if a.length + b.length ≤ sizeLine then some (.tup (a ++ b)) else none
  | .lst a, .lst b => if a.length + b.length ≤ sizeLine then some (.lst (a ++ b)) else none
  | _, _ => none
abbrev rAddA (K : PySem.W.Frag) : R2 := fun x y H Q => (rI0 fun i j => .int (i + j)) x y H Q ∨ ((fun x y H Q => ∃ i j, x = .str i ∧ y = .str j ∧ i.length + j.length ≤ sizeLine ∧ Q (.str (i ++ j)) H) x y H Q ∨ (rCatB K x y H Q ∨ rCat x y H Q))
theorem op_addA {X : Cx} : OpR X (binaryOp .Add) (rAddA X.K) := op_add.or (op_add_str.or (op_catB.or op_cat))
theorem addD_ok {K : PySem.W.Frag} : OpS K (rAddA K) addD := fun d1 d2 d x y H G Q e hf r1 r2 k => by
  unfold addD at hf
  split at hf
  · cases hf
    exact .inl ⟨_, _, Rep.i.mp r1, Rep.i.mp r2, k _ H G .st (Rep.i.mpr rfl)⟩
  · split at hf
    · rename_i c; cases hf
      exact .inr (.inl ⟨_, _, Rep.st.mp r1, Rep.st.mp r2, c, k _ H G .st (Rep.st.mpr rfl)⟩)
    · cases hf
  · split at hf
    · rename_i a b c; cases hf
      obtain ⟨p, xs, rfl, h1, q1⟩ := r1.tp
      obtain ⟨p2, ys, rfl, h2, q2⟩ := r2.tp
      refine .inr (.inr (.inl ⟨p, p2, xs, ys, rfl, rfl, SqT_same e h1, SqT_same e h2, by rw [← q1.len, ← q2.len]; exact c, fun z => ?_, fun _ z => ?_, fun z1 z2 p3 o hp ho => ?_⟩))
      · have := q1.nil_iff.mpr z
        subst this
        exact k _ H G .st r2
      · have := q2.nil_iff.mpr z
        subst this
        rw [List.append_nil] at k
        exact k _ H G .st r1
      · exact k _ _ _ (.nw p3 _ hp) (Rep.newT ho (q1.app q2) (e.free hp) (by rw [List.length_append]; exact c))
    · cases hf
  · split at hf
    · rename_i a b c; cases hf
      obtain ⟨p, xs, rfl, h1, q1⟩ := r1.ls
      obtain ⟨p2, ys, rfl, h2, q2⟩ := r2.ls
      exact .inr (.inr (.inr ⟨p, p2, xs, ys, rfl, rfl, e _ _ h1, e _ _ h2, by rw [← q1.len, ← q2.len]; exact c, fun p3 hp => k _ _ _ (.nw p3 _ hp) (Rep.newL (q1.app q2) (e.free hp) (by rw [List.length_append]; exact c))⟩))
    · cases hf
  · cases hf
/-- a - b -/
def subD : D → D → Option D := onI0 fun i j => .int (i - j)
theorem subD_ok {K : PySem.W.Frag} : OpB K (rI0 fun i j => V.int (i - j)) subD := onI0_ok fun _ _ _ => Rep.i.mpr rfl
/-- a * b -/
def mulD : D → D → Option D
  | .int i, .int j => if (-(2 ^ 64) < i ∧ i < 2 ^ 64) ∨ (-(2 ^ 64) < j ∧ j < 2 ^ 64) then some (.int (i * j)) else none
  | .lst a, .int k => if 0 ≤ k ∧ k ≤ 100000 ∧ a.length ≤ 100 then some (.lst (List.replicate k.toNat a).flatten) else none
  | .tup a, .int k => if a ≠ [] ∧ 2 ≤ k ∧ k ≤ 1000 ∧ a.length ≤ 1000 then some (.tup (List.replicate k.toNat a).flatten) else none
  | _, _ => none
abbrev rMulA (K : PySem.W.Frag) : R2 := fun x y H Q => (rI CMul fun i j => .int (i * j)) x y H Q ∨ (rRep x y H Q ∨ rRepB K x y H Q)
theorem op_mulA {X : Cx} : OpR X (binaryOp .Mult) (rMulA X.K) := op_mul.or (op_rep.or op_repB)
theorem mulD_ok {K : PySem.W.Frag} : OpS K (rMulA K) mulD := fun d1 d2 d x y H G Q e hf r1 r2 k => by
  unfold mulD at hf
  split at hf
  · split at hf
    · rename_i c; cases hf
      exact .inl ⟨_, _, Rep.i.mp r1, Rep.i.mp r2, c, k _ H G .st (Rep.i.mpr rfl)⟩
    · cases hf
  · split at hf
    · rename_i a i c; cases hf
      obtain ⟨p, xs, rfl, h1, q1⟩ := r1.ls
      have hz : a.length * i.toNat ≤ sizeLine := by
        rw [sizeLine_eq]
        have : a.length * i.toNat ≤ 100 * 100000 := Nat.mul_le_mul c.2.2 (by omega)
        omega
      refine .inr (.inl ⟨p, i, xs, rfl, Rep.i.mp r2, e _ _ h1, by omega, by omega, by rw [← q1.len]; exact hz, fun p3 hp => k _ _ _ (.nw p3 _ hp) (Rep.newL (q1.rep _) (e.free hp) ?_)⟩)
      rw [PyProof.Rows.lm_len_rep_flat, Nat.mul_comm]; exact hz
    · cases hf
  · split at hf
    · rename_i a i c; cases hf
      obtain ⟨p, xs, rfl, h1, q1⟩ := r1.tp
      exact .inr (.inr ⟨p, i, xs, rfl, Rep.i.mp r2, SqT_same e h1, fun z => c.1 (q1.nil_iff.mpr z), c.2.1, c.2.2.1, by rw [← q1.len]; exact c.2.2.2, fun p3 o hp ho => k _ _ _ (.nw p3 _ hp) (Rep.newT ho (q1.rep _) (e.free hp) (by
        rw [PyProof.Rows.lm_len_rep_flat, sizeLine_eq]
        have : i.toNat * a.length ≤ 1000 * 1000 := Nat.mul_le_mul (by omega) c.2.2.2
        omega))⟩)
    · cases hf
  · cases hf
/-- a // b, a % b (the divisor positive, below 2 ^ 9000) -/
def divD : D → D → Option D := onI (fun _ j => 0 < j ∧ j.natAbs.log2 < 9000) fun i j => .int (i / j)
theorem divD_ok {K : PySem.W.Frag} : OpB K (rI CDivW fun i j => V.int (i / j)) divD := onI_ok (fun _ _ c => c) fun _ _ _ _ => Rep.i.mpr rfl
def modD : D → D → Option D := onI (fun _ j => 0 < j) fun i j => .int (i % j)
theorem modD_ok {K : PySem.W.Frag} : OpB K (rI (fun _ j => 0 < j) fun i j => V.int (i % j)) modD := onI_ok (fun _ _ c => c) fun _ _ _ _ => Rep.i.mpr rfl
def powD : D → D → Option D := onI (fun i j => 0 ≤ j ∧ j ≤ 1000000 ∧ i.natAbs < 2 ^ 64) fun i j => .int (i ^ j.toNat)
theorem powD_ok {K : PySem.W.Frag} : OpB K (rI CPow fun i j => V.int (i ^ j.toNat)) powD := onI_ok (fun _ _ c => c) fun _ _ _ _ => Rep.i.mpr rfl
/-! ### comparisons -/
abbrev ltD : D → D → Option D := onI0 fun i j => .bl (decide (i < j))
abbrev leD : D → D → Option D := onI0 fun i j => .bl (decide (i ≤ j))
abbrev gtD : D → D → Option D := onI0 fun i j => .bl (decide (j < i))
abbrev geD : D → D → Option D := onI0 fun i j => .bl (decide (j ≤ i))
theorem ltD_ok {K : PySem.W.Frag} : OpB K (rI0 fun i j => V.bl (decide (i < j))) ltD := onI0_ok fun _ _ _ => Rep.b.mpr rfl
theorem leD_ok {K : PySem.W.Frag} : OpB K (rI0 fun i j => V.bl (decide (i ≤ j))) leD := onI0_ok fun _ _ _ => Rep.b.mpr rfl
theorem gtD_ok {K : PySem.W.Frag} : OpB K (rI0 fun i j => V.bl (decide (j < i))) gtD := onI0_ok fun _ _ _ => Rep.b.mpr rfl
theorem geD_ok {K : PySem.W.Frag} : OpB K (rI0 fun i j => V.bl (decide (j ≤ i))) geD := onI0_ok fun _ _ _ => Rep.b.mpr rfl
/-! ### == of data -/
mutual
def D.py : D → PyData
  | .non => .none
  | .bl b => .bool b
  | .int i => .int i
  | .str x => .str x
  | .tup ds => .tuple (D.pys ds)
  | .lst ds => .list (D.pys ds)
  | .scr ns => .list (ns.map .int)
  | _ => .none
def D.pys : List D → List PyData
  | [] => []
  | d :: ds => D.py d :: D.pys ds
end
mutual
/-- data without dicts, objects, types -/
def D.isPy : D → Bool
  | .tup ds => D.arePy ds
  | .lst ds => D.arePy ds
  | .ty _ => false
  | .dic _ => false
  | .ob _ _ => false
  | .er _ _ _ _ => false
  | _ => true
def D.arePy : List D → Bool
  | [] => true
  | d :: ds => D.isPy d && D.arePy ds
end
mutual
theorem Rep.dp {K : PySem.W.Frag} {G : Hp} : ∀ {d : D} {v : V}, d.isPy = true → Rep K G d v → Dp K G v d.py
  | .non, _, _, h => by rw [Rep] at h; rw [h, D.py]; exact .non
  | .bl _, _, _, h => by rw [Rep] at h; rw [h, D.py]; exact .bl _
  | .int _, _, _, h => by rw [Rep] at h; rw [h, D.py]; exact .int _
  | .str _, _, _, h => by rw [Rep] at h; rw [h, D.py]; exact .str _
  | .ty _, _, e, _ => by rw [D.isPy] at e; cases e
  | .dic _, _, e, _ => by rw [D.isPy] at e; cases e
  | .ob _ _, _, e, _ => by rw [D.isPy] at e; cases e
  | .er _ _ _ _, _, e, _ => by rw [D.isPy] at e; cases e
  | .tup ds, _, e, h => by
    rw [D.isPy] at e
    obtain ⟨a, xs, rfl, h1, h2⟩ := h.tp
    rw [D.py]
    exact .tup h1 (Reps.dp e h2)
  | .lst ds, _, e, h => by
    rw [D.isPy] at e
    obtain ⟨a, xs, rfl, h1, h2⟩ := h.ls
    rw [D.py]
    exact .lst (SqL.of h1) (Reps.dp e h2)
  | .scr ns, _, e, h => by
    rw [Rep] at h
    obtain ⟨a, rfl, h1, _⟩ := h
    rw [D.py]
    refine .lst h1 ?_
    rename_i hzz
    clear h1 e hzz
    induction ns with
    | nil => exact .nil
    | cons n ns ih => exact .cons (.int n) ih
theorem Reps.dp {K : PySem.W.Frag} {G : Hp} : ∀ {ds : List D} {xs : List V}, D.arePy ds = true → Reps K G ds xs → DpAll K G xs (D.pys ds)
  | [], _, _, h => by rw [Reps] at h; rw [h, D.pys]; exact .nil
  | d :: ds, _, e, h => by
    rw [Reps] at h
    obtain ⟨x, r, rfl, h1, h2⟩ := h
    rw [D.arePy, Bool.and_eq_true] at e
    rw [D.pys]
    exact .cons (Rep.dp e.1 h1) (Reps.dp e.2 h2)
end
def okPy (d : D) : Bool := d.isPy && SeqAt.shaped d.py
def eqD (a b : D) : Option D := if okPy a = true ∧ okPy b = true then some (.bl (PyData.eqv a.py b.py)) else none
def neD (a b : D) : Option D := if okPy a = true ∧ okPy b = true then some (.bl (!PyData.eqv a.py b.py)) else none
theorem eqD_ok {K : PySem.W.Frag} : OpB K (rEqD K) eqD := fun d1 d2 d x y H Q hf r1 r2 k => by
  unfold eqD at hf
  split at hf
  · rename_i c; cases hf
    obtain ⟨c1, c2⟩ := c
    unfold okPy at c1 c2
    rw [Bool.and_eq_true] at c1 c2
    exact ⟨_, _, r1.dp c1.1, r2.dp c2.1, c1.2, c2.2, k _ fun G => Rep.b.mpr rfl⟩
  · cases hf
theorem neD_ok {K : PySem.W.Frag} : OpB K (rNeD K) neD := fun d1 d2 d x y H Q hf r1 r2 k => by
  unfold neD at hf
  split at hf
  · rename_i c; cases hf
    obtain ⟨c1, c2⟩ := c
    unfold okPy at c1 c2
    rw [Bool.and_eq_true] at c1 c2
    exact ⟨_, _, r1.dp c1.1, r2.dp c2.1, c1.2, c2.2, k _ fun G => Rep.b.mpr rfl⟩
  · cases hf
/-- is None -/
def D.isN : D → Bool
  | .non => true
  | _ => false
theorem Rep.isN {K : PySem.W.Frag} {G : Hp} {d : D} {v : V} (h : Rep K G d v) : decide (v = .non) = d.isN := by
  cases d <;> rw [Rep] at h
  case non => rw [h]; rfl
  case bl => rw [h]; rfl
  case int => rw [h]; rfl
  case str => rw [h]; rfl
  case ty => rw [h]; rfl
  case er => rw [h.1]; rfl
  all_goals (obtain ⟨a, q⟩ := h; rw [show v = .ref a by first | exact q.1 | (obtain ⟨_, q⟩ := q; exact q.1) | (obtain ⟨_, _, q⟩ := q; exact q.1)]; rfl)
def isND (a b : D) : Option D := match b with
  | .non => some (.bl a.isN)
  | _ => none
def notND (a b : D) : Option D := match b with
  | .non => some (.bl (!a.isN))
  | _ => none
theorem isND_ok {K : PySem.W.Frag} : OpB K (fun x y H Q => y = .non ∧ Q (.bl (decide (x = .non))) H) isND := fun d1 d2 d x y H Q hf r1 r2 k => by
  unfold isND at hf
  split at hf
  · cases hf
    exact ⟨Rep.nn.mp r2, k _ fun G => Rep.b.mpr (by rw [r1.isN])⟩
  · cases hf
theorem notND_ok {K : PySem.W.Frag} : OpB K (fun x y H Q => y = .non ∧ Q (.bl (!decide (x = .non))) H) notND := fun d1 d2 d x y H Q hf r1 r2 k => by
  unfold notND at hf
  split at hf
  · cases hf
    exact ⟨Rep.nn.mp r2, k _ fun G => Rep.b.mpr (by rw [r1.isN])⟩
  · cases hf
/-! ### items -/
def ixD : D → D → Option D
  | .lst ds, .int i => atI ds i
  | .scr ns, .int i => (atI ns i).map .int
  | .tup ds, .int i => atI ds i
  | .str z, .int i => if z.length ≤ sizeLine then (atI z.cps.toList i).map fun c => .str ⟨#[c]⟩ else none
  | _, _ => none
theorem Reps.at {K : PySem.W.Frag} {G : Hp} {ds : List D} {xs : List V} {i : Int} {d : D} (h : Reps K G ds xs) (e : atI ds i = some d) : ∃ x, atI xs i = some x ∧ Rep K G d x := by
  unfold atI at e ⊢
  rw [← h.len]
  cases hj : ixN ds.length i with
  | none => rw [hj] at e; cases e
  | some j =>
    rw [hj] at e
    exact h.get e
theorem atI_map {α β : Type} (f : α → β) (xs : List α) (i : Int) : atI (xs.map f) i = (atI xs i).map f := by
  unfold atI
  rw [List.length_map]
  cases ixN xs.length i with
  | none => rfl
  | some j => show (xs.map f)[j]? = _; rw [List.getElem?_map]; rfl
theorem ixD_ok {K : PySem.W.Frag} : OpS K (rIx K) ixD := fun d1 d2 d x y H G Q e hf r1 r2 k => by
  unfold ixD at hf
  split at hf
  · obtain ⟨p, xs, rfl, h1, q1⟩ := r1.ls
    obtain ⟨z, e1, q2⟩ := q1.at hf
    exact .inl ⟨p, xs, _, z, rfl, Rep.i.mp r2, SqL.of (e _ _ h1), e1, k _ H G .st q2⟩
  · rw [Rep] at r1
    rename_i ns i
    obtain ⟨p, rfl, h1, _⟩ := r1
    cases e1 : atI ns i with
    | none => rw [e1] at hf; cases hf
    | some n =>
      rw [e1] at hf; cases hf
      exact .inl ⟨p, _, _, .int n, rfl, Rep.i.mp r2, e.seq h1, by rw [atI_map, e1]; rfl, k _ H G .st (Rep.i.mpr rfl)⟩
  · obtain ⟨p, xs, rfl, h1, q1⟩ := r1.tp
    obtain ⟨z, e1, q2⟩ := q1.at hf
    exact .inr (.inl ⟨p, xs, _, z, rfl, Rep.i.mp r2, SqT_same e h1, e1, k _ H G .st q2⟩)
  · rename_i z i
    split at hf
    · rename_i c
      cases e1 : atI z.cps.toList i with
      | none => rw [e1] at hf; cases hf
      | some n =>
        rw [e1] at hf; cases hf
        exact .inr (.inr ⟨z, i, n, Rep.st.mp r1, Rep.i.mp r2, c, e1, k _ H G .st (Rep.st.mpr rfl)⟩)
    · cases hf
  · cases hf
section
variable {X : Cx} {a b : Expr} {Wx : WX} {pos : Pos} {fa fb : Pu D} {ga gb : Mo D}
theorem p_ix (ha : PE X a (tP X.K fa)) (hb : PE X b (tP X.K fb)) (hs : PlainIx b) : PE X (.Subscript a b pos) (tP X.K (pu2 ixD fa fb)) := (pe_ix ix_seq ha hb hs).wk (tOp_p ixD_ok)
theorem v_ix (ha : PE X a (tV X.K X.mg Wx ga)) (hb : PE X b (tV X.K X.mg Wx gb)) (hs : PlainIx b) : PE X (.Subscript a b pos) (tV X.K X.mg Wx (mo2 ixD ga gb)) := (pe_ix ix_seq ha hb hs).wk (tOp_v ixD_ok)
end
end Tr
namespace Tr
open PySem PySem.Spec PyProof.Rows L2
/-- a container read where it stands: its items are frozen -/
def CRep (K : PySem.W.Frag) (G H : Hp) (d : D) (v : V) : Prop := Rep K G d v ∨ (∃ ds a xs, d = .lst ds ∧ v = .ref a ∧ H a = some (.lst xs) ∧ Reps K G ds xs ∧ ds.length ≤ sizeLine) ∨ (∃ kvs a ys, d = .dic kvs ∧ v = .ref a ∧ H a = some (.dK ys) ∧ RepK K G kvs ys)
section
variable {K : PySem.W.Frag} {G H G' H' : Hp} {d : D} {v : V} {ds : List D}
theorem CRep.mono (eg : Same G G') (eh : Same H H') (h : CRep K G H d v) : CRep K G' H' d v := by
  rcases h with h | ⟨ds, a, xs, e1, e2, e3, h, hz⟩ | ⟨ds, a, xs, e1, e2, e3, h⟩
  · exact .inl (h.mono eg)
  · exact .inr (.inl ⟨ds, a, xs, e1, e2, eh _ _ e3, h.mono eg, hz⟩)
  · exact .inr (.inr ⟨ds, a, xs, e1, e2, eh _ _ e3, h.mono eg⟩)
theorem CRep.rep (e : Same G H) (h : CRep K G H d v) : Rep K H d v := by
  rcases h with h | ⟨ds, a, xs, rfl, rfl, e3, h, hz⟩ | ⟨ds, a, xs, rfl, rfl, e3, h⟩
  · exact h.mono e
  · rw [Rep]; exact ⟨a, xs, rfl, e3, h.mono e, hz⟩
  · rw [Rep]; exact ⟨a, xs, rfl, e3, h.mono e⟩
theorem CRep.sq (e : Same G H) (h : CRep K G H d v) (es : d.sq = some ds) : ∃ a xs, v = .ref a ∧ (SqL K H a xs ∨ SqT K H a xs) ∧ Reps K G ds xs := by
  rcases h with h | ⟨ds', a, xs, rfl, rfl, e3, h, hz⟩ | ⟨ds', a, xs, rfl, rfl, e3, h⟩
  · obtain ⟨a, xs, e1, h1, h2⟩ := h.sq es
    refine ⟨a, xs, e1, ?_, h2⟩
    rcases h1 with h1 | h1
    · exact .inl (e.seq h1)
    · exact .inr (SqT_same e h1)
  · cases es
    exact ⟨a, xs, rfl, .inl (SqL.of e3), h⟩
  · cases es
theorem CRep.lsq (e : Same G H) (h : CRep K G H d v) (es : d.lsq = some ds) : ∃ a xs, v = .ref a ∧ SqL K H a xs ∧ Reps K G ds xs := by
  rcases h with h | ⟨ds', a, xs, rfl, rfl, e3, h, hz⟩ | ⟨ds', a, xs, rfl, rfl, e3, h⟩
  · obtain ⟨a, xs, e1, h1, h2⟩ := h.lsq es
    exact ⟨a, xs, e1, e.seq h1, h2⟩
  · cases es
    exact ⟨a, xs, rfl, SqL.of e3, h⟩
  · cases es
theorem CRep.sql (h : CRep K G H d v) (es : d.sq = some ds) : ds.length ≤ sizeLine := by
  rcases h with h | ⟨ds', a, xs, rfl, rfl, e3, h, hz⟩ | ⟨ds', a, xs, rfl, rfl, e3, h⟩
  · exact h.sql es
  · cases es; exact hz
  · cases es
theorem CRep.of {K : PySem.W.Frag} {G H : Hp} {d : D} {v : V} (h : Rep K G d v) : CRep K G H d v := .inl h
end
def tC (K : PySem.W.Frag) (f : Pu D) : TE := fun σ H Q => ∃ g ρ T G W d, R K g ρ T σ H G W ∧ f ρ = some d ∧ ∀ v H' G', R K g ρ T σ H' G' W → Same G G' → Same H H' → CRep K G' H' d v → Q v H'
section
variable {X : Cx} {e a b c : Expr} {es : List Expr} {Wx : WX} {pos : Pos} {f fa fb fc : Pu D} {ga gb gc : Mo D}
theorem _root_.L2.PE.pc (h : PE X e (tP X.K f)) : PE X e (tC X.K f) := h.wk fun σ H Q ⟨g, ρ, T, G, W, d, hR, hf, k⟩ =>
  ⟨g, ρ, T, G, W, d, hR, hf, fun v H' G' R' eg eh r => k v H' G' R' eg eh (.inl r)⟩
theorem _root_.L2.PE.cb (h : PE X e (tC X.K f)) : PE X e (tB X.K f) := h.wk fun σ H Q ⟨g, ρ, T, G, W, d, hR, hf, k⟩ =>
  ⟨g, ρ, T, G, W, d, hR, hf, fun v H' G' R' eg eh r => k v H' G' R' eg eh (r.rep R'.gh)⟩
/-- a slot's container -/
def O.cont : O → Option D
  | .fr d => some d
  | .fl ds => some (.lst ds)
  | .od kvs => some (.dic kvs)
  | .ol _ => none
def con (i : Nat) : Pu D := fun ρ => match ρ[i]? with
  | some (.ow o) => o.cont
  | some (.le o) => o.cont
  | _ => none
theorem con_some {i : Nat} {ρ : Rho} {d : D} (h : con i ρ = some d) : ∃ s o, ρ[i]? = some s ∧ s.tr = some o ∧ o.cont = some d := by
  unfold con at h
  split at h
  · rename_i e; exact ⟨_, _, e, rfl, h⟩
  · rename_i e; exact ⟨_, _, e, rfl, h⟩
  · cases h
theorem Ow.crep {K : PySem.W.Frag} {G H : Hp} {W : Own} {o : O} {v : V} {r : Rt} {q : List Nat} {d : D} (h : Ow K G H W o v r q) (e : o.cont = some d) : CRep K G H d v := by
  cases o with
  | fr d' => cases e; rw [Ow] at h; exact .inl h
  | ol os => cases e
  | fl ds =>
    cases e
    rw [Ow] at h
    obtain ⟨a, xs, e1, h1, _, h3, hz⟩ := h
    exact .inr (.inl ⟨ds, a, xs, rfl, e1, h1, h3, hz⟩)
  | od kvs =>
    cases e
    rw [Ow] at h
    obtain ⟨a, xs, e1, h1, _, h3⟩ := h
    exact .inr (.inr ⟨kvs, a, xs, rfl, e1, h1, h3⟩)
theorem c_var {i : Nat} (h : PE X e (tVar i)) : PE X e (tC X.K (con i)) := h.wk fun σ H Q ⟨g, ρ, T, G, W, d, hR, hf, k⟩ => by
  obtain ⟨s, o, e1, e2, e3⟩ := con_some hf
  obtain ⟨v, h1, h2⟩ := hR.slo e1 e2
  exact ⟨v, h1, k v H G hR (Same.refl _) (Same.refl _) (h2.crep e3)⟩
/-- an item of a slot's list of owned things -/
def conAt (i : Nat) (fb : Pu D) : Pu D := fun ρ => match ρ[i]?.bind Sl.tr, fb ρ with
  | some (.ol os), some (.int j) => (atI os j).bind O.cont
  | some (.fl ds), some (.int j) => atI ds j
  | some (.fr d), some x => ixD d x
  | _, _ => none
theorem Ows.at {K : PySem.W.Frag} {G H : Hp} {W : Own} {os : List O} {xs : List V} {r : Rt} {q : List Nat} {i : Int} {o : O} (h : Ows K G H W os xs r q 0) (e : atI os i = some o) : ∃ x j, ixN os.length i = some j ∧ os[j]? = some o ∧ atI xs i = some x ∧ xs[j]? = some x ∧ Ow K G H W o x r (q ++ [j]) := by
  unfold atI at e
  have hl := h.len
  cases hj : ixN os.length i with
  | none => rw [hj] at e; cases e
  | some j =>
    rw [hj] at e
    have e' : os[j]? = some o := e
    obtain ⟨x, h1, h2⟩ := h.get e'
    refine ⟨x, j, rfl, e', ?_, h1, by simpa using h2⟩
    unfold atI
    rw [← hl, hj]
    exact h1
theorem c_at {i : Nat} (h : PE X a (tVar i)) (hb : PE X b (tP X.K fb)) (hs : PlainIx b) : PE X (.Subscript a b pos) (tC X.K (conAt i fb)) := (pe_ix ix_seq h hb hs).wk fun σ H Q ⟨g, ρ, T, G, W, d, hR, hf, k⟩ => by
  unfold conAt at hf
  cases es : ρ[i]? with
  | none => rw [es] at hf; cases hf
  | some s =>
    rw [es] at hf
    cases eo : s.tr with
    | none => rw [Option.bind_some, eo] at hf; cases hf
    | some o =>
      rw [Option.bind_some, eo] at hf
      obtain ⟨v, h1, h2⟩ := hR.slo es eo
      cases ex : fb ρ with
      | none => rw [ex] at hf; cases o <;> cases hf
      | some x =>
        rw [ex] at hf
        refine ⟨v, h1, g, ρ, T, G, W, x, hR, ex, fun y H2 G2 R2 eg eh r2 => ?_⟩
        have h2' := h2.same (G' := G2) eg eh fun b l w => (hR.wl b l w).2.2
        have fin : ∀ w, CRep X.K G2 H2 d w → Q w H2 := fun w r => k w H2 G2 R2 eg eh r
        cases o with
        | fr dd =>
          rw [Ow] at h2'
          exact ixD_ok dd x d v y H2 G2 Q R2.gh (by cases x <;> exact hf) h2' r2 fun w H3 G3 gr rw' => by
            obtain ⟨R3, e1, e2⟩ := R2.grow gr
            exact k w H3 G3 R3 (eg.trans e2) (eh.trans e1) (.inl rw')
        | od kvs => cases x <;> cases hf
        | fl ds =>
          cases x with
          | int j =>
            rw [Ow] at h2'
            obtain ⟨p, xs, rfl, h3, h4, h5, _⟩ := h2'
            obtain ⟨z, e1, q2⟩ := h5.at hf
            exact .inl ⟨p, xs, _, z, rfl, Rep.i.mp r2, SqL.of h3, e1, fin z (.inl q2)⟩
          | _ => cases hf
        | ol os =>
          cases x with
          | int j =>
            rw [Ow] at h2'
            obtain ⟨p, xs, rfl, h3, h4, h5, _⟩ := h2'
            replace hf : (atI os j).bind O.cont = some d := hf
            cases e6 : atI os j with
            | none => rw [e6] at hf; cases hf
            | some o =>
              rw [e6] at hf
              obtain ⟨z, jj, _, _, e1, _, q2⟩ := h5.at e6
              exact .inl ⟨p, xs, _, z, rfl, Rep.i.mp r2, SqL.of h3, e1, fin z (q2.crep hf)⟩
          | _ => cases hf
/-! ### argument lists -/
def tLP (K : PySem.W.Frag) (f : Pu (List D)) : TA := fun σ H Q => ∃ g ρ T G W ds, R K g ρ T σ H G W ∧ f ρ = some ds ∧ ∀ vs H' G', R K g ρ T σ H' G' W → Same G G' → Same H H' → Reps K G' ds vs → Q vs H'
def tLV (K : PySem.W.Frag) (mg : MG) (Wx : WX) (f : Mo (List D)) : TA := fun σ H Q => ∃ g ρ T G W, R K g ρ T σ H G W ∧ GE K mg Wx g T G (fun ds ρ' => ∀ vs H' G' W', R K g ρ' T σ H' G' W' → Same G G' → Reps K G' ds vs → Q vs H') (f ρ)
def lpN : Pu (List D) := fun _ => some []
def lpC (fa : Pu D) (fr : Pu (List D)) : Pu (List D) := fun ρ => match fa ρ, fr ρ with
  | some d, some ds => some (d :: ds)
  | _, _ => none
theorem lp_nil : PA X [] (tLP X.K lpN) := pa_nil.wk fun σ H Q ⟨g, ρ, T, G, W, ds, hR, hf, k⟩ => by
  cases hf
  exact k [] H G hR (Same.refl _) (Same.refl _) (by rw [Reps])
theorem lp_cons {fr : Pu (List D)} (ha : PE X a (tP X.K fa)) (hr : PA X es (tLP X.K fr)) (hs : starEach (a :: es) X.env = (false, eval a X.env) :: starEach es X.env := by rfl) : PA X (a :: es) (tLP X.K (lpC fa fr)) := (pa_cons ha hr hs).wk fun σ H Q ⟨g, ρ, T, G, W, ds, hR, hf, k⟩ => by
  unfold lpC at hf
  split at hf
  · rename_i d ds' e1 e2
    cases hf
    refine ⟨g, ρ, T, G, W, d, hR, e1, fun x H1 G1 R1 eg1 eh1 r1 => ⟨g, ρ, T, G1, W, ds', R1, e2, fun xs H2 G2 R2 eg2 eh2 r2 => ?_⟩⟩
    refine k _ H2 G2 R2 (eg1.trans eg2) (eh1.trans eh2) ?_
    rw [Reps]
    exact ⟨x, xs, rfl, r1.mono eg2, r2⟩
  · cases hf
def lvN : Mo (List D) := fun ρ => some (.ok [] ρ)
def lvC (fa : Mo D) (fr : Mo (List D)) : Mo (List D) := fun ρ => match fa ρ with
  | some (.ok d ρ1) => (match fr ρ1 with
    | some (.ok ds ρ2) => some (.ok (d :: ds) ρ2)
    | some (.ex c fs ρ2) => some (.ex c fs ρ2)
    | none => none)
  | some (.ex c fs ρ1) => some (.ex c fs ρ1)
  | none => none
theorem lv_nil : PA X [] (tLV X.K X.mg Wx lvN) := pa_nil.wk fun σ H Q ⟨g, ρ, T, G, W, hR, k⟩ => k [] H G W hR (Same.refl _) (by rw [Reps])
theorem lv_cons {fr : Mo (List D)} (ha : PE X a (tV X.K X.mg Wx ga)) (hr : PA X es (tLV X.K X.mg Wx fr)) (hs : starEach (a :: es) X.env = (false, eval a X.env) :: starEach es X.env := by rfl) : PA X (a :: es) (tLV X.K X.mg Wx (lvC ga fr)) := (pa_cons ha hr hs).wk fun σ H Q ⟨g, ρ, T, G, W, hR, k⟩ => by
  refine ⟨g, ρ, T, G, W, hR, ?_⟩
  unfold lvC at k
  cases h1 : ga ρ with
  | none => rw [h1] at k; exact k.elim
  | some r =>
    rw [h1] at k
    cases r with
    | ex c fs ρ1 => exact k
    | ok d ρ1 =>
      intro x H1 G1 W1 R1 eg1 r1
      refine ⟨g, ρ1, T, G1, W1, R1, ?_⟩
      dsimp only at k
      cases h2 : fr ρ1 with
      | none => rw [h2] at k; exact k.elim
      | some r =>
        rw [h2] at k
        cases r with
        | ex c fs ρ2 => exact WE'.mono eg1 k
        | ok ds ρ2 =>
          intro xs H2 G2 W2 R2 eg2 r2
          refine k _ H2 G2 W2 R2 (eg1.trans eg2) ?_
          rw [Reps]
          exact ⟨x, xs, rfl, r1.mono eg2, r2⟩
/-- all as temporaries -/
def lxN : Mo (List O) := fun ρ => some (.ok [] ρ)
def lxC (fa : Mo O) (fr : Mo (List O)) : Mo (List O) := fun ρ => match fa ρ with
  | some (.ok d ρ1) => (match fr ρ1 with
    | some (.ok ds ρ2) => some (.ok (d :: ds) ρ2)
    | some (.ex c fs ρ2) => some (.ex c fs ρ2)
    | none => none)
  | some (.ex c fs ρ1) => some (.ex c fs ρ1)
  | none => none
theorem lx_nil : PA X [] (tA X.K X.mg Wx lxN) := pa_nil.wk fun σ H Q ⟨g, ρ, T, G, W, hR, k⟩ => k [] H G W rfl (by simpa using hR) (Same.refl _)
theorem lx_cons {fa : Mo O} {fr : Mo (List O)} (ha : PE X a (tX X.K X.mg Wx fa)) (hr : PA X es (tA X.K X.mg Wx fr)) (hs : starEach (a :: es) X.env = (false, eval a X.env) :: starEach es X.env := by rfl) : PA X (a :: es) (tA X.K X.mg Wx (lxC fa fr)) := (pa_cons ha hr hs).wk fun σ H Q ⟨g, ρ, T, G, W, hR, k⟩ => by
  refine ⟨g, ρ, T, G, W, hR, ?_⟩
  unfold lxC at k
  cases h1 : fa ρ with
  | none => rw [h1] at k; exact k.elim
  | some r =>
    rw [h1] at k
    cases r with
    | ex c fs ρ1 => exact k
    | ok o ρ1 =>
      intro x H1 G1 W1 R1 eg1
      refine ⟨g, ρ1, T ++ [(o, x)], G1, W1, R1, ?_⟩
      dsimp only at k
      cases h2 : fr ρ1 with
      | none => rw [h2] at k; exact k.elim
      | some r =>
        rw [h2] at k
        cases r with
        | ex c fs ρ2 => exact (WE'.mono eg1 k).drop
        | ok os ρ2 =>
          intro xs H2 G2 W2 hl R2 eg2
          refine k (x :: xs) H2 G2 W2 (by rw [List.length_cons, List.length_cons, hl]) ?_ (eg1.trans eg2)
          rw [List.zip_cons_cons]
          simpa using R2
/-! ### displays -/
def tupP (f : Pu (List D)) : Pu D := fun ρ => match f ρ with
  | some ds => if ds.length ≤ sizeLine then some (.tup ds) else none
  | none => none
theorem p_tup {x1} {f : Pu (List D)} (h : PA X es (tLP X.K f)) : PE X (.Tuple es x1 pos) (tP X.K (tupP f)) := (pe_tupB h).wk fun σ H Q ⟨g, ρ, T, G, W, d, hR, hf, k⟩ => by
  unfold tupP at hf
  split at hf
  · rename_i ds e1
    split at hf
    · rename_i hl
      cases hf
      refine ⟨g, ρ, T, G, W, ds, hR, e1, fun vs H1 G1 R1 eg1 eh1 r1 => ⟨by rw [← r1.len]; exact hl, fun p o hp ho => ?_⟩⟩
      exact k _ _ _ (R1.new hp) (eg1.trans (same_upd (R1.gh.free hp))) (eh1.trans (same_upd hp)) (Rep.newT ho r1 (R1.gh.free hp) hl)
    · cases hf
  · cases hf
def tupV (f : Mo (List D)) : Mo D := fun ρ => match f ρ with
  | some (.ok ds ρ') => if ds.length ≤ sizeLine then some (.ok (.tup ds) ρ') else none
  | some (.ex c fs ρ') => some (.ex c fs ρ')
  | none => none
theorem v_tup {x1} {f : Mo (List D)} (h : PA X es (tLV X.K X.mg Wx f)) : PE X (.Tuple es x1 pos) (tV X.K X.mg Wx (tupV f)) := (pe_tupB h).wk fun σ H Q ⟨g, ρ, T, G, W, hR, k⟩ => by
  refine ⟨g, ρ, T, G, W, hR, ?_⟩
  unfold tupV at k
  cases h1 : f ρ with
  | none => rw [h1] at k; exact k.elim
  | some r =>
    rw [h1] at k
    cases r with
    | ex c fs ρ1 => exact k
    | ok ds ρ1 =>
      intro vs H1 G1 W1 R1 eg1 r1
      dsimp only at k
      by_cases hl : ds.length ≤ sizeLine
      · rw [if_pos hl] at k
        exact ⟨by rw [← r1.len]; exact hl, fun p o hp ho => k _ _ _ W1 (R1.new hp) (eg1.trans (same_upd (R1.gh.free hp))) (Rep.newT ho r1 (R1.gh.free hp) hl)⟩
      · rw [if_neg hl] at k; exact k.elim
/-- a new list, frozen -/
def lstP (f : Pu (List D)) : Pu D := fun ρ => match f ρ with
  | some ds => if ds.length ≤ sizeLine then some (.lst ds) else none
  | none => none
theorem p_lst {f : Pu (List D)} (h : PA X es (tLP X.K f)) : PE X (.List es pos) (tP X.K (lstP f)) := (pe_lst h).wk fun σ H Q ⟨g, ρ, T, G, W, d, hR, hf, k⟩ => by
  unfold lstP at hf
  split at hf
  · rename_i ds e1
    split at hf
    · rename_i hl
      cases hf
      refine ⟨g, ρ, T, G, W, ds, hR, e1, fun vs H1 G1 R1 eg1 eh1 r1 => ⟨by rw [← r1.len]; exact hl, fun p hp => ?_⟩⟩
      exact k _ _ _ (R1.new hp) (eg1.trans (same_upd (R1.gh.free hp))) (eh1.trans (same_upd hp)) (Rep.newL r1 (R1.gh.free hp) hl)
    · cases hf
  · cases hf
/-- a new list, owned -/
def lstX (f : Mo (List O)) : Mo O := fun ρ => match f ρ with
  | some (.ok os ρ') => if os.length ≤ sizeLine then some (.ok (mkL os) ρ') else none
  | some (.ex c fs ρ') => some (.ex c fs ρ')
  | none => none
theorem R.newL' {K : PySem.W.Frag} {g : Gs} {ρ : Rho} {T ts : List (O × V)} {σ : L2.St} {H G : Hp} {W : Own} {p : Addr} (h : R K g ρ (T ++ ts) σ H G W) (hp : H p = none) (hz : ts.length ≤ sizeLine) :
    R K g ρ (T ++ [(mkL (ts.map (·.1)), .ref p)]) σ (upd H p (.lst (ts.map (·.2)))) G (wJoin W T.length p) := by
  have h' := h.newL hp hz
  refine ⟨h'.gh, h'.kh, h'.gg, h'.sep, h'.wl, h'.len, h'.sl, fun k o v e => ?_⟩
  rcases getElem?_snoc e with ⟨e2, hk⟩ | ⟨ek, e2⟩
  · exact h'.tm k o v (by rw [List.getElem?_append_left hk]; exact e2)
  · cases e2; subst ek; exact (h'.tm T.length _ _ snoc_last).mkL
theorem x_lst {f : Mo (List O)} (h : PA X es (tA X.K X.mg Wx f)) : PE X (.List es pos) (tX X.K X.mg Wx (lstX f)) := (pe_lst h).wk fun σ H Q ⟨g, ρ, T, G, W, hR, k⟩ => by
  refine ⟨g, ρ, T, G, W, hR, ?_⟩
  unfold lstX at k
  cases h1 : f ρ with
  | none => rw [h1] at k; exact k.elim
  | some r =>
    rw [h1] at k
    cases r with
    | ex c fs ρ1 => exact k
    | ok os ρ1 =>
      intro vs H1 G1 W1 hv R1 eg1
      dsimp only at k
      by_cases hl : os.length ≤ sizeLine
      · rw [if_pos hl] at k
        refine ⟨by rw [hv]; exact hl, fun p hp => ?_⟩
        have R2 := R1.newL' hp (by rw [List.length_zip]; omega)
        rw [List.map_fst_zip (by omega), List.map_snd_zip (by omega)] at R2
        exact k _ _ _ _ R2 eg1
      · rw [if_neg hl] at k; exact k.elim
theorem R.newF {K : PySem.W.Frag} {g : Gs} {ρ : Rho} {T : List (O × V)} {σ : L2.St} {H G : Hp} {W : Own} {p : Addr} {ds : List D} {xs : List V} (h : R K g ρ T σ H G W) (hp : H p = none) (r : Reps K G ds xs) (hz : ds.length ≤ sizeLine) :
    R K g ρ (T ++ [(.fl ds, .ref p)]) σ (upd H p (.lst xs)) G (wJoin W T.length p) := by
  have hl := r.len
  have h0 : R K g ρ (T ++ (ds.map O.fr).zip xs) σ H G W := by
    refine ⟨h.gh, h.kh, h.gg, h.sep, h.wl, h.len, h.sl, fun k o v e => ?_⟩
    by_cases hk : k < T.length
    · rw [List.getElem?_append_left hk] at e; exact h.tm k o v e
    · rw [List.getElem?_append_right (by omega), List.getElem?_zip_eq_some] at e
      obtain ⟨e1, e2⟩ := e
      rw [List.getElem?_map] at e1
      cases e3 : ds[k - T.length]? with
      | none => rw [e3] at e1; cases e1
      | some d =>
        rw [e3] at e1; cases e1
        obtain ⟨x, e4, rx⟩ := r.get e3
        rw [e4] at e2; cases e2
        rw [Ow]; exact rx
  have h1 := h0.newL' hp (by rw [List.length_zip, List.length_map]; omega)
  rw [List.map_fst_zip (by rw [List.length_map]; omega), List.map_snd_zip (by rw [List.length_map]; omega), mkL_fr] at h1
  exact h1
/-! ### built-ins of one argument -/
def pu1 (g : D → Option D) (fa : Pu D) : Pu D := fun ρ => match fa ρ with
  | some d => g d
  | none => none
def mo1 (g : D → Option D) (fa : Mo D) : Mo D := fun ρ => match fa ρ with
  | some (.ok d ρ') => (match g d with
    | some z => some (.ok z ρ')
    | none => none)
  | some (.ex c fs ρ') => some (.ex c fs ρ')
  | none => none
def C1 (K : PySem.W.Frag) (r : List V → Hp → VK → Prop) (g : D → Option D) : Prop := ∀ (d z : D) (x : V) (H G : Hp) (Q : VK), g d = some z → Same G H → CRep K G H d x → (∀ v H' G', Grow H G H' G' → Rep K G' z v → Q v H') → r [x] H Q
theorem tC1_p {K : PySem.W.Frag} {r : List V → Hp → VK → Prop} {g : D → Option D} (h : C1 K r g) : ∀ σ H Q, tP K (pu1 g fa) σ H Q → tCB r (tCons (tC K fa) tNil) σ H Q := fun σ H Q ⟨g', ρ, T, G, W, d, hR, hf, k⟩ => by
  unfold pu1 at hf
  split at hf
  · rename_i x e1
    refine ⟨g', ρ, T, G, W, x, hR, e1, fun v H1 G1 R1 eg1 eh1 r1 => ?_⟩
    refine h x d v H1 G1 Q hf R1.gh r1 fun v' H' G' w rv => ?_
    obtain ⟨R3, a, b⟩ := R1.grow w
    exact k v' H' G' R3 (eg1.trans b) (eh1.trans a) rv
  · cases hf
theorem tC1_v {K : PySem.W.Frag} {mg : MG} {r : List V → Hp → VK → Prop} {g : D → Option D} (h : C1 K r g) : ∀ σ H Q, tV K mg Wx (mo1 g ga) σ H Q → tCB r (tCons (tV K mg Wx ga) tNil) σ H Q := fun σ H Q ⟨g', ρ, T, G, W, hR, k⟩ => by
  refine ⟨g', ρ, T, G, W, hR, ?_⟩
  unfold mo1 at k
  cases h1 : ga ρ with
  | none => rw [h1] at k; exact k.elim
  | some rr =>
    rw [h1] at k
    cases rr with
    | ex c fs ρ1 => exact k
    | ok d ρ1 =>
      intro v H1 G1 W1 R1 eg1 r1
      dsimp only at k
      cases h2 : g d with
      | none => rw [h2] at k; exact k.elim
      | some z =>
        rw [h2] at k
        refine h d z v H1 G1 Q h2 R1.gh (.inl r1) fun v' H' G' w rv => ?_
        obtain ⟨R3, a, b⟩ := R1.grow w
        exact k v' H' G' W1 R3 (eg1.trans b) rv
variable {id x : Str} {p : Pos} {idn : String} {r : List V → Hp → VK → Prop} {g : D → Option D}
theorem p_callB {x : Str} (h : C1 X.K r g) (hc : CallR X (.builtin idn) r) (hg : Gl X x) (hm : X.mg x = none) (hv : bootBuiltins x = some (.builtin idn)) (ha : PE X a (tC X.K fa)) (hn : x ≠ "__name__" := by decide) (hdb : (x == ("__debug__" : Str)) = false := by decide)
    (hs : starEach [a] X.env = (false, eval a X.env) :: starEach [] X.env := by rfl) (hpl : (backTo pos (starEach [] X.env)).any (·.1) = false := by rfl) : PE X (.Call (.Name x p) [a] [] pos) (tP X.K (pu1 g fa)) := (pe_callB hc hg hm hv (pa_cons ha pa_nil hs) hn hdb hs hpl).wk (tC1_p h)
theorem v_callB {x : Str} (h : C1 X.K r g) (hc : CallR X (.builtin idn) r) (hg : Gl X x) (hm : X.mg x = none) (hv : bootBuiltins x = some (.builtin idn)) (ha : PE X a (tV X.K X.mg Wx ga)) (hn : x ≠ "__name__" := by decide) (hdb : (x == ("__debug__" : Str)) = false := by decide)
    (hs : starEach [a] X.env = (false, eval a X.env) :: starEach [] X.env := by rfl) (hpl : (backTo pos (starEach [] X.env)).any (·.1) = false := by rfl) : PE X (.Call (.Name x p) [a] [] pos) (tV X.K X.mg Wx (mo1 g ga)) := (pe_callB hc hg hm hv (pa_cons ha pa_nil hs) hn hdb hs hpl).wk (tC1_v h)
theorem p_callT {x : Str} (h : C1 X.K r g) (hc : CallR X (.type idn) r) (hg : Gl X x) (hm : X.mg x = none) (hv : bootBuiltins x = some (.type idn)) (ha : PE X a (tC X.K fa)) (hn : x ≠ "__name__" := by decide) (hdb : (x == ("__debug__" : Str)) = false := by decide)
    (hs : starEach [a] X.env = (false, eval a X.env) :: starEach [] X.env := by rfl) (hpl : (backTo pos (starEach [] X.env)).any (·.1) = false := by rfl) : PE X (.Call (.Name x p) [a] [] pos) (tP X.K (pu1 g fa)) := (pe_callTy hc hg hm hv (pa_cons ha pa_nil hs) hn hdb hs hpl).wk (tC1_p h)
theorem v_callT {x : Str} (h : C1 X.K r g) (hc : CallR X (.type idn) r) (hg : Gl X x) (hm : X.mg x = none) (hv : bootBuiltins x = some (.type idn)) (ha : PE X a (tV X.K X.mg Wx ga)) (hn : x ≠ "__name__" := by decide) (hdb : (x == ("__debug__" : Str)) = false := by decide)
    (hs : starEach [a] X.env = (false, eval a X.env) :: starEach [] X.env := by rfl) (hpl : (backTo pos (starEach [] X.env)).any (·.1) = false := by rfl) : PE X (.Call (.Name x p) [a] [] pos) (tV X.K X.mg Wx (mo1 g ga)) := (pe_callTy hc hg hm hv (pa_cons ha pa_nil hs) hn hdb hs hpl).wk (tC1_v h)
/-- .. that give a new list, owned -/
def C1L (K : PySem.W.Frag) (r : List V → Hp → VK → Prop) (g : D → Option (List D)) : Prop := ∀ (d : D) (zs : List D) (x : V) (H G : Hp) (Q : VK), g d = some zs → Same G H → CRep K G H d x → (∀ ys p, H p = none → Reps K G zs ys → zs.length ≤ sizeLine → Q (.ref p) (upd H p (.lst ys))) → r [x] H Q
theorem C1L.s {K : PySem.W.Frag} {r : List V → Hp → VK → Prop} {g : D → Option (List D)} (h : C1L K r g) : C1 K r (fun d => (g d).map .lst) := fun d z x H G Q hg e hc k => by
  replace hg : (g d).map D.lst = some z := hg
  cases e1 : g d with
  | none => rw [e1] at hg; cases hg
  | some zs =>
    rw [e1] at hg; cases hg
    exact h d zs x H G Q e1 e hc fun ys p hp hr hz => k _ _ _ (.nw p _ hp) (Rep.newL hr (e.free hp) hz)
def moL (g : D → Option (List D)) (fa : Pu D) : Mo O := fun ρ => match fa ρ with
  | some d => (match g d with
    | some zs => some (.ok (.fl zs) ρ)
    | none => none)
  | none => none
def moLv (g : D → Option (List D)) (fa : Mo D) : Mo O := fun ρ => match fa ρ with
  | some (.ok d ρ') => (match g d with
    | some zs => some (.ok (.fl zs) ρ')
    | none => none)
  | some (.ex c fs ρ') => some (.ex c fs ρ')
  | none => none
theorem tC1L_p {K : PySem.W.Frag} {mg : MG} {r : List V → Hp → VK → Prop} {g : D → Option (List D)} (h : C1L K r g) : ∀ σ H Q, tX K mg Wx (moL g fa) σ H Q → tCB r (tCons (tC K fa) tNil) σ H Q := fun σ H Q ⟨g', ρ, T, G, W, hR, k⟩ => by
  unfold moL at k
  cases h1 : fa ρ with
  | none => rw [h1] at k; exact k.elim
  | some d =>
    rw [h1] at k
    refine ⟨g', ρ, T, G, W, d, hR, h1, fun v H1 G1 R1 eg1 eh1 r1 => ?_⟩
    dsimp only at k
    cases h2 : g d with
    | none => rw [h2] at k; exact k.elim
    | some zs =>
      rw [h2] at k
      exact h d zs v H1 G1 Q h2 R1.gh r1 fun ys p hp hr hz => k _ _ _ _ (R1.newF hp hr hz) eg1
theorem tC1L_v {K : PySem.W.Frag} {mg : MG} {r : List V → Hp → VK → Prop} {g : D → Option (List D)} (h : C1L K r g) : ∀ σ H Q, tX K mg Wx (moLv g ga) σ H Q → tCB r (tCons (tV K mg Wx ga) tNil) σ H Q := fun σ H Q ⟨g', ρ, T, G, W, hR, k⟩ => by
  refine ⟨g', ρ, T, G, W, hR, ?_⟩
  unfold moLv at k
  cases h1 : ga ρ with
  | none => rw [h1] at k; exact k.elim
  | some rr =>
    rw [h1] at k
    cases rr with
    | ex c fs ρ1 => exact k
    | ok d ρ1 =>
      intro v H1 G1 W1 R1 eg1 r1
      dsimp only at k
      cases h2 : g d with
      | none => rw [h2] at k; exact k.elim
      | some zs =>
        rw [h2] at k
        exact h d zs v H1 G1 Q h2 R1.gh (.inl r1) fun ys p hp hr hz => k _ _ _ _ (R1.newF hp hr hz) eg1
theorem x_callBL {x : Str} {g : D → Option (List D)} (h : C1L X.K r g) (hc : CallR X (.builtin idn) r) (hg : Gl X x) (hm : X.mg x = none) (hv : bootBuiltins x = some (.builtin idn)) (ha : PE X a (tC X.K fa)) (hn : x ≠ "__name__" := by decide) (hdb : (x == ("__debug__" : Str)) = false := by decide)
    (hs : starEach [a] X.env = (false, eval a X.env) :: starEach [] X.env := by rfl) (hpl : (backTo pos (starEach [] X.env)).any (·.1) = false := by rfl) : PE X (.Call (.Name x p) [a] [] pos) (tX X.K X.mg Wx (moL g fa)) := (pe_callB hc hg hm hv (pa_cons ha pa_nil hs) hn hdb hs hpl).wk (tC1L_p h)
theorem x_callTL {x : Str} {g : D → Option (List D)} (h : C1L X.K r g) (hc : CallR X (.type idn) r) (hg : Gl X x) (hm : X.mg x = none) (hv : bootBuiltins x = some (.type idn)) (ha : PE X a (tC X.K fa)) (hn : x ≠ "__name__" := by decide) (hdb : (x == ("__debug__" : Str)) = false := by decide)
    (hs : starEach [a] X.env = (false, eval a X.env) :: starEach [] X.env := by rfl) (hpl : (backTo pos (starEach [] X.env)).any (·.1) = false := by rfl) : PE X (.Call (.Name x p) [a] [] pos) (tX X.K X.mg Wx (moL g fa)) := (pe_callTy hc hg hm hv (pa_cons ha pa_nil hs) hn hdb hs hpl).wk (tC1L_p h)
theorem x_callTLv {x : Str} {g : D → Option (List D)} (h : C1L X.K r g) (hc : CallR X (.type idn) r) (hg : Gl X x) (hm : X.mg x = none) (hv : bootBuiltins x = some (.type idn)) (ha : PE X a (tV X.K X.mg Wx ga)) (hn : x ≠ "__name__" := by decide) (hdb : (x == ("__debug__" : Str)) = false := by decide)
    (hs : starEach [a] X.env = (false, eval a X.env) :: starEach [] X.env := by rfl) (hpl : (backTo pos (starEach [] X.env)).any (·.1) = false := by rfl) : PE X (.Call (.Name x p) [a] [] pos) (tX X.K X.mg Wx (moLv g ga)) := (pe_callTy hc hg hm hv (pa_cons ha pa_nil hs) hn hdb hs hpl).wk (tC1L_v h)
end
end Tr
namespace Tr
open PySem PySem.Spec PyProof.Rows L2
theorem _root_.L2.PW.wk {X : Cx} {e : Expr} {t t' : TT} (h : PW X e t) (w : ∀ σ H Q, t' σ H Q → t σ H Q) : PW X e t' := ⟨fun wh pins s σ H Q I q => h.run wh pins s σ H Q I (w σ H Q q)⟩
section
variable {X : Cx} {e a b c : Expr} {es rest : List Expr} {Wx : WX} {pos : Pos} {f fa fb fc : Pu D} {ga gb gc : Mo D} {qa qb : Pu Bool} {ya yb : Mo Bool}
/-! ### tests -/
def tb (f : Pu D) : Pu Bool := fun ρ => match f ρ with
  | some (.bl b) => some b
  | _ => none
def tbM (f : Mo D) : Mo Bool := fun ρ => match f ρ with
  | some (.ok (.bl b) ρ') => some (.ok b ρ')
  | some (.ex c fs ρ') => some (.ex c fs ρ')
  | _ => none
theorem tb_some {f : Pu D} {ρ : Rho} {b : Bool} (h : tb f ρ = some b) : f ρ = some (.bl b) := by
  unfold tb at h
  split at h
  · rename_i e; cases h; exact e
  · cases h
theorem tQ_P {K : PySem.W.Frag} : ∀ σ H (Q : Bool → Hp → Prop), tQ K (tb f) σ H Q → tP K f σ H (fun x H' => ∃ c, x = .bl c ∧ Q c H') := fun σ H Q ⟨g, ρ, T, G, W, b, hR, hf, k⟩ =>
  ⟨g, ρ, T, G, W, .bl b, hR, tb_some hf, fun v H' G' R' eg eh r => ⟨b, Rep.b.mp r, k H' G' R' eg eh⟩⟩
theorem tY_V {K : PySem.W.Frag} {mg : MG} : ∀ σ H (Q : Bool → Hp → Prop), tY K mg Wx (tbM ga) σ H Q → tV K mg Wx ga σ H (fun x H' => ∃ c, x = .bl c ∧ Q c H') := fun σ H Q ⟨g, ρ, T, G, W, hR, k⟩ => by
  refine ⟨g, ρ, T, G, W, hR, ?_⟩
  unfold tbM at k
  cases h1 : ga ρ with
  | none => rw [h1] at k; exact k.elim
  | some r =>
    rw [h1] at k
    cases r with
    | ex c fs ρ' => exact k
    | ok d ρ' =>
      intro v H' G' W' R' eg r
      cases d with
      | bl b => exact ⟨b, Rep.b.mp r, k H' G' W' R' eg⟩
      | _ => exact k.elim
def quM (f : Pu Bool) : Mo Bool := fun ρ => match f ρ with
  | some b => some (.ok b ρ)
  | none => none
theorem _root_.L2.PT.qy (h : PT X e (tQ X.K qa)) : PT X e (tY X.K X.mg Wx (quM qa)) := h.wk fun σ H Q ⟨g, ρ, T, G, W, hR, k⟩ => by
  unfold quM at k
  cases h1 : qa ρ with
  | none => rw [h1] at k; exact k.elim
  | some b => rw [h1] at k; exact ⟨g, ρ, T, G, W, b, hR, h1, fun H' G' R' eg eh => k H' G' W R' eg⟩
theorem _root_.L2.PW.qy (h : PW X e (tQ X.K qa)) : PW X e (tY X.K X.mg Wx (quM qa)) := h.wk fun σ H Q ⟨g, ρ, T, G, W, hR, k⟩ => by
  unfold quM at k
  cases h1 : qa ρ with
  | none => rw [h1] at k; exact k.elim
  | some b => rw [h1] at k; exact ⟨g, ρ, T, G, W, b, hR, h1, fun H' G' R' eg eh => k H' G' W R' eg⟩
theorem q_val (h : PE X e (tP X.K f)) (he : ∀ whole, isTrue e X.env whole = (do let v ← whole; standAt e.pos; holding [v] (truthy v)) := by intro _; rfl) : PT X e (tQ X.K (tb f)) := (pt_val h he).wk tQ_P
theorem y_val (h : PE X e (tV X.K X.mg Wx ga)) (he : ∀ whole, isTrue e X.env whole = (do let v ← whole; standAt e.pos; holding [v] (truthy v)) := by intro _; rfl) : PT X e (tY X.K X.mg Wx (tbM ga)) := (pt_val h he).wk tY_V
theorem q_cmp {op : CmpOp} {r : R2} {g : D → D → Option D} (ho : OpR X (compareOp op) r) (h : OpB X.K r g) (ha : PE X a (tB X.K fa)) (hb : PE X b (tB X.K fb)) (hm : behindInMarks op b = false) : PT X (.Compare a [op] [b] pos) (tQ X.K (tb (pu2 g fa fb))) := (pt_cmpR ho ha hb hm).wk fun σ H Q h' => tOp_b h σ H _ (tQ_P σ H Q h')
theorem y_cmp {op : CmpOp} {r : R2} {g : D → D → Option D} (ho : OpR X (compareOp op) r) (h : OpS X.K r g) (ha : PE X a (tV X.K X.mg Wx ga)) (hb : PE X b (tV X.K X.mg Wx gb)) (hm : behindInMarks op b = false) : PT X (.Compare a [op] [b] pos) (tY X.K X.mg Wx (tbM (mo2 g ga gb))) := (pt_cmpR ho ha hb hm).wk fun σ H Q h' => tOp_v h σ H _ (tY_V σ H Q h')
/-- a op b op' c -/
def chn (g g' : D → D → Option D) (fa fb fc : Pu D) : Pu D := fun ρ => match fa ρ, fb ρ with
  | some x, some y => (match g x y with
    | some (.bl true) => (match fc ρ with
      | some z => g' y z
      | none => none)
    | some (.bl false) => some (.bl false)
    | _ => none)
  | _, _ => none
theorem tChain_p {K : PySem.W.Frag} {r r' : R2} {g g' : D → D → Option D} (h : OpB K r g) (h' : OpB K r' g') : ∀ σ H Q, tP K (chn g g' fa fb fc) σ H Q → tChain r r' (tB K fa) (tB K fb) (tB K fc) σ H Q := fun σ H Q ⟨gg, ρ, T, G, W, d, hR, hf, k⟩ => by
  unfold chn at hf
  split at hf
  · rename_i x y e1 e2
    refine ⟨gg, ρ, T, G, W, x, hR, e1, fun u H1 G1 R1 eg1 eh1 r1 => ⟨gg, ρ, T, G1, W, y, R1, e2, fun u2 H2 G2 R2 eg2 eh2 r2 => ?_⟩⟩
    split at hf
    · rename_i e3
      split at hf
      · rename_i z e4
        refine h x y _ u u2 H2 _ e3 (r1.mono eh2) r2 fun v rv => ⟨true, Rep.b.mp (rv G), iteT ?_⟩
        refine ⟨gg, ρ, T, G2, W, z, R2, e4, fun u3 H3 G3 R3 eg3 eh3 r3 => ?_⟩
        exact h' y z d u2 u3 H3 Q hf (r2.mono eh3) r3 fun v rv => k v H3 G3 R3 (eg1.trans (eg2.trans eg3)) (eh1.trans (eh2.trans eh3)) (rv G3)
      · cases hf
    · rename_i e3
      cases hf
      exact h x y _ u u2 H2 _ e3 (r1.mono eh2) r2 fun v rv => ⟨false, Rep.b.mp (rv G), iteF (k _ H2 G2 R2 (eg1.trans eg2) (eh1.trans eh2) (Rep.b.mpr rfl))⟩
    · cases hf
  · cases hf
theorem p_chain {op op' : CmpOp} {r r' : R2} {g g' : D → D → Option D} (ho : OpR X (compareOp op) r) (h : OpB X.K r g) (ho' : OpR X (compareOp op') r') (h' : OpB X.K r' g') (ha : PE X a (tB X.K fa)) (hb : PE X b (tB X.K fb)) (hc : PE X c (tB X.K fc))
    (hm : lastMarks [op, op'] [b, c] = false := by with_unfolding_all rfl) : PE X (.Compare a [op, op'] [b, c] pos) (tP X.K (chn g g' fa fb fc)) := (pe_chain ho ho' ha hb hc hm).wk (tChain_p h h')
theorem q_chain {op op' : CmpOp} {r r' : R2} {g g' : D → D → Option D} (ho : OpR X (compareOp op) r) (h : OpB X.K r g) (ho' : OpR X (compareOp op') r') (h' : OpB X.K r' g') (ha : PE X a (tB X.K fa)) (hb : PE X b (tB X.K fb)) (hc : PE X c (tB X.K fc))
    (hm : lastMarks [op, op'] [b, c] = false := by with_unfolding_all rfl) : PT X (.Compare a [op, op'] [b, c] pos) (tQ X.K (tb (chn g g' fa fb fc))) := (pt_chain ho ho' ha hb hc hm).wk fun σ H Q hq => tChain_p h h' σ H _ (tQ_P σ H Q hq)
def notQ (f : Pu Bool) : Pu Bool := fun ρ => match f ρ with
  | some b => some (!b)
  | none => none
theorem q_not (h : PT X a (tQ X.K qa)) : PT X (.UnaryOp .Not a pos) (tQ X.K (notQ qa)) := (pt_not h).wk fun σ H Q ⟨g, ρ, T, G, W, b, hR, hf, k⟩ => by
  unfold notQ at hf
  split at hf
  · rename_i b' e1; cases hf
    exact ⟨g, ρ, T, G, W, b', hR, e1, fun H' G' R' eg eh => k H' G' R' eg eh⟩
  · cases hf
def notY (f : Mo Bool) : Mo Bool := fun ρ => match f ρ with
  | some (.ok b ρ') => some (.ok (!b) ρ')
  | some (.ex c fs ρ') => some (.ex c fs ρ')
  | none => none
theorem y_not (h : PT X a (tY X.K X.mg Wx ya)) : PT X (.UnaryOp .Not a pos) (tY X.K X.mg Wx (notY ya)) := (pt_not h).wk fun σ H Q ⟨g, ρ, T, G, W, hR, k⟩ => by
  refine ⟨g, ρ, T, G, W, hR, ?_⟩
  unfold notY at k
  cases h1 : ya ρ with
  | none => rw [h1] at k; exact k.elim
  | some r =>
    rw [h1] at k
    cases r with
    | ex c fs ρ' => exact k
    | ok b ρ' => exact k
def andQ (f g : Pu Bool) : Pu Bool := fun ρ => match f ρ with
  | some true => g ρ
  | some false => some false
  | none => none
def orQ (f g : Pu Bool) : Pu Bool := fun ρ => match f ρ with
  | some true => some true
  | some false => g ρ
  | none => none
theorem q_and1 (h : PT X a (tQ X.K qa)) : PW X (.BoolOp .And [a] pos) (tQ X.K qa) := pw_and1 h
theorem q_or1 (h : PT X a (tQ X.K qa)) : PW X (.BoolOp .Or [a] pos) (tQ X.K qa) := pw_or1 h
theorem q_and (ha : PT X a (tQ X.K qa)) (hb : PW X (.BoolOp .And (b :: rest) pos) (tQ X.K qb)) : PW X (.BoolOp .And (a :: b :: rest) pos) (tQ X.K (andQ qa qb)) := (pw_and ha hb).wk fun σ H Q ⟨g, ρ, T, G, W, d, hR, hf, k⟩ => by
  unfold andQ at hf
  split at hf
  · rename_i e1
    refine ⟨g, ρ, T, G, W, true, hR, e1, fun H1 G1 R1 eg eh => iteT ⟨g, ρ, T, G1, W, d, R1, hf, fun H2 G2 R2 eg2 eh2 => k H2 G2 R2 (eg.trans eg2) (eh.trans eh2)⟩⟩
  · rename_i e1; cases hf
    exact ⟨g, ρ, T, G, W, false, hR, e1, fun H1 G1 R1 eg eh => iteF (k H1 G1 R1 eg eh)⟩
  · cases hf
theorem q_or (ha : PT X a (tQ X.K qa)) (hb : PW X (.BoolOp .Or (b :: rest) pos) (tQ X.K qb)) : PW X (.BoolOp .Or (a :: b :: rest) pos) (tQ X.K (orQ qa qb)) := (pw_or ha hb).wk fun σ H Q ⟨g, ρ, T, G, W, d, hR, hf, k⟩ => by
  unfold orQ at hf
  split at hf
  · rename_i e1; cases hf
    exact ⟨g, ρ, T, G, W, true, hR, e1, fun H1 G1 R1 eg eh => iteT (k H1 G1 R1 eg eh)⟩
  · rename_i e1
    refine ⟨g, ρ, T, G, W, false, hR, e1, fun H1 G1 R1 eg eh => iteF ⟨g, ρ, T, G1, W, d, R1, hf, fun H2 G2 R2 eg2 eh2 => k H2 G2 R2 (eg.trans eg2) (eh.trans eh2)⟩⟩
  · cases hf
def andY (f g : Mo Bool) : Mo Bool := fun ρ => match f ρ with
  | some (.ok true ρ') => g ρ'
  | some (.ok false ρ') => some (.ok false ρ')
  | some (.ex c fs ρ') => some (.ex c fs ρ')
  | none => none
def orY (f g : Mo Bool) : Mo Bool := fun ρ => match f ρ with
  | some (.ok false ρ') => g ρ'
  | some (.ok true ρ') => some (.ok true ρ')
  | some (.ex c fs ρ') => some (.ex c fs ρ')
  | none => none
theorem GE.mono {α : Type} {K : PySem.W.Frag} {mg : MG} {g : Gs} {T : List (O × V)} {G G' : Hp} {k k' : α → Rho → Prop} {r : Option (Re α)} (e : Same G G') (hk : ∀ a ρ, k a ρ → k' a ρ) (h : GE K mg Wx g T G k r) : GE K mg Wx g T G' k' r := by
  cases r with
  | none => exact h.elim
  | some r =>
    cases r with
    | ok a ρ => exact hk a ρ h
    | ex c fs ρ => exact WE'.mono e h
theorem y_and1 (h : PT X a (tY X.K X.mg Wx ya)) : PW X (.BoolOp .And [a] pos) (tY X.K X.mg Wx ya) := pw_and1 h
theorem y_or1 (h : PT X a (tY X.K X.mg Wx ya)) : PW X (.BoolOp .Or [a] pos) (tY X.K X.mg Wx ya) := pw_or1 h
theorem y_and (ha : PT X a (tY X.K X.mg Wx ya)) (hb : PW X (.BoolOp .And (b :: rest) pos) (tY X.K X.mg Wx yb)) : PW X (.BoolOp .And (a :: b :: rest) pos) (tY X.K X.mg Wx (andY ya yb)) := (pw_and ha hb).wk fun σ H Q ⟨g, ρ, T, G, W, hR, k⟩ => by
  refine ⟨g, ρ, T, G, W, hR, ?_⟩
  unfold andY at k
  cases h1 : ya ρ with
  | none => rw [h1] at k; exact k.elim
  | some r =>
    rw [h1] at k
    cases r with
    | ex c fs ρ' => exact k
    | ok b ρ' =>
      intro H1 G1 W1 R1 eg
      cases b with
      | true => exact iteT ⟨g, ρ', T, G1, W1, R1, GE.mono eg (fun b ρ2 k H2 G2 W2 R2 eg2 => k H2 G2 W2 R2 (eg.trans eg2)) k⟩
      | false => exact iteF (k H1 G1 W1 R1 eg)
theorem y_or (ha : PT X a (tY X.K X.mg Wx ya)) (hb : PW X (.BoolOp .Or (b :: rest) pos) (tY X.K X.mg Wx yb)) : PW X (.BoolOp .Or (a :: b :: rest) pos) (tY X.K X.mg Wx (orY ya yb)) := (pw_or ha hb).wk fun σ H Q ⟨g, ρ, T, G, W, hR, k⟩ => by
  refine ⟨g, ρ, T, G, W, hR, ?_⟩
  unfold orY at k
  cases h1 : ya ρ with
  | none => rw [h1] at k; exact k.elim
  | some r =>
    rw [h1] at k
    cases r with
    | ex c fs ρ' => exact k
    | ok b ρ' =>
      intro H1 G1 W1 R1 eg
      cases b with
      | false => exact iteF ⟨g, ρ', T, G1, W1, R1, GE.mono eg (fun b ρ2 k H2 G2 W2 R2 eg2 => k H2 G2 W2 R2 (eg.trans eg2)) k⟩
      | true => exact iteT (k H1 G1 W1 R1 eg)
/-! ### and, or, not as values -/
def andP (f g : Pu D) : Pu D := fun ρ => match f ρ with
  | some (.bl true) => g ρ
  | some (.bl false) => some (.bl false)
  | _ => none
def orP (f g : Pu D) : Pu D := fun ρ => match f ρ with
  | some (.bl false) => g ρ
  | some (.bl true) => some (.bl true)
  | _ => none
theorem p_and (ha : PE X a (tP X.K fa)) (hb : PE X (.BoolOp .And (b :: rest) pos) (tP X.K fb)) : PE X (.BoolOp .And (a :: b :: rest) pos) (tP X.K (andP fa fb)) := (pe_and ha hb).wk fun σ H Q ⟨g, ρ, T, G, W, d, hR, hf, k⟩ => by
  unfold andP at hf
  split at hf
  · rename_i e1
    exact ⟨g, ρ, T, G, W, _, hR, e1, fun v H1 G1 R1 eg eh r => ⟨true, Rep.b.mp r, iteT ⟨g, ρ, T, G1, W, d, R1, hf, fun v2 H2 G2 R2 eg2 eh2 r2 => k v2 H2 G2 R2 (eg.trans eg2) (eh.trans eh2) r2⟩⟩⟩
  · rename_i e1; cases hf
    exact ⟨g, ρ, T, G, W, _, hR, e1, fun v H1 G1 R1 eg eh r => ⟨false, Rep.b.mp r, iteF (k _ H1 G1 R1 eg eh (Rep.b.mpr rfl))⟩⟩
  · cases hf
theorem p_or (ha : PE X a (tP X.K fa)) (hb : PE X (.BoolOp .Or (b :: rest) pos) (tP X.K fb)) : PE X (.BoolOp .Or (a :: b :: rest) pos) (tP X.K (orP fa fb)) := (pe_or ha hb).wk fun σ H Q ⟨g, ρ, T, G, W, d, hR, hf, k⟩ => by
  unfold orP at hf
  split at hf
  · rename_i e1
    exact ⟨g, ρ, T, G, W, _, hR, e1, fun v H1 G1 R1 eg eh r => ⟨false, Rep.b.mp r, iteF ⟨g, ρ, T, G1, W, d, R1, hf, fun v2 H2 G2 R2 eg2 eh2 r2 => k v2 H2 G2 R2 (eg.trans eg2) (eh.trans eh2) r2⟩⟩⟩
  · rename_i e1; cases hf
    exact ⟨g, ρ, T, G, W, _, hR, e1, fun v H1 G1 R1 eg eh r => ⟨true, Rep.b.mp r, iteT (k _ H1 G1 R1 eg eh (Rep.b.mpr rfl))⟩⟩
  · cases hf
theorem p_one {op} (h : PE X a (tP X.K fa)) : PE X (.BoolOp op [a] pos) (tP X.K fa) := pe_one h
def notP (f : Pu D) : Pu D := fun ρ => match f ρ with
  | some (.bl b) => some (.bl (!b))
  | _ => none
theorem p_not (ha : PE X a (tP X.K fa)) : PE X (.UnaryOp .Not a pos) (tP X.K (notP fa)) := (pe_not ha).wk fun σ H Q ⟨g, ρ, T, G, W, d, hR, hf, k⟩ => by
  unfold notP at hf
  split at hf
  · rename_i b e1; cases hf
    exact ⟨g, ρ, T, G, W, _, hR, e1, fun v H1 G1 R1 eg eh r => ⟨b, Rep.b.mp r, k _ H1 G1 R1 eg eh (Rep.b.mpr rfl)⟩⟩
  · cases hf
def andV (f g : Mo D) : Mo D := fun ρ => match f ρ with
  | some (.ok (.bl true) ρ') => g ρ'
  | some (.ok (.bl false) ρ') => some (.ok (.bl false) ρ')
  | some (.ex c fs ρ') => some (.ex c fs ρ')
  | _ => none
def orV (f g : Mo D) : Mo D := fun ρ => match f ρ with
  | some (.ok (.bl false) ρ') => g ρ'
  | some (.ok (.bl true) ρ') => some (.ok (.bl true) ρ')
  | some (.ex c fs ρ') => some (.ex c fs ρ')
  | _ => none
theorem v_and (ha : PE X a (tV X.K X.mg Wx ga)) (hb : PE X (.BoolOp .And (b :: rest) pos) (tV X.K X.mg Wx gb)) : PE X (.BoolOp .And (a :: b :: rest) pos) (tV X.K X.mg Wx (andV ga gb)) := (pe_and ha hb).wk fun σ H Q ⟨g, ρ, T, G, W, hR, k⟩ => by
  refine ⟨g, ρ, T, G, W, hR, ?_⟩
  unfold andV at k
  cases h1 : ga ρ with
  | none => rw [h1] at k; exact k.elim
  | some r =>
    rw [h1] at k
    cases r with
    | ex c fs ρ' => exact k
    | ok d ρ' =>
      intro v H1 G1 W1 R1 eg rd
      cases d with
      | bl b =>
        cases b with
        | true => exact ⟨true, Rep.b.mp rd, iteT ⟨g, ρ', T, G1, W1, R1, GE.mono eg (fun b ρ2 k v2 H2 G2 W2 R2 eg2 => k v2 H2 G2 W2 R2 (eg.trans eg2)) k⟩⟩
        | false => exact ⟨false, Rep.b.mp rd, iteF (k _ H1 G1 W1 R1 eg (Rep.b.mpr rfl))⟩
      | _ => exact k.elim
theorem v_or (ha : PE X a (tV X.K X.mg Wx ga)) (hb : PE X (.BoolOp .Or (b :: rest) pos) (tV X.K X.mg Wx gb)) : PE X (.BoolOp .Or (a :: b :: rest) pos) (tV X.K X.mg Wx (orV ga gb)) := (pe_or ha hb).wk fun σ H Q ⟨g, ρ, T, G, W, hR, k⟩ => by
  refine ⟨g, ρ, T, G, W, hR, ?_⟩
  unfold orV at k
  cases h1 : ga ρ with
  | none => rw [h1] at k; exact k.elim
  | some r =>
    rw [h1] at k
    cases r with
    | ex c fs ρ' => exact k
    | ok d ρ' =>
      intro v H1 G1 W1 R1 eg rd
      cases d with
      | bl b =>
        cases b with
        | false => exact ⟨false, Rep.b.mp rd, iteF ⟨g, ρ', T, G1, W1, R1, GE.mono eg (fun b ρ2 k v2 H2 G2 W2 R2 eg2 => k v2 H2 G2 W2 R2 (eg.trans eg2)) k⟩⟩
        | true => exact ⟨true, Rep.b.mp rd, iteT (k _ H1 G1 W1 R1 eg (Rep.b.mpr rfl))⟩
      | _ => exact k.elim
theorem v_one {op} (h : PE X a (tV X.K X.mg Wx ga)) : PE X (.BoolOp op [a] pos) (tV X.K X.mg Wx ga) := pe_one h
def notV (f : Mo D) : Mo D := mo1 (fun d => match d with
  | .bl b => some (.bl (!b))
  | _ => none) f
theorem v_not (ha : PE X a (tV X.K X.mg Wx ga)) : PE X (.UnaryOp .Not a pos) (tV X.K X.mg Wx (notV ga)) := (pe_not ha).wk fun σ H Q ⟨g, ρ, T, G, W, hR, k⟩ => by
  refine ⟨g, ρ, T, G, W, hR, ?_⟩
  unfold notV mo1 at k
  cases h1 : ga ρ with
  | none => rw [h1] at k; exact k.elim
  | some r =>
    rw [h1] at k
    cases r with
    | ex c fs ρ' => exact k
    | ok d ρ' =>
      intro v H1 G1 W1 R1 eg rd
      cases d with
      | bl b => exact ⟨b, Rep.b.mp rd, k _ H1 G1 W1 R1 eg (Rep.b.mpr rfl)⟩
      | _ => exact k.elim
/-! ### a if t else b -/
def ifP (q : Pu Bool) (f g : Pu D) : Pu D := fun ρ => match q ρ with
  | some true => f ρ
  | some false => g ρ
  | none => none
theorem p_if (hc : PT X c (tQ X.K qa)) (ha : PE X a (tP X.K fa)) (hb : PE X b (tP X.K fb)) : PE X (.IfExp c a b pos) (tP X.K (ifP qa fa fb)) := (pe_ifExp hc ha hb).wk fun σ H Q ⟨g, ρ, T, G, W, d, hR, hf, k⟩ => by
  unfold ifP at hf
  split at hf
  · rename_i e1
    exact ⟨g, ρ, T, G, W, true, hR, e1, fun H1 G1 R1 eg eh => iteT ⟨g, ρ, T, G1, W, d, R1, hf, fun v2 H2 G2 R2 eg2 eh2 r2 => k v2 H2 G2 R2 (eg.trans eg2) (eh.trans eh2) r2⟩⟩
  · rename_i e1
    exact ⟨g, ρ, T, G, W, false, hR, e1, fun H1 G1 R1 eg eh => iteF ⟨g, ρ, T, G1, W, d, R1, hf, fun v2 H2 G2 R2 eg2 eh2 r2 => k v2 H2 G2 R2 (eg.trans eg2) (eh.trans eh2) r2⟩⟩
  · cases hf
def ifM {α : Type} (q : Mo Bool) (f g : Mo α) : Mo α := fun ρ => match q ρ with
  | some (.ok true ρ') => f ρ'
  | some (.ok false ρ') => g ρ'
  | some (.ex c fs ρ') => some (.ex c fs ρ')
  | none => none
theorem x_if {fa fb : Mo O} (hc : PT X c (tY X.K X.mg Wx ya)) (ha : PE X a (tX X.K X.mg Wx fa)) (hb : PE X b (tX X.K X.mg Wx fb)) : PE X (.IfExp c a b pos) (tX X.K X.mg Wx (ifM ya fa fb)) := (pe_ifExp hc ha hb).wk fun σ H Q ⟨g, ρ, T, G, W, hR, k⟩ => by
  refine ⟨g, ρ, T, G, W, hR, ?_⟩
  unfold ifM at k
  cases h1 : ya ρ with
  | none => rw [h1] at k; exact k.elim
  | some r =>
    rw [h1] at k
    cases r with
    | ex c fs ρ' => exact k
    | ok b ρ' =>
      intro H1 G1 W1 R1 eg
      cases b with
      | true => exact iteT ⟨g, ρ', T, G1, W1, R1, GE.mono eg (fun b ρ2 k v H2 G2 W2 R2 eg2 => k v H2 G2 W2 R2 (eg.trans eg2)) k⟩
      | false => exact iteF ⟨g, ρ', T, G1, W1, R1, GE.mono eg (fun b ρ2 k v H2 G2 W2 R2 eg2 => k v H2 G2 W2 R2 (eg.trans eg2)) k⟩
theorem v_if (hc : PT X c (tY X.K X.mg Wx ya)) (ha : PE X a (tV X.K X.mg Wx ga)) (hb : PE X b (tV X.K X.mg Wx gb)) : PE X (.IfExp c a b pos) (tV X.K X.mg Wx (ifM ya ga gb)) := (pe_ifExp hc ha hb).wk fun σ H Q ⟨g, ρ, T, G, W, hR, k⟩ => by
  refine ⟨g, ρ, T, G, W, hR, ?_⟩
  unfold ifM at k
  cases h1 : ya ρ with
  | none => rw [h1] at k; exact k.elim
  | some r =>
    rw [h1] at k
    cases r with
    | ex c fs ρ' => exact k
    | ok b ρ' =>
      intro H1 G1 W1 R1 eg
      cases b with
      | true => exact iteT ⟨g, ρ', T, G1, W1, R1, GE.mono eg (fun b ρ2 k v H2 G2 W2 R2 eg2 => k v H2 G2 W2 R2 (eg.trans eg2)) k⟩
      | false => exact iteF ⟨g, ρ', T, G1, W1, R1, GE.mono eg (fun b ρ2 k v H2 G2 W2 R2 eg2 => k v H2 G2 W2 R2 (eg.trans eg2)) k⟩
end
end Tr
namespace Tr
open PySem PySem.Spec PyProof.Rows L2
section
variable {K : PySem.W.Frag} {mg : MG} {Wx : WX} {g : Gs} {ρ ρ' : Rho} {T T' : List (O × V)} {σ σ' : L2.St} {H H' G G' : Hp} {W W' : Own} {o : O} {v : V} {p : Addr} {d : D} {i k : Nat} {u : HO} {D0 : Ends}
theorem GS.mono {r : Option So} (e : Same G G') (h : GS K mg Wx D0 g T G r) : GS K mg Wx D0 g T G' r := by
  cases r with
  | none => exact h.elim
  | some r =>
    cases r with
    | nx ρ => exact fun σ' H' G2 W' a b => h σ' H' G2 W' a (e.trans b)
    | bk ρ => exact fun σ' H' G2 W' a b => h σ' H' G2 W' a (e.trans b)
    | ct ρ => exact fun σ' H' G2 W' a b => h σ' H' G2 W' a (e.trans b)
    | rt o ρ => exact fun v σ' H' G2 W' a b => h v σ' H' G2 W' a (e.trans b)
    | ex c fs ρ => exact WE'.mono e h
/-- a cell of a slot's tree is written -/
theorem R.wrL {s : Sl} {o' : O} {b : Addr} {q : List Nat} (h : R K g ρ T σ H G W) (h' : R K g ρ T σ H G' W) (e : ρ[i]? = some s) (hv : σ[i]? = some (some v)) (hw : W b = some (.s i, q)) (ho : Ow K G' (upd H b u) W o' v (.s i) []) :
    R K g (ρ.set i (s.put o')) T σ (upd H b u) G' W := by
  have hne : ∀ {c : Addr} {l : Lab}, W c = some l → l.1 ≠ .s i → c ≠ b := fun {c l} w n eq => n (by rw [eq, hw] at w; cases w; rfl)
  have g' := (h'.wl b _ hw)
  refine ⟨fun c x q => ?_, fun c x q => ?_, h'.gg, h'.sep, fun c l w => ?_, (List.length_set ..).trans h.len, fun j s' q => ?_, fun k o v q => ?_⟩
  · rw [upd_ne (fun z => by rw [z, g'.1] at q; cases q)]; exact h'.gh c x q
  · rw [upd_ne (fun z => by rw [z, g'.2.1] at q; cases q)]; exact h'.kh c x q
  · refine ⟨(h'.wl c l w).1, (h'.wl c l w).2.1, ?_⟩
    by_cases hb : c = b
    · rw [hb, upd_same]; exact fun z => nomatch z
    · rw [upd_ne hb]; exact (h'.wl c l w).2.2
  · by_cases hj : i = j
    · subst hj
      have hi : i < ρ.length := by
        by_cases hi : i < ρ.length
        · exact hi
        · rw [List.getElem?_eq_none (by omega)] at e; cases e
      rw [List.getElem?_set_self hi] at q
      cases q
      cases s with
      | no => trivial
      | ow o'' => exact ⟨v, hv, ho⟩
      | le o'' =>
        obtain ⟨v', h1, h3, _⟩ := h.sl i _ e
        rw [hv] at h1; cases h1
        exact ⟨v, hv, h3, ho⟩
    · rw [List.getElem?_set_ne hj] at q
      exact (h'.sl j s' q).keep (Same.refl G') (fun b z w => ⟨upd_ne (hne w fun z => hj (by cases z; rfl)), w⟩) rfl
  · exact (h'.tm k o v q).keep (Same.refl G') fun b z w => ⟨upd_ne (hne w fun z => nomatch z), w⟩
theorem path_ne {q z : List Nat} {k m : Nat} (h : k ≠ m) : (q ++ [k]) ++ z ≠ q ++ [m] := by
  intro e
  rw [List.append_assoc] at e
  have := List.append_cancel_left e
  simp at this
  exact h this.1
theorem Ow.off {r : Rt} {q : List Nat} {k m : Nat} {b : Addr} (hw : W b = some (r, q ++ [m])) (hk : k ≠ m) (h : Ow K G H W o v r (q ++ [k])) : Ow K G (upd H b u) W o v r (q ++ [k]) := by
  have := Ow.move (K := K) (G := G) (G' := G) (H := H) (H' := upd H b u) (W := W) (W' := W) (r := r) (r' := r) (q := q ++ [k]) (q' := q ++ [k]) (o := o) (v := v) (Same.refl G) [] (fun a z w => by
    rw [List.nil_append] at w ⊢
    exact ⟨upd_ne fun e => by
      rw [e, hw] at w
      have z2 := Option.some.inj w
      have z3 : q ++ [m] = (q ++ [k]) ++ z := congrArg Prod.snd z2
      exact path_ne hk z3.symm, w⟩) (by rw [List.append_nil]; exact h)
  rw [List.append_nil] at this
  exact this
theorem Ows.off {r : Rt} {q : List Nat} {m : Nat} {b : Addr} (hw : W b = some (r, q ++ [m])) : ∀ {os : List O} {xs : List V} {k : Nat}, m < k → Ows K G H W os xs r q k → Ows K G (upd H b u) W os xs r q k
  | [], _, _, _, h => by rw [Ows] at h ⊢; exact h
  | o :: os, _, k, hk, h => by
    rw [Ows] at h ⊢
    obtain ⟨x, xr, e1, h1, h2⟩ := h
    exact ⟨x, xr, e1, h1.off hw (by omega), Ows.off hw (by omega) h2⟩
theorem Ows.upd {r : Rt} {q : List Nat} {b : Addr} {o' : O} {x' : V} : ∀ {os : List O} {xs : List V} {k j : Nat}, Ows K G H W os xs r q k → W b = some (r, q ++ [k + j]) → Ow K G (upd H b u) W o' x' r (q ++ [k + j]) → xs[j]? = some x' → Ows K G (upd H b u) W (os.set j o') xs r q k
  | [], _, _, _, h, _, _, _ => by rw [Ows] at h; subst h; rename_i hx; simp at hx
  | o :: os, _, k, 0, h, hw, ho, hx => by
    rw [Ows] at h
    obtain ⟨x, xr, e1, h1, h2⟩ := h
    subst e1
    simp at hx; subst hx
    rw [List.set_cons_zero, Ows]
    exact ⟨x, xr, rfl, ho, Ows.off hw (by omega) h2⟩
  | o :: os, _, k, j + 1, h, hw, ho, hx => by
    rw [Ows] at h
    obtain ⟨x, xr, e1, h1, h2⟩ := h
    subst e1
    rw [List.set_cons_succ, Ows]
    rw [show k + (j + 1) = k + 1 + j by omega] at hw ho
    exact ⟨x, xr, rfl, h1.off hw (by omega), Ows.upd h2 hw ho (by simpa using hx)⟩
/-- a flat list within a slot's list is written -/
theorem R.wr1 {s : Sl} {os : List O} {j : Int} {ds : List D} (h : R K g ρ T σ H G W) (e : ρ[i]? = some s) (eo : s.tr = some (.ol os)) (ej : atI os j = some (.fl ds)) :
    ∃ a xs b ys jj, σ[i]? = some (some (.ref a)) ∧ H a = some (.lst xs) ∧ atI xs j = some (.ref b) ∧ H b = some (.lst ys) ∧ G b = none ∧ Reps K G ds ys ∧ ixN os.length j = some jj ∧
      ∀ G' ds' ys', Same G G' → R K g ρ T σ H G' W → Reps K G' ds' ys' → ds'.length ≤ sizeLine → R K g (ρ.set i (s.put (.ol (os.set jj (.fl ds'))))) T σ (upd H b (.lst ys')) G' W := by
  obtain ⟨v, hv, ho⟩ := h.slo e eo
  have ho0 := ho
  rw [Ow] at ho
  obtain ⟨a, xs, rfl, ha, hw, hos, hzo⟩ := ho
  obtain ⟨x, jj, e1, e2, e3, e4, hx⟩ := hos.at ej
  rw [Ow] at hx
  obtain ⟨b, ys, rfl, hb, hwb, hds, hzd⟩ := hx
  refine ⟨a, xs, b, ys, jj, hv, ha, e3, hb, (h.wl b _ hwb).1, hds, e1, fun G' ds' ys' eg h' hds' hz' => h.wrL h' e hv hwb ?_⟩
  have hab : a ≠ b := fun z => by rw [z, hwb] at hw; cases hw
  have ho' := ho0.same (G' := G') eg (Same.refl H) fun b l w => (h.wl b l w).2.2
  rw [Ow] at ho' ⊢
  obtain ⟨a', xs', ea, ha', hw', hos', hz2⟩ := ho'
  cases ea
  rw [ha] at ha'; cases ha'
  refine ⟨a, xs, rfl, by rw [upd_ne hab]; exact ha, hw, ?_, by rw [List.length_set]; exact hzo⟩
  refine Ows.upd hos' (x' := .ref b) (by rw [Nat.zero_add]; exact hwb) ?_ e4
  rw [Nat.zero_add, Ow]
  exact ⟨b, ys', rfl, upd_same, hwb, hds', hz'⟩
end
section
variable {X : Cx} {e a b c : Expr} {st : Stmt} {rest : List Stmt} {Wx : WX} {pos : Pos} {f fa fb fc fi : Pu D} {ga gb gc : Mo D} {gx : Mo O} {ms mr : MS} {ya : Mo Bool}
/-! ### blocks -/
def nxS : MS := fun ρ => some (.nx ρ)
def seqS (f g : MS) : MS := fun ρ => match f ρ with
  | some (.nx ρ') => g ρ'
  | r => r
theorem s_nil : PSs X [] (tS X.K X.mg Wx nxS) := pss_nil.wk fun D σ H ⟨g, ρ, T, G, W, hR, k⟩ => k σ H G W hR (Same.refl G)
theorem s_one (h : PS X st (tS X.K X.mg Wx ms)) : PSs X [st] (tS X.K X.mg Wx ms) := pss_one h
theorem s_cons (h1 : PS X st (tS X.K X.mg Wx ms)) (h2 : PSs X rest (tS X.K X.mg Wx mr)) : PSs X (st :: rest) (tS X.K X.mg Wx (seqS ms mr)) := (pss_cons h1 h2).wk fun D σ H ⟨g, ρ, T, G, W, hR, k⟩ => by
  refine ⟨g, ρ, T, G, W, hR, ?_⟩
  unfold seqS at k
  cases h1 : ms ρ with
  | none => rw [h1] at k; exact k.elim
  | some r =>
    rw [h1] at k
    cases r with
    | nx ρ' => exact fun σ' H' G' W' R' eg => ⟨g, ρ', T, G', W', R', GS.mono eg k⟩
    | bk ρ' => exact k
    | ct ρ' => exact k
    | rt o ρ' => exact k
    | ex c fs ρ' => exact k
theorem s_pass : PS X (.Pass pos) (tS X.K X.mg Wx nxS) := ps_pass.wk fun D σ H ⟨g, ρ, T, G, W, hR, k⟩ => k σ H G W hR (Same.refl G)
def bkS : MS := fun ρ => some (.bk ρ)
def ctS : MS := fun ρ => some (.ct ρ)
theorem s_break : PS X (.Break pos) (tS X.K X.mg Wx bkS) := ps_break.wk fun D σ H ⟨g, ρ, T, G, W, hR, k⟩ => k σ H G W hR (Same.refl G)
theorem s_continue : PS X (.Continue pos) (tS X.K X.mg Wx ctS) := ps_continue.wk fun D σ H ⟨g, ρ, T, G, W, hR, k⟩ => k σ H G W hR (Same.refl G)
def dropS (f : Mo O) : MS := fun ρ => match f ρ with
  | some (.ok _ ρ') => some (.nx ρ')
  | some (.ex c fs ρ') => some (.ex c fs ρ')
  | none => none
theorem s_expr (h : PE X e (tX X.K X.mg Wx gx)) (hs : swapsWith e none pos.line X.env = pure false := by rfl) : PS X (.Expr e pos) (tS X.K X.mg Wx (dropS gx)) := (ps_expr h hs).wk fun D σ H ⟨g, ρ, T, G, W, hR, k⟩ => by
  refine ⟨g, ρ, T, G, W, hR, ?_⟩
  unfold dropS at k
  cases h1 : gx ρ with
  | none => rw [h1] at k; exact k.elim
  | some r =>
    rw [h1] at k
    cases r with
    | ex c fs ρ' => exact k
    | ok o ρ' => exact fun v H' G' W' R' eg => k σ H' G' W' R'.dropT eg
def retS (f : Mo O) : MS := fun ρ => match f ρ with
  | some (.ok o ρ') => some (.rt o ρ')
  | some (.ex c fs ρ') => some (.ex c fs ρ')
  | none => none
theorem s_ret (h : PE X e (tX X.K X.mg Wx gx)) : PS X (.Return (some e) pos) (tS X.K X.mg Wx (retS gx)) := (ps_ret h).wk fun D σ H ⟨g, ρ, T, G, W, hR, k⟩ => by
  refine ⟨g, ρ, T, G, W, hR, ?_⟩
  unfold retS at k
  cases h1 : gx ρ with
  | none => rw [h1] at k; exact k.elim
  | some r =>
    rw [h1] at k
    cases r with
    | ex c fs ρ' => exact k
    | ok o ρ' => exact fun v H' G' W' R' eg => k v σ H' G' W' R' eg
def retN : MS := fun ρ => some (.rt (.fr .non) ρ)
theorem s_retN : PS X (.Return none pos) (tS X.K X.mg Wx retN) := ps_retN.wk fun D σ H ⟨g, ρ, T, G, W, hR, k⟩ => k .non σ H G W (hR.addT (Rep.nn.mpr rfl)) (Same.refl G)
def ifS (q : Mo Bool) (f g : MS) : MS := fun ρ => match q ρ with
  | some (.ok true ρ') => f ρ'
  | some (.ok false ρ') => g ρ'
  | some (.ex c fs ρ') => some (.ex c fs ρ')
  | none => none
theorem s_if {c : Expr} {sa sb : List Stmt} {ma mb : MS} (hc : PT X c (tY X.K X.mg Wx ya)) (ha : PSs X sa (tS X.K X.mg Wx ma)) (hb : PSs X sb (tS X.K X.mg Wx mb)) : PS X (.If c sa sb pos) (tS X.K X.mg Wx (ifS ya ma mb)) := (ps_if hc ha hb).wk fun D σ H ⟨g, ρ, T, G, W, hR, k⟩ => by
  refine ⟨g, ρ, T, G, W, hR, ?_⟩
  unfold ifS at k
  cases h1 : ya ρ with
  | none => rw [h1] at k; exact k.elim
  | some r =>
    rw [h1] at k
    cases r with
    | ex c fs ρ' => exact k
    | ok b ρ' =>
      intro H1 G1 W1 R1 eg
      cases b with
      | true => exact iteT ⟨g, ρ', T, G1, W1, R1, GS.mono eg k⟩
      | false => exact iteF ⟨g, ρ', T, G1, W1, R1, GS.mono eg k⟩
/-! ### name = e -/
/-- a slot that may be stored -/
def stb (i : Nat) (ρ : Rho) : Bool := match ρ[i]? with
  | some (.no) => true
  | some (.ow _) => true
  | _ => false
theorem stb_lt {i : Nat} {ρ : Rho} (h : stb i ρ = true) : i < ρ.length := by
  unfold stb at h
  by_cases hi : i < ρ.length
  · exact hi
  · rw [List.getElem?_eq_none (by omega)] at h; cases h
def setS (i : Nat) (f : Mo O) : MS := fun ρ => match f ρ with
  | some (.ok o ρ') => if stb i ρ' = true then some (.nx (ρ'.set i (.ow o))) else none
  | some (.ex c fs ρ') => some (.ex c fs ρ')
  | none => none
theorem tSet {K : PySem.W.Frag} {mg : MG} {i : Nat} : ∀ D σ H, tS K mg Wx (setS i gx) D σ H → tAsg (tX K mg Wx gx) (gName i) D σ H := fun D σ H ⟨g, ρ, T, G, W, hR, k⟩ => by
  refine ⟨g, ρ, T, G, W, hR, ?_⟩
  unfold setS at k
  cases h1 : gx ρ with
  | none => rw [h1] at k; exact k.elim
  | some r =>
    rw [h1] at k
    cases r with
    | ex c fs ρ' => exact k
    | ok o ρ' =>
      intro v H' G' W' R' eg
      dsimp only at k
      by_cases hs : stb i ρ' = true
      · rw [if_pos hs] at k
        exact k _ H' G' _ (R'.setS (stb_lt hs)) eg
      · rw [if_neg hs] at k; exact k.elim
theorem s_set {i : Nat} {x : Str} {pos' : Pos} (hN : X.N.Nodup) (hi : X.N[i]? = some x) (hx : Loc X.env.scope x) (he : PE X e (tX X.K X.mg Wx gx)) (hs : swapsWith e (some (.Name x pos')) pos.line X.env = pure false := by rfl) (hf : X.fn x = true ∨ X.env.scope.names.lookup x = some .local := by first | exact .inl rfl | exact .inr rfl | assumption) :
    PS X (.Assign [.Name x pos'] e pos) (tS X.K X.mg Wx (setS i gx)) := (ps_set hN hi hx he hs hf).wk tSet
/-! ### targets -/
/-- two states that differ at these slots alone -/
def Offs (is : List Nat) (σ σ' : L2.St) : Prop := σ'.length = σ.length ∧ ∀ j, j ∉ is → σ'[j]? = σ[j]?
def tG (K : PySem.W.Frag) (is : List Nat) (f : D → Rho → Option Rho) : TG := fun v σ H Q => ∃ g ρ T G W d ρ', R K g ρ T σ H G W ∧ Rep K G d v ∧ f d ρ = some ρ' ∧ ∀ σ' H' G' W', R K g ρ' T σ' H' G' W' → Same G G' → Offs is σ σ' → Q σ' H'
def tGs (K : PySem.W.Frag) (is : List Nat) (f : List D → Rho → Option Rho) : TGs := fun vs σ H Q => ∃ g ρ T G W ds ρ', R K g ρ T σ H G W ∧ Reps K G ds vs ∧ f ds ρ = some ρ' ∧ ∀ σ' H' G' W', R K g ρ' T σ' H' G' W' → Same G G' → Offs is σ σ' → Q σ' H'
theorem _root_.L2.PG.wk {X : Cx} {e : Expr} {t t' : TG} (h : PG X e t) (w : ∀ v σ H Q, t' v σ H Q → t v σ H Q) : PG X e t' := ⟨fun pins s σ H v u Q I r q => h.run pins s σ H v u Q I r (w v σ H Q q)⟩
theorem _root_.L2.PGs.wk {X : Cx} {e : List Expr} {t t' : TGs} (h : PGs X e t) (w : ∀ v σ H Q, t' v σ H Q → t v σ H Q) : PGs X e t' := ⟨fun pins s σ H v u Q I r q => h.run pins s σ H v u Q I r (w v σ H Q q)⟩
def gN (i : Nat) : D → Rho → Option Rho := fun d ρ => if stb i ρ = true then some (ρ.set i (.ow (.fr d))) else none
theorem g_name {i : Nat} {x : Str} (hN : X.N.Nodup) (hi : X.N[i]? = some x) (hx : Loc X.env.scope x) (hf : X.fn x = true ∨ X.env.scope.names.lookup x = some .local := by first | exact .inl rfl | exact .inr rfl | assumption) : PG X (.Name x pos) (tG X.K [i] (gN i)) := (pg_name hN hi hx hf).wk fun v σ H Q ⟨g, ρ, T, G, W, d, ρ', hR, hr, hf, k⟩ => by
  unfold gN at hf
  split at hf
  · rename_i hs; cases hf
    exact k _ H G _ ((hR.addT hr).setS (stb_lt hs)) (Same.refl G) ⟨List.length_set .., fun j hj => List.getElem?_set_ne fun z => hj (by simp [z])⟩
  · cases hf
def gsN : List D → Rho → Option Rho := fun ds ρ => match ds with
  | [] => some ρ
  | _ => none
def gsC (f : D → Rho → Option Rho) (fs : List D → Rho → Option Rho) : List D → Rho → Option Rho := fun ds ρ => match ds with
  | d :: ds => (match f d ρ with
    | some ρ' => fs ds ρ'
    | none => none)
  | [] => none
theorem gs_nil : PGs X [] (tGs X.K [] gsN) := pgs_nil.wk fun v σ H Q ⟨g, ρ, T, G, W, ds, ρ', hR, hr, hf, k⟩ => by
  unfold gsN at hf
  split at hf
  · cases hf
    rw [Reps] at hr
    exact ⟨hr, k σ H G W hR (Same.refl G) ⟨rfl, fun _ _ => rfl⟩⟩
  · cases hf
theorem gs_cons {es : List Expr} {is js : List Nat} {f : D → Rho → Option Rho} {fs : List D → Rho → Option Rho} (h1 : PG X e (tG X.K is f)) (h2 : PGs X es (tGs X.K js fs))
    (hs : (assignEach (e :: es) X.env).map (·.2) = assign e X.env :: (assignEach es X.env).map (·.2) := by rfl) : PGs X (e :: es) (tGs X.K (is ++ js) (gsC f fs)) := (pgs_cons h1 h2 hs).wk fun v σ H Q ⟨g, ρ, T, G, W, ds, ρ', hR, hr, hf, k⟩ => by
  unfold gsC at hf
  split at hf
  · rename_i d ds
    split at hf
    · rename_i ρ1 e1
      rw [Reps] at hr
      obtain ⟨x, r, rfl, r1, r2⟩ := hr
      exact ⟨x, r, rfl, g, ρ, T, G, W, d, ρ1, hR, r1, e1, fun σ1 H1 G1 W1 R1 eg1 o1 => ⟨g, ρ1, T, G1, W1, ds, ρ', R1, r2.mono eg1, hf, fun σ2 H2 G2 W2 R2 eg2 o2 => k σ2 H2 G2 W2 R2 (eg1.trans eg2) ⟨o2.1.trans o1.1, fun j hj => (o2.2 j fun z => hj (List.mem_append_right _ z)).trans (o1.2 j fun z => hj (List.mem_append_left _ z))⟩⟩⟩
    · cases hf
  · cases hf
def gT (n : Nat) (fs : List D → Rho → Option Rho) : D → Rho → Option Rho := fun d ρ => match d with
  | .tup ds => if ds.length = n then fs ds ρ else none
  | _ => none
theorem g_tup {es : List Expr} {kk : Nat} {is : List Nat} {fs : List D → Rho → Option Rho} {n : Nat} (hc : X.calm = true) (h : PGs X es (tGs X.K is fs))
    (hn : (assignEach es X.env).length = n := by rfl) (hst : (assignEach es X.env).findIdx? (·.1) = none := by rfl) : PG X (.Tuple es kk pos) (tG X.K is (gT n fs)) := (pg_tup hc h hn hst).wk fun v σ H Q ⟨g, ρ, T, G, W, d, ρ', hR, hr, hf, k⟩ => by
  unfold gT at hf
  split at hf
  · rename_i ds
    split at hf
    · rename_i hl
      obtain ⟨a, xs, rfl, h1, h2⟩ := hr.tp
      exact ⟨a, xs, rfl, SqT_same hR.gh h1, by rw [← h2.len]; exact hl, g, ρ, T, G, W, ds, ρ', hR, h2, hf, k⟩
    · cases hf
  · cases hf
def asgS (f : Mo D) (t : D → Rho → Option Rho) : MS := fun ρ => match f ρ with
  | some (.ok d ρ') => (match t d ρ' with
    | some ρ2 => some (.nx ρ2)
    | none => none)
  | some (.ex c fs ρ') => some (.ex c fs ρ')
  | none => none
theorem s_asg {tg : Expr} {is : List Nat} {t : D → Rho → Option Rho} (he : PE X e (tV X.K X.mg Wx ga)) (hg : PG X tg (tG X.K is t)) (hs : swapsWithSole [tg] e pos.line X.env = pure false := by rfl) (hw : swappedStores [tg] e X.env = pure none := by rfl)
    (h1 : (assignEach [tg] X.env).map (·.2) = [assign tg X.env] := by rfl) : PS X (.Assign [tg] e pos) (tS X.K X.mg Wx (asgS ga t)) := (ps_asg he hg hs hw h1).wk fun D σ H ⟨g, ρ, T, G, W, hR, k⟩ => by
  refine ⟨g, ρ, T, G, W, hR, ?_⟩
  unfold asgS at k
  cases h1 : ga ρ with
  | none => rw [h1] at k; exact k.elim
  | some r =>
    rw [h1] at k
    cases r with
    | ex c fs ρ' => exact k
    | ok d ρ' =>
      intro v H' G' W' R' eg r'
      dsimp only at k
      cases h2 : t d ρ' with
      | none => rw [h2] at k; exact k.elim
      | some ρ2 =>
        rw [h2] at k
        exact ⟨g, ρ', T, G', W', d, ρ2, R', r', h2, fun σ2 H2 G2 W2 R2 eg2 _ => k σ2 H2 G2 W2 R2 (eg.trans eg2)⟩
/-- a, b = x, y -/
def par2 (i j : Nat) (f : Mo (List O)) : MS := fun ρ => match f ρ with
  | some (.ok [o1, o2] ρ') => if stb i ρ' = true ∧ stb j ρ' = true then some (.nx ((ρ'.set i (.ow o1)).set j (.ow o2))) else none
  | some (.ex c fs ρ') => some (.ex c fs ρ')
  | _ => none
theorem R.setS2 {K : PySem.W.Frag} {g : Gs} {ρ : Rho} {T : List (O × V)} {σ : L2.St} {H G : Hp} {W : Own} {o1 o2 : O} {v1 v2 : V} {i j : Nat} (h : R K g ρ (T ++ [(o1, v1), (o2, v2)]) σ H G W) (hi : i < ρ.length) (hj : j < ρ.length) (hij : i ≠ j) :
    ∃ W', R K g ((ρ.set i (.ow o1)).set j (.ow o2)) T ((σ.set i (some v1)).set j (some v2)) H G W' := by
  have h1 : R K g ρ ((T ++ [(o1, v1)]) ++ [(o2, v2)]) σ H G W := by simpa using h
  have h2 := h1.setS hj
  have h3 := h2.setS (by rw [List.length_set]; exact hi)
  rw [List.set_comm _ _ hij, List.set_comm _ _ hij]
  exact ⟨_, h3⟩
theorem s_par2 {i j : Nat} {x y : Str} {f : Mo (List O)} {px py pt : Pos} {kt k2 pt2} (hc : X.calm = true) (hN : X.N.Nodup) (hi : X.N[i]? = some x) (hj : X.N[j]? = some y) (hij : i ≠ j)
    (hx : X.env.scope.names.lookup x = some .local) (hy : X.env.scope.names.lookup y = some .local) (ha : PA X [a, b] (tA X.K X.mg Wx f))
    (hw : swappedStores [.Tuple [.Name x px, .Name y py] kt pt] (.Tuple [a, b] k2 pt2) X.env = pure (some [x, y]))
    (hs : swapsWithSole [.Tuple [.Name x px, .Name y py] kt pt] (.Tuple [a, b] k2 pt2) pos.line X.env = pure false := by rfl) :
    PS X (.Assign [.Tuple [.Name x px, .Name y py] kt pt] (.Tuple [a, b] k2 pt2) pos) (tS X.K X.mg Wx (par2 i j f)) := (ps_par hc hN hi hj hij hx hy ha hw hs).wk fun D σ H ⟨g, ρ, T, G, W, hR, k⟩ => by
  refine ⟨g, ρ, T, G, W, hR, ?_⟩
  unfold par2 at k
  split at k
  · rename_i o1 o2 ρ' h1
    rw [h1]
    intro vs H' G' W' hl R' eg
    obtain ⟨v1, v2, rfl⟩ : ∃ v1 v2, vs = [v1, v2] := by
      match vs, hl with
      | [v1, v2], _ => exact ⟨v1, v2, rfl⟩
    split at k
    · rename_i hs
      obtain ⟨W2, R2⟩ := R'.setS2 (stb_lt hs.1) (stb_lt hs.2) hij
      exact ⟨v1, v2, rfl, k _ H' G' W2 R2 eg⟩
    · exact k.elim
  · rename_i h1; rw [h1]; exact k
  · exact k.elim
/-! ### while -/
def whS : Nat → Mo Bool → MS → MS
  | 0, _, _ => fun _ => none
  | n + 1, c, b => fun ρ => match c ρ with
    | some (.ok false ρ1) => some (.nx ρ1)
    | some (.ok true ρ1) => (match b ρ1 with
      | some (.nx ρ2) => whS n c b ρ2
      | some (.ct ρ2) => whS n c b ρ2
      | some (.bk ρ2) => some (.nx ρ2)
      | r => r)
    | some (.ex cl fs ρ1) => some (.ex cl fs ρ1)
    | none => none
/-- a while with a bound for its turns, by the state ahead -/
def whF (N : Rho → Nat) (c : Mo Bool) (b : MS) : MS := fun ρ => whS (N ρ) c b ρ
theorem s_while {c : Expr} {body : List Stmt} {mb : MS} (N : Rho → Nat) (hp : PassesOwn (model X.prog X.w) X.A X.env X.xe) (hc : PT X c (tY X.K X.mg Wx ya)) (hb : PSs X body (tS X.K X.mg Wx mb)) : PS X (.While c body [] pos) (tS X.K X.mg Wx (whF N ya mb)) := (ps_while hp hc hb).wk fun D σ H ⟨g, ρ, T, G, W, hR, k⟩ => by
  refine ⟨fun m σ' H' => ∃ ρ' G' W', R X.K g ρ' T σ' H' G' W' ∧ Same G G' ∧ GS X.K X.mg Wx D g T G' (whS m ya mb ρ'), ⟨N ρ, ρ, G, W, hR, Same.refl G, k⟩, fun m σ1 H1 ⟨ρ1, G1, W1, R1, eg1, k1⟩ => ?_⟩
  refine ⟨g, ρ1, T, G1, W1, R1, ?_⟩
  cases m with
  | zero => exact k1.elim
  | succ m =>
    unfold whS at k1
    cases h1 : ya ρ1 with
    | none => rw [h1] at k1; exact k1.elim
    | some r =>
      rw [h1] at k1
      cases r with
      | ex c fs ρ' => exact k1
      | ok bb ρ2 =>
        intro H2 G2 W2 R2 eg2
        cases bb with
        | false => exact iteF (k1 σ1 H2 G2 W2 R2 eg2)
        | true =>
          refine iteT ⟨fun σ' H' => ∃ ρ' G' W', R X.K g ρ' T σ' H' G' W' ∧ Same G G' ∧ GS X.K X.mg Wx D g T G' (whS m ya mb ρ'), fun σ' H' hn => ⟨m, Nat.lt_succ_self m, hn⟩, g, ρ2, T, G2, W2, R2, ?_⟩
          dsimp only at k1
          have eg := eg1.trans eg2
          cases h2 : mb ρ2 with
          | none => rw [h2] at k1; exact k1.elim
          | some r =>
            rw [h2] at k1
            cases r with
            | nx ρ3 => exact fun σ3 H3 G3 W3 R3 eg3 => ⟨ρ3, G3, W3, R3, eg.trans eg3, GS.mono (eg2.trans eg3) k1⟩
            | ct ρ3 => exact fun σ3 H3 G3 W3 R3 eg3 => ⟨ρ3, G3, W3, R3, eg.trans eg3, GS.mono (eg2.trans eg3) k1⟩
            | bk ρ3 => exact fun σ3 H3 G3 W3 R3 eg3 => k1 σ3 H3 G3 W3 R3 (eg2.trans eg3)
            | rt o ρ3 => exact fun v σ3 H3 G3 W3 R3 eg3 => k1 v σ3 H3 G3 W3 R3 (eg2.trans eg3)
            | ex c fs ρ3 => exact WE'.mono eg2 k1
/-! ### for -/
/-- an iterator that yields these frozen things -/
structure Wk (K : PySem.W.Frag) (J : It) (G : Hp) (ds : List D) : Prop where
  len : ds.length ≤ sizeLine
  go : ∀ i H, Same G H → i < ds.length → J.go i H
  stop : ∀ i H, Same G H → ds.length ≤ i → J.stop i H
  yld : ∀ i H x H' d, Same G H → ds[i]? = some d → J.yld i H x H' → ∀ G0, Same G G0 → Same G0 H → ∃ G0', Grow H G0 H' G0' ∧ Rep K G0' d x
def tI (K : PySem.W.Frag) (mg : MG) (Wx : WX) (f : Mo (List D)) : TI := fun σ H Q => ∃ g ρ T G W, R K g ρ T σ H G W ∧ GE K mg Wx g T G (fun ds ρ' => ∀ J H' G' W', R K g ρ' T σ H' G' W' → Same G G' → Wk K J G' ds → Q J H') (f ρ)
theorem _root_.L2.PI.wk {X : Cx} {tg e : Expr} {t t' : TI} (h : PI X tg e t) (w : ∀ σ H Q, t' σ H Q → t σ H Q) : PI X tg e t' := ⟨fun pins s σ H Q I q => h.run pins s σ H Q I (w σ H Q q)⟩
def forL (t : D → Rho → Option Rho) (b : MS) : List D → MS
  | [] => fun ρ => some (.nx ρ)
  | d :: ds => fun ρ => match t d ρ with
    | none => none
    | some ρ1 => (match b ρ1 with
      | some (.nx ρ2) => forL t b ds ρ2
      | some (.ct ρ2) => forL t b ds ρ2
      | some (.bk ρ2) => some (.nx ρ2)
      | r => r)
def forS (f : Mo (List D)) (t : D → Rho → Option Rho) (b : MS) : MS := fun ρ => match f ρ with
  | some (.ok ds ρ') => forL t b ds ρ'
  | some (.ex c fs ρ') => some (.ex c fs ρ')
  | none => none
theorem s_for {tg iter : Expr} {body : List Stmt} {mi : Mo (List D)} {is : List Nat} {t : D → Rho → Option Rho} {mb : MS} (hp : PassesOwn (model X.prog X.w) X.A X.env X.xe) (hc : X.calm = true) (hi : PI X tg iter (tI X.K X.mg Wx mi)) (hg : PG X tg (tG X.K is t)) (hb : PSs X body (tS X.K X.mg Wx mb))
    (hs : ∀ x, foldedSetIterable iter X.env x = pure x := by intro _; rfl) : PS X (.For tg iter body [] pos) (tS X.K X.mg Wx (forS mi t mb)) := (ps_for hp hc hi hg hb hs).wk fun D σ H ⟨g, ρ, T, G, W, hR, k⟩ => by
  refine ⟨g, ρ, T, G, W, hR, ?_⟩
  unfold forS at k
  cases h1 : mi ρ with
  | none => rw [h1] at k; exact k.elim
  | some r =>
    rw [h1] at k
    cases r with
    | ex c fs ρ' => exact k
    | ok ds ρ' =>
      intro J H1 G1 W1 R1 eg1 wk
      refine ⟨fun i m σ' H' => m = ds.length - i ∧ i ≤ ds.length ∧ ∃ ρ2 G2 W2, R X.K g ρ2 T σ' H' G2 W2 ∧ Same G1 G2 ∧ GS X.K X.mg Wx D g T G2 (forL t mb (ds.drop i) ρ2), ⟨ds.length, by simp, Nat.zero_le _, ρ', G1, W1, R1, Same.refl _, by rw [List.drop_zero]; exact GS.mono eg1 k⟩, fun i m σ2 H2 hW => ?_⟩
      obtain ⟨rfl, hi, ρ2, G2, W2, R2, eg2, k2⟩ := hW
      have hH : Same G1 H2 := eg2.trans R2.gh
      by_cases hlt : i < ds.length
      · refine .inr ⟨wk.go i H2 hH hlt, fun σ' H' => ∃ ρ3 G3 W3, R X.K g ρ3 T σ' H' G3 W3 ∧ Same G1 G3 ∧ GS X.K X.mg Wx D g T G3 (forL t mb (ds.drop (i + 1)) ρ3), fun σ' H' hn => ⟨ds.length - (i + 1), by omega, rfl, by omega, hn⟩, fun x H' hy => ?_⟩
        have hd : ds[i]? = some ds[i] := List.getElem?_eq_getElem hlt
        rw [List.drop_eq_getElem_cons hlt] at k2
        unfold forL at k2
        obtain ⟨G3, gr, rx⟩ := wk.yld i H2 x H' _ hH hd hy G2 eg2 R2.gh
        obtain ⟨R3, _, eg3⟩ := R2.grow gr
        cases h3 : t ds[i] ρ2 with
        | none => rw [h3] at k2; exact k2.elim
        | some ρ3 =>
          rw [h3] at k2
          refine ⟨g, ρ2, T, G3, W2, ds[i], ρ3, R3, rx, h3, fun σ4 H4 G4 W4 R4 eg4 _ => ⟨g, ρ3, T, G4, W4, R4, ?_⟩⟩
          dsimp only at k2
          have e24 := eg3.trans eg4
          cases h4 : mb ρ3 with
          | none => rw [h4] at k2; exact k2.elim
          | some r =>
            rw [h4] at k2
            cases r with
            | nx ρ5 => exact fun σ5 H5 G5 W5 R5 eg5 => ⟨ρ5, G5, W5, R5, eg2.trans (e24.trans eg5), GS.mono (e24.trans eg5) k2⟩
            | ct ρ5 => exact fun σ5 H5 G5 W5 R5 eg5 => ⟨ρ5, G5, W5, R5, eg2.trans (e24.trans eg5), GS.mono (e24.trans eg5) k2⟩
            | bk ρ5 => exact fun σ5 H5 G5 W5 R5 eg5 => k2 σ5 H5 G5 W5 R5 (e24.trans eg5)
            | rt o ρ5 => exact fun v σ5 H5 G5 W5 R5 eg5 => k2 v σ5 H5 G5 W5 R5 (e24.trans eg5)
            | ex c fs ρ5 => exact WE'.mono e24 k2
      · refine .inl ⟨wk.stop i H2 hH (by omega), ?_⟩
        rw [List.drop_eq_nil_of_le (by omega)] at k2
        exact k2 σ2 H2 G2 W2 R2 (Same.refl _)
/-! ### what is walked -/
theorem wk_tup {K : PySem.W.Frag} {G : Hp} {a : Addr} {ds : List D} {xs : List V} (h : SqT K G a xs) (r : Reps K G ds xs) (hz : ds.length ≤ sizeLine) : Wk K (Itt K a) G ds where
  len := hz
  go := fun i H e hi => by
    obtain ⟨x, hx, _⟩ := r.get (List.getElem?_eq_getElem hi)
    exact ⟨xs, x, SqT_same e h, hx⟩
  stop := fun i H e hi => ⟨xs, SqT_same e h, by rw [← r.len]; exact hi⟩
  yld := fun i H x H' d e hd hy G0 eg eh => by
    obtain ⟨rfl, hy⟩ := hy
    obtain ⟨y, hy2, ry⟩ := r.get hd
    have := hy xs (SqT_same e h)
    rw [hy2] at this; cases this
    exact ⟨G0, .st, ry.mono eg⟩
theorem wk_range {K : PySem.W.Frag} {G : Hp} {lo : Int} {n : Nat} (hz : n ≤ sizeLine) : Wk K (Itr lo n) G ((List.range n).map fun i => .int (lo + (i : Nat))) where
  len := by simpa using hz
  go := fun i H e hi => by
    have : i < n := by simpa using hi
    exact this
  stop := fun i H e hi => by
    have : n ≤ i := by simpa using hi
    exact this
  yld := fun i H x H' d e hd hy G0 eg eh => by
    obtain ⟨rfl, rfl⟩ := hy
    rw [List.getElem?_map] at hd
    by_cases hi : i < n
    · rw [List.getElem?_range hi] at hd
      cases hd
      exact ⟨G0, .st, Rep.i.mpr rfl⟩
    · rw [List.getElem?_eq_none (by simpa using hi)] at hd; cases hd
/-- a list or a tuple walked, its kind known -/
def itL (f : Mo D) : Mo (List D) := fun ρ => match f ρ with
  | some (.ok d ρ') => (match d.lsq with
    | some ds => some (.ok ds ρ')
    | none => none)
  | some (.ex c fs ρ') => some (.ex c fs ρ')
  | none => none
def itT (f : Mo D) : Mo (List D) := fun ρ => match f ρ with
  | some (.ok (.tup ds) ρ') => some (.ok ds ρ')
  | some (.ex c fs ρ') => some (.ex c fs ρ')
  | _ => none
theorem i_list {tg : Expr} (h : PE X e (tV X.K X.mg Wx ga)) : PI X tg e (tI X.K X.mg Wx (itL ga)) := (pi_list h).wk fun σ H Q ⟨g, ρ, T, G, W, hR, k⟩ => by
  refine ⟨g, ρ, T, G, W, hR, ?_⟩
  unfold itL at k
  cases h1 : ga ρ with
  | none => rw [h1] at k; exact k.elim
  | some r =>
    rw [h1] at k
    cases r with
    | ex c fs ρ' => exact k
    | ok d ρ' =>
      intro v H' G' W' R' eg r
      dsimp only at k
      cases h2 : d.lsq with
      | none => rw [h2] at k; exact k.elim
      | some ds =>
        rw [h2] at k
        obtain ⟨a, xs, rfl, hs, hr⟩ := r.lsq h2
        refine ⟨a, rfl, ⟨xs, R'.gh.seq hs⟩, k _ H' G' W' R' eg ?_⟩
        exact {
          len := r.sql (D.sq_of_lsq h2)
          go := fun i H e hi => by
            obtain ⟨x, hx, _⟩ := hr.get (List.getElem?_eq_getElem hi)
            exact ⟨xs, x, e.seq hs, hx⟩
          stop := fun i H e hi => ⟨xs, e.seq hs, by rw [← hr.len]; exact hi⟩
          yld := fun i H x H' d e hd hy G0 eg eh => by
            obtain ⟨rfl, hy⟩ := hy
            obtain ⟨y, hy2, ry⟩ := hr.get hd
            have := hy xs (e.seq hs)
            rw [hy2] at this; cases this
            exact ⟨G0, .st, ry.mono eg⟩ }
theorem i_tup {tg : Expr} (h : PE X e (tV X.K X.mg Wx ga)) : PI X tg e (tI X.K X.mg Wx (itT ga)) := (pi_tup h).wk fun σ H Q ⟨g, ρ, T, G, W, hR, k⟩ => by
  refine ⟨g, ρ, T, G, W, hR, ?_⟩
  unfold itT at k
  cases h1 : ga ρ with
  | none => rw [h1] at k; exact k.elim
  | some r =>
    rw [h1] at k
    cases r with
    | ex c fs ρ' => exact k
    | ok d ρ' =>
      intro v H' G' W' R' eg r
      cases d with
      | tup ds =>
        obtain ⟨a, xs, rfl, hs, hr⟩ := r.tp
        exact ⟨a, rfl, ⟨xs, SqT_same R'.gh hs⟩, k _ H' G' W' R' eg (wk_tup hs hr (r.sql rfl))⟩
      | _ => exact k.elim
def rngD (lo : Int) (n : Nat) : List D := (List.range n).map fun i => .int (lo + (i : Nat))
def itR1 (f : Mo D) : Mo (List D) := fun ρ => match f ρ with
  | some (.ok (.int j) ρ') => if -(2 ^ 62) ≤ j ∧ j ≤ 16777216 then some (.ok (rngD 0 j.toNat) ρ') else none
  | some (.ex c fs ρ') => some (.ex c fs ρ')
  | _ => none
theorem i_range1 {tg : Expr} {p : Pos} (hg : Gl X "range") (hm : X.mg "range" = none) (ha : PE X a (tV X.K X.mg Wx ga)) (hs : starEach [a] X.env = [(false, eval a X.env)] := by rfl) : PI X tg (.Call (.Name "range" p) [a] [] pos) (tI X.K X.mg Wx (itR1 ga)) := (pi_range1 hg hm (pa_cons ha pa_nil (by rw [hs]; rfl)) hs).wk fun σ H Q ⟨g, ρ, T, G, W, hR, k⟩ => by
  refine ⟨g, ρ, T, G, W, hR, ?_⟩
  unfold itR1 at k
  cases h1 : ga ρ with
  | none => rw [h1] at k; exact k.elim
  | some r =>
    rw [h1] at k
    cases r with
    | ex c fs ρ' => exact k
    | ok d ρ' =>
      intro v H' G' W' R' eg r
      cases d with
      | int j =>
        dsimp only at k
        by_cases hb : -(2 ^ 62) ≤ j ∧ j ≤ 16777216
        · rw [if_pos hb] at k
          exact ⟨j, by rw [Rep.i.mp r], hb.1, by omega, k _ H' G' W' R' eg (wk_range (by rw [sizeLine_eq]; omega))⟩
        · rw [if_neg hb] at k; exact k.elim
      | _ => exact k.elim
def itR2 (f : Mo (List D)) : Mo (List D) := fun ρ => match f ρ with
  | some (.ok [.int i, .int j] ρ') => if 0 ≤ i ∧ i < 2 ^ 62 ∧ -(2 ^ 62) ≤ j ∧ j ≤ 16777216 then some (.ok (rngD i (j - i).toNat) ρ') else none
  | some (.ex c fs ρ') => some (.ex c fs ρ')
  | _ => none
theorem i_range2 {tg : Expr} {p : Pos} {f : Mo (List D)} (hg : Gl X "range") (hm : X.mg "range" = none) (ha : PA X [a, b] (tLV X.K X.mg Wx f)) (hs : starEach [a, b] X.env = [(false, eval a X.env), (false, eval b X.env)] := by rfl) (hs2 : starEach [b] X.env = [(false, eval b X.env)] := by rfl) :
    PI X tg (.Call (.Name "range" p) [a, b] [] pos) (tI X.K X.mg Wx (itR2 f)) := (pi_range2 hg hm ha hs hs2).wk fun σ H Q ⟨g, ρ, T, G, W, hR, k⟩ => by
  refine ⟨g, ρ, T, G, W, hR, ?_⟩
  unfold itR2 at k
  split at k
  · rename_i i j ρ' h1
    rw [h1]
    intro vs H' G' W' R' eg r
    split at k
    · rename_i hb
      refine ⟨i, j, ?_, ⟨by omega, by omega, by omega, by omega⟩, k _ H' G' W' R' eg (wk_range (by rw [sizeLine_eq]; omega))⟩
      rw [Reps] at r
      obtain ⟨x, r1, rfl, rx, r⟩ := r
      rw [Reps] at r
      obtain ⟨y, r2, rfl, ry, r⟩ := r
      rw [Reps] at r
      rw [r, Rep.i.mp rx, Rep.i.mp ry]
    · exact k.elim
  · rename_i h1; rw [h1]; exact k
  · exact k.elim
end
end Tr
namespace Tr
open PySem PySem.Spec PyProof.Rows L2
/-! ### slices -/
def cutA {α : Type} (xs : List α) (lo hi : Option Int) : List α := (xs.drop (HT.sIx xs.length 0 lo)).take (HT.sIx xs.length xs.length hi - HT.sIx xs.length 0 lo)
theorem cutA_le {α : Type} (xs : List α) (lo hi : Option Int) : (cutA xs lo hi).length ≤ xs.length := by
  unfold cutA
  rw [List.length_take, List.length_drop]
  omega
theorem Reps.cut {K : PySem.W.Frag} {G : Hp} {ds : List D} {xs : List V} (lo hi : Option Int) (h : Reps K G ds xs) : Reps K G (cutA ds lo hi) (cutV xs lo hi) := by
  unfold cutA cutV
  rw [h.len]
  exact (h.drop _).take _
def tPO (K : PySem.W.Frag) (f : Pu (Option Int)) : TO := fun σ H Q => ∃ g ρ T G W d, R K g ρ T σ H G W ∧ f ρ = some d ∧ ∀ H' G', R K g ρ T σ H' G' W → Same G G' → Same H H' → Q d H'
theorem _root_.L2.PO.wk {X : Cx} {e : Option Expr} {t t' : TO} (h : PO X e t) (w : ∀ σ H Q, t' σ H Q → t σ H Q) : PO X e t' := ⟨fun pins s σ H Q I q => h.run pins s σ H Q I (w σ H Q q)⟩
section
variable {X : Cx} {e a b c : Expr} {es : List Expr} {lo hi : Option Expr} {Wx : WX} {pos p2 : Pos} {f fa fb fc : Pu D} {ga gb gc : Mo D} {fl fh : Pu (Option Int)}
def poN : Pu (Option Int) := fun _ => some none
def poS (f : Pu D) : Pu (Option Int) := fun ρ => match f ρ with
  | some (.int i) => some (some i)
  | _ => none
theorem o_none : PO X none (tPO X.K poN) := po_none.wk fun σ H Q ⟨g, ρ, T, G, W, d, hR, hf, k⟩ => by
  cases hf
  exact k H G hR (Same.refl _) (Same.refl _)
theorem o_some (h : PE X e (tP X.K f)) : PO X (some e) (tPO X.K (poS f)) := (po_some h).wk fun σ H Q ⟨g, ρ, T, G, W, d, hR, hf, k⟩ => by
  unfold poS at hf
  split at hf
  · rename_i i e1; cases hf
    exact ⟨g, ρ, T, G, W, _, hR, e1, fun v H' G' R' eg eh r => ⟨i, Rep.i.mp r, k H' G' R' eg eh⟩⟩
  · cases hf
/-- x[lo:hi] -/
def slD (d : D) (lo hi : Option Int) : Option D := match d with
  | .tup ds => some (.tup (cutA ds lo hi))
  | .lst ds => some (.lst (cutA ds lo hi))
  | .scr ns => some (.lst (cutA (ns.map .int) lo hi))
  | _ => none
def slP (f : Pu D) (fl fh : Pu (Option Int)) : Pu D := fun ρ => match f ρ, fl ρ, fh ρ with
  | some d, some l, some h => slD d l h
  | _, _, _ => none
abbrev rSlB (K : PySem.W.Frag) : V → Option Int → Option Int → Hp → VK → Prop := fun x lo hi H Q => rSlT2 K x lo hi H Q ∨ rSlL K x lo hi H Q
theorem sl_both : SlR X (rSlB X.K) := sl_tupB.or sl_list
theorem cut_all {α : Type} {xs : List α} {lo hi : Option Int} (h1 : HT.sIx xs.length 0 lo = 0) (h2 : HT.sIx xs.length xs.length hi = xs.length) : cutA xs lo hi = xs := by
  unfold cutA
  rw [h1, h2]
  simp
theorem slD_ok {K : PySem.W.Frag} {d z : D} {v : V} {lo hi : Option Int} {H G : Hp} {Q : VK} (hz : slD d lo hi = some z) (e : Same G H) (r : CRep K G H d v) (k : ∀ v H' G', Grow H G H' G' → Rep K G' z v → Q v H') : rSlB K v lo hi H Q := by
  have hl : ∀ {ds : List D}, d.lsq = some ds → z = .lst (cutA ds lo hi) → rSlB K v lo hi H Q := fun {ds} hd ez => by
    obtain ⟨a, xs, rfl, hs, hr⟩ := r.lsq e hd
    have hn := r.sql (D.sq_of_lsq hd)
    subst ez
    exact .inr ⟨a, xs, rfl, hs, fun p hp => k _ _ _ (.nw p _ hp) (Rep.newL (hr.cut lo hi) (e.free hp) (Nat.le_trans (cutA_le _ _ _) hn))⟩
  cases d with
  | lst ds => cases hz; exact hl rfl rfl
  | scr ns => cases hz; exact hl rfl rfl
  | tup ds =>
    cases hz
    rcases r with r | ⟨ds', a, xs, e0, _⟩ | ⟨ds', a, xs, e0, _⟩
    · have hn := r.sql (ds := ds) rfl
      have r0 := r
      obtain ⟨a, xs, rfl, hs, hr⟩ := r.tp
      have hlen := hr.len
      refine .inl ⟨a, xs, rfl, SqT_same e hs, fun ⟨h1, h2⟩ => ?_, fun _ p o hp ho => k _ _ _ (.nw p _ hp) (Rep.newT ho (hr.cut lo hi) (e.free hp) (Nat.le_trans (cutA_le _ _ _) hn))⟩
      rw [← hlen] at h1 h2
      rw [cut_all h1 h2] at k
      exact k _ H G .st r0
    · cases e0
    · cases e0
  | _ => cases hz
theorem p_slice (he : PE X e (tC X.K f)) (hl : PO X lo (tPO X.K fl)) (hu : PO X hi (tPO X.K fh)) : PE X (.Subscript e (.Slice lo hi none p2) pos) (tP X.K (slP f fl fh)) := (pe_slice sl_both he hl hu).wk fun σ H Q ⟨g, ρ, T, G, W, d, hR, hf, k⟩ => by
  unfold slP at hf
  split at hf
  · rename_i d0 l h e1 e2 e3
    refine ⟨g, ρ, T, G, W, d0, hR, e1, fun v H1 G1 R1 eg1 eh1 r1 => ⟨g, ρ, T, G1, W, l, R1, e2, fun H2 G2 R2 eg2 eh2 => ⟨g, ρ, T, G2, W, h, R2, e3, fun H3 G3 R3 eg3 eh3 => ?_⟩⟩⟩
    refine slD_ok hf R3.gh (r1.mono (eg2.trans eg3) (eh2.trans eh3)) fun v' H' G' w rv => ?_
    obtain ⟨R4, x, y⟩ := R3.grow w
    exact k v' H' G' R4 ((eg1.trans (eg2.trans eg3)).trans y) ((eh1.trans (eh2.trans eh3)).trans x) rv
  · cases hf
/-- .. a list's, owned -/
def slX (f : Pu D) (fl fh : Pu (Option Int)) : Mo O := fun ρ => match f ρ, fl ρ, fh ρ with
  | some d, some l, some h => (match d.lsq with
    | some ds => some (.ok (.fl (cutA ds l h)) ρ)
    | none => none)
  | _, _, _ => none
theorem x_slice (he : PE X e (tC X.K f)) (hl : PO X lo (tPO X.K fl)) (hu : PO X hi (tPO X.K fh)) : PE X (.Subscript e (.Slice lo hi none p2) pos) (tX X.K X.mg Wx (slX f fl fh)) := (pe_slice sl_list he hl hu).wk fun σ H Q ⟨g, ρ, T, G, W, hR, k⟩ => by
  unfold slX at k
  split at k
  · rename_i d0 l h e1 e2 e3
    refine ⟨g, ρ, T, G, W, d0, hR, e1, fun v H1 G1 R1 eg1 eh1 r1 => ⟨g, ρ, T, G1, W, l, R1, e2, fun H2 G2 R2 eg2 eh2 => ⟨g, ρ, T, G2, W, h, R2, e3, fun H3 G3 R3 eg3 eh3 => ?_⟩⟩⟩
    have r3 := r1.mono (eg2.trans eg3) (eh2.trans eh3)
    cases hd : d0.lsq with
    | none => rw [hd] at k; exact k.elim
    | some ds =>
      rw [hd] at k
      obtain ⟨a, xs, rfl, hs, hr⟩ := r3.lsq R3.gh hd
      have hn := r3.sql (D.sq_of_lsq hd)
      exact ⟨a, xs, rfl, hs, fun p hp => k _ _ _ _ (R3.newF hp (hr.cut l h) (Nat.le_trans (cutA_le _ _ _) hn)) (eg1.trans (eg2.trans eg3))⟩
  · exact k.elim
/-- xs[::-1], owned -/
def revX (f : Pu D) : Mo O := fun ρ => match f ρ with
  | some d => (match d.lsq with
    | some ds => some (.ok (.fl ds.reverse) ρ)
    | none => none)
  | none => none
theorem tRev_p {K : PySem.W.Frag} {mg : MG} : ∀ σ H Q, tX K mg Wx (revX f) σ H Q → tRevL K (tC K f) σ H Q := fun σ H Q ⟨g, ρ, T, G, W, hR, k⟩ => by
  unfold revX at k
  split at k
  · rename_i d0 e1
    refine ⟨g, ρ, T, G, W, d0, hR, e1, fun v H1 G1 R1 eg1 eh1 r1 => ?_⟩
    cases hd : d0.lsq with
    | none => rw [hd] at k; exact k.elim
    | some ds =>
      rw [hd] at k
      obtain ⟨a, xs, rfl, hs, hr⟩ := r1.lsq R1.gh hd
      have hn := r1.sql (D.sq_of_lsq hd)
      exact ⟨a, xs, rfl, hs, fun p hp => k _ _ _ _ (R1.newF hp hr.rev (by rw [List.length_reverse]; exact hn)) eg1⟩
  · exact k.elim
theorem x_rev {k : Nat} {p1 p2 p3 : Pos} (he : PE X e (tC X.K f)) : PE X (.Subscript e (.Slice none none (some (.UnaryOp .USub (.Constant (.int 1) k p1) p2)) p3) pos) (tX X.K X.mg Wx (revX f)) := (pe_revL he).wk tRev_p
def revXv (f : Mo D) : Mo O := fun ρ => match f ρ with
  | some (.ok d ρ') => (match d.lsq with
    | some ds => some (.ok (.fl ds.reverse) ρ')
    | none => none)
  | some (.ex c fs ρ') => some (.ex c fs ρ')
  | none => none
theorem x_revv {k : Nat} {p1 p2 p3 : Pos} (he : PE X e (tV X.K X.mg Wx ga)) : PE X (.Subscript e (.Slice none none (some (.UnaryOp .USub (.Constant (.int 1) k p1) p2)) p3) pos) (tX X.K X.mg Wx (revXv ga)) := (pe_revL he).wk fun σ H Q ⟨g, ρ, T, G, W, hR, k⟩ => by
  refine ⟨g, ρ, T, G, W, hR, ?_⟩
  unfold revXv at k
  cases h1 : ga ρ with
  | none => rw [h1] at k; exact k.elim
  | some r =>
    rw [h1] at k
    cases r with
    | ex c fs ρ' => exact k
    | ok d ρ' =>
      intro v H1 G1 W1 R1 eg1 r1
      dsimp only at k
      cases hd : d.lsq with
      | none => rw [hd] at k; exact k.elim
      | some ds =>
        rw [hd] at k
        obtain ⟨a, xs, rfl, hs, hr⟩ := r1.lsq hd
        have hn := r1.sql (D.sq_of_lsq hd)
        exact ⟨a, xs, rfl, R1.gh.seq hs, fun p hp => k _ _ _ _ (R1.newF hp hr.rev (by rw [List.length_reverse]; exact hn)) eg1⟩
/-! ### built-ins -/
def lenD : D → Option D
  | .str z => if z.length ≤ sizeLine then some (.int z.length) else none
  | d => d.sq.map fun ds => .int ds.length
abbrev rLenA (K : PySem.W.Frag) : List V → Hp → VK → Prop := fun xs H Q => (fun xs H Q => ∃ z, xs = [V.str z] ∧ z.length ≤ sizeLine ∧ Q (.int z.length) H) xs H Q ∨ (fun xs H Q => ∃ p ys, xs = [V.ref p] ∧ (SqL K H p ys ∨ SqT K H p ys) ∧ Q (.int ys.length) H) xs H Q
theorem c_len : CallR X (.builtin "len") (rLenA X.K) := call_len_str.or call_len_seq
theorem lenD_ok {K : PySem.W.Frag} : C1 K (rLenA K) lenD := fun d z x H G Q hz e r k => by
  have hs : ∀ {ds : List D}, d.sq = some ds → z = .int ds.length → rLenA K [x] H Q := fun {ds} hd ez => by
    obtain ⟨a, xs, rfl, h1, h2⟩ := r.sq e hd
    subst ez
    exact .inr ⟨a, xs, rfl, h1, by rw [← h2.len]; exact k _ H G .st (Rep.i.mpr rfl)⟩
  cases d with
  | str z' =>
    replace hz : (if z'.length ≤ sizeLine then some (D.int z'.length) else none) = some z := hz
    split at hz
    · rename_i hl; cases hz
      rcases r with r | ⟨ds', a, xs, e0, _⟩ | ⟨ds', a, xs, e0, _⟩
      · exact .inl ⟨z', by rw [Rep.st.mp r], hl, k _ H G .st (Rep.i.mpr rfl)⟩
      · cases e0
      · cases e0
    · cases hz
  | tup ds => cases hz; exact hs rfl rfl
  | lst ds => cases hz; exact hs rfl rfl
  | scr ds => cases hz; exact hs rfl rfl
  | _ => cases hz
theorem CRep.int {K : PySem.W.Frag} {G H : Hp} {i : Int} {v : V} (h : CRep K G H (.int i) v) : v = .int i := by
  rcases h with r | ⟨ds', a, xs, e0, _⟩ | ⟨ds', a, xs, e0, _⟩
  · exact Rep.i.mp r
  · cases e0
  · cases e0
theorem CRep.bool {K : PySem.W.Frag} {G H : Hp} {i : Bool} {v : V} (h : CRep K G H (.bl i) v) : v = .bl i := by
  rcases h with r | ⟨ds', a, xs, e0, _⟩ | ⟨ds', a, xs, e0, _⟩
  · exact Rep.b.mp r
  · cases e0
  · cases e0
def absD : D → Option D
  | .int i => some (.int i.natAbs)
  | _ => none
theorem absD_ok {K : PySem.W.Frag} : C1 K (fun xs H Q => ∃ i, xs = [.int i] ∧ Q (.int (if i < 0 then -i else i)) H) absD := fun d z x H G Q hz e r k => by
  cases d with
  | int i =>
    cases hz
    refine ⟨i, by rw [r.int], ?_⟩
    have : (if i < 0 then -i else i) = ((i.natAbs : Nat) : Int) := by split <;> omega
    rw [this]
    exact k _ H G .st (Rep.i.mpr rfl)
  | _ => cases hz
def intD : D → Option D
  | .int i => some (.int i)
  | .bl b => some (.int (if b then 1 else 0))
  | _ => none
theorem intD_ok {K : PySem.W.Frag} : C1 K (fun xs H Q => (∃ i, xs = [.int i] ∧ Q (.int i) H) ∨ ∃ k, xs = [.bl k] ∧ Q (.int (if k then 1 else 0)) H) intD := fun d z x H G Q hz e r k => by
  cases d with
  | int i => cases hz; exact .inl ⟨i, by rw [r.int], k _ H G .st (Rep.i.mpr rfl)⟩
  | bl b => cases hz; exact .inr ⟨b, by rw [r.bool], k _ H G .st (Rep.i.mpr rfl)⟩
  | _ => cases hz
def strD : D → Option D
  | .int i => if i.natAbs.log2 < 1920 then some (.str (toString i)) else none
  | _ => none
theorem strD_ok {K : PySem.W.Frag} : C1 K (fun xs H Q => ∃ i, xs = [.int i] ∧ i.natAbs.log2 < 1920 ∧ Q (.str (toString i)) H) strD := fun d z x H G Q hz e r k => by
  cases d with
  | int i =>
    replace hz : (if i.natAbs.log2 < 1920 then some (D.str (toString i)) else none) = some z := hz
    split at hz
    · rename_i h; cases hz
      exact ⟨i, by rw [r.int], h, k _ H G .st (Rep.st.mpr rfl)⟩
    · cases hz
  | _ => cases hz
def tupD (d : D) : Option D := d.sq.map .tup
theorem tupD_ok {K : PySem.W.Frag} : C1 K (rTupB K) tupD := fun d z x H G Q hz e r k => by
  unfold tupD at hz
  cases hd : d.sq with
  | none => rw [hd] at hz; cases hz
  | some ds =>
    rw [hd] at hz; cases hz
    have hn := r.sql hd
    have hl : d.lsq = some ds → rTupB K [x] H Q := fun h2 => by
      obtain ⟨a, xs, rfl, h1, h3⟩ := r.lsq e h2
      exact ⟨a, xs, rfl, .inl ⟨h1, fun l o hl ho => k _ _ _ (.nw l _ hl) (Rep.newT ho h3 (e.free hl) hn)⟩⟩
    cases d with
    | tup ds' =>
      cases hd
      rcases r with r | ⟨ds', a, xs, e0, _⟩ | ⟨ds', a, xs, e0, _⟩
      · have r0 := r
        obtain ⟨a, xs, rfl, h1, h2⟩ := r.tp
        exact ⟨a, xs, rfl, .inr ⟨SqT_same e h1, k _ H G .st r0⟩⟩
      · cases e0
      · cases e0
    | lst ds' => exact hl hd
    | scr ds' => exact hl hd
    | _ => cases hd
theorem listD_ok {K : PySem.W.Frag} : C1L K (fun xs H Q => ∃ p ys, xs = [.ref p] ∧ (SqL K H p ys ∨ SqT K H p ys) ∧ ∀ l, H l = none → Q (.ref l) (upd H l (.lst ys))) D.sq := fun d zs x H G Q hz e r k => by
  obtain ⟨a, xs, rfl, h1, h2⟩ := r.sq e hz
  exact ⟨a, xs, rfl, h1, fun l hl => k xs l hl h2 (r.sql hz)⟩
def bools : List D → Option (List Bool)
  | [] => some []
  | .bl b :: r => (bools r).map (b :: ·)
  | _ :: _ => none
theorem Reps.bools {K : PySem.W.Frag} {G : Hp} : ∀ {ds : List D} {xs : List V} {bs : List Bool}, Reps K G ds xs → bools ds = some bs → xs = bs.map V.bl
  | [], _, _, h, e => by cases e; rw [Reps] at h; exact h
  | .bl b :: r, _, _, h, e => by
    rw [Reps] at h
    obtain ⟨x, xr, rfl, h1, h2⟩ := h
    unfold Tr.bools at e
    cases e1 : Tr.bools r with
    | none => rw [e1] at e; cases e
    | some bs =>
      rw [e1] at e; cases e
      rw [Rep.b.mp h1, Reps.bools h2 e1]; rfl
  | .non :: _, _, _, _, e => by cases e
  | .int _ :: _, _, _, _, e => by cases e
  | .str _ :: _, _, _, _, e => by cases e
  | .ty _ :: _, _, _, _, e => by cases e
  | .tup _ :: _, _, _, _, e => by cases e
  | .lst _ :: _, _, _, _, e => by cases e
  | .scr _ :: _, _, _, _, e => by cases e
  | .dic _ :: _, _, _, _, e => by cases e
  | .ob _ _ :: _, _, _, _, e => by cases e
def allD (d : D) : Option D := match d with
  | .lst ds => (bools ds).map fun bs => .bl (bs.all id)
  | _ => none
def anyD (d : D) : Option D := match d with
  | .lst ds => (bools ds).map fun bs => .bl (bs.any id)
  | _ => none
theorem allD_ok {K : PySem.W.Frag} : C1 K (rAll K) allD := fun d z x H G Q hz e r k => by
  cases d with
  | lst ds =>
    replace hz : (bools ds).map (fun bs => D.bl (bs.all id)) = some z := hz
    cases hb : bools ds with
    | none => rw [hb] at hz; cases hz
    | some bs =>
      rw [hb] at hz; cases hz
      obtain ⟨a, xs, rfl, h1, h2⟩ := r.lsq e rfl
      have := h2.bools hb
      subst this
      exact ⟨a, bs, rfl, h1, k _ H G .st (Rep.b.mpr rfl)⟩
  | _ => cases hz
theorem anyD_ok {K : PySem.W.Frag} : C1 K (rAny K) anyD := fun d z x H G Q hz e r k => by
  cases d with
  | lst ds =>
    replace hz : (bools ds).map (fun bs => D.bl (bs.any id)) = some z := hz
    cases hb : bools ds with
    | none => rw [hb] at hz; cases hz
    | some bs =>
      rw [hb] at hz; cases hz
      obtain ⟨a, xs, rfl, h1, h2⟩ := r.lsq e rfl
      have := h2.bools hb
      subst this
      exact ⟨a, bs, rfl, h1, k _ H G .st (Rep.b.mpr rfl)⟩
  | _ => cases hz
def intsO : List D → Option (List Int)
  | [] => some []
  | .int b :: r => (intsO r).map (b :: ·)
  | _ :: _ => none
theorem ints_some : ∀ {ds : List D} {ns : List Int}, intsO ds = some ns → ds = ns.map .int
  | [], _, e => by cases e; rfl
  | .int b :: r, _, e => by
    unfold intsO at e
    cases e1 : intsO r with
    | none => rw [e1] at e; cases e
    | some bs => rw [e1] at e; cases e; rw [ints_some e1]; rfl
  | .non :: _, _, e => by cases e
  | .bl _ :: _, _, e => by cases e
  | .str _ :: _, _, e => by cases e
  | .ty _ :: _, _, e => by cases e
  | .tup _ :: _, _, e => by cases e
  | .lst _ :: _, _, e => by cases e
  | .scr _ :: _, _, e => by cases e
  | .dic _ :: _, _, e => by cases e
  | .ob _ _ :: _, _, e => by cases e
theorem ints_map : ∀ ns : List Int, intsO (ns.map .int) = some ns
  | [] => rfl
  | n :: ns => by rw [List.map_cons, intsO, ints_map ns]; rfl
theorem Reps.intsV {K : PySem.W.Frag} {G : Hp} {ds : List D} {xs : List V} {ns : List Int} (h : Reps K G ds xs) (e : intsO ds = some ns) : xs = ns.map V.int := by
  rw [ints_some e] at h
  exact Reps.ints.mp h
/-- the sorted arrangement of intsO -/
def sortI (ns : List Int) : List Int := ns.mergeSort (fun a b => decide (a ≤ b))
theorem sortI_perm (ns : List Int) : (sortI ns).Perm ns := List.mergeSort_perm ..
theorem sortI_pw (ns : List Int) : (sortI ns).Pairwise (· ≤ ·) := by
  have := List.pairwise_mergeSort (le := fun a b : Int => decide (a ≤ b)) (fun a b c h1 h2 => by simp at *; omega) (fun a b => by simp; omega) ns
  exact this.imp fun h => by simpa using h
theorem sorted_uniq : ∀ {xs ys : List Int}, xs.Perm ys → xs.Pairwise (· ≤ ·) → ys.Pairwise (· ≤ ·) → xs = ys := fun {xs ys} p h1 h2 => by
  exact p.eq_of_pairwise (fun a b _ _ h1 h2 => Int.le_antisymm h1 h2) h1 h2
def sortedD (d : D) : Option (List D) := match d.lsq with
  | some ds => (intsO ds).map fun ns => (sortI ns).map .int
  | none => none
theorem sortedD_ok {K : PySem.W.Frag} : C1L K (rSortedI K) sortedD := fun d zs x H G Q hz e r k => by
  unfold sortedD at hz
  cases hd : d.lsq with
  | none => rw [hd] at hz; cases hz
  | some ds =>
    rw [hd] at hz
    replace hz : (intsO ds).map (fun ns => (sortI ns).map D.int) = some zs := hz
    cases hi : intsO ds with
    | none => rw [hi] at hz; cases hz
    | some ns =>
      rw [hi] at hz; cases hz
      obtain ⟨a, xs, rfl, h1, h2⟩ := r.lsq e hd
      have hn := r.sql (D.sq_of_lsq hd)
      have e2 := h2.intsV hi
      have e3 := ints_some hi
      subst e2 e3
      refine ⟨a, ns, rfl, h1, fun ns' p hp hs hf => ?_⟩
      have := sorted_uniq (hp.trans (sortI_perm ns).symm) hs (sortI_pw ns)
      subst this
      refine k _ p hf (Reps.ints.mpr rfl) ?_
      rw [List.length_map, (sortI_perm ns).length_eq]
      rw [List.length_map] at hn
      exact hn
def sumD (d : D) : Option D := match d.lsq with
  | some ds => (intsO ds).map fun ns => .int ns.sum
  | none => none
/-- isinstance(x, T), T a built-in class -/
def tyD : D → Option String
  | .non => some "NoneType"
  | .bl _ => some "bool"
  | .int _ => some "int"
  | .str _ => some "str"
  | .tup _ => some "tuple"
  | .lst _ => some "list"
  | .scr _ => some "list"
  | .dic _ => some "dict"
  | _ => none
def isiD (T : String) (d : D) : Option D := match tyD d with
  | some t => (kitB t T).map .bl
  | none => none
theorem Rep.tyx {K : PySem.W.Frag} {H : Hp} {d : D} {v : V} {t : String} (h : Rep K H d v) (e : tyD d = some t) : TyX K H v (.type t) := by
  have hl : ∀ {a : Addr} {xs : List V}, SqL K H a xs → TyX K H (.ref a) (.type "list") := fun {a xs} h => by
    rcases h with (h | ⟨o, h⟩) | ⟨o, its, n, hk, hc, _⟩
    · exact .base (.lst h)
    · exact .base (.frz h)
    · exact .kList hk hc
  cases d <;> cases e
  · rw [Rep.nn.mp h]; exact .base .non
  · rw [Rep.b.mp h]; exact .base (.bl _)
  · rw [Rep.i.mp h]; exact .base (.int _)
  · rw [Rep.st.mp h]; exact .base (.str _)
  · obtain ⟨a, xs, rfl, h1, _⟩ := h.tp
    rcases h1 with (h | ⟨o, h⟩) | ⟨o, its, n, hk, hc, _⟩
    · exact .base (.tup h)
    · exact .fTuple h
    · exact .kTuple hk hc
  · obtain ⟨a, xs, rfl, h1, _⟩ := h.ls
    exact .base (.lst h1)
  · rw [Rep] at h
    obtain ⟨a, rfl, h1, _⟩ := h
    exact hl h1
  · rw [Rep] at h
    obtain ⟨a, ys, rfl, h1, _⟩ := h
    exact .base (.dK h1)
theorem p_isi {x : Str} {T : String} {p q : Pos} (hg : Gl X "isinstance") (hm : X.mg "isinstance" = none) (ha : PE X a (tB X.K fa)) (hgT : Gl X x) (hmT : X.mg x = none) (hv : bootBuiltins x = some (.type T)) (hn : x ≠ "__name__" := by decide) (hd : (x == ("__debug__" : Str)) = false := by decide)
    (hs : starEach [a, .Name x q] X.env = (false, eval a X.env) :: starEach [.Name x q] X.env := by rfl) (hs2 : starEach [.Name x q] X.env = (false, eval (.Name x q) X.env) :: starEach [] X.env := by rfl) (hpl : (backTo pos (starEach [.Name x q] X.env)).any (·.1) = false := by rfl) :
    PE X (.Call (.Name "isinstance" p) [a, .Name x q] [] pos) (tP X.K (pu1 (isiD T) fa)) := (pe_callB call_isi hg hm (by decide +kernel) (pa_cons ha (pa_cons (pe_bltn (v := .ty T) hgT hmT hv rfl hn hd) pa_nil hs2) hs) (by decide) (by decide) hs hpl).wk fun σ H Q ⟨g, ρ, T', G, W, d, hR, hf, k⟩ => by
  unfold pu1 at hf
  split at hf
  · rename_i x0 e1
    unfold isiD at hf
    cases et : tyD x0 with
    | none => rw [et] at hf; cases hf
    | some t =>
      rw [et] at hf
      replace hf : (kitB t T).map D.bl = some d := hf
      cases eb : kitB t T with
      | none => rw [eb] at hf; cases hf
      | some b =>
        rw [eb] at hf; cases hf
        exact ⟨g, ρ, T', G, W, x0, hR, e1, fun v H1 G1 R1 eg eh r => ⟨v, .ty T, .type t, .type T, b, rfl, .ty T, r.tyx et, kit_ty eb, k _ H1 G1 R1 eg eh (Rep.b.mpr rfl)⟩⟩
  · cases hf
/-! ### a list in a slot is changed -/
def appX (i : Nat) (f : Mo D) : Mo O := fun ρ => match ρ[i]?.bind Sl.tr with
  | some (.fl _) => (match f ρ with
    | some (.ok d ρ1) => (match ρ1[i]? with
      | some s => (match s.tr with
        | some (.fl ds) => if ds.length < sizeLine then some (.ok (.fr .non) (ρ1.set i (s.put (.fl (ds ++ [d]))))) else none
        | _ => none)
      | none => none)
    | some (.ex c fs ρ1) => some (.ex c fs ρ1)
    | none => none)
  | _ => none
theorem Reps.one {K : PySem.W.Frag} {G : Hp} {d : D} {v : V} (h : Rep K G d v) : Reps K G [d] [v] := by
  rw [Reps]; exact ⟨v, [], rfl, h, by rw [Reps]⟩
theorem x_append {i : Nat} {o : Expr} {apos cpos : Pos} (ho : PE X o (tVar i)) (ha : PE X e (tV X.K X.mg Wx ga)) (hs : starEach [e] X.env = (false, eval e X.env) :: starEach [] X.env := by rfl) (hbase : attributeBase o "append" X.env (eval o X.env) = eval o X.env := by rfl)
    (hfew : ((backTo cpos (starEach [e] X.env)).all (fun x => !x.1) && (backToKw cpos (keywordEach [] X.env)).all (fun x => x.1.isSome) && decide ([e].length + ([] : List Keyword).length + (if ([] : List Keyword).isEmpty then 0 else 1) < 30)) = true := by rfl)
    (hline : (apos.endLine == cpos.line) = true := by rfl) (hplain : (backTo cpos (starEach [] X.env)).any (·.1) = false := by rfl) :
    PE X (.Call (.Attribute o "append" apos) [e] [] cpos) (tX X.K X.mg Wx (appX i ga)) := (pe_bm PySem.F.plainAttrs_list PySem.F.slot_list_append PySem.F.type_list_append mt_append ho (pa_cons ha pa_nil hs) hbase hfew hline hs hplain).wk fun σ H Q ⟨g, ρ, T, G, W, hR, k⟩ => by
  unfold appX at k
  cases e0 : ρ[i]? with
  | none => rw [e0] at k; exact k.elim
  | some s0 =>
    rw [e0, Option.bind_some] at k
    cases e1 : s0.tr with
    | none => rw [e1] at k; exact k.elim
    | some o0 =>
      rw [e1] at k
      cases o0 with
      | fl ds0 =>
        obtain ⟨a0, xs0, hv0, ha0, _⟩ := hR.wrF e0 e1
        refine ⟨.ref a0, hv0, .inl ⟨rfl, xs0, SqL.of ha0⟩, g, ρ, T, G, W, hR, ?_⟩
        dsimp only at k
        cases h1 : ga ρ with
        | none => rw [h1] at k; exact k.elim
        | some r =>
          rw [h1] at k
          cases r with
          | ex c fs ρ1 => exact k
          | ok d ρ1 =>
            intro v H1 G1 W1 R1 eg r1
            dsimp only at k
            cases e2 : ρ1[i]? with
            | none => rw [e2] at k; exact k.elim
            | some s =>
              rw [e2] at k
              dsimp only at k
              cases e3 : s.tr with
              | none => rw [e3] at k; exact k.elim
              | some oo =>
                rw [e3] at k
                cases oo with
                | fl ds =>
                  dsimp only at k
                  by_cases hl : ds.length < sizeLine
                  · rw [if_pos hl] at k
                    obtain ⟨a, xs, hv, ha, hga, hr, wr⟩ := R1.wrF e2 e3
                    rw [hv0] at hv; cases hv
                    refine ⟨a0, xs, v, rfl, rfl, ha, by rw [← hr.len]; exact hl, ?_⟩
                    have R2 := wr G1 (ds ++ [d]) (xs ++ [v]) (Same.refl _) R1 (hr.app (Reps.one r1)) (by rw [List.length_append]; exact hl)
                    exact k .non _ G1 _ (R2.addT (Rep.nn.mpr rfl)) eg
                  · rw [if_neg hl] at k; exact k.elim
                | _ => exact k.elim
      | _ => exact k.elim
/-- x.pop() -/
def popX (i : Nat) : Mo O := fun ρ => match ρ[i]? with
  | some s => (match s.tr with
    | some (.fl ds) => (match ds.getLast? with
      | some d => some (.ok (.fr d) (ρ.set i (s.put (.fl ds.dropLast))))
      | none => none)
    | _ => none)
  | none => none
theorem Reps.dropLast {K : PySem.W.Frag} {G : Hp} {ds : List D} {xs : List V} (h : Reps K G ds xs) : Reps K G ds.dropLast xs.dropLast := by
  rw [List.dropLast_eq_take, List.dropLast_eq_take, h.len]
  exact h.take _
theorem Reps.last {K : PySem.W.Frag} {G : Hp} {ds : List D} {xs : List V} {d : D} (h : Reps K G ds xs) (e : ds.getLast? = some d) : ∃ y, xs[xs.length - 1]? = some y ∧ Rep K G d y := by
  rw [List.getLast?_eq_getElem?] at e
  obtain ⟨y, h1, h2⟩ := h.get e
  rw [h.len] at h1
  exact ⟨y, h1, h2⟩
theorem x_pop {i : Nat} {o : Expr} {apos cpos : Pos} (ho : PE X o (tVar i)) (hbase : attributeBase o "pop" X.env (eval o X.env) = eval o X.env := by rfl) (hline : (apos.endLine == cpos.line) = true := by rfl) :
    PE X (.Call (.Attribute o "pop" apos) [] [] cpos) (tX X.K X.mg Wx (popX i)) := (pe_bm0 PySem.F.plainAttrs_list PySem.F.slot_list_pop PySem.F.type_list_pop mt_pop ho hbase hline).wk fun σ H Q ⟨g, ρ, T, G, W, hR, k⟩ => by
  unfold popX at k
  cases e0 : ρ[i]? with
  | none => rw [e0] at k; exact k.elim
  | some s0 =>
    rw [e0] at k
    dsimp only at k
    cases e1 : s0.tr with
    | none => rw [e1] at k; exact k.elim
    | some o0 =>
      rw [e1] at k
      cases o0 with
      | fl ds =>
        dsimp only at k
        cases e2 : ds.getLast? with
        | none => rw [e2] at k; exact k.elim
        | some d =>
          rw [e2] at k
          obtain ⟨a, xs, hv, ha, hga, hr, wr⟩ := hR.wrF e0 e1
          obtain ⟨y, hy, ry⟩ := hr.last e2
          have hn : ds.dropLast.length ≤ sizeLine := by
            obtain ⟨v2, _, ho⟩ := hR.slo e0 e1
            rw [Ow] at ho
            obtain ⟨_, _, _, _, _, _, hz⟩ := ho
            rw [List.length_dropLast]; omega
          refine ⟨.ref a, hv, .inl ⟨rfl, xs, SqL.of ha⟩, a, xs, y, rfl, rfl, ha, hy, ?_⟩
          have R2 := wr G ds.dropLast xs.dropLast (Same.refl _) hR hr.dropLast hn
          exact k y _ G _ (R2.addT ry) (Same.refl _)
      | _ => exact k.elim
/-- x.insert(n, e) -/
def insX (i : Nat) (f : Mo (List D)) : Mo O := fun ρ => match ρ[i]?.bind Sl.tr with
  | some (.fl _) => (match f ρ with
    | some (.ok [.int n, d] ρ1) => (match ρ1[i]? with
      | some s => (match s.tr with
        | some (.fl ds) => if ds.length < sizeLine ∧ 0 ≤ n ∧ n < 2 ^ 63 then some (.ok (.fr .non) (ρ1.set i (s.put (.fl (ds.take n.toNat ++ [d] ++ ds.drop n.toNat))))) else none
        | _ => none)
      | none => none)
    | some (.ex c fs ρ1) => some (.ex c fs ρ1)
    | _ => none)
  | _ => none
theorem x_insert {i : Nat} {o : Expr} {f : Mo (List D)} {apos cpos : Pos} (ho : PE X o (tVar i)) (ha : PA X [a, b] (tLV X.K X.mg Wx f)) (hs : starEach [a, b] X.env = (false, eval a X.env) :: starEach [b] X.env := by rfl) (hbase : attributeBase o "insert" X.env (eval o X.env) = eval o X.env := by rfl)
    (hfew : ((backTo cpos (starEach [a, b] X.env)).all (fun x => !x.1) && (backToKw cpos (keywordEach [] X.env)).all (fun x => x.1.isSome) && decide ([a, b].length + ([] : List Keyword).length + (if ([] : List Keyword).isEmpty then 0 else 1) < 30)) = true := by rfl)
    (hline : (apos.endLine == cpos.line) = true := by rfl) (hplain : (backTo cpos (starEach [b] X.env)).any (·.1) = false := by rfl) :
    PE X (.Call (.Attribute o "insert" apos) [a, b] [] cpos) (tX X.K X.mg Wx (insX i f)) := (pe_bm PySem.F.plainAttrs_list PySem.F.slot_list_insert PySem.F.type_list_insert mt_insert ho ha hbase hfew hline hs hplain).wk fun σ H Q ⟨g, ρ, T, G, W, hR, k⟩ => by
  unfold insX at k
  cases e0 : ρ[i]? with
  | none => rw [e0] at k; exact k.elim
  | some s0 =>
    rw [e0, Option.bind_some] at k
    cases e1 : s0.tr with
    | none => rw [e1] at k; exact k.elim
    | some o0 =>
      rw [e1] at k
      cases o0 with
      | fl ds0 =>
        obtain ⟨a0, xs0, hv0, ha0, _⟩ := hR.wrF e0 e1
        refine ⟨.ref a0, hv0, .inl ⟨rfl, xs0, SqL.of ha0⟩, g, ρ, T, G, W, hR, ?_⟩
        dsimp only at k
        split at k
        · rename_i n d ρ1 h1
          rw [h1]
          intro vs H1 G1 W1 R1 eg r1
          cases e2 : ρ1[i]? with
          | none => rw [e2] at k; exact k.elim
          | some s =>
            rw [e2] at k
            dsimp only at k
            cases e3 : s.tr with
            | none => rw [e3] at k; exact k.elim
            | some oo =>
              rw [e3] at k
              cases oo with
              | fl ds =>
                dsimp only at k
                split at k
                · rename_i hl
                  obtain ⟨a, xs, hv, ha, hga, hr, wr⟩ := R1.wrF e2 e3
                  rw [hv0] at hv; cases hv
                  rw [Reps] at r1
                  obtain ⟨x1, y1, rfl, rx, r1⟩ := r1
                  rw [Reps] at r1
                  obtain ⟨x2, y2, rfl, ry, r1⟩ := r1
                  rw [Reps] at r1
                  subst r1
                  refine ⟨a0, xs, n, x2, rfl, by rw [Rep.i.mp rx], ha, by rw [← hr.len]; exact hl.1, hl.2.1, hl.2.2, ?_⟩
                  have R2 := wr G1 (ds.take n.toNat ++ [d] ++ ds.drop n.toNat) (xs.take n.toNat ++ [x2] ++ xs.drop n.toNat) (Same.refl _) R1 (((hr.take _).app (Reps.one ry)).app (hr.drop _)) (by
                    rw [List.length_append, List.length_append, List.length_take, List.length_drop, List.length_singleton]; omega)
                  exact k .non _ G1 _ (R2.addT (Rep.nn.mpr rfl)) eg
                · exact k.elim
              | _ => exact k.elim
        · rename_i h1; rw [h1]; exact k
        · exact k.elim
      | _ => exact k.elim
/-! ### a list within a slot's list is changed -/
/-- x[j].append(e) -/
def appAt (i : Nat) (fj : Pu D) (f : Pu D) : Mo O := fun ρ => match ρ[i]?, fj ρ, f ρ with
  | some s, some (.int j), some d => (match s.tr with
    | some (.ol os) => (match atI os j, ixN os.length j with
      | some (.fl ds), some jj => if ds.length < sizeLine then some (.ok (.fr .non) (ρ.set i (s.put (.ol (os.set jj (.fl (ds ++ [d]))))))) else none
      | _, _ => none)
    | _ => none)
  | _, _, _ => none
/-- x[j].pop() -/
def popAt (i : Nat) (fj : Pu D) : Mo O := fun ρ => match ρ[i]?, fj ρ with
  | some s, some (.int j) => (match s.tr with
    | some (.ol os) => (match atI os j, ixN os.length j with
      | some (.fl ds), some jj => (match ds.getLast? with
        | some d => some (.ok (.fr d) (ρ.set i (s.put (.ol (os.set jj (.fl ds.dropLast))))))
        | none => none)
      | _, _ => none)
    | _ => none)
  | _, _ => none
theorem x_popAt {i : Nat} {o ej : Expr} {fj : Pu D} {spos apos cpos : Pos} (ho : PE X o (tVar i)) (hj : PE X ej (tP X.K fj)) (hix : PlainIx ej) (hbase : attributeBase (.Subscript o ej spos) "pop" X.env (eval (.Subscript o ej spos) X.env) = eval (.Subscript o ej spos) X.env := by rfl) (hline : (apos.endLine == cpos.line) = true := by rfl) :
    PE X (.Call (.Attribute (.Subscript o ej spos) "pop" apos) [] [] cpos) (tX X.K X.mg Wx (popAt i fj)) := (pe_bm0 PySem.F.plainAttrs_list PySem.F.slot_list_pop PySem.F.type_list_pop mt_pop (pe_ix ix_list ho hj hix) hbase hline).wk fun σ H Q ⟨g, ρ, T, G, W, hR, k⟩ => by
  unfold popAt at k
  split at k
  · rename_i s j e0 ej
    cases e1 : s.tr with
    | none => rw [e1] at k; exact k.elim
    | some o0 =>
      rw [e1] at k
      cases o0 with
      | ol os =>
        dsimp only at k
        split at k
        · rename_i ds jj e2 e3
          cases e4 : ds.getLast? with
          | none => rw [e4] at k; exact k.elim
          | some d =>
            rw [e4] at k
            obtain ⟨v0, hv0, _⟩ := hR.slo e0 e1
            refine ⟨v0, hv0, g, ρ, T, G, W, .int j, hR, ej, fun vj H1 G1 R1 eg1 eh1 rj => ?_⟩
            obtain ⟨a, xs, b, ys, jj', hv, ha, hat, hb, hgb, hr, hjj, wr⟩ := R1.wr1 e0 e1 e2
            rw [hv0] at hv; cases hv
            rw [e3] at hjj; cases hjj
            obtain ⟨y, hy, ry⟩ := hr.last e4
            refine ⟨a, xs, j, .ref b, rfl, Rep.i.mp rj, SqL.of ha, hat, .inl ⟨rfl, ys, SqL.of hb⟩, b, ys, y, rfl, rfl, hb, hy, ?_⟩
            have hn : ds.dropLast.length ≤ sizeLine := by
              obtain ⟨v2, _, ho⟩ := R1.slo e0 e1
              rw [Ow] at ho
              obtain ⟨_, _, _, _, _, hos, _⟩ := ho
              obtain ⟨_, _, _, _, _, _, hx⟩ := hos.at e2
              rw [Ow] at hx
              obtain ⟨_, _, _, _, _, _, hz⟩ := hx
              rw [List.length_dropLast]; omega
            have R2 := wr G1 ds.dropLast ys.dropLast (Same.refl _) R1 hr.dropLast hn
            exact k y _ G1 _ (R2.addT ry) eg1
        · exact k.elim
      | _ => exact k.elim
  · exact k.elim
theorem x_appAt {i : Nat} {o ej : Expr} {fj : Pu D} {spos apos cpos : Pos} (ho : PE X o (tVar i)) (hj : PE X ej (tP X.K fj)) (hix : PlainIx ej) (ha : PE X e (tP X.K f)) (hs : starEach [e] X.env = (false, eval e X.env) :: starEach [] X.env := by rfl)
    (hbase : attributeBase (.Subscript o ej spos) "append" X.env (eval (.Subscript o ej spos) X.env) = eval (.Subscript o ej spos) X.env := by rfl)
    (hfew : ((backTo cpos (starEach [e] X.env)).all (fun x => !x.1) && (backToKw cpos (keywordEach [] X.env)).all (fun x => x.1.isSome) && decide ([e].length + ([] : List Keyword).length + (if ([] : List Keyword).isEmpty then 0 else 1) < 30)) = true := by rfl)
    (hline : (apos.endLine == cpos.line) = true := by rfl) (hplain : (backTo cpos (starEach [] X.env)).any (·.1) = false := by rfl) :
    PE X (.Call (.Attribute (.Subscript o ej spos) "append" apos) [e] [] cpos) (tX X.K X.mg Wx (appAt i fj f)) := (pe_bm PySem.F.plainAttrs_list PySem.F.slot_list_append PySem.F.type_list_append mt_append (pe_ix ix_list ho hj hix) (pa_cons ha pa_nil hs) hbase hfew hline hs hplain).wk fun σ H Q ⟨g, ρ, T, G, W, hR, k⟩ => by
  unfold appAt at k
  split at k
  · rename_i s j d e0 ej ed
    cases e1 : s.tr with
    | none => rw [e1] at k; exact k.elim
    | some o0 =>
      rw [e1] at k
      cases o0 with
      | ol os =>
        dsimp only at k
        split at k
        · rename_i ds jj e2 e3
          by_cases hl : ds.length < sizeLine
          · rw [if_pos hl] at k
            obtain ⟨v0, hv0, _⟩ := hR.slo e0 e1
            refine ⟨v0, hv0, g, ρ, T, G, W, .int j, hR, ej, fun vj H1 G1 R1 eg1 eh1 rj => ?_⟩
            obtain ⟨a, xs, b, ys, jj', hv, ha, hat, hb, hgb, hr, hjj, wr⟩ := R1.wr1 e0 e1 e2
            rw [hv0] at hv; cases hv
            refine ⟨a, xs, j, .ref b, rfl, Rep.i.mp rj, SqL.of ha, hat, .inl ⟨rfl, ys, SqL.of hb⟩, g, ρ, T, G1, W, d, R1, ed, fun v H2 G2 R2 eg2 eh2 r2 => ?_⟩
            obtain ⟨a2, xs2, b2, ys2, jj2, hv2, ha2, hat2, hb2, hgb2, hr2, hjj2, wr2⟩ := R2.wr1 e0 e1 e2
            rw [hv0] at hv2; cases hv2
            have e5 := eh2 _ _ ha
            rw [ha2] at e5; cases e5
            rw [hat] at hat2; cases hat2
            rw [e3] at hjj2; cases hjj2
            refine ⟨b, ys2, v, rfl, rfl, hb2, by rw [← hr2.len]; exact hl, ?_⟩
            have R3 := wr2 G2 (ds ++ [d]) (ys2 ++ [v]) (Same.refl _) R2 (hr2.app (Reps.one r2)) (by rw [List.length_append]; exact hl)
            exact k .non _ G2 _ (R3.addT (Rep.nn.mpr rfl)) (eg1.trans eg2)
          · rw [if_neg hl] at k; exact k.elim
        · exact k.elim
      | _ => exact k.elim
  · exact k.elim
/-! ### x[j] = e, x[j][l] = e -/
def stoS (i : Nat) (f : Mo D) (fj : Pu D) : MS := fun ρ => match f ρ with
  | some (.ok d ρ1) => (match ρ1[i]?, fj ρ1 with
    | some s, some (.int j) => (match s.tr with
      | some (.fl ds) => (match ixN ds.length j with
        | some jj => some (.nx (ρ1.set i (s.put (.fl (ds.set jj d)))))
        | none => none)
      | some (.ol os) => (match ixN os.length j with
        | some jj => some (.nx (ρ1.set i (s.put (.ol (os.set jj (.fr d))))))
        | none => none)
      | _ => none)
    | _, _ => none)
  | some (.ex c fs ρ1) => some (.ex c fs ρ1)
  | none => none
theorem Reps.set {K : PySem.W.Frag} {G : Hp} : ∀ {ds : List D} {xs : List V} {d : D} {v : V} (j : Nat), Reps K G ds xs → Rep K G d v → Reps K G (ds.set j d) (xs.set j v)
  | [], _, _, _, _, h, _ => by rw [Reps] at h; subst h; simp [Reps]
  | d0 :: ds, _, _, _, 0, h, h' => by
    rw [Reps] at h
    obtain ⟨x, xr, rfl, h1, h2⟩ := h
    rw [List.set_cons_zero, List.set_cons_zero, Reps]
    exact ⟨_, xr, rfl, h', h2⟩
  | d0 :: ds, _, _, _, j + 1, h, h' => by
    rw [Reps] at h
    obtain ⟨x, xr, rfl, h1, h2⟩ := h
    rw [List.set_cons_succ, List.set_cons_succ, Reps]
    exact ⟨x, _, rfl, h1, h2.set j h'⟩
theorem R.flen {K : PySem.W.Frag} {g : Gs} {ρ : Rho} {T : List (O × V)} {σ : L2.St} {H G : Hp} {W : Own} {i : Nat} {s : Sl} {ds : List D} (h : R K g ρ T σ H G W) (e0 : ρ[i]? = some s) (e1 : s.tr = some (.fl ds)) : ds.length ≤ sizeLine := by
  obtain ⟨v2, _, ho⟩ := h.slo e0 e1
  rw [Ow] at ho
  obtain ⟨_, _, _, _, _, _, hz⟩ := ho
  exact hz
theorem R.flen1 {K : PySem.W.Frag} {g : Gs} {ρ : Rho} {T : List (O × V)} {σ : L2.St} {H G : Hp} {W : Own} {i : Nat} {s : Sl} {os : List O} {ds : List D} {j : Int} (h : R K g ρ T σ H G W) (e0 : ρ[i]? = some s) (e1 : s.tr = some (.ol os)) (e2 : atI os j = some (.fl ds)) : ds.length ≤ sizeLine := by
  obtain ⟨v2, _, ho⟩ := h.slo e0 e1
  rw [Ow] at ho
  obtain ⟨_, _, _, _, _, hos, _⟩ := ho
  obtain ⟨_, _, _, _, _, _, hx⟩ := hos.at e2
  rw [Ow] at hx
  obtain ⟨_, _, _, _, _, _, hz⟩ := hx
  exact hz
theorem s_sto {i : Nat} {o ej : Expr} {fj : Pu D} {p1 : Pos} (he : PE X e (tV X.K X.mg Wx ga)) (ho : PE X o (tVar i)) (hj : PE X ej (tP X.K fj))
    (has : ∀ v, assign (.Subscript o ej p1) X.env v = (do
      let ov ← holding [v] (eval o X.env)
      let iv ← holding [v, ov] (eval ej X.env)
      standAt p1
      holding [v, ov, iv] (setItem ov iv v)
      release [v, ov, iv] []) := by intro _; rfl)
    (hs : swapsWithSole [.Subscript o ej p1] e pos.line X.env = pure false := by rfl) (hw : swappedStores [.Subscript o ej p1] e X.env = pure none := by rfl)
    (h1 : (assignEach [.Subscript o ej p1] X.env).map (·.2) = [assign (.Subscript o ej p1) X.env] := by rfl) : PS X (.Assign [.Subscript o ej p1] e pos) (tS X.K X.mg Wx (stoS i ga fj)) := (ps_asg he (pg_sub ho hj set_list has) hs hw h1).wk fun D0 σ H ⟨g, ρ, T, G, W, hR, k⟩ => by
  refine ⟨g, ρ, T, G, W, hR, ?_⟩
  unfold stoS at k
  cases h1 : ga ρ with
  | none => rw [h1] at k; exact k.elim
  | some r =>
    rw [h1] at k
    cases r with
    | ex c fs ρ1 => exact k
    | ok d ρ1 =>
      intro v H1 G1 W1 R1 eg1 r1
      dsimp only at k
      split at k
      · rename_i s j e0 ej
        cases e1 : s.tr with
        | none => rw [e1] at k; exact k.elim
        | some o0 =>
          rw [e1] at k
          cases o0 with
          | fl ds =>
            dsimp only at k
            cases e2 : ixN ds.length j with
            | none => rw [e2] at k; exact k.elim
            | some jj =>
              rw [e2] at k
              obtain ⟨v0, hv0, _⟩ := R1.slo e0 e1
              refine ⟨v0, hv0, g, ρ1, T, G1, W1, .int j, R1, ej, fun vj H2 G2 R2 eg2 eh2 rj => ?_⟩
              obtain ⟨a, xs, hv, ha, hga, hr, wr⟩ := R2.wrF e0 e1
              rw [hv0] at hv; cases hv
              refine ⟨a, xs, j, jj, rfl, Rep.i.mp rj, ha, by rw [← hr.len]; exact e2, ?_⟩
              exact k σ _ G2 _ (wr G2 _ _ (Same.refl _) R2 (hr.set jj (r1.mono eg2)) (by rw [List.length_set]; exact R2.flen e0 e1)) (eg1.trans eg2)
          | ol os =>
            dsimp only at k
            cases e2 : ixN os.length j with
            | none => rw [e2] at k; exact k.elim
            | some jj =>
              rw [e2] at k
              obtain ⟨v0, hv0, _⟩ := R1.slo e0 e1
              refine ⟨v0, hv0, g, ρ1, T, G1, W1, .int j, R1, ej, fun vj H2 G2 R2 eg2 eh2 rj => ?_⟩
              obtain ⟨v1, hv1, ho⟩ := R2.slo e0 e1
              rw [hv0] at hv1; cases hv1
              rw [Ow] at ho
              obtain ⟨a0, xs0, ev, ha0, hw0, hos0, hz0⟩ := ho
              obtain ⟨a, xs, hv, ha, hga, hlen, hos, wr⟩ := R2.wr (os' := os) e0 e1
              rw [hv0] at hv; cases hv
              cases ev
              refine ⟨_, xs, j, jj, rfl, Rep.i.mp rj, ha, by rw [← hlen]; exact e2, ?_⟩
              refine k σ _ G2 _ (wr G2 (os.set jj (.fr d)) (xs.set jj v) (Same.refl _) R2 (Ows.set (Ows.move1 (Same.refl _) (fun b z w hz => ⟨upd_ne (fun eb => hz ?_), w⟩) hos) (by rw [Ow]; exact r1.mono eg2)) (by rw [List.length_set]; exact hz0)) (eg1.trans eg2)
              rw [eb, hw0] at w
              simpa using (congrArg (fun l : Option Lab => (l.map (·.2)).getD [])  w).symm
          | _ => exact k.elim
      · exact k.elim
def sto2S (i : Nat) (f : Mo D) (fj fl : Pu D) : MS := fun ρ => match f ρ with
  | some (.ok d ρ1) => (match ρ1[i]?, fj ρ1, fl ρ1 with
    | some s, some (.int j), some (.int l) => (match s.tr with
      | some (.ol os) => (match atI os j, ixN os.length j with
        | some (.fl ds), some jj => (match ixN ds.length l with
          | some ll => some (.nx (ρ1.set i (s.put (.ol (os.set jj (.fl (ds.set ll d)))))))
          | none => none)
        | _, _ => none)
      | _ => none)
    | _, _, _ => none)
  | some (.ex c fs ρ1) => some (.ex c fs ρ1)
  | none => none
theorem s_sto2 {i : Nat} {o ej el : Expr} {fj fl : Pu D} {p0 p1 : Pos} (he : PE X e (tV X.K X.mg Wx ga)) (ho : PE X o (tVar i)) (hj : PE X ej (tP X.K fj)) (hl : PE X el (tP X.K fl)) (hix : PlainIx ej)
    (has : ∀ v, assign (.Subscript (.Subscript o ej p0) el p1) X.env v = (do
      let ov ← holding [v] (eval (.Subscript o ej p0) X.env)
      let iv ← holding [v, ov] (eval el X.env)
      standAt p1
      holding [v, ov, iv] (setItem ov iv v)
      release [v, ov, iv] []) := by intro _; rfl)
    (hs : swapsWithSole [.Subscript (.Subscript o ej p0) el p1] e pos.line X.env = pure false := by rfl) (hw : swappedStores [.Subscript (.Subscript o ej p0) el p1] e X.env = pure none := by rfl)
    (h1 : (assignEach [.Subscript (.Subscript o ej p0) el p1] X.env).map (·.2) = [assign (.Subscript (.Subscript o ej p0) el p1) X.env] := by rfl) : PS X (.Assign [.Subscript (.Subscript o ej p0) el p1] e pos) (tS X.K X.mg Wx (sto2S i ga fj fl)) := (ps_asg he (pg_sub (pe_ix ix_list ho hj hix) hl set_list has) hs hw h1).wk fun D0 σ H ⟨g, ρ, T, G, W, hR, k⟩ => by
  refine ⟨g, ρ, T, G, W, hR, ?_⟩
  unfold sto2S at k
  cases h1 : ga ρ with
  | none => rw [h1] at k; exact k.elim
  | some r =>
    rw [h1] at k
    cases r with
    | ex c fs ρ1 => exact k
    | ok d ρ1 =>
      intro v H1 G1 W1 R1 eg1 r1
      dsimp only at k
      split at k
      · rename_i s j l e0 ej el
        cases e1 : s.tr with
        | none => rw [e1] at k; exact k.elim
        | some o0 =>
          rw [e1] at k
          cases o0 with
          | ol os =>
            dsimp only at k
            split at k
            · rename_i ds jj e2 e3
              cases e4 : ixN ds.length l with
              | none => rw [e4] at k; exact k.elim
              | some ll =>
                rw [e4] at k
                obtain ⟨v0, hv0, _⟩ := R1.slo e0 e1
                refine ⟨v0, hv0, g, ρ1, T, G1, W1, .int j, R1, ej, fun vj H2 G2 R2 eg2 eh2 rj => ?_⟩
                obtain ⟨a, xs, b, ys, jj', hv, ha, hat, hb, hgb, hr, hjj, wr⟩ := R2.wr1 e0 e1 e2
                rw [hv0] at hv; cases hv
                refine ⟨a, xs, j, .ref b, rfl, Rep.i.mp rj, SqL.of ha, hat, g, ρ1, T, G2, W1, .int l, R2, el, fun vl H3 G3 R3 eg3 eh3 rl => ?_⟩
                obtain ⟨a2, xs2, b2, ys2, jj2, hv2, ha2, hat2, hb2, hgb2, hr2, hjj2, wr2⟩ := R3.wr1 e0 e1 e2
                rw [hv0] at hv2; cases hv2
                have e5 := eh3 _ _ ha
                rw [ha2] at e5; cases e5
                rw [hat] at hat2; cases hat2
                rw [e3] at hjj2; cases hjj2
                refine ⟨b, ys2, l, ll, rfl, Rep.i.mp rl, hb2, by rw [← hr2.len]; exact e4, ?_⟩
                exact k σ _ G3 _ (wr2 G3 _ _ (Same.refl _) R3 (hr2.set ll (r1.mono (eg2.trans eg3))) (by rw [List.length_set]; exact R3.flen1 e0 e1 e2)) (eg1.trans (eg2.trans eg3))
            · exact k.elim
          | _ => exact k.elim
      · exact k.elim
/-! ### name += e -/
def augS (i : Nat) (h : Int → Int → Int) (f : Mo D) : MS := fun ρ => match var i ρ with
  | some (.int x) => (match f ρ with
    | some (.ok (.int y) ρ1) => if stb i ρ1 = true then some (.nx (ρ1.set i (.ow (.fr (.int (h x y)))))) else none
    | some (.ex c fs ρ1) => some (.ex c fs ρ1)
    | _ => none)
  | _ => none
theorem tAug_ok {K : PySem.W.Frag} {mg : MG} {i : Nat} {h : Int → Int → Int} : ∀ D0 σ H, tS K mg Wx (augS i h ga) D0 σ H → tAug i (tV K mg Wx ga) (ipI h) D0 σ H := fun D0 σ H ⟨g, ρ, T, G, W, hR, k⟩ => by
  unfold augS at k
  split at k
  · rename_i x e0
    obtain ⟨s, e1, e2⟩ := var_some e0
    obtain ⟨v, h1, h2⟩ := hR.slo e1 e2
    rw [Ow] at h2
    have hx := Rep.i.mp h2
    subst hx
    refine ⟨_, h1, g, ρ, T, G, W, hR, ?_⟩
    split at k
    · rename_i y ρ1 e3
      rw [e3]
      intro v H1 G1 W1 R1 eg1 r1
      split at k
      · rename_i hs
        refine ⟨x, y, rfl, Rep.i.mp r1, ?_⟩
        exact k _ H1 G1 _ ((R1.addT (Rep.i.mpr rfl)).setS (stb_lt hs)) eg1
      · exact k.elim
    · rename_i e3; rw [e3]; exact k
    · exact k.elim
  · exact k.elim
end
end Tr
namespace Tr
open PySem PySem.Spec PyProof.Rows L2
/-! ### slots of a comprehension -/
def wipeR (ρ : Rho) : List Nat → Rho
  | [] => ρ
  | v :: vs => (wipeR ρ vs).set v .no
def frOk (ρ : Rho) (vs : List Nat) : Bool := vs.all fun v => match ρ[v]? with
  | some .no => true
  | some (.ow (.fr _)) => true
  | _ => false
def unw (ρ0 ρ1 : Rho) : List Nat → Rho
  | [] => ρ1
  | v :: vs => (unw ρ0 ρ1 vs).set v (ρ0[v]?.getD .no)
theorem wipe_out {σ : L2.St} {j : Nat} : ∀ {vs : List Nat}, j ∉ vs → (wipe σ vs)[j]? = σ[j]?
  | [], _ => rfl
  | v :: vs, h => by
    unfold wipe
    rw [List.getElem?_set_ne (fun e => h (by rw [e]; exact List.mem_cons_self ..))]
    exact wipe_out fun z => h (List.mem_cons_of_mem _ z)
theorem wipe_in {σ : L2.St} {j : Nat} (hj : j < σ.length) : ∀ {vs : List Nat}, j ∈ vs → (wipe σ vs)[j]? = some none
  | v :: vs, h => by
    unfold wipe
    by_cases e : v = j
    · subst e
      rw [List.getElem?_set_self (by rw [wipe_length]; exact hj)]
    · rw [List.getElem?_set_ne e]
      exact wipe_in hj (by
        rcases List.mem_cons.mp h with z | z
        · exact absurd z.symm e
        · exact z)
theorem wipe_eq {σ σ' : L2.St} {vs is : List Nat} (h : Offs is σ σ') (hi : ∀ i ∈ is, i ∈ vs) : wipe σ' vs = wipe σ vs := by
  apply List.ext_getElem?
  intro j
  by_cases hj : j ∈ vs
  · by_cases hl : j < σ.length
    · rw [wipe_in hl hj, wipe_in (by rw [h.1]; exact hl) hj]
    · rw [List.getElem?_eq_none (by rw [wipe_length, h.1]; omega), List.getElem?_eq_none (by rw [wipe_length]; omega)]
  · rw [wipe_out hj, wipe_out hj]
    exact h.2 j fun z => hj (hi j z)
theorem wipe_wipe {σ : L2.St} {vs : List Nat} : wipe (wipe σ vs) vs = wipe σ vs := by
  apply List.ext_getElem?
  intro j
  by_cases hj : j ∈ vs
  · by_cases hl : j < σ.length
    · rw [wipe_in (by rw [wipe_length]; exact hl) hj, wipe_in hl hj]
    · rw [List.getElem?_eq_none (by rw [wipe_length, wipe_length]; omega), List.getElem?_eq_none (by rw [wipe_length]; omega)]
  · rw [wipe_out hj]
theorem unw_length {ρ0 ρ1 : Rho} : ∀ {vs : List Nat}, (unw ρ0 ρ1 vs).length = ρ1.length
  | [] => rfl
  | v :: vs => by unfold unw; rw [List.length_set, unw_length]
theorem unw_out {ρ0 ρ1 : Rho} {j : Nat} : ∀ {vs : List Nat}, j ∉ vs → (unw ρ0 ρ1 vs)[j]? = ρ1[j]?
  | [], _ => rfl
  | v :: vs, h => by
    unfold unw
    rw [List.getElem?_set_ne (fun e => h (by rw [e]; exact List.mem_cons_self ..))]
    exact unw_out fun z => h (List.mem_cons_of_mem _ z)
theorem unw_in {ρ0 ρ1 : Rho} {j : Nat} (hj : j < ρ1.length) : ∀ {vs : List Nat}, j ∈ vs → (unw ρ0 ρ1 vs)[j]? = some (ρ0[j]?.getD .no)
  | v :: vs, h => by
    unfold unw
    by_cases e : v = j
    · subst e
      rw [List.getElem?_set_self (by rw [unw_length]; exact hj)]
    · rw [List.getElem?_set_ne e]
      exact unw_in hj (by
        rcases List.mem_cons.mp h with z | z
        · exact absurd z.symm e
        · exact z)
section
variable {K : PySem.W.Frag} {g : Gs} {ρ ρ' ρ0 ρ1 : Rho} {T T' : List (O × V)} {σ σ' : L2.St} {H H' G G' : Hp} {W W' : Own} {o : O} {v : V} {p : Addr} {d : D} {i k : Nat} {u : HO}
theorem R.wipe (h : R K g ρ T σ H G W) : ∀ vs : List Nat, R K g (wipeR ρ vs) T (L2.wipe σ vs) H G W
  | [] => h
  | v :: vs => by
    unfold wipeR L2.wipe
    exact (h.wipe vs).noS
theorem R.unwipe {vs : List Nat} (h0 : R K g ρ0 T σ H G W) (hf : frOk ρ0 vs = true) (h : R K g ρ1 T' (L2.wipe σ vs) H' G' W') (eg : Same G G') : R K g (unw ρ0 ρ1 vs) T' σ H' G' W' := by
  have hl : ρ1.length = σ.length := by rw [h.len, wipe_length]
  refine h.relab (by rw [unw_length]; exact hl) (fun b l w => ⟨l, w⟩) (fun j s q => ?_) h.tm
  by_cases hj : j ∈ vs
  · have hjl : j < ρ1.length := by
      by_cases hjl : j < ρ1.length
      · exact hjl
      · rw [List.getElem?_eq_none (by rw [unw_length]; omega)] at q; cases q
    rw [unw_in hjl hj] at q
    have hs := (List.all_eq_true.mp hf) j hj
    cases e : ρ0[j]? with
    | none => rw [e] at q; cases q; trivial
    | some s0 =>
      rw [e] at q hs
      cases q
      cases s0 with
      | no => trivial
      | le o => cases hs
      | ow o =>
        cases o with
        | fr d =>
          obtain ⟨v, h1, h2⟩ := h0.sl j _ e
          rw [Ow] at h2
          exact ⟨v, h1, by rw [Ow]; exact h2.mono eg⟩
        | _ => cases hs
  · rw [unw_out hj] at q
    exact (h.sl j s q).keep (Same.refl _) (fun a z w => ⟨rfl, w⟩) (wipe_out hj).symm
theorem Rt.t_ne {k : Nat} : Rt.t k ≠ Rt.t (k + 1) := fun e => by
  injection e with e
  omega
/-- the last temporary is put behind the list before it -/
theorem R.pushT {acc : List O} {a : Addr} (h : R K g ρ (T ++ [(.ol acc, .ref a)] ++ [(o, v)]) σ H G W) (hz : acc.length < sizeLine) :
    ∃ xs W', H a = some (.lst xs) ∧ xs.length = acc.length ∧ R K g ρ (T ++ [(.ol (acc ++ [o]), .ref a)]) σ (upd H a (.lst (xs ++ [v]))) G W' := by
  have h1 : Ow K G H W (.ol acc) (.ref a) (.t T.length) [] := h.tm T.length _ _ (by simp)
  have h2 : Ow K G H W o v (.t (T.length + 1)) [] := h.tm (T.length + 1) _ _ (by simp)
  rw [Ow] at h1
  obtain ⟨a', xs, ea, ha, hw, hos, _⟩ := h1
  cases ea
  refine ⟨xs, wRen W (.t (T.length + 1)) (.t T.length) [acc.length], ha, hos.len.symm, ?_⟩
  have ga := h.wl a _ hw
  have hne : ∀ {b : Addr} {l : Lab}, W b = some l → l ≠ (.t T.length, []) → b ≠ a := fun {b l} w n eq => n (by rw [eq, hw] at w; exact (Option.some.inj w).symm)
  refine ⟨fun b x q => ?_, fun b x q => ?_, h.gg, h.sep, fun b l w => ?_, h.len, fun j s q => ?_, fun k o' v' q => ?_⟩
  · rw [upd_ne (fun z => by rw [z, ga.1] at q; cases q)]; exact h.gh b x q
  · rw [upd_ne (fun z => by rw [z, ga.2.1] at q; cases q)]; exact h.kh b x q
  · obtain ⟨l', w'⟩ := wRen_none w
    refine ⟨(h.wl b l' w').1, (h.wl b l' w').2.1, ?_⟩
    by_cases hb : b = a
    · rw [hb, upd_same]; exact fun z => nomatch z
    · rw [upd_ne hb]; exact (h.wl b l' w').2.2
  · exact (h.sl j s q).keep (Same.refl G) (fun b z w => ⟨upd_ne (hne w fun z => nomatch z), wRen_ne w fun z => nomatch z⟩) rfl
  · rcases getElem?_snoc q with ⟨q2, hk⟩ | ⟨ek, q2⟩
    · refine (h.tm k o' v' (by rw [List.append_assoc, List.getElem?_append_left hk]; exact q2)).keep (Same.refl G) fun b z w => ⟨upd_ne (hne w fun z => ?_), wRen_ne w fun z => ?_⟩
      · cases z; exact absurd hk (Nat.lt_irrefl _)
      · injection z with z; omega
    · cases q2
      subst ek
      rw [Ow]
      refine ⟨a, xs ++ [v], rfl, upd_same, wRen_ne hw Rt.t_ne, Ows.append (hos.move1 (Same.refl G) fun b z w hz => ⟨upd_ne (hne w fun e => ?_), wRen_ne w Rt.t_ne⟩) ?_, by rw [List.length_append]; exact hz⟩
      · cases e; exact hz rfl
      · rw [Ows]
        refine ⟨v, [], rfl, ?_, by rw [Ows]⟩
        rw [Nat.zero_add]
        have := Ow.move (K := K) (G := G) (G' := G) (H := H) (H' := upd H a (.lst (xs ++ [v]))) (W := W) (W' := wRen W (.t (T.length + 1)) (.t T.length) [acc.length]) (r := .t (T.length + 1)) (r' := .t T.length) (q := []) (q' := [acc.length]) (o := o) (v := v) (Same.refl G) []
          (fun b z w => ⟨upd_ne (hne w fun e => Rt.t_ne (congrArg Prod.fst e).symm), wRen_eq w⟩) h2
        simpa using this
end
section
variable {X : Cx} {e a b c elt tg iter : Expr} {ifs es : List Expr} {Wx : WX} {pos : Pos} {mi : Mo (List D)} {t : D → Rho → Option Rho} {q : Mo Bool} {fe : Mo O} {is vs : List Nat} {ga : Mo D}
abbrev W0 : WX := fun _ _ _ _ => False
def yes : Mo Bool := fun ρ => some (.ok true ρ)
theorem _root_.L2.PTs.wk {X : Cx} {e : List Expr} {t t' : TT} (h : PTs X e t) (w : ∀ σ H Q, t' σ H Q → t σ H Q) : PTs X e t' := ⟨fun pins s σ H Q I q => h.run pins s σ H Q I (w σ H Q q)⟩
theorem t_nil : PTs X [] (tY X.K X.mg Wx yes) := pts_nil.wk fun σ H Q ⟨g, ρ, T, G, W, hR, k⟩ => k H G W hR (Same.refl G)
theorem t_one (h : PT X c (tY X.K X.mg Wx q)) : PTs X [c] (tY X.K X.mg Wx q) := pts_one h
def lcL (t : D → Rho → Option Rho) (q : Mo Bool) (fe : Mo O) (vs : List Nat) : List D → Rho → Option (List O × Rho)
  | [], ρ => some ([], ρ)
  | d :: ds, ρ => match t d ρ with
    | none => none
    | some ρ1 => (match q ρ1 with
      | some (.ok true ρ2) => (match fe ρ2 with
        | some (.ok o ρ3) => (match lcL t q fe vs ds (wipeR ρ3 vs) with
          | some (os, ρ4) => some (o :: os, ρ4)
          | none => none)
        | _ => none)
      | some (.ok false ρ2) => lcL t q fe vs ds (wipeR ρ2 vs)
      | _ => none)
def lcM (mi : Mo (List D)) (t : D → Rho → Option Rho) (q : Mo Bool) (fe : Mo O) (vs : List Nat) : Mo O := fun ρ => match mi ρ with
  | some (.ok ds ρ0) => if frOk ρ0 vs = true then (match lcL t q fe vs ds (wipeR ρ0 vs) with
    | some (os, ρ1) => some (.ok (mkL os) (unw ρ0 ρ1 vs))
    | none => none) else none
  | some (.ex c fs ρ0) => some (.ex c fs ρ0)
  | none => none
theorem R.mkT {K : PySem.W.Frag} {g : Gs} {ρ : Rho} {T : List (O × V)} {σ : L2.St} {H G : Hp} {W : Own} {os : List O} {v : V} (h : R K g ρ (T ++ [(.ol os, v)]) σ H G W) : R K g ρ (T ++ [(mkL os, v)]) σ H G W := by
  refine h.relab h.len (fun b l w => ⟨l, w⟩) h.sl fun k o v e => ?_
  rcases getElem?_snoc e with ⟨e2, hk⟩ | ⟨ek, e2⟩
  · exact h.tm k o v (by rw [List.getElem?_append_left hk]; exact e2)
  · cases e2; subst ek; exact (h.tm T.length _ _ snoc_last).mkL
theorem tLc_ok {K : PySem.W.Frag} {mg : MG} (his : ∀ i ∈ is, i ∈ vs) : ∀ σ H Q, tX K mg Wx (lcM mi t q fe vs) σ H Q → tLc (tI K mg Wx mi) (tG K is t) (tY K mg W0 q) (tX K mg W0 fe) vs σ H Q := fun σ H Q ⟨g, ρ, T, G, W, hR, k⟩ => by
  refine ⟨g, ρ, T, G, W, hR, ?_⟩
  unfold lcM at k
  cases h1 : mi ρ with
  | none => rw [h1] at k; exact k.elim
  | some r =>
    rw [h1] at k
    cases r with
    | ex c fs ρ0 => exact k
    | ok ds ρ0 =>
      intro J H1 G1 W1 R1 eg1 wk a ha
      dsimp only at k
      by_cases hf : frOk ρ0 vs = true
      · rw [if_pos hf] at k
        cases h2 : lcL t q fe vs ds (wipeR ρ0 vs) with
        | none => rw [h2] at k; exact k.elim
        | some pr =>
          obtain ⟨osE, ρE⟩ := pr
          rw [h2] at k
          have R0 : R K g (wipeR ρ0 vs) (T ++ [(.ol [], .ref a)]) (wipe σ vs) (upd H1 a (.lst [])) G1 (wJoin W1 T.length a) := by
            have hw0 : R K g (wipeR ρ0 vs) (T ++ []) (wipe σ vs) H1 G1 W1 := by
              rw [List.append_nil]; exact R1.wipe vs
            exact hw0.newL (ts := []) ha (Nat.zero_le _)
          refine ⟨fun i m H => m = ds.length - i ∧ i ≤ ds.length ∧ ∃ ρ2 G2 W2 acc os, acc.length ≤ i ∧ R K g ρ2 (T ++ [(.ol acc, .ref a)]) (wipe σ vs) H G2 W2 ∧ Same G1 G2 ∧ lcL t q fe vs (ds.drop i) ρ2 = some (os, ρE) ∧ acc ++ os = osE,
            ⟨ds.length, by simp, Nat.zero_le _, _, G1, _, [], osE, Nat.le_refl _, R0, Same.refl _, by rw [List.drop_zero]; exact h2, rfl⟩, fun i m H2 hW => ?_⟩
          obtain ⟨rfl, hi, ρ2, G2, W2, acc, os, hacc, R2, eg2, hl, ho⟩ := hW
          have hH : Same G1 H2 := eg2.trans R2.gh
          by_cases hlt : i < ds.length
          · refine .inr ⟨wk.go i H2 hH hlt, fun H' => ∃ ρ3 G3 W3 acc os, acc.length ≤ i + 1 ∧ R K g ρ3 (T ++ [(.ol acc, .ref a)]) (wipe σ vs) H' G3 W3 ∧ Same G1 G3 ∧ lcL t q fe vs (ds.drop (i + 1)) ρ3 = some (os, ρE) ∧ acc ++ os = osE, fun H' hn => ⟨ds.length - (i + 1), by omega, rfl, by omega, hn⟩, fun x H' hy => ?_⟩
            have hd : ds[i]? = some ds[i] := List.getElem?_eq_getElem hlt
            rw [List.drop_eq_getElem_cons hlt] at hl
            unfold lcL at hl
            obtain ⟨G3, gr, rx⟩ := wk.yld i H2 x H' _ hH hd hy G2 eg2 R2.gh
            obtain ⟨R3, _, eg3⟩ := R2.grow gr
            cases h3 : t ds[i] ρ2 with
            | none => rw [h3] at hl; cases hl
            | some ρ3 =>
              rw [h3] at hl
              refine ⟨g, ρ2, T ++ [(.ol acc, .ref a)], G3, W2, ds[i], ρ3, R3, rx, h3, fun σ4 H4 G4 W4 R4 eg4 off => ?_⟩
              have ew : wipe σ4 vs = wipe σ vs := (wipe_eq off his).trans wipe_wipe
              refine ⟨ew, g, ρ3, T ++ [(.ol acc, .ref a)], G4, W4, R4, ?_⟩
              dsimp only at hl
              have e24 := eg3.trans eg4
              cases h4 : q ρ3 with
              | none => rw [h4] at hl; cases hl
              | some r =>
                rw [h4] at hl
                cases r with
                | ex c fs ρ5 => cases hl
                | ok bb ρ5 =>
                  intro H5 G5 W5 R5 eg5
                  cases bb with
                  | false =>
                    refine iteF ⟨_, G5, W5, acc, os, by omega, ?_, eg2.trans (e24.trans eg5), hl, ho⟩
                    have := R5.wipe vs
                    rw [ew] at this
                    exact this
                  | true =>
                    refine iteT ⟨g, ρ5, T ++ [(.ol acc, .ref a)], G5, W5, R5, ?_⟩
                    dsimp only at hl
                    cases h6 : fe ρ5 with
                    | none => rw [h6] at hl; cases hl
                    | some r =>
                      rw [h6] at hl
                      cases r with
                      | ex c fs ρ6 => cases hl
                      | ok o ρ6 =>
                        intro y H6 G6 W6 R6 eg6
                        have hz : acc.length < sizeLine := Nat.lt_of_le_of_lt hacc (Nat.lt_of_lt_of_le hlt wk.len)
                        obtain ⟨xs, W7, hx, hxl, R7⟩ := R6.pushT hz
                        refine ⟨xs, hx, by rw [hxl]; exact hz, ?_⟩
                        dsimp only at hl
                        cases h7 : lcL t q fe vs (ds.drop (i + 1)) (wipeR ρ6 vs) with
                        | none => rw [h7] at hl; cases hl
                        | some pr =>
                          obtain ⟨os7, ρ7⟩ := pr
                          rw [h7] at hl
                          cases hl
                          refine ⟨_, G6, W7, acc ++ [o], os7, by rw [List.length_append]; simp; omega, ?_, eg2.trans (e24.trans (eg5.trans eg6)), h7, by rw [List.append_assoc]; exact ho⟩
                          have := R7.wipe vs
                          rw [ew] at this
                          exact this
          · refine .inl ⟨wk.stop i H2 hH (by omega), ?_⟩
            rw [List.drop_eq_nil_of_le (by omega)] at hl
            cases hl
            rw [List.append_nil] at ho
            subst ho
            exact k _ H2 G2 W2 ((R1.unwipe hf R2 eg2).mkT) (eg1.trans eg2)
      · rw [if_neg hf] at k; exact k.elim
theorem x_lc {scope : Scope} {own : List (Str × Nat)} (hc : X.calm = true) (hN : X.N.Nodup) (hi : PI X tg iter (tI X.K X.mg Wx mi)) (ok : BlkOk X.N X.env.scope scope own)
    (hg : ∀ (s : Shared) (H : Hp) (C : Addr) (cl : List (Str × Addr)) (fp : List Addr), PG (X.blk s H scope (compEnvC scope cl C X.env) fp) tg (tG X.K is t)) (ht : ∀ (s : Shared) (H : Hp) (C : Addr) (cl : List (Str × Addr)) (fp : List Addr), PTs (X.blk s H scope (compEnvC scope cl C X.env) fp) ifs (tY X.K X.mg W0 q))
    (he : ∀ (s : Shared) (H : Hp) (C : Addr) (cl : List (Str × Addr)) (fp : List Addr), PE (X.blk s H scope (compEnvC scope cl C X.env) fp) elt (tX X.K X.mg W0 fe)) (his : ∀ i ∈ is, i ∈ own.map (·.2)) (hs : ∀ x, foldedSetIterable iter X.env x = pure x := by intro _; rfl) :
    PE X (.ListComp elt [⟨tg, iter, ifs, 0⟩] scope pos) (tX X.K X.mg Wx (lcM mi t q fe (own.map (·.2)))) := (pe_lc hc hN hi ok hg ht he hs).wk (tLc_ok his)
theorem s_setLc {i : Nat} {y : Str} {py spos : Pos} {scope : Scope} {own : List (Str × Nat)} (hc : X.calm = true) (hN : X.N.Nodup) (hy : X.N[i]? = some y) (hyl : X.env.scope.names.lookup y = some .local)
    (hsw : swapsWith (.ListComp elt [⟨tg, iter, ifs, 0⟩] scope pos) (some (.Name y py)) spos.line X.env = pure true) (hi : PI X tg iter (tI X.K X.mg Wx mi)) (ok : BlkOk X.N X.env.scope scope own)
    (hg : ∀ (s : Shared) (H : Hp) (C : Addr) (cl : List (Str × Addr)) (fp : List Addr), PG (X.blk s H scope (compEnvC scope cl C X.env) fp) tg (tG X.K is t)) (ht : ∀ (s : Shared) (H : Hp) (C : Addr) (cl : List (Str × Addr)) (fp : List Addr), PTs (X.blk s H scope (compEnvC scope cl C X.env) fp) ifs (tY X.K X.mg W0 q))
    (he : ∀ (s : Shared) (H : Hp) (C : Addr) (cl : List (Str × Addr)) (fp : List Addr), PE (X.blk s H scope (compEnvC scope cl C X.env) fp) elt (tX X.K X.mg W0 fe)) (his : ∀ i ∈ is, i ∈ own.map (·.2)) (hs : ∀ x, foldedSetIterable iter X.env x = pure x := by intro _; rfl) :
    PS X (.Assign [.Name y py] (.ListComp elt [⟨tg, iter, ifs, 0⟩] scope pos) spos) (tS X.K X.mg Wx (setS i (lcM mi t q fe (own.map (·.2))))) := (ps_setLc hc hN hy hyl hsw hi ok hg ht he hs).wk fun D0 σ H h => tLc_ok his σ H _ (tSet D0 σ H h)
end
end Tr
namespace Tr
open PySem PySem.Spec PyProof.Rows L2
/-- a def's result: the value, the lent things as they are left; or an error -/
inductive FR where
  | ret (o : O) (outs : List Sl)
  | ex (c : Str) (fs : List (Str × D)) (outs : List Sl)
abbrev FS := List Sl → Option FR
/-- arguments: frozen values, lent trees -/
def argOk : Sl → Bool
  | .ow (.fr _) => true
  | .le _ => true
  | _ => false
def GF (K : PySem.W.Frag) (mg : MG) (g : Gs) (vs : List V) (G : Hp) (Q : VK) (E : XK) : Option FR → Prop
  | none => False
  | some (.ret o outs) => ∀ v H' G' W', R K g outs [(o, v)] (vs.map some) H' G' W' → Same G G' → Q v H'
  | some (.ex c fs outs) => ∀ C d fv H' G' W', mg c = some (.ref C) → R K g outs [] (vs.map some) H' G' W' → Same G G' → G' d = some (.xd fv) → FsRep K G' fs fv → E (.ref C) (some d) H'
def spF (K : PySem.W.Frag) (mg : MG) (n : Nat) (F : FS) : Sp := fun vs H Q E => vs.length = n ∧ ∃ kp G W args, args.all argOk = true ∧ R K ⟨kp, G, vs⟩ args [] (vs.map some) H G W ∧ GF K mg ⟨kp, G, vs⟩ vs G Q E (F args)
/-- a weaker promise: fewer arguments are served -/
theorem spF_imp {K : PySem.W.Frag} {mg : MG} {n : Nat} {F F' : FS} (h : ∀ a r, F' a = some r → F a = some r) : ∀ vs H Q E, spF K mg n F' vs H Q E → spF K mg n F vs H Q E := fun vs H Q E ⟨hn, kp, G, W, args, ha, hR, k⟩ => by
  refine ⟨hn, kp, G, W, args, ha, hR, ?_⟩
  cases e : F' args with
  | none => rw [e] at k; exact k.elim
  | some r => rw [e] at k; rw [h args r e]; exact k
/-! ### a body keeps its promise -/
def lent : Sl → Sl
  | .le o => .le o
  | _ => .no
/-- a body as a function of its arguments -/
def runF (N n : Nat) (f : MS) : FS := fun args => match f (args ++ List.replicate (N - n) .no) with
  | some (.rt o ρ) => if n ≤ ρ.length then some (.ret o ((ρ.take n).map lent)) else none
  | some (.nx ρ) => if n ≤ ρ.length then some (.ret (.fr .non) ((ρ.take n).map lent)) else none
  | some (.ex c fs ρ) => if n ≤ ρ.length then some (.ex c fs ((ρ.take n).map lent)) else none
  | _ => none
section
variable {K : PySem.W.Frag} {g : Gs} {ρ : Rho} {T : List (O × V)} {σ : L2.St} {H G : Hp} {W : Own} {vs : List V}
theorem R.out {n : Nat} (h : R K g ρ T σ H G W) (hv : g.lv = vs) (hn : vs.length = n) (hl : n ≤ ρ.length) : R K g ((ρ.take n).map lent) T (vs.map some) H G W := by
  refine ⟨h.gh, h.kh, h.gg, h.sep, h.wl, ?_, fun i s q => ?_, h.tm⟩
  · rw [List.length_map, List.length_take, List.length_map]; omega
  · rw [List.getElem?_map] at q
    cases e : (ρ.take n)[i]? with
    | none => rw [e] at q; cases q
    | some s0 =>
      rw [e] at q
      cases q
      have hi : i < n := by
        by_cases hi : i < n
        · exact hi
        · rw [List.getElem?_eq_none (by rw [List.length_take]; omega)] at e; cases e
      rw [List.getElem?_take_of_lt hi] at e
      cases s0 with
      | no => trivial
      | ow o => trivial
      | le o =>
        obtain ⟨v, h1, h2, h3⟩ := h.sl i _ e
        refine ⟨v, ?_, h2, h3⟩
        rw [hv] at h2
        rw [List.getElem?_map, h2]; rfl
theorem R.begin {N : List Str} {args : List Sl} (h : R K g args [] (vs.map some) H G W) (hN : vs.length ≤ N.length) : R K g (args ++ List.replicate (N.length - args.length) .no) [] (L2.start N vs) H G W := by
  have hl : args.length = vs.length := by have := h.len; rw [List.length_map] at this; exact this
  refine h.relab ?_ (fun b l w => ⟨l, w⟩) (fun i s q => ?_) (fun k o v e => by simp at e)
  · unfold L2.start
    rw [List.length_append, List.length_append, List.length_replicate, List.length_replicate, List.length_map, hl]
  · by_cases hi : i < args.length
    · rw [List.getElem?_append_left hi] at q
      have := h.sl i s q
      refine this.keep (Same.refl _) (fun a z w => ⟨rfl, w⟩) ?_
      unfold L2.start
      rw [List.getElem?_append_left (by rw [List.length_map]; omega)]
    · rw [List.getElem?_append_right (by omega), List.getElem?_replicate] at q
      split at q
      · cases q; trivial
      · cases q
end
section
variable {P : Program} {w : World} {K : PySem.W.Frag} {mg : MG} {base : Heap}
/-- what a body must be -/
theorem fn_ok {x qual : Str} {st : Stmt} {f : Addr} {fd : FuncData} {N ps : List Str} {k : Nat} {ms : MS} (F : Fun K x qual st f fd) (S : FnScope N ps (defScope st)) (hn : ps.length ≤ N.length)
    (hbody : ∀ (cdv : Value) (A : Around) (outer : List Env) (s : Shared) (H : Hp) (E : XK), Room k (A.deeper (envOfC qual (defScope st) s.heap.objs.size f cdv)) →
      PSs (cxOf (L2.CX P w) P w K mg base N qual (defScope st) f cdv A outer s H E) (defBody st) (tS K mg (fun cls d _ H => E cls d H) ms)) : FnOk P w K mg base (L2.CX P w) (k + 1) f fd ps (spF K mg ps.length (runF N.length ps.length ms)) := by
  refine F.okX S (fun vs H Q E h => h.1) fun cdv A outer s H vs Q E hr h => ⟨_, hbody cdv A outer s H E hr, ?_⟩
  obtain ⟨hv, kp, G, W, args, ha, hR, k⟩ := h
  have hl : args.length = vs.length := by have := hR.len; rw [List.length_map] at this; exact this
  have hR' := hR.begin (N := N) (by omega)
  rw [hl, hv] at hR'
  refine ⟨⟨kp, G, vs⟩, _, [], G, W, hR', ?_⟩
  unfold runF at k
  cases h1 : ms (args ++ List.replicate (N.length - ps.length) .no) with
  | none => rw [h1] at k; exact k.elim
  | some r =>
    rw [h1] at k
    cases r with
    | nx ρ =>
      dsimp only at k
      by_cases hl : ps.length ≤ ρ.length
      · rw [if_pos hl] at k
        exact fun σ' H' G' W' R' eg => k .non H' G' W' ((R'.out rfl hv hl).addT (T := []) (Rep.nn.mpr rfl)) eg
      · rw [if_neg hl] at k; exact k.elim
    | rt o ρ =>
      dsimp only at k
      by_cases hl : ps.length ≤ ρ.length
      · rw [if_pos hl] at k
        exact fun v σ' H' G' W' R' eg => k v H' G' W' (R'.out rfl hv hl) eg
      · rw [if_neg hl] at k; exact k.elim
    | ex c fs ρ =>
      dsimp only at k
      by_cases hl : ps.length ≤ ρ.length
      · rw [if_pos hl] at k
        exact fun C d fv σ' H' G' W' hm R' eg hd hf => k C d fv H' G' W' hm (R'.out rfl hv hl) eg hd hf
      · rw [if_neg hl] at k; exact k.elim
    | bk ρ => exact k.elim
    | ct ρ => exact k.elim
end
/-! ### calls -/
inductive Ag where
  | v (d : D)
  | l (i : Nat)
def AgOk (K : PySem.W.Frag) (G : Hp) (σ : L2.St) : List Ag → List V → Prop
  | [], vs => vs = []
  | .v d :: r, vs => ∃ x xr, vs = x :: xr ∧ Rep K G d x ∧ AgOk K G σ r xr
  | .l i :: r, vs => ∃ x xr, vs = x :: xr ∧ σ[i]? = some (some x) ∧ AgOk K G σ r xr
theorem AgOk.mono {K : PySem.W.Frag} {G G' : Hp} {σ : L2.St} (e : Same G G') : ∀ {as : List Ag} {vs : List V}, AgOk K G σ as vs → AgOk K G' σ as vs
  | [], _, h => h
  | .v d :: r, _, ⟨x, xr, e1, h1, h2⟩ => ⟨x, xr, e1, h1.mono e, h2.mono e⟩
  | .l i :: r, _, ⟨x, xr, e1, h1, h2⟩ => ⟨x, xr, e1, h1, h2.mono e⟩
theorem AgOk.len {K : PySem.W.Frag} {G : Hp} {σ : L2.St} : ∀ {as : List Ag} {vs : List V}, AgOk K G σ as vs → vs.length = as.length
  | [], vs, h => by
    have h' : vs = [] := h
    rw [h']; rfl
  | .v d :: r, _, ⟨x, xr, e1, h1, h2⟩ => by rw [e1, List.length_cons, List.length_cons, h2.len]
  | .l i :: r, _, ⟨x, xr, e1, h1, h2⟩ => by rw [e1, List.length_cons, List.length_cons, h2.len]
def toSl (ρ : Rho) : List Ag → Option (List Sl)
  | [] => some []
  | .v d :: r => (toSl ρ r).map (.ow (.fr d) :: ·)
  | .l i :: r => match ρ[i]?.bind Sl.tr, toSl ρ r with
    | some o, some l => some (.le o :: l)
    | _, _ => none
/-- the lent slots -/
def lents : List Ag → List (Option Nat)
  | [] => []
  | .v _ :: r => none :: lents r
  | .l i :: r => some i :: lents r
def back : List Ag → List Sl → Rho → Option Rho
  | [], [], ρ => some ρ
  | .v _ :: r, _ :: os, ρ => back r os ρ
  | .l i :: r, .le o :: os, ρ => match ρ[i]? with
    | some s => back r os (ρ.set i (s.put o))
    | none => none
  | _, _, _ => none
def noDup : List Ag → Bool
  | [] => true
  | .v _ :: r => noDup r
  | .l i :: r => !((lents r).contains (some i)) && noDup r
def callM (n : Nat) (F : FS) (f : Mo (List Ag)) : Mo O := fun ρ => match f ρ with
  | some (.ok ags ρ1) => if noDup ags = true ∧ ags.length = n then (match toSl ρ1 ags with
    | some args => (match F args with
      | some (.ret o outs) => (match back ags outs ρ1 with
        | some ρ2 => some (.ok o ρ2)
        | none => none)
      | some (.ex c fs outs) => (match back ags outs ρ1 with
        | some ρ2 => some (.ex c fs ρ2)
        | none => none)
      | none => none)
    | none => none) else none
  | some (.ex c fs ρ1) => some (.ex c fs ρ1)
  | none => none
def tAg (K : PySem.W.Frag) (mg : MG) (Wx : WX) (f : Mo (List Ag)) : TA := fun σ H Q => ∃ g ρ T G W, R K g ρ T σ H G W ∧ GE K mg Wx g T G (fun as ρ' => ∀ vs H' G' W', R K g ρ' T σ H' G' W' → Same G G' → AgOk K G' σ as vs → Q vs H') (f ρ)
section
variable {K : PySem.W.Frag}
theorem toSl_all : ∀ {as : List Ag} {ρ : Rho} {args : List Sl}, toSl ρ as = some args → args.all argOk = true
  | [], _, _, h => by cases h; rfl
  | .v d :: r, ρ, _, h => by
    unfold toSl at h
    cases e : toSl ρ r with
    | none => rw [e] at h; cases h
    | some l => rw [e] at h; cases h; rw [List.all_cons, toSl_all e]; rfl
  | .l i :: r, ρ, _, h => by
    unfold toSl at h
    split at h
    · rename_i o l e1 e2
      cases h
      rw [List.all_cons, toSl_all e2]; rfl
    · cases h
theorem toSl_len : ∀ {as : List Ag} {ρ : Rho} {args : List Sl}, toSl ρ as = some args → args.length = as.length
  | [], _, _, h => by cases h; rfl
  | .v d :: r, ρ, _, h => by
    unfold toSl at h
    cases e : toSl ρ r with
    | none => rw [e] at h; cases h
    | some l => rw [e] at h; cases h; rw [List.length_cons, List.length_cons, toSl_len e]
  | .l i :: r, ρ, _, h => by
    unfold toSl at h
    split at h
    · rename_i o l e1 e2
      cases h
      rw [List.length_cons, List.length_cons, toSl_len e2]
    · cases h
/-- an argument by its place -/
theorem toSl_get {G : Hp} {σ : L2.St} : ∀ {as : List Ag} {ρ : Rho} {args : List Sl} {vs : List V} {j : Nat} {s : Sl}, toSl ρ as = some args → AgOk K G σ as vs → args[j]? = some s →
    (∃ d v, s = .ow (.fr d) ∧ vs[j]? = some v ∧ Rep K G d v ∧ (lents as)[j]? = some none) ∨ (∃ o v i s0, s = .le o ∧ vs[j]? = some v ∧ σ[i]? = some (some v) ∧ ρ[i]? = some s0 ∧ s0.tr = some o ∧ (lents as)[j]? = some (some i))
  | [], _, _, _, _, _, h, _, e => by cases h; simp at e
  | .v d :: r, ρ, _, _, j, s, h, ⟨x, xr, e1, h1, h2⟩, e => by
    unfold toSl at h
    subst e1
    cases e2 : toSl ρ r with
    | none => rw [e2] at h; cases h
    | some l =>
      rw [e2] at h; cases h
      cases j with
      | zero => simp at e; subst e; exact .inl ⟨d, x, rfl, rfl, h1, rfl⟩
      | succ j =>
        have := toSl_get (j := j) e2 h2 (by simpa using e)
        simpa [lents] using this
  | .l i :: r, ρ, _, _, j, s, h, ⟨x, xr, e1, h1, h2⟩, e => by
    unfold toSl at h
    subst e1
    split at h
    · rename_i o l e3 e2
      cases h
      cases j with
      | zero =>
        simp at e; subst e
        cases e4 : ρ[i]? with
        | none => rw [e4] at e3; cases e3
        | some s0 =>
          rw [e4] at e3
          exact .inr ⟨o, x, i, s0, rfl, rfl, h1, e4, e3, rfl⟩
      | succ j =>
        have := toSl_get (j := j) e2 h2 (by simpa using e)
        simpa [lents] using this
    · cases h
/-- where a slot is lent -/
def lentAt (as : List Ag) (i : Nat) : Option Nat := (lents as).findIdx? (· == some i)
theorem lentAt_some {as : List Ag} {i j : Nat} (h : lentAt as i = some j) : (lents as)[j]? = some (some i) := by
  unfold lentAt at h
  rw [List.findIdx?_eq_some_iff_getElem] at h
  obtain ⟨hj, h1, _⟩ := h
  rw [List.getElem?_eq_getElem hj]
  exact congrArg some (by simpa using h1)
theorem noDup_inj : ∀ {as : List Ag} {i j k : Nat}, noDup as = true → (lents as)[j]? = some (some i) → (lents as)[k]? = some (some i) → j = k
  | [], _, _, _, _, h, _ => by simp [lents] at h
  | .v d :: r, i, j, k, hn, h1, h2 => by
    unfold noDup at hn
    cases j with
    | zero => simp [lents] at h1
    | succ j =>
      cases k with
      | zero => simp [lents] at h2
      | succ k =>
        have a1 : (lents r)[j]? = some (some i) := by simpa [lents] using h1
        have a2 : (lents r)[k]? = some (some i) := by simpa [lents] using h2
        rw [noDup_inj hn a1 a2]
  | .l m :: r, i, j, k, hn, h1, h2 => by
    unfold noDup at hn
    rw [Bool.and_eq_true] at hn
    have hm : some m ∉ lents r := by
      have := hn.1
      simp at this
      exact this
    cases j with
    | zero =>
      have e1 : m = i := by simpa [lents] using h1
      cases k with
      | zero => rfl
      | succ k =>
        have : (lents r)[k]? = some (some i) := by simpa [lents] using h2
        rw [← e1] at this
        exact absurd (List.mem_of_getElem? this) hm
    | succ j =>
      have a1 : (lents r)[j]? = some (some i) := by simpa [lents] using h1
      cases k with
      | zero =>
        have e1 : m = i := by simpa [lents] using h2
        rw [← e1] at a1
        exact absurd (List.mem_of_getElem? a1) hm
      | succ k =>
        have a2 : (lents r)[k]? = some (some i) := by simpa [lents] using h2
        rw [noDup_inj hn.2 a1 a2]
theorem lentAt_of {as : List Ag} {i j : Nat} (hn : noDup as = true) (h : (lents as)[j]? = some (some i)) : lentAt as i = some j := by
  cases e : lentAt as i with
  | none =>
    unfold lentAt at e
    rw [List.findIdx?_eq_none_iff] at e
    have := e _ (List.mem_of_getElem? h)
    simp at this
  | some k => rw [noDup_inj hn h (lentAt_some e)]
/-- what a slot is behind the call -/
theorem back_get : ∀ {as : List Ag} {outs : List Sl} {ρ ρ' : Rho}, back as outs ρ = some ρ' → noDup as = true → ρ'.length = ρ.length ∧ ∀ i : Nat, (∀ j : Nat, (lents as)[j]? ≠ some (some i)) ∧ ρ'[i]? = ρ[i]? ∨ ∃ (j : Nat) (o : O) (s : Sl), (lents as)[j]? = some (some i) ∧ outs[j]? = some (.le o) ∧ ρ[i]? = some s ∧ ρ'[i]? = some (s.put o)
  | [], [], ρ, ρ', h, _ => by
    cases h
    exact ⟨rfl, fun i => .inl ⟨fun j e => by simp [lents] at e, rfl⟩⟩
  | .v d :: r, x :: os, ρ, ρ', h, hn => by
    have hb : back r os ρ = some ρ' := by cases x <;> exact h
    obtain ⟨hl, hi⟩ := back_get hb hn
    refine ⟨hl, fun i => ?_⟩
    rcases hi i with ⟨h1, h2⟩ | ⟨j, o, s, h1, h2, h3, h4⟩
    · refine .inl ⟨fun j e => ?_, h2⟩
      cases j with
      | zero => simp [lents] at e
      | succ j => exact h1 j (by simpa [lents] using e)
    · exact .inr ⟨j + 1, o, s, by simpa [lents] using h1, by simpa using h2, h3, h4⟩
  | .l m :: r, .le o :: os, ρ, ρ', h, hn => by
    unfold noDup at hn
    rw [Bool.and_eq_true] at hn
    have hm : some m ∉ lents r := by
      have := hn.1
      simp at this
      exact this
    unfold back at h
    cases e : ρ[m]? with
    | none => rw [e] at h; cases h
    | some s =>
      rw [e] at h
      obtain ⟨hl, hi⟩ := back_get (ρ := ρ.set m (s.put o)) h hn.2
      have hml : m < ρ.length := by
        by_cases hml : m < ρ.length
        · exact hml
        · rw [List.getElem?_eq_none (by omega)] at e; cases e
      refine ⟨by rw [hl, List.length_set], fun i => ?_⟩
      by_cases him : i = m
      · subst him
        rcases hi i with ⟨h1, h2⟩ | ⟨j, o', s', h1, _⟩
        · rw [List.getElem?_set_self hml] at h2
          exact .inr ⟨0, o, s, rfl, rfl, e, h2⟩
        · exact absurd (List.mem_of_getElem? h1) hm
      · rcases hi i with ⟨h1, h2⟩ | ⟨j, o', s', h1, h2, h3, h4⟩
        · rw [List.getElem?_set_ne (fun z => him z.symm)] at h2
          refine .inl ⟨fun j e => ?_, h2⟩
          cases j with
          | zero =>
            have : m = i := by simpa [lents] using e
            exact him this.symm
          | succ j => exact h1 j (by simpa [lents] using e)
        · rw [List.getElem?_set_ne (fun z => him z.symm)] at h3
          exact .inr ⟨j + 1, o', s', by simpa [lents] using h1, by simpa using h2, h3, h4⟩
  | [], _ :: _, _, _, h, _ => by simp [back] at h
  | .v _ :: _, [], _, _, h, _ => by simp [back] at h
  | .l _ :: _, [], _, _, h, _ => by simp [back] at h
  | .l _ :: _, .no :: _, _, _, h, _ => by simp [back] at h
  | .l _ :: _, .ow _ :: _, _, _, h, _ => by simp [back] at h
/-- the callee's labels -/
def wIn (as : List Ag) (W : Own) : Own := fun b => match W b with
  | some (.s i, p) => (lentAt as i).map fun j => (.s j, p)
  | _ => none
/-- the cells that the callee may not touch -/
def kIn (as : List Ag) (W : Own) (H : Hp) : Hp := fun b => match wIn as W b with
  | some _ => none
  | none => H b
/-- the caller's labels behind the call -/
def wOut (as : List Ag) (n : Nat) (W W' : Own) : Own := fun b => match W' b with
  | some (.s j, p) => (match (lents as)[j]? with
    | some (some i) => some (.s i, p)
    | _ => none)
  | some (.t 0, p) => some (.t n, p)
  | some _ => none
  | none => (match wIn as W b with
    | some _ => none
    | none => W b)
variable {g : Gs} {ρ ρ2 : Rho} {T : List (O × V)} {σ : L2.St} {H H' G G' : Hp} {W W' : Own} {as : List Ag} {vs : List V} {args outs : List Sl}
theorem R.enter (h : R K g ρ T σ H G W) (ha : AgOk K G σ as vs) (hs : toSl ρ as = some args) (hn : noDup as = true) : R K ⟨kIn as W H, G, vs⟩ args [] (vs.map some) H G (wIn as W) where
  gh := h.gh
  kh := fun b x q => by
    have q' : kIn as W H b = some x := q
    unfold kIn at q'
    split at q'
    · cases q'
    · exact q'
  gg := Same.refl G
  sep := fun b x _ => x
  wl := fun b l w => by
    have w' := w
    unfold wIn at w
    split at w
    · rename_i i p e
      refine ⟨(h.wl b _ e).1, ?_, (h.wl b _ e).2.2⟩
      show kIn as W H b = none
      unfold kIn; rw [w']
    · cases w
  len := by rw [toSl_len hs, List.length_map, ha.len]
  sl := fun j s q => by
    rcases toSl_get hs ha q with ⟨d, v, rfl, h1, h2, _⟩ | ⟨o, v, i, s0, rfl, h1, h2, h3, h4, h5⟩
    · exact ⟨v, by rw [List.getElem?_map, h1]; rfl, by rw [Ow]; exact h2⟩
    · obtain ⟨v', h6, h7⟩ := h.slo h3 h4
      rw [h2] at h6; cases h6
      refine ⟨v, by rw [List.getElem?_map, h1]; rfl, h1, ?_⟩
      exact Ow.move (q := []) (q' := []) (Same.refl G) [] (fun a z w => ⟨rfl, by
        have w2 : W a = some (.s i, z) := w
        show wIn as W a = some (.s j, z)
        unfold wIn
        rw [w2]
        show (lentAt as i).map _ = _
        rw [lentAt_of hn h5]; rfl⟩) h7
  tm := fun k o v e => by simp at e
theorem wIn_some {b : Addr} {l : Lab} (h : wIn as W b = some l) : ∃ i p, W b = some (.s i, p) ∧ lentAt as i = some (match l.1 with | .s j => j | .t k => k) ∧ l.2 = p := by
  unfold wIn at h
  split at h
  · rename_i i p e
    cases e2 : lentAt as i with
    | none => rw [e2] at h; cases h
    | some j => rw [e2] at h; cases h; exact ⟨i, p, e, e2, rfl⟩
  · cases h
theorem R.leave (h : R K g ρ T σ H G W) (hn : noDup as = true) (h' : R K ⟨kIn as W H, G, vs⟩ outs T' (vs.map some) H' G' W') (eg : Same G G') (ha : AgOk K G σ as vs) (hb : back as outs ρ = some ρ2)
    (hT : T'.length ≤ 1) : R K g ρ2 (T ++ T') σ H' G' (wOut as T.length W W') := by
  obtain ⟨hl2, hi2⟩ := back_get hb hn
  -- a cell that is not lent: kept
  have kn : ∀ b x, H b = some x → wIn as W b = none → kIn as W H b = some x := fun b x e w => by unfold kIn; rw [w]; exact e
  have keepH : ∀ b x, H b = some x → wIn as W b = none → H' b = some x := fun b x e w => h'.kh b x (kn b x e w)
  have noW' : ∀ b x, H b = some x → wIn as W b = none → W' b = none := fun b x e w => by
    cases q : W' b with
    | none => rfl
    | some l =>
      have := (h'.wl b l q).2.1
      rw [show (Gs.mk (kIn as W H) G vs).kp b = kIn as W H b from rfl, kn b x e w] at this
      cases this
  have stay : ∀ b l, W b = some l → wIn as W b = none → H' b = H b ∧ wOut as T.length W W' b = some l := fun b l w wi => by
    cases e : H b with
    | none => exact absurd e (h.wl b l w).2.2
    | some x =>
      refine ⟨keepH b x e wi, ?_⟩
      unfold wOut
      rw [noW' b x e wi, wi]; exact w
  have kpW : ∀ b, g.kp b ≠ none → ∃ x, H b = some x ∧ wIn as W b = none ∧ W b = none := fun b hb => by
    cases e : g.kp b with
    | none => exact absurd e hb
    | some x =>
      have e2 := h.kh b x e
      have : W b = none := by
        cases q : W b with
        | none => rfl
        | some l => rw [(h.wl b l q).2.1] at e; cases e
      exact ⟨x, e2, by unfold wIn; rw [this], this⟩
  refine ⟨h'.gh, fun b x q => ?_, h.gg.trans eg, fun b x y => ?_, fun b l w => ?_, hl2.trans h.len, fun i s q => ?_, fun k o v q => ?_⟩
  · obtain ⟨z, e, wi, _⟩ := kpW b (by rw [q]; exact fun z => nomatch z)
    have := h.kh b x q
    rw [e] at this
    rw [← this]
    exact keepH b z e wi
  · obtain ⟨z, e, wi, _⟩ := kpW b y
    refine h.sep b ?_ y
    exact h'.sep b x (by
      show kIn as W H b ≠ none
      rw [kn b z e wi]; exact fun z => nomatch z)
  · -- labels
    unfold wOut at w
    cases q : W' b with
    | some l' =>
      rw [q] at w
      have hw := h'.wl b l' q
      refine ⟨hw.1, ?_, hw.2.2⟩
      cases e : g.kp b with
      | none => rfl
      | some x =>
        obtain ⟨z, e1, wi, _⟩ := kpW b (by rw [e]; exact fun z => nomatch z)
        have := hw.2.1
        rw [show (Gs.mk (kIn as W H) G vs).kp b = kIn as W H b from rfl, kn b z e1 wi] at this
        cases this
    | none =>
      rw [q] at w
      cases wi : wIn as W b with
      | some l' => rw [wi] at w; cases w
      | none =>
        rw [wi] at w
        have hw := h.wl b l w
        refine ⟨?_, hw.2.1, ?_⟩
        · cases e : G' b with
          | none => rfl
          | some x =>
            cases e2 : H b with
            | none => exact absurd e2 hw.2.2
            | some y =>
              have := h'.sep b (by rw [e]; exact fun z => nomatch z) (by
                show kIn as W H b ≠ none
                rw [kn b y e2 wi]; exact fun z => nomatch z)
              exact absurd hw.1 this
        · cases e2 : H b with
          | none => exact absurd e2 hw.2.2
          | some y => rw [keepH b y e2 wi]; exact fun z => nomatch z
  · rcases hi2 i with ⟨hn1, hq⟩ | ⟨j, o, s0, hj, ho, hs0, hs1⟩
    · rw [hq] at q
      refine (h.sl i s q).keep eg (fun a z w => stay a _ w ?_) rfl
      unfold wIn
      rw [w]
      show (lentAt as i).map _ = none
      cases e : lentAt as i with
      | none => rfl
      | some j => exact absurd (lentAt_some e) (hn1 j)
    · rw [hs1] at q
      cases q
      obtain ⟨v, hv1, hv2, how⟩ := h'.sl j _ ho
      have how' : Ow K G' H' (wOut as T.length W W') o v (.s i) [] := Ow.move (q := []) (q' := []) (Same.refl G') [] (fun a z w => ⟨rfl, by
        have w2 : W' a = some (.s j, z) := w
        show wOut as T.length W W' a = some (.s i, z)
        unfold wOut
        rw [w2]
        show (match (lents as)[j]? with | some (some i) => some (Rt.s i, z) | _ => none) = _
        rw [hj]⟩) how
      -- the caller's slot holds v
      have hvs : σ[i]? = some (some v) := by
        have key : ∀ {as : List Ag} {vs : List V} {j : Nat}, AgOk K G σ as vs → (lents as)[j]? = some (some i) → ∀ v, vs[j]? = some v → σ[i]? = some (some v) := by
          intro as
          induction as with
          | nil => intro vs j _ e; simp [lents] at e
          | cons a as ih =>
            intro vs j hag e v hv
            cases a with
            | v d =>
              obtain ⟨x, xr, rfl, _, h2⟩ := hag
              cases j with
              | zero => simp [lents] at e
              | succ j => exact ih h2 (by simpa [lents] using e) v (by simpa using hv)
            | l m =>
              obtain ⟨x, xr, rfl, h1, h2⟩ := hag
              cases j with
              | zero =>
                have e1 : m = i := by simpa [lents] using e
                subst e1
                simp at hv; subst hv; exact h1
              | succ j => exact ih h2 (by simpa [lents] using e) v (by simpa using hv)
        exact key ha hj v hv2
      cases s0 with
      | no => trivial
      | ow o0 => exact ⟨v, hvs, how'⟩
      | le o0 =>
        obtain ⟨v', hv3, hv4, _⟩ := h.sl i _ hs0
        rw [hvs] at hv3; cases hv3
        exact ⟨v, hvs, hv4, how'⟩
  · by_cases hk : k < T.length
    · rw [List.getElem?_append_left hk] at q
      refine (h.tm k o v q).keep eg fun a z w => stay a _ w ?_
      unfold wIn
      rw [w]
    · rw [List.getElem?_append_right (by omega)] at q
      have hk0 : k - T.length = 0 := by
        have : k - T.length < T'.length := by
          by_cases z : k - T.length < T'.length
          · exact z
          · rw [List.getElem?_eq_none (by omega)] at q; cases q
        omega
      rw [hk0] at q
      have := h'.tm 0 o v q
      have ek : k = T.length := by omega
      subst ek
      exact Ow.move (q := []) (q' := []) (Same.refl G') [] (fun a z w => ⟨rfl, by
        have w2 : W' a = some (.t 0, z) := w
        show wOut as T.length W W' a = some (.t T.length, z)
        unfold wOut
        rw [w2]
        rfl⟩) this
end
section
variable {X : Cx} {e a b c : Expr} {es : List Expr} {Wx : WX} {pos p : Pos} {ga : Mo D} {fa : Mo (List Ag)}
/-! ### argument lists of calls -/
def agN : Mo (List Ag) := fun ρ => some (.ok [] ρ)
def agV (f : Mo D) (r : Mo (List Ag)) : Mo (List Ag) := fun ρ => match f ρ with
  | some (.ok d ρ1) => (match r ρ1 with
    | some (.ok as ρ2) => some (.ok (.v d :: as) ρ2)
    | some (.ex c fs ρ2) => some (.ex c fs ρ2)
    | none => none)
  | some (.ex c fs ρ1) => some (.ex c fs ρ1)
  | none => none
def agL (i : Nat) (r : Mo (List Ag)) : Mo (List Ag) := fun ρ => match ρ[i]?.bind Sl.tr with
  | some _ => (match r ρ with
    | some (.ok as ρ2) => some (.ok (.l i :: as) ρ2)
    | some (.ex c fs ρ2) => some (.ex c fs ρ2)
    | none => none)
  | none => none
theorem ag_nil : PA X [] (tAg X.K X.mg Wx agN) := pa_nil.wk fun σ H Q ⟨g, ρ, T, G, W, hR, k⟩ => k [] H G W hR (Same.refl G) rfl
theorem ag_v {r : Mo (List Ag)} (ha : PE X a (tV X.K X.mg Wx ga)) (hr : PA X es (tAg X.K X.mg Wx r)) (hs : starEach (a :: es) X.env = (false, eval a X.env) :: starEach es X.env := by rfl) : PA X (a :: es) (tAg X.K X.mg Wx (agV ga r)) := (pa_cons ha hr hs).wk fun σ H Q ⟨g, ρ, T, G, W, hR, k⟩ => by
  refine ⟨g, ρ, T, G, W, hR, ?_⟩
  unfold agV at k
  cases h1 : ga ρ with
  | none => rw [h1] at k; exact k.elim
  | some rr =>
    rw [h1] at k
    cases rr with
    | ex c fs ρ1 => exact k
    | ok d ρ1 =>
      intro v H1 G1 W1 R1 eg1 r1
      refine ⟨g, ρ1, T, G1, W1, R1, ?_⟩
      dsimp only at k
      cases h2 : r ρ1 with
      | none => rw [h2] at k; exact k.elim
      | some rr =>
        rw [h2] at k
        cases rr with
        | ex c fs ρ2 => exact WE'.mono eg1 k
        | ok as ρ2 => exact fun vs H2 G2 W2 R2 eg2 r2 => k (v :: vs) H2 G2 W2 R2 (eg1.trans eg2) ⟨v, vs, rfl, r1.mono eg2, r2⟩
theorem ag_l {i : Nat} {r : Mo (List Ag)} (ha : PE X a (tVar i)) (hr : PA X es (tAg X.K X.mg Wx r)) (hs : starEach (a :: es) X.env = (false, eval a X.env) :: starEach es X.env := by rfl) : PA X (a :: es) (tAg X.K X.mg Wx (agL i r)) := (pa_cons ha hr hs).wk fun σ H Q ⟨g, ρ, T, G, W, hR, k⟩ => by
  unfold agL at k
  cases e0 : ρ[i]? with
  | none => rw [e0] at k; exact k.elim
  | some s =>
    rw [e0, Option.bind_some] at k
    cases e1 : s.tr with
    | none => rw [e1] at k; exact k.elim
    | some o =>
      rw [e1] at k
      obtain ⟨v, hv, _⟩ := hR.slo e0 e1
      refine ⟨v, hv, g, ρ, T, G, W, hR, ?_⟩
      dsimp only at k
      cases h2 : r ρ with
      | none => rw [h2] at k; exact k.elim
      | some rr =>
        rw [h2] at k
        cases rr with
        | ex c fs ρ2 => exact k
        | ok as ρ2 => exact fun vs H2 G2 W2 R2 eg2 r2 => k (v :: vs) H2 G2 W2 R2 eg2 ⟨v, vs, rfl, hv, r2⟩
theorem tCall_ok {K : PySem.W.Frag} {mg : MG} {F : FS} {n : Nat} : ∀ σ H Q, tX K mg Wx (callM n F fa) σ H Q → tCallSD (spF K mg n F) [] (WE Wx) (tAg K mg Wx fa) σ H Q := fun σ H Q ⟨g, ρ, T, G, W, hR, k⟩ => by
  refine ⟨g, ρ, T, G, W, hR, ?_⟩
  unfold callM at k
  cases h1 : fa ρ with
  | none => rw [h1] at k; exact k.elim
  | some r =>
    rw [h1] at k
    cases r with
    | ex c fs ρ1 => exact k
    | ok as ρ1 =>
      intro vs H1 G1 W1 R1 eg1 ha
      dsimp only at k
      by_cases hnl : noDup as = true ∧ as.length = n
      · rw [if_pos hnl] at k
        obtain ⟨hn, hlen⟩ := hnl
        cases h2 : toSl ρ1 as with
        | none => rw [h2] at k; exact k.elim
        | some args =>
          rw [h2] at k
          rw [List.append_nil]
          refine ⟨by rw [ha.len]; exact hlen, kIn as W1 H1, G1, wIn as W1, args, toSl_all h2, R1.enter ha h2 hn, ?_⟩
          dsimp only at k
          cases h3 : F args with
          | none => rw [h3] at k; exact k.elim
          | some fr =>
            rw [h3] at k
            cases fr with
            | ret o outs =>
              dsimp only at k
              cases h4 : back as outs ρ1 with
              | none => rw [h4] at k; exact k.elim
              | some ρ2 =>
                rw [h4] at k
                exact fun v H' G' W' R' eg => k v H' G' _ (R1.leave hn R' eg ha h4 (Nat.le_refl 1)) (eg1.trans eg)
            | ex c fs outs =>
              dsimp only at k
              cases h4 : back as outs ρ1 with
              | none => rw [h4] at k; exact k.elim
              | some ρ2 =>
                rw [h4] at k
                intro C d fv H' G' W' hm R' eg hd hf
                have R2 := R1.leave hn R' eg ha h4 (Nat.zero_le 1)
                rw [List.append_nil] at R2
                exact k C d fv σ H' G' _ hm R2 (eg1.trans eg) hd hf
      · rw [if_neg hnl] at k; exact k.elim
theorem x_call {x : Str} {k : Nat} {f : Addr} {fd : FuncData} {ps : List Str} {F : FS} (tk : Takes X Wx) (FO : FnOk X.prog X.w X.K X.mg X.base (L2.CX X.prog X.w) k f fd ps (spF X.K X.mg ps.length F)) (hr : Room k X.A) (hg : Gl X x) (hm : X.mg x = some (.ref f)) (hk : PySem.W.keepIn X.K (.ref f) = true) (hb : Binds X.K fd ps [])
    (ha : PA X (e :: es) (tAg X.K X.mg Wx fa)) (hdb : (x == ("__debug__" : Str)) = false := by decide) (he : starEach (e :: es) X.env = (false, eval e X.env) :: starEach es X.env := by rfl) (hpl : (backTo pos (starEach es X.env)).any (·.1) = false := by rfl) :
    PE X (.Call (.Name x p) (e :: es) [] pos) (tX X.K X.mg Wx (callM ps.length F fa)) := (pe_callSD FO hr hg hm hk hb .nil (fun σ => passAt tk σ) ha hdb he hpl).wk fun σ H Q h => tCall_ok σ H Q h
end
end Tr
namespace Tr
open PySem PySem.Spec PyProof.Rows L2
section
variable {X : Cx} {e a b c elt tg iter : Expr} {ifs es : List Expr} {Wx : WX} {pos : Pos} {mi : Mo (List D)} {t : D → Rho → Option Rho} {q : Mo Bool} {fe gx : Mo O} {is vs : List Nat} {ga : Mo D}
/-- name = e, what comes is frozen -/
abbrev setF (i : Nat) (f : Mo O) : MS := setS i (frM (frzM f))
theorem tSetF {K : PySem.W.Frag} {mg : MG} {i : Nat} : ∀ D σ H, tS K mg Wx (setF i gx) D σ H → tAsg (tX K mg Wx gx) (gName i) D σ H := fun D σ H ⟨g, ρ, T, G, W, hR, k⟩ => by
  refine ⟨g, ρ, T, G, W, hR, ?_⟩
  unfold setF setS frM frzM at k
  cases h1 : gx ρ with
  | none => rw [h1] at k; exact k.elim
  | some r =>
    rw [h1] at k
    cases r with
    | ex c fs ρ' => exact k
    | ok o ρ' =>
      intro v H' G' W' R' eg
      dsimp only at k
      by_cases hs : stb i ρ' = true
      · rw [if_pos hs] at k
        obtain ⟨R2, rp⟩ := R'.frzT
        exact k _ H' _ _ ((R2.addT rp).setS (stb_lt hs)) (eg.trans (frz_same R' _))
      · rw [if_neg hs] at k; exact k.elim
theorem s_setF {i : Nat} {x : Str} {pos' : Pos} (hN : X.N.Nodup) (hi : X.N[i]? = some x) (hx : Loc X.env.scope x) (he : PE X e (tX X.K X.mg Wx gx)) (hs : swapsWith e (some (.Name x pos')) pos.line X.env = pure false := by rfl) (hf : X.fn x = true ∨ X.env.scope.names.lookup x = some .local := by first | exact .inl rfl | exact .inr rfl | assumption) :
    PS X (.Assign [.Name x pos'] e pos) (tS X.K X.mg Wx (setF i gx)) := (ps_set hN hi hx he hs hf).wk tSetF
theorem s_setLcF {i : Nat} {y : Str} {py spos : Pos} {scope : Scope} {own : List (Str × Nat)} (hc : X.calm = true) (hN : X.N.Nodup) (hy : X.N[i]? = some y) (hyl : X.env.scope.names.lookup y = some .local)
    (hsw : swapsWith (.ListComp elt [⟨tg, iter, ifs, 0⟩] scope pos) (some (.Name y py)) spos.line X.env = pure true) (hi : PI X tg iter (tI X.K X.mg Wx mi)) (ok : BlkOk X.N X.env.scope scope own)
    (hg : ∀ (s : Shared) (H : Hp) (C : Addr) (cl : List (Str × Addr)) (fp : List Addr), PG (X.blk s H scope (compEnvC scope cl C X.env) fp) tg (tG X.K is t)) (ht : ∀ (s : Shared) (H : Hp) (C : Addr) (cl : List (Str × Addr)) (fp : List Addr), PTs (X.blk s H scope (compEnvC scope cl C X.env) fp) ifs (tY X.K X.mg W0 q))
    (he : ∀ (s : Shared) (H : Hp) (C : Addr) (cl : List (Str × Addr)) (fp : List Addr), PE (X.blk s H scope (compEnvC scope cl C X.env) fp) elt (tX X.K X.mg W0 fe)) (his : ∀ i ∈ is, i ∈ own.map (·.2)) (hs : ∀ x, foldedSetIterable iter X.env x = pure x := by intro _; rfl) :
    PS X (.Assign [.Name y py] (.ListComp elt [⟨tg, iter, ifs, 0⟩] scope pos) spos) (tS X.K X.mg Wx (setF i (lcM mi t q fe (own.map (·.2))))) := (ps_setLc hc hN hy hyl hsw hi ok hg ht he hs).wk fun D0 σ H h => tLc_ok his σ H _ (tSetF D0 σ H h)
/-- a list or a tuple walked -/
def itS (f : Mo D) : Mo (List D) := fun ρ => match f ρ with
  | some (.ok d ρ') => (match d.sq with
    | some ds => some (.ok ds ρ')
    | none => none)
  | some (.ex c fs ρ') => some (.ex c fs ρ')
  | none => none
theorem i_seq (h : PE X e (tV X.K X.mg Wx ga)) : PI X tg e (tI X.K X.mg Wx (itS ga)) := ⟨fun pins s σ H Q I ⟨g, ρ, T, G, W, hR, k⟩ => by
  unfold itS at k
  have hl : ∀ d ρ' ds, ga ρ = some (.ok d ρ') → d.lsq = some ds → wpAny (model X.prog X.w) X.A (eval e X.env) (fun v s1 => wpAny (model X.prog X.w) X.A (pyIter v) (PIE X pins σ tg Q) X.xe s1) X.xe s := fun d ρ' ds h1 h2 => by
    refine (i_list (tg := tg) h).run pins s σ H Q I ⟨g, ρ, T, G, W, hR, ?_⟩
    rw [h1] at k
    dsimp only at k
    rw [D.sq_of_lsq h2] at k
    unfold itL
    rw [h1]
    dsimp only
    rw [h2]; exact k
  cases h1 : ga ρ with
  | none => rw [h1] at k; exact k.elim
  | some r =>
    cases r with
    | ex c fs ρ' =>
      rw [h1] at k
      refine (i_list (tg := tg) h).run pins s σ H Q I ⟨g, ρ, T, G, W, hR, ?_⟩
      unfold itL; rw [h1]; exact k
    | ok d ρ' =>
      cases d with
      | lst ds => exact hl _ _ _ h1 rfl
      | scr ns => exact hl _ _ _ h1 rfl
      | tup ds =>
        rw [h1] at k
        refine (i_tup (tg := tg) h).run pins s σ H Q I ⟨g, ρ, T, G, W, hR, ?_⟩
        unfold itT; rw [h1]; exact k
      | _ => rw [h1] at k; exact k.elim⟩
end
/-! ### enumerate of a tuple -/
def IteT (K : PySem.W.Frag) (a : Addr) : It :=
  ⟨fun i H => ∃ (xs : List V) (x : V), SqT K H a xs ∧ xs[i]? = some x, fun i H v H' => ∃ T x o, v = .ref T ∧ H T = none ∧ o.dict = none ∧ H' = upd H T (.frz o (.tup [.int (i : Nat), x])) ∧ ∀ xs, SqT K H a xs → xs[i]? = some x, fun i H => ∃ xs : List V, SqT K H a xs ∧ xs.length ≤ i⟩
end Tr
namespace PySem
open Sem (wp)
open AutoSeq1 (wpAny_loadPart')
set_option maxHeartbeats 1000000 in
theorem tr_meets_enumT (l : Addr) (items : Array Value) :
    Meets (Builtin.«enumerate.__new__» ⟨[.type "enumerate", .ref l], []⟩) (fun _ R s => s.heap.IsTuple l items ∧
      R (.ok (.ret (.ref (s.heap.push { cls := .type "tuple_iterator", data := .fields #[.ref l, .int 0 0] }).objs.size)))
        { s with heap := (s.heap.push { cls := .type "tuple_iterator", data := .fields #[.ref l, .int 0 0] }).push { cls := .type "enumerate", data := .fields #[.none, .bool false, .ref s.heap.objs.size, rawInt 0, .none, .none] } }) :=
  .of_wp fun prog w A R s h => by
    obtain ⟨hp, g, d, tk, os⟩ := s; obtain ⟨hL, h⟩ := h
    have hsub := sub_enumerate
    wp_walk using wpAny_pyIter_tuple hL
    refine wpAny_stack_any fun st => wpAny_pure ?_
    split
    · rename_i c _ _ _ _ _
      cases (c == Value.type "enumerate")
      · wp_walk using wpAny_pyIter_tuple hL
        exact ⟨_, rfl, h⟩
      · wp_walk using wpAny_pyIter_tuple hL
        exact ⟨_, rfl, h⟩
    · wp_walk using wpAny_pyIter_tuple hL
      exact ⟨_, rfl, h⟩
section
variable {prog : Program} {w : World} {A : Around} {E : Value → Shared → Prop} {s : Shared}
theorem tr_call_enumT {l : Addr} {items : Array Value} {Q : Value → Shared → Prop} (hL : s.heap.IsTuple l items)
    (h : ∀ h', IsEnum h' (s.heap.objs.size + 1) s.heap.objs.size 0 .none → h'.IsTupleIter s.heap.objs.size l 0 → h'.objs.size = s.heap.objs.size + 2 →
      (∀ b o, s.heap.get? b = some o → h'.get? b = some o) → Q (.ref (s.heap.objs.size + 1)) { s with heap := h' }) :
    wpAny (model prog w) A (call (.type "enumerate") [.ref l]) Q E s := by
  refine callType_new F.called_enumerate (by decide) (F.typeCall_enumerate_1 _) (F.newCall_enumerate_1 _) (fun obj => F.args_object_init_2 obj _) F.entry_enumerate_new
    (tr_meets_enumT l items) ⟨hL, ?_⟩
  have hz : (s.heap.push { cls := .type "tuple_iterator", data := .fields #[.ref l, .int 0 0] }).objs.size = s.heap.objs.size + 1 := Heap.size_push ..
  show _ ∧ _
  rw [hz]
  have he : IsEnum ((s.heap.push { cls := .type "tuple_iterator", data := .fields #[.ref l, .int 0 0] }).push
      { cls := .type "enumerate", data := .fields #[.none, .bool false, .ref s.heap.objs.size, rawInt 0, .none, .none] }) (s.heap.objs.size + 1) s.heap.objs.size 0 .none := by
    have := Heap.get?_push_size (s.heap.push { cls := .type "tuple_iterator", data := .fields #[.ref l, .int 0 0] })
      (o := { cls := .type "enumerate", data := .fields #[.none, .bool false, .ref s.heap.objs.size, rawInt 0, .none, .none] }) rfl
    rw [hz] at this; exact this
  refine ⟨⟨_, he, rfl⟩, h _ he ⟨_, Heap.get?_push_of_some _ (Heap.get?_push_size _ rfl), rfl, rfl⟩ (by rw [Heap.size_push, hz]) fun b o x => Heap.get?_push_of_some _ (Heap.get?_push_of_some _ x)⟩
end
end PySem
namespace Tr
open PySem PySem.Spec PyProof.Rows L2
theorem turn_enumT {P : Program} {w : World} {K : PySem.W.Frag} {elts : List Expr} {kk : Nat} {tpos : Pos} (a e it : Addr) :
    Turn P w K (.Tuple elts kk tpos) (IteT K a) [e, it] e (fun i h => (∃ old, IsEnum h e it ((i : Nat) : Int) old) ∧ h.IsTupleIter it a i ∧ e ≠ it) where
  mem := by simp
  obj := fun i h st b hb => by
    obtain ⟨⟨old, he⟩, ⟨o, ho, hc, hd⟩, _⟩ := st
    have e' : b = e ∨ b = it := by simpa using hb
    rcases e' with z | z
    · rw [z]; exact ⟨_, he, fun v q => nomatch q⟩
    · rw [z]; exact ⟨o, ho, fun v q => by rw [hd] at q; cases q⟩
  keep := fun i h h' st k => let ⟨⟨old, he⟩, hi, hne⟩ := st; ⟨⟨old, k e (by simp) _ he⟩, hi.at fun o q => k it (by simp) o q, hne⟩
  item := by
    intro X hP hw hK hc i pins s σ H E I hf st hg
    subst hP hw hK
    obtain ⟨⟨old, he⟩, hit, hne⟩ := st
    obtain ⟨xs, x, hq, hx⟩ := hg
    obtain ⟨its, rv, p, hz⟩ := I.tuple hq
    obtain ⟨u, hu, ru⟩ := rv.get hx
    have hel : e < s.heap.objs.size := Heap.lt_size he
    have hil : it < s.heap.objs.size := by obtain ⟨_, q, _⟩ := hit; exact Heap.lt_size q
    have hae : e ≠ a := fun z => by
      obtain ⟨o, ho, hcl, _⟩ := p
      rw [← z, he] at ho
      cases ho
      exact absurd hcl (by intro q; injection q with q; exact absurd q (by decide))
    have hai : a ≠ it := fun z => by
      obtain ⟨o, ho, hcl, _⟩ := p
      obtain ⟨o2, ho2, hcl2, _⟩ := hit
      rw [z, ho2] at ho
      cases ho
      rw [hcl2] at hcl
      exact absurd hcl (by intro q; injection q with q; exact absurd q (by decide))
    have hxl : i < its.toArray.size := by
      have := (List.getElem?_eq_some_iff.mp hu).1
      simpa using this
    refine wpAny_pyNext_enum_itemD (Draws.tuple (A := X.A.in1) (show X.A.in1.handled = none from I.ok.hd hc) it a hai its.toArray) he ⟨hit, p⟩ hxl hne (fun z => by
      rcases List.mem_cons.mp z with z | z
      · exact hne z
      · exact hae (List.mem_singleton.mp z)) fun x' h' tk hx' ho hst hT hsz hk => ?_
    have hxu : x' = u := by
      have : its[i]? = some x' := by simpa using hx'
      rw [hu] at this; cases this; rfl
    subst hxu
    obtain ⟨hit', _⟩ := hst
    refine ⟨_, rfl, wpAny_letOwnedTupleGo_enum (s := { s with heap := h', toks := tk + 1 }) ho fun h'' he' sb => ?_⟩
    have hT2 : h''.get? s.heap.objs.size = some { cls := .type "tuple", data := .seq #[.int i tk, x'] } := (sb.2 _ (Nat.ne_of_gt hel)).trans hT
    have new : ObjOk X.prog X.w (upd H s.heap.objs.size (.frz { cls := .type "tuple", data := .seq #[.int i tk, x'] } (.tup [.int (i : Nat), x]))) h'' s.heap.objs.size (.frz { cls := .type "tuple", data := .seq #[.int i tk, x'] } (.tup [.int (i : Nat), x])) :=
      ⟨hT2, by show 2 ≤ sizeLine; decide, [.int i tk, x'], .cons ⟨_, rfl⟩ (.cons ru .nil), ⟨_, hT2, rfl, _, rfl⟩⟩
    have I1 : Inv X pins σ (upd H s.heap.objs.size (.frz { cls := .type "tuple", data := .seq #[.int i tk, x'] } (.tup [.int (i : Nat), x]))) { s with heap := h'', toks := tk + 1 } :=
      I.turnedNew (ch := [e, it]) (fun b ob hb q => (sb.2 b (fun z => hb (by simp [z]))).trans (hk b ob (fun z => hb (by simp [z])) (fun z => hb (by simp [z])) q)) hf (Nat.le_refl _) new
    refine ⟨.ref s.heap.objs.size, _, I1, rfl, ⟨_, x, _, rfl, I.hok.fresh (Nat.le_refl _), rfl, rfl, fun ys hy => by rw [I.tuple_inj hy hq]; exact hx⟩, ⟨⟨x', ?_⟩, hit'.at fun o q => (sb.2 it (Ne.symm hne)).trans q, hne⟩, fun b hb => ?_⟩
    · have e1 : ((i + 1 : Nat) : Int) = (i : Int) + 1 := by omega
      rw [e1]; exact he'
    · have hb' : b < s.heap.objs.size := by
        have e' : b = e ∨ b = it := by simpa using hb
        rcases e' with z | z
        · rw [z]; exact hel
        · rw [z]; exact hil
      rw [upd_ne (Nat.ne_of_lt hb')]
      exact (hf b hb).1
  done := by
    intro X hP hw hK hc i pins s σ H E I hf st hg
    subst hP hw hK
    obtain ⟨⟨old, he⟩, hit, hne⟩ := st
    obtain ⟨xs, hq, hx⟩ := hg
    obtain ⟨its, rv, p, hz⟩ := I.tuple hq
    obtain ⟨f0, f1, f2, f3, f4, f5⟩ := hf it (by simp)
    have hl := rv.length
    have hai : a ≠ it := fun z => by
      obtain ⟨o, ho, hcl, _⟩ := p
      obtain ⟨o2, ho2, hcl2, _⟩ := hit
      rw [z, ho2] at ho
      cases ho
      rw [hcl2] at hcl
      exact absurd hcl (by intro q; injection q with q; exact absurd q (by decide))
    have hA : X.A.in1.handled = none := I.ok.hd hc
    refine wpAny_pyNext_enum_endD (St := fun j h => (h.IsTupleIter it a i ∧ h.IsTuple a its.toArray) ∧ its.toArray.size ≤ j) (P := fun j v => False) (n := its.toArray.size) (fp := [it, a]) ?_ he ⟨⟨hit, p⟩, Nat.le_refl _⟩ fun h' eb => ⟨rfl, I.turned (t' := s.toks) (fun b o hb q => eb b o hb q) f0 f1 f3 f4 f5⟩
    exact {
      live := fun _ _ st => let ⟨o, ho, _⟩ := st.1.1; ⟨o, ho⟩
      frame := fun _ _ _ st hk => ⟨⟨st.1.1.at fun o e => hk it (by simp) o e, st.1.2.at fun o e => hk a (by simp) o e⟩, st.2⟩
      item := fun j s Q E hi st hQ => absurd st.2 (by omega)
      done := fun s Q E st hE => wpAny_nextOf_tuple_end hA st.1.1 st.1.2 (by simp; omega) hE }
  self := fun A i s Q E st h => let ⟨⟨_, he⟩, _⟩ := st; wpAny_pyIter_enum he h
end Tr
namespace Tr
open PySem PySem.Spec PyProof.Rows L2
section
variable {X : Cx} {e a b c elt tg iter : Expr} {ifs es : List Expr} {Wx : WX} {p pos tpos : Pos} {ga : Mo D} {elts : List Expr} {kk : Nat}
def iEnT (K : PySem.W.Frag) (ta : TA) : TI := fun σ H R => ta σ H fun vs H1 => ∃ a xs, vs = [.ref a] ∧ SqT K H1 a xs ∧ R (IteT K a) H1
theorem pi_enumT (hg : Gl X "enumerate") (hm : X.mg "enumerate" = none) {ta : TA} (ha : PA X [e] ta) (hs : starEach [e] X.env = [(false, eval e X.env)] := by rfl) :
    PI X (.Tuple elts kk tpos) (.Call (.Name "enumerate" p) [e] [] pos) (iEnT X.K ta) := by
  refine ⟨fun pins s σ H R I h => ?_⟩
  refine Call_ (ld_blt I hg hm boot_enumerate (PyProof.Rows.callWith_type1 (thn (ha.run pos pins s σ H _ I h) fun us s1 ⟨vs, H1, I1, r1, q1⟩ => ?_) hs rfl))
  obtain ⟨a, xs, ex, hq, q⟩ := q1
  subst ex
  cases r1 with
  | cons r rr =>
    cases rr
    cases r
    obtain ⟨its, rv, p', hz⟩ := I1.tuple hq
    refine tr_call_enumT p' fun h' he hit hsz hk => wpAny_pyIter_enum he ?_
    have I2 : Inv X pins σ H1 { s1 with heap := h' } := I1.kept (t' := s1.toks) hk
    refine ⟨s1.heap.objs.size + 1, [s1.heap.objs.size + 1, s1.heap.objs.size], _, _, H1, rfl, I2, turn_enumT a (s1.heap.objs.size + 1) s1.heap.objs.size, ⟨⟨.none, he⟩, hit, Nat.succ_ne_self _⟩, fun b hb => ?_, q⟩
    have e' : b = s1.heap.objs.size + 1 ∨ b = s1.heap.objs.size := by simpa using hb
    have hle : s1.heap.objs.size ≤ b := by
      rcases e' with z | z
      · rw [z]; exact Nat.le_add_right _ _
      · rw [z]; exact Nat.le_refl _
    exact I1.fpOk hle (I1.hok.fresh hle)
/-- the items with their places -/
def enumD (ds : List D) : List D := ds.mapIdx fun i d => .tup [.int (i : Nat), d]
def itE (f : Mo D) : Mo (List D) := fun ρ => match f ρ with
  | some (.ok (.tup ds) ρ') => some (.ok (enumD ds) ρ')
  | some (.ex c fs ρ') => some (.ex c fs ρ')
  | _ => none
theorem wk_enumT {K : PySem.W.Frag} {G : Hp} {a : Addr} {ds : List D} {xs : List V} (h : SqT K G a xs) (r : Reps K G ds xs) (hz : ds.length ≤ sizeLine) : Wk K (IteT K a) G (enumD ds) where
  len := by simpa [enumD] using hz
  go := fun i H e hi => by
    have hi' : i < ds.length := by simpa [enumD] using hi
    obtain ⟨x, hx, _⟩ := r.get (List.getElem?_eq_getElem hi')
    exact ⟨xs, x, SqT_same e h, hx⟩
  stop := fun i H e hi => ⟨xs, SqT_same e h, by rw [← r.len]; simpa [enumD] using hi⟩
  yld := fun i H x H' d e hd hy G0 eg eh => by
    obtain ⟨T, x, o, rfl, hT, ho, rfl, hy⟩ := hy
    rw [enumD, List.getElem?_mapIdx] at hd
    cases h1 : ds[i]? with
    | none => rw [h1] at hd; cases hd
    | some d0 =>
      rw [h1] at hd
      cases hd
      obtain ⟨y, hy2, ry⟩ := r.get h1
      have := hy xs (SqT_same e h)
      rw [hy2] at this; cases this
      exact ⟨_, .nw T _ hT, Rep.newT ho (by rw [Reps]; exact ⟨_, _, rfl, Rep.i.mpr rfl, by rw [Reps]; exact ⟨_, _, rfl, ry.mono eg, by rw [Reps]⟩⟩) (eh.free hT) (by show 2 ≤ sizeLine; decide)⟩
theorem i_enumT (hg : Gl X "enumerate") (hm : X.mg "enumerate" = none) (h : PE X e (tV X.K X.mg Wx ga)) (hs : starEach [e] X.env = [(false, eval e X.env)] := by rfl) :
    PI X (.Tuple elts kk tpos) (.Call (.Name "enumerate" p) [e] [] pos) (tI X.K X.mg Wx (itE ga)) := (pi_enumT hg hm (pa_cons h pa_nil (by rw [hs]; rfl)) hs).wk fun σ H Q ⟨g, ρ, T, G, W, hR, k⟩ => by
  refine ⟨g, ρ, T, G, W, hR, ?_⟩
  unfold itE at k
  cases h1 : ga ρ with
  | none => rw [h1] at k; exact k.elim
  | some r =>
    rw [h1] at k
    cases r with
    | ex c fs ρ' => exact k
    | ok d ρ' =>
      intro v H' G' W' R' eg r
      cases d with
      | tup ds =>
        obtain ⟨a, xs, rfl, hs, hr⟩ := r.tp
        exact ⟨a, xs, rfl, SqT_same R'.gh hs, k _ H' G' W' R' eg (wk_enumT hs hr (r.sql rfl))⟩
      | _ => exact k.elim
end
end Tr
namespace PySem.W
open PySem PySem.Calls PyProof.Rows
section
variable {prog : Program} {w : World} {A : Around} {E : Value → Shared → Prop} {s : Shared} {h₀ : Heap} {L : Addr} {m mg mb : Str → Option Value} {news : List (Addr × Obj)} {K : Frag} {x C D f cc cda : Addr} {ox : Obj} {odx : Option Obj}
theorem tr_node {body : List Stmt} {q : Str} {scope : Scope} {p0 p1 : Pos} {attr : Str} {whole : Sem Value} {fd : FuncData} {ar : Arg} {vs : Array Value} {file : Str} {tf : Tok} {oc ccl cl : Value} {od cdd cld : Option Addr} {osl ccs csl : Array (Option Value)} {cdD : ClassData} {Q : Value → Shared → Prop}
    (F : Fr h₀ L s.heap m) (X₀ : K.In h₀) (N : News h₀ L s.heap news) (G : h₀.Ns mainGlobals mg) (B : h₀.Ns builtinsNs mb) (hmb : mb "super" = some (.type "super")) (hmg : mg "super" = none)
    (hf : K.lookup f = some ⟨oc, od, .func fd, osl⟩) (hp : (fd.params.posonlyargs ++ fd.params.args).head? = some ar) (hv : m ar.arg = some (.ref x)) (I : InstAt s.heap x ox C odx)
    (hcode : K.lookup cda = some ⟨ccl, cdd, .fields vs, ccs⟩) (hvs : vs[2]? = some (.str file tf)) (hfile : ((prog.main.file : Str) == file) = true)
    (hcell : K.lookup cc = some ⟨cl, cld, .cell (some (.ref D)), csl⟩) (hD : clsIn K D = some cdD) (hsub : mroIn K C (.ref D) = some true)
    (hat : (attr == ("__class__" : Str)) = false) (hks : scope.names.lookup ("super" : Str) = some .globalImplicit) (hkc : scope.names.lookup ("__class__" : Str) = some .free) (hka : scope.names.lookup ar.arg = some .local) (hk : scope.kind = .function)
    (htop : (prog.main.scope.names.lookup ("super" : Str)).isSome = false)
    (h : ∀ so h', Fr h₀ L h' m → News h₀ L h' ((so, ks_superObj D x C) :: news) → (∀ p ∈ news, p.1 < so) → Q (.ref so) { s with heap := h' }) :
    _root_.PySem.wpAt (model prog w) A (.func body (ksEnv q scope L f (.ref cda) cc)) (attributeBase (.Call (.Name "super" p0) [] [] p1) attr (ksEnv q scope L f (.ref cda) cc) whole) Q E s := by
  have X : K.In s.heap := X₀.keeps F.keep
  obtain ⟨hh, g, d, t, os⟩ := s
  obtain ⟨oD, hD1, hD2⟩ : ∃ oD, hh.get? D = some oD ∧ oD.data = .cls cdD := by
    unfold clsIn at hD
    split at hD
    · rename_i c d cd' sl ho
      cases hD
      exact ⟨_, X _ _ ho, rfl⟩
    · cases hD
  refine ks_wpAt_super_base (env := ksEnv q scope L f (.ref cda) cc) hks hkc hat rfl (X _ _ hf) rfl hp rfl (X _ _ hcode) rfl hvs hfile htop ?_
  refine ks_loadName_global hk hks (loadGlobal_builtin (env := ksEnv q scope L f (.ref cda) cc) (G.keeps F.keep) hmg (B.keeps F.keep) hmb ⟨rfl, ?_⟩)
  refine wpAny_loadName_free hk hkc rfl ⟨_, X _ _ hcell, rfl⟩ ?_
  refine wpAny_loadName_local hk hka F.ns hv ?_
  refine ks_wpAny_isType_cls hD1 hD2 ⟨rfl, ?_⟩
  refine ks_wpAny_call_super hD1 hD2 I.at_ I.cls (fun c e => ?_) (looks_mroIn X hsub) (fun h' e k => ?_)
  · have := I.no
    unfold notCls at this
    rw [e] at this
    exact Bool.noConfusion this
  · obtain ⟨F', N', l'⟩ := ks_newsPush (s := ⟨hh, g, d, t, os⟩) F N rfl e k
    exact h _ _ F' N' l'
end
end PySem.W
namespace Tr
open PySem PySem.Spec PyProof.Rows L2
/-- an exception class whose __init__ hands a text upwards, then keeps its argument -/
def spI (C : Addr) (fl : Str) : Sp := fun vs H Q _ => ∃ (a : Addr) (v : V), vs = [.ref a, v] ∧ H a = some (exo a C none) ∧ ∀ dx, H dx = none → dx ≠ a → Q .non (upd (upd H dx (exd dx [(fl, v)])) a (exo a C (some dx)))
theorem init_ok {CX : CXT} {P : Program} {w : World} {K : PySem.W.Frag} {mg : Str → Option Value} {base : Heap} {k : Nat} {f C cc cda : Addr} {name qual fl z : Str} {params : Arguments} {scope : Scope} {dV kV doc pm ct oc ccl cl : Value} {an od cdd cld : Option Addr}
    {osl ccs csl : Array (Option Value)} {cd : ClassData} {p0 p1 p2 p3 p4 p5 p6 p7 p8 pz : Pos} {kz : Nat} {vs : Array Value} {file : Str} {tf : Tok} {ar : Arg} (T : OexC K C)
    (lk : K.lookup f = some ⟨oc, od, .func (PySem.W.ksFn name qual params [.Expr (.Call (.Attribute (.Call (.Name "super" p0) [] [] p1) "__init__" p2) [.Constant (.str z) kz pz] [] p3) p4, .Assign [.Attribute (.Name "self" p5) fl p6] (.Name fl p7) p8] scope dV kV doc pm an (.ref cda) ct cc), osl⟩)
    (hcd : PySem.W.codeIn K (.ref cda) qual = true)
    (hp : (params.posonlyargs ++ params.args).head? = some ar) (har : ar.arg = "self")
    (hcode : K.lookup cda = some ⟨ccl, cdd, .fields vs, ccs⟩) (hvs : vs[2]? = some (.str file tf)) (hfile : ((P.main.file : Str) == file) = true)
    (hcell : K.lookup cc = some ⟨cl, cld, .cell (some (.ref C)), csl⟩) (hC : PySem.W.clsIn K C = some cd) (hsub : PySem.W.mroIn K C (.ref C) = some true)
    (ho : PySem.W.nsIn K cStatics "thirdparty.any" = some none) (hm : PySem.W.ks_superIn K C C "__init__" = some (some (.builtin "ValueError.__init__"))) (hB : PySem.W.subIn K (.ref C) (.type "ValueError") = some true)
    (hx : PySem.W.excInitIn K C [.type "ValueError", .type "Exception", .type "BaseException", .type "object"] "ValueError.__new__" = true) (hno : PySem.W.findIn K (.ref C) fl = some none) (hmg : mg "super" = none)
    (hks : scope.names.lookup ("super" : Str) = some .globalImplicit) (hkc : scope.names.lookup ("__class__" : Str) = some .free) (hka : scope.names.lookup ("self" : Str) = some .local) (hkf : scope.names.lookup fl = some .local) (hk : scope.kind = .function)
    (htop : (P.main.scope.names.lookup ("super" : Str)).isSome = false) (hcl : ∀ x ∈ scope.names, x.2 ≠ .cell) (hco : scope.isCoroutine = false) (hgen : scope.isGenerator = false) (hfd : (fl == ("__debug__" : Str)) = false) (hfs : fl ≠ ("self" : Str)) {pl : Sem Bool}
    (hev : ∀ L, eval (.Call (.Attribute (.Call (.Name "super" p0) [] [] p1) "__init__" p2) [.Constant (.str z) kz pz] [] p3) (PySem.W.ksEnv qual scope L f (.ref cda) cc) = (do
      let ov ← attributeBase (.Call (.Name "super" p0) [] [] p1) "__init__" (PySem.W.ksEnv qual scope L f (.ref cda) cc) (eval (.Call (.Name "super" p0) [] [] p1) (PySem.W.ksEnv qual scope L f (.ref cda) cc))
      standAt p2.atName
      let (f1, first) ← holding [ov] (getMethod ov "__init__" pl)
      callWith p3 f1 first (backTo p3 (starEach [.Constant (.str z) kz pz] (PySem.W.ksEnv qual scope L f (.ref cda) cc))) []))
    (hin : ∀ L, interactive (PySem.W.ksEnv qual scope L f (.ref cda) cc) = false)
    (hs1 : ∀ L, swapsWith (.Call (.Attribute (.Call (.Name "super" p0) [] [] p1) "__init__" p2) [.Constant (.str z) kz pz] [] p3) none p4.line (PySem.W.ksEnv qual scope L f (.ref cda) cc) = pure false)
    (hs2 : ∀ L, swapsWith (.Name fl p7) (some (.Attribute (.Name "self" p5) fl p6)) p8.line (PySem.W.ksEnv qual scope L f (.ref cda) cc) = pure false)
    (hst : ∀ L, starEach [.Constant (.str z) kz pz] (PySem.W.ksEnv qual scope L f (.ref cda) cc) = [(false, eval (.Constant (.str z) kz pz) (PySem.W.ksEnv qual scope L f (.ref cda) cc))]) :
    FnOk P w K mg base CX (k + 1) f (PySem.W.ksFn name qual params [.Expr (.Call (.Attribute (.Call (.Name "super" p0) [] [] p1) "__init__" p2) [.Constant (.str z) kz pz] [] p3) p4, .Assign [.Attribute (.Name "self" p5) fl p6] (.Name fl p7) p8] scope dV kV doc pm an (.ref cda) ct cc) ["self", fl] (spI C fl) := by
  refine ⟨fun vs H Q E ⟨a, v, e, _⟩ => by rw [e]; rfl, fun A outer s H args us vs Q E hr e0 hb r hsp => ?_⟩
  have md := e0.mod
  obtain ⟨a, v, rfl, ea, hq⟩ := hsp
  obtain ⟨u0, u, rfl, ra, rv⟩ : ∃ u0 u, us = [u0, u] ∧ RelV (.ref a) u0 ∧ RelV v u := by
    cases r with
    | cons r1 rr => cases rr with | cons r2 r3 => cases r3; exact ⟨_, _, rfl, r1, r2⟩
  obtain rfl : u0 = Value.ref a := ra
  obtain ⟨t0, hoe⟩ := exo_at e0.hok ea
  obtain ⟨mb, hbn, hbb⟩ := md.blt
  have bas : ∀ b o, base.get? b = some o → s.heap.get? b = some o ∧ b ≠ a := fun b o q => ⟨(e0.bs b o q).1, fun z => by have := (e0.bs b o q).2; rw [z, ea] at this; cases this⟩
  have KX : K.In s.heap := md.kin.keeps fun b o q => (bas b o q).1
  have hidk : ∀ b o, base.get? b = some o → (PySem.W.hideAll s.heap [a]).get? b = some o := fun b o q => PySem.W.hideAll_get _ (bas b o q).1 (by simpa using (bas b o q).2)
  have hme : ∀ y, (([(("self" : Str), Value.ref a), (fl, u)] : List (Str × Value)).reverse.lookup y) = if y = fl then some u else if y = ("self" : Str) then some (.ref a) else none := fun y => by
    show List.lookup y [(fl, u), (("self" : Str), Value.ref a)] = _
    rw [List.lookup_cons]
    by_cases h1 : y = fl
    · simp [h1]
    · rw [if_neg h1]
      have : (y == fl) = false := by simpa using h1
      rw [this]
      simp only [List.lookup_cons]
      by_cases h2 : y = ("self" : Str)
      · simp [h2]
      · have : (y == ("self" : Str)) = false := by simpa using h2
        rw [this, if_neg h2]; rfl
  refine PySem.ks_codeAny_call_defAt (binds := [(("self" : Str), .ref a), (fl, u)]) hr.depth (KX _ _ lk) rfl (md.nolimit.keeps fun b o q => (bas b o q).1) (PySem.W.codeRec_of KX hcd) rfl hb hcl (fun x hx => ?_) (fun h1 hns hk1 => ?_) hco hgen hk
  · simp only [List.mem_cons, List.mem_nil_iff, or_false] at hx
    rcases hx with rfl | rfl
    · exact hka
    · exact hkf
  obtain ⟨hp0, g, d, t, os⟩ := s
  have al : a < hp0.objs.size := Heap.lt_size hoe
  have F1 : Fr (PySem.W.hideAll hp0 [a]) hp0.objs.size h1 (fun y => ([(("self" : Str), Value.ref a), (fl, u)] : List (Str × Value)).reverse.lookup y) := ⟨hns, fun b o q => hk1 b o (PySem.W.of_hideAll _ q), Nat.le_of_eq (PySem.W.hideAll_size _ _)⟩
  have X0 : K.In (PySem.W.hideAll hp0 [a]) := md.kin.keeps hidk
  have N1 : News (PySem.W.hideAll hp0 [a]) hp0.objs.size h1 [(a, PySem.W.excObj C t0 none .none)] := by
    intro p hp
    simp only [List.mem_cons, List.mem_nil_iff, or_false] at hp
    subst hp
    exact ⟨hk1 _ _ hoe, Nat.ne_of_lt al, PySem.W.hideAll_none _ (List.mem_cons_self ..)⟩
  have X1 : K.In h1 := X0.keeps F1.keep
  show PySem.wpAt _ _ (.func _ (PySem.W.ksEnv qual scope hp0.objs.size f (.ref cda) cc)) (execs _ (PySem.W.ksEnv qual scope hp0.objs.size f (.ref cda) cc)) _ _ _
  refine PySem.ks_wpAt_execs_cons (PySem.ks_wpAt_Expr_any (PySem.ks_wpAt_MethodCall (pl := pl) ?_ (hev _)) (hin _) (hs1 _))
  refine PySem.W.tr_node F1 X0 N1 (md.glob.keeps hidk) (hbn.keeps hidk) (hbb _ (by decide)) hmg lk hp ?_ (PySem.W.InstAt.of_exc0 N1 (List.mem_cons_self ..)) hcode hvs hfile hcell hC hsub (by decide) hks hkc (by rw [har]; exact hka) hk htop ?_
  · rw [har]; exact (hme _).trans (by rw [if_neg (Ne.symm hfs), if_pos rfl])
  intro so h2 F2 N2 l2
  refine PySem.W.kxs_method PySem.W.kxs_ValueError F2 X0 N2 (List.mem_cons_self ..) (PySem.W.InstAt.of_exc0 N2 (List.mem_cons_of_mem _ (List.mem_cons_self ..))) ho hm hB (by decide) ?_
  intro q h3 F3 N3 l3
  refine PySem.W.kxs_callWith1 (i := "ValueError.__init__") (x := a) N3 (List.mem_cons_self ..) ?_ (hst _) rfl
  rw [hst]
  show wpAny _ _ (spliced ((false, eval (.Constant (.str z) kz pz) (PySem.W.ksEnv qual scope hp0.objs.size f (.ref cda) cc)) :: [])) _ _ _
  refine Calls.spliced_cons (Calls.Constant_str (x := z) (k := kz) (pos := pz) (Calls.spliced_nil ⟨PySem.W.kxs_at N3 (List.mem_cons_self ..), ?_⟩))
  have d1 : (so, PySem.W.ks_superObj C a C).1 ≠ a := Nat.ne_of_gt (l2 _ (List.mem_cons_self ..))
  have d2 : (q, PySem.W.kxs_mw "ValueError.__init__" a).1 ≠ a := Nat.ne_of_gt (l3 _ (List.mem_cons_of_mem _ (List.mem_cons_self ..)))
  refine PySem.W.kxs_call F3 X0 N3 PySem.F.excBase_ValueError hx (List.mem_cons_self ..) (.tail d2 (.tail d1 (.head fun p hp => nomatch hp))) (by show 1 ≤ sizeLine; decide) ?_
  intro t' h4 F4 N4 l4
  refine PySem.ks_wpAt_execs_cons (PySem.wpAt_of_wpAny ?_)
  refine plainObj_wpAny_Assign_Attribute ?_ (hs2 _)
  have ha4 : h4.get? a = some (PySem.W.excObj C t' none .none) := (N4 (a, PySem.W.excObj C t' none .none) (by simp)).1
  refine wpAny_Name (wpAny_loadName_local hk hkf F4.ns ((hme _).trans (if_pos rfl)) ?_) hfd
  refine wpAny_Name (wpAny_loadName_local hk hka F4.ns ((hme _).trans (by rw [if_neg (Ne.symm hfs), if_pos rfl])) ?_) (by decide)
  have X4 : K.In h4 := X0.keeps F4.keep
  obtain ⟨nm, q', N', bs, bm, sn, sub, ab, col, dd, k0, k1, k2, k3, k5, hCC, hbm⟩ := T.cls
  have hcl' : PySem.W.clsIn K C = some { name := nm, bases := bs, mro := .ref C :: bm, ns := N', qualname := q', hasDict := true, slotNames := sn, subclasses := sub, abstract := ab, collection := col, hasDel := false } := by unfold PySem.W.clsIn; rw [hCC] <;> rfl
  refine PySem.W.set_plain X4 (ox := { cls := .ref C, dict := none, data := .fields #[.ref t', .none, .none, .none, .bool false, .none] }) (od := none) ⟨ha4, rfl, rfl, trivial⟩ T.sa ?_
  refine PySem.HandSPX.exc_osa X4 ha4 hcl' (show PySem.HandSPX.refsVE (.ref C :: bm) = true from hbm) rfl hno (fun h' tk' dx k dn dne hx' hn => ?_)
  have hnd : H dx = none := by
    cases z : H dx with
    | none => rfl
    | some o' =>
      obtain ⟨o2, z2⟩ := objOk_get (e0.hok dx o' z)
      have := F4.keep dx o2 (PySem.W.hideAll_get _ z2 (by simpa using dne))
      exact absurd (Heap.lt_size this) (Nat.not_lt.mpr dn)
  have kall : ∀ b o, b ≠ a → hp0.get? b = some o → h'.get? b = some o := fun b o hb q => k b o hb (F4.keep b o (PySem.W.hideAll_get _ q (by simpa using hb)))
  have nd : ∀ {b : Addr} {o : Obj}, hp0.get? b = some o → b ≠ a → b ≠ dx := fun {b o} q hb => Nat.ne_of_lt (Nat.lt_of_lt_of_le (Heap.lt_size (F4.keep b o (PySem.W.hideAll_get _ q (by simpa using hb)))) dn)
  have na : ∀ {b : Addr}, H b = none → b ≠ a := fun {b} n z => by
    rw [z, ea] at n
    cases n
  refine PySem.wpAt_of_wpAny (wpAny_execs_nil ?_)
  show CE outer P w H _ Q Value.none _
  refine ⟨.non, upd (upd H dx (exd dx [(fl, v)])) a (exo a C (some dx)), rfl, e0.bare, ?_, ?_, rfl, hq dx hnd dne⟩
  · exact {
      keep := fun b o q n _ _ => kall b o (na n) q
      slot := fun b o q n _ _ => ⟨o.slots, kall b o (na n) q⟩
      free := fun b o q n _ => by rw [upd_ne (na n), upd_ne (nd q (na n))]; exact n
      there := fun b o q _ => by
        by_cases hb : b = a
        · exact ⟨_, by rw [hb]; exact hx'⟩
        · exact ⟨o, kall b o hb q⟩
      tups := fun b xs q => by rw [upd_ne (at_ne ea q exo_tup), upd_ne (ne_of_none q hnd)]; exact q
      frzs := fun b o v q => by rw [upd_ne (at_ne ea q exo_frz), upd_ne (ne_of_none q hnd)]; exact q
      tbls := fun b ps q => ⟨#[], by rw [upd_ne (at_ne ea q exo_tbl), upd_ne (ne_of_none q hnd), q]; simp⟩ }
  · intro b o q
    by_cases hb : b = a
    · subst hb
      rw [upd_same] at q
      cases q
      exact exo_ok hx'
    · rw [upd_ne hb] at q
      by_cases hd : b = dx
      · subst hd
        rw [upd_same] at q
        cases q
        exact exd_ok hn (relO_put (fs := []) rv fun g => True.intro)
      · rw [upd_ne hd] at q
        exact (e0.hok b o q).stay (fun c v hc z => kall c v (by
            rcases hc with hc | hc
            · rw [hc]
              exact hb
            · exact at_ne ea hc exo_own) z)
          (fun c hc => by rw [upd_ne (at_ne ea hc exo_own), upd_ne (ne_of_none hc hnd)]; exact hc) (fun c xs hc => by rw [upd_ne (at_ne ea hc exo_tup), upd_ne (ne_of_none hc hnd)]; exact hc)
end Tr
namespace Tr
open PySem PySem.Spec PyProof.Rows L2
theorem FsRep.rf {K : PySem.W.Frag} {G : Hp} : ∀ {fs : List (Str × D)} {fv : List (Str × V)}, FsRep K G fs fv → RepF K G fs fv
  | [], fv, ⟨h1, _⟩ => by
    cases fv with
    | nil => rw [RepF]
    | cons a b => cases h1
  | (k, d) :: fs, fv, ⟨h1, h2⟩ => by
    cases fv with
    | nil => cases h1
    | cons a b =>
      obtain ⟨k2, x⟩ := a
      simp only [List.map_cons, List.cons.injEq] at h1
      obtain ⟨rfl, h1⟩ := h1
      rw [List.map_cons, List.map_cons, Reps] at h2
      obtain ⟨y, r, e, r1, r2⟩ := h2
      cases e
      rw [RepF]
      exact ⟨_, _, rfl, r1, FsRep.rf ⟨h1, r2⟩⟩
theorem RepF.look {K : PySem.W.Frag} {G : Hp} {f : Str} {d : D} : ∀ {fs : List (Str × D)} {fv : List (Str × V)}, RepF K G fs fv → fs.lookup f = some d → ∃ v, fv.lookup f = some v ∧ Rep K G d v
  | [], _, _, e => by cases e
  | (k, d0) :: fs, fv, h, e => by
    rw [RepF] at h
    obtain ⟨x, r, rfl, r1, r2⟩ := h
    rw [List.lookup_cons] at e ⊢
    cases hk : (f == k) with
    | true => rw [hk] at e; cases e; exact ⟨x, rfl, r1⟩
    | false => rw [hk] at e; exact RepF.look r2 e
theorem Rep.er {K : PySem.W.Frag} {G : Hp} {a c dd : Addr} {fs : List (Str × D)} {v : V} : Rep K G (.er a c dd fs) v ↔ v = .ref a ∧ ∃ ys, G dd = some (.xd ys) ∧ RepF K G fs ys := by rw [Rep]
section
variable {X : Cx} {e a : Expr} {Wx : WX} {p pos : Pos} {ga : Mo D}
/-! ### raise -/
def raiS (c fl : Str) (f : Mo D) : MS := fun ρ => match f ρ with
  | some (.ok d ρ') => some (.ex c [(fl, d)] ρ')
  | some (.ex c fs ρ') => some (.ex c fs ρ')
  | none => none
theorem s_raise {x fl : Str} {C fI : Addr} {k : Nat} {fd : FuncData} {p2 : Pos} (hc : X.calm = true) (tk : Takes X Wx) (T : OexC X.K C) (iC : PySem.W.findIn X.K (.ref C) "__init__" = some (some (.ref fI))) (tI : PySem.W.typeIn X.K (.ref fI) = some (.type "function"))
    (F1 : FnOk X.prog X.w X.K X.mg X.base (fun _ _ _ _ _ _ => False) k fI fd ["self", fl] (spI C fl)) (hr : Room (k + 1) X.A) (hb : Binds X.K fd ["self", fl] []) (hg : Gl X x) (hm : X.mg x = some (.ref C)) (ha : PE X e (tV X.K X.mg Wx ga))
    (hdb : (x == ("__debug__" : Str)) = false := by decide) (he : starEach (e :: []) X.env = (false, eval e X.env) :: starEach [] X.env := by rfl) (hpl : (backTo pos (starEach [] X.env)).any (·.1) = false := by rfl) :
    PS X (.Raise (some (.Call (.Name x p) [e] [] pos)) none p2) (tS X.K X.mg Wx (raiS x fl ga)) :=
  (ps_raise hc tk (pmk_oex (ds := []) (dvs := []) T iC tI F1 hr hb .nil (fun _ _ _ _ _ _ _ h => h.elim) hg hm (pa_cons ha pa_nil he) hdb he hpl)).wk fun D σ H ⟨g, ρ, T, G, W, hR, k⟩ => by
    refine ⟨g, ρ, T, G, W, hR, ?_⟩
    unfold raiS at k
    cases h1 : ga ρ with
    | none => rw [h1] at k; exact k.elim
    | some r =>
      rw [h1] at k
      cases r with
      | ex c fs ρ' => exact k
      | ok d ρ' =>
        intro v H1 G1 W1 R1 eg1 rv
        refine ⟨by show 1 ≤ 1000; decide, fun a ea => ⟨a, v, rfl, upd_same, fun dx hdx hne => ⟨rfl, dx, [(fl, v)], upd_same, ?_, ?_, ?_⟩⟩⟩
        · rw [upd_ne hne, upd_same]
        · rw [upd_ne hne] at hdx; exact hdx
        · rw [upd_ne hne] at hdx
          have eH : upd (del (upd (upd (upd H1 a (exo a C none)) dx (exd dx [(fl, v)])) a (exo a C (some dx))) a) dx (.xd [(fl, v)]) = upd H1 dx (.xd [(fl, v)]) := by
            funext b
            by_cases hb : b = dx
            · subst hb; rw [upd_same, upd_same]
            · rw [upd_ne hb, upd_ne hb]
              by_cases hba : b = a
              · subst hba; rw [del_same]; exact ea.symm
              · rw [del_ne hba, upd_ne hba, upd_ne hb, upd_ne hba]
          rw [eH]
          exact k C dx [(fl, v)] σ _ (upd G1 dx (.xd [(fl, v)])) W1 hm (R1.new hdx) (eg1.trans (same_upd (R1.gh.free hdx))) upd_same ⟨rfl, Reps.one (rv.mono (same_upd (R1.gh.free hdx)))⟩
/-! ### try: .. except C as n: .. -/
open Classical in
noncomputable def uni (f : Addr → Addr → Option So) : Option So := if h : ∃ r, ∀ a d, f a d = some r then some h.choose else none
theorem uni_eq {f : Addr → Addr → Option So} {r : So} (h : ∀ a d, f a d = some r) : uni f = some r := by
  unfold uni
  have hx : ∃ r, ∀ a d, f a d = some r := ⟨r, h⟩
  rw [dif_pos hx]
  have := hx.choose_spec 0 0
  rw [h] at this
  exact this.symm
theorem uni_all {f : Addr → Addr → Option So} {r : So} (h : uni f = some r) : ∀ a d, f a d = some r := by
  unfold uni at h
  split at h
  · rename_i hx
    intro a d
    have := hx.choose_spec a d
    rw [this]; exact h
  · cases h
/-- the slot of the error is emptied -/
def So.clr (i : Nat) : So → So
  | .nx ρ => .nx (ρ.set i .no)
  | .bk ρ => .bk (ρ.set i .no)
  | .ct ρ => .ct (ρ.set i .no)
  | .rt o ρ => .rt o (ρ.set i .no)
  | r => r
/-- a suite's end, the slot of the error emptied; no error leaves it -/
def clrO (i : Nat) : Option So → Option So
  | some (.ex _ _ _) => none
  | some r => some (r.clr i)
  | none => none
noncomputable def tryS (mt : Str → Option (Option Addr)) (i : Nat) (mb : MS) (m : Addr → Addr → Addr → MS) : MS := fun ρ => match mb ρ with
  | some (.ex c fs ρ1) => (match mt c with
    | some none => some (.ex c fs ρ1)
    | some (some C) => if stb i ρ1 = true then uni (fun a d => clrO i (m a C d (ρ1.set i (.ow (.fr (.er a C d fs)))))) else none
    | none => none)
  | r => r
theorem R.noS' {K : PySem.W.Frag} {g : Gs} {ρ : Rho} {T : List (O × V)} {σ : L2.St} {H G : Hp} {W : Own} {i : Nat} (h : R K g ρ T σ H G W) : R K g (ρ.set i .no) T σ H G W := by
  have := h.noS (i := i) (x := (σ[i]?).join)
  have e : σ.set i (σ[i]?).join = σ := by
    apply List.ext_getElem?
    intro j
    by_cases hj : i = j
    · subst hj
      by_cases hi : i < σ.length
      · rw [List.getElem?_set_self hi, List.getElem?_eq_getElem hi]; rfl
      · rw [List.getElem?_eq_none (by rw [List.length_set]; omega), List.getElem?_eq_none (by omega)]
    · rw [List.getElem?_set_ne hj]
  rw [e] at this
  exact this
theorem s_try {x n : Str} {c : Value} {i : Nat} {body suite : List Stmt} {b₀ : Stmt} {np pos' : Pos} {mt : Str → Option (Option Addr)} {mb : MS} {m : Addr → Addr → Addr → MS} (hs : X.stack = X.env :: X.outer) (hf : X.env.frame = some X.env.locals) (hN : X.N.Nodup) (hi : X.N[i]? = some n) (hln : X.env.kindOf n = some .local) (hc : Names X x c) (tk : Takes X Wx)
    (hmt : ∀ cn C, X.mg cn = some (.ref C) → (mt cn = some none → PySem.W.exmOne X.K (.ref C) c = some false) ∧ ∀ C0, mt cn = some (some C0) → C = C0 ∧ PySem.W.exmOne X.K (.ref C) c = some true)
    (hb : ∀ (W : WX) (pn : List (Addr × Obj)) (xe : Value → Shared → Prop), Takes (X.tr pn xe) W → PassesOwn (model X.prog X.w) X.A X.env xe → PSs (X.tr pn xe) body (tS X.K X.mg W mb))
    (hsu : ∀ (a : Addr) (oe : Obj) (C dd : Addr) (pn : List (Addr × Obj)), Zc (.ref C) (some dd) oe → (∃ vs, oe.data = .fields vs) → PSs (X.suite a ((a, oe) :: pn)) (b₀ :: suite) (tS X.K X.mg W0 (m a C dd))) :
    PS X (.Try body [.ExceptHandler (some (.Name x np)) (some n) (b₀ :: suite) pos'] [] [] pos) (tS X.K X.mg Wx (tryS mt i mb m)) := by
  refine (ps_try_as (tb := fun W => tS X.K X.mg W mb) (ts := fun a cls d D σ H => ∃ C dd, cls = .ref C ∧ d = some dd ∧ tS X.K X.mg W0 (m a C dd) D σ H) hs hf hN hi hln hc tk hb (fun a oe cls d pn hz hfs => ⟨fun pins s σ H D I ⟨C, dd, e1, e2, h⟩ => ?_⟩)).wk fun D σ H ⟨g, ρ, T, G, W, hR, k⟩ => ?_
  · subst e1 e2
    exact (hsu a oe C dd pn hz hfs).run pins s σ H D I h
  refine ⟨g, ρ, T, G, W, hR, ?_⟩
  unfold tryS at k
  cases h1 : mb ρ with
  | none => rw [h1] at k; exact k.elim
  | some r =>
    rw [h1] at k
    cases r with
    | nx ρ1 => exact k
    | bk ρ1 => exact k
    | ct ρ1 => exact k
    | rt o ρ1 => exact k
    | ex cn fs ρ1 =>
      intro C d fv σ1 H1 G1 W1 hm R1 eg1 hd hfs
      dsimp only at k
      obtain ⟨m1, m2⟩ := hmt cn C hm
      cases h2 : mt cn with
      | none => rw [h2] at k; exact k.elim
      | some oc =>
        rw [h2] at k
        cases oc with
        | none => exact ⟨false, m1 h2, (fun z => nomatch z), fun _ => k C d fv σ1 H1 G1 W1 hm R1 eg1 hd hfs⟩
        | some C0 =>
          obtain ⟨rfl, hm2⟩ := m2 C0 h2
          refine ⟨true, hm2, fun _ a na => ⟨C, d, rfl, rfl, ?_⟩, fun z => nomatch z⟩
          dsimp only at k
          by_cases hst : stb i ρ1 = true
          · rw [if_pos hst] at k
            have er : Rep X.K G1 (.er a C d fs) (.ref a) := Rep.er.mpr ⟨rfl, fv, hd, hfs.rf⟩
            have R2 := (R1.addT er).setS (i := i) (stb_lt hst)
            cases h3 : uni (fun a d => clrO i (m a C d (ρ1.set i (.ow (.fr (.er a C d fs)))))) with
            | none => rw [h3] at k; exact k.elim
            | some r =>
              rw [h3] at k
              have h4 := uni_all h3 a d
              refine ⟨g, _, T, G1, _, R2, ?_⟩
              cases h5 : m a C d (ρ1.set i (.ow (.fr (.er a C d fs)))) with
              | none => rw [h5] at h4; cases h4
              | some r0 =>
                rw [h5] at h4
                cases r0 with
                | nx ρ2 => cases h4; exact fun σ' H' G' W' R' eg => k _ H' G' W' (R'.noS (x := none)) (eg1.trans eg)
                | bk ρ2 => cases h4; exact fun σ' H' G' W' R' eg => k _ H' G' W' (R'.noS (x := none)) (eg1.trans eg)
                | ct ρ2 => cases h4; exact fun σ' H' G' W' R' eg => k _ H' G' W' (R'.noS (x := none)) (eg1.trans eg)
                | rt o ρ2 => cases h4; exact fun v σ' H' G' W' R' eg => k v _ H' G' W' R'.noS' (eg1.trans eg)
                | ex c2 fs2 ρ2 => cases h4
          · rw [if_neg hst] at k; exact k.elim

/-- error.f in the suite -/
def xfF (a C dd C0 : Addr) (f : Str) (i : Nat) : Pu D := fun ρ => match var i ρ with
  | some (.er a' _ d' fs) => if a' = a ∧ d' = dd ∧ C = C0 then fs.lookup f else none
  | _ => none
theorem p_xf {i : Nat} {n : Str} {a0 C dd C0 : Addr} {oe : Obj} {pn : List (Addr × Obj)} (TC : XfC X.K C0) (hno : PySem.W.findIn X.K (.ref C0) n = some none) (hz : Zc (.ref C) (some dd) oe) (hf : ∃ vs, oe.data = .fields vs)
    (he : PE (X.suite a0 ((a0, oe) :: pn)) e (tVar i)) (hb : attributeBase e n X.env (eval e X.env) = eval e X.env := by rfl) : PE (X.suite a0 ((a0, oe) :: pn)) (.Attribute e n pos) (tP X.K (xfF a0 C dd C0 n i)) := by
  by_cases hC : C = C0
  · subst hC
    refine (pe_xf (pos := pos) TC hno hz hf he hb).wk fun σ H Q ⟨g, ρ, T, G, W, d, hR, hF, k⟩ => ?_
    unfold xfF at hF
    split at hF
    · rename_i a' c' d' fs e1
      split at hF
      · rename_i hc
        obtain ⟨rfl, rfl, _⟩ := hc
        obtain ⟨s, e1, e2⟩ := var_some e1
        obtain ⟨v, h1, h2⟩ := hR.slo e1 e2
        rw [Ow] at h2
        obtain ⟨rfl, ys, h3, h4⟩ := Rep.er.mp h2
        obtain ⟨y, h5, h6⟩ := h4.look hF
        exact ⟨_, h1, rfl, rfl, d', ys, y, rfl, hR.gh _ _ h3, h5, k y H G hR (Same.refl _) (Same.refl _) h6⟩
      · cases hF
    · cases hF
  · exact ⟨fun pins s σ H Q I ⟨g, ρ, T, G, W, d, hR, hF, k⟩ => by
      unfold xfF at hF
      split at hF
      · rw [if_neg (fun h => hC h.2.2)] at hF; cases hF
      · cases hF⟩
/-- isinstance(error, C) in the suite -/
def rIsD (K : PySem.W.Frag) (C dd a : Addr) : List V → Hp → VK → Prop := fun xs H Q => ∃ (c : V) (cv : Value) (b : Bool), xs = [.ref a, c] ∧ (∀ u, RelV c u → u = cv) ∧ PySem.W.kitOne K (.ref C) cv = some b ∧ (∃ fs, H dd = some (.xd fs)) ∧ Q (.bl b) H
theorem call_isD {a0 C dd : Addr} {oe : Obj} {pn : List (Addr × Obj)} (E : ExcC X.K C) (hz : Zc (.ref C) (some dd) oe) (hf : ∃ vs, oe.data = .fields vs) : CallR (X.suite a0 ((a0, oe) :: pn)) (.builtin "isinstance") (rIsD X.K C dd a0) := by
  intro pins s σ H xs us Q I r h
  obtain ⟨c, cv, b, rfl, hcv, e, ⟨fs, hdd⟩, q⟩ := h
  cases r with
  | cons rx rr =>
    cases rr with
    | cons rt rr =>
      cases rr
      cases rx
      have ec := hcv _ rt
      subst ec
      obtain ⟨hget, _⟩ := I.pin (a0, oe) (List.mem_append.mpr (.inl List.mem_cons_self))
      obtain ⟨vs, hv⟩ := hf
      obtain ⟨od, hod⟩ := objOk_get (I.hok dd _ hdd)
      have J : PySem.W.InstAt s.heap a0 oe C (some od) := by
        obtain ⟨oc, od', oda, osl⟩ := oe
        obtain ⟨h1, h2⟩ := hz
        dsimp only at h1 h2 hv
        subst h1 h2 hv
        exact ⟨hget, rfl, rfl, hod⟩
      have hcl : (PySem.W.clsIn X.K C).isSome = true := by
        have := E.hd
        unfold PySem.W.hasDictIn at this
        cases hh : PySem.W.clsIn X.K C with
        | none => rw [hh] at this; cases this
        | some _ => rfl
      exact PySem.W.kia_one (PySem.W.kitx_exc hcl E.hg E.hk E.hs E.ha E.hn E.ht E.hm) I.kIn J e (fun z => nomatch z) fun tk => ⟨.bl b, H, I.kept (t' := tk) fun _ _ z => z, rfl, q⟩
def isF (a C dd C0 : Addr) (b : Bool) (i : Nat) : Pu D := fun ρ => match var i ρ with
  | some (.er a' _ d' fs) => if a' = a ∧ d' = dd ∧ C = C0 then some (.bl b) else none
  | _ => none
theorem p_isE {i : Nat} {y : Str} {a0 C dd C0 D0 : Addr} {b : Bool} {oe : Obj} {pn : List (Addr × Obj)} {e : Expr} {q : Pos} (E : ExcC X.K C0) (hk : PySem.W.kitOne X.K (.ref C0) (.ref D0) = some b) (hz : Zc (.ref C) (some dd) oe) (hf : ∃ vs, oe.data = .fields vs) (hg : Gl X "isinstance") (hm : X.mg "isinstance" = none)
    (he : PE (X.suite a0 ((a0, oe) :: pn)) e (tVar i)) (hgT : Gl X y) (hmT : X.mg y = some (.ref D0)) (hd : (y == ("__debug__" : Str)) = false := by decide)
    (hs : starEach [e, .Name y q] X.env = (false, eval e X.env) :: starEach [.Name y q] X.env := by rfl) (hs2 : starEach [.Name y q] X.env = (false, eval (.Name y q) X.env) :: starEach [] X.env := by rfl) (hpl : (backTo pos (starEach [.Name y q] X.env)).any (·.1) = false := by rfl) :
    PE (X.suite a0 ((a0, oe) :: pn)) (.Call (.Name "isinstance" p) [e, .Name y q] [] pos) (tP X.K (isF a0 C dd C0 b i)) := by
  by_cases hC : C = C0
  · subst hC
    refine (pe_callB (X := X.suite a0 ((a0, oe) :: pn)) (call_isD E hz hf) hg hm (by decide +kernel) (pa_cons he (pa_cons (pe_glob (v := .ref D0) hgT hmT rfl hd) pa_nil hs2) hs) (by decide) (by decide) hs hpl).wk fun σ H Q ⟨g, ρ, T, G, W, d, hR, hF, k⟩ => ?_
    unfold isF at hF
    split at hF
    · rename_i a' c' d' fs e1
      split at hF
      · rename_i hc
        obtain ⟨rfl, rfl, _⟩ := hc
        cases hF
        obtain ⟨s, e1, e2⟩ := var_some e1
        obtain ⟨v, h1, h2⟩ := hR.slo e1 e2
        rw [Ow] at h2
        obtain ⟨rfl, ys, h3, h4⟩ := Rep.er.mp h2
        exact ⟨_, h1, .ref D0, .ref D0, b, rfl, fun u hu => hu, hk, ⟨_, hR.gh _ _ h3⟩, k _ H G hR (Same.refl _) (Same.refl _) (Rep.b.mpr rfl)⟩
      · cases hF
    · cases hF
  · exact ⟨fun pins s σ H Q I ⟨g, ρ, T, G, W, d, hR, hF, k⟩ => by
      unfold isF at hF
      split at hF
      · rw [if_neg (fun h => hC h.2.2)] at hF; cases hF
      · cases hF⟩
end
end Tr
namespace Tr
open PySem PySem.Spec PyProof.Rows L2
/-! ### own defs as one fact -/
inductive Cal (P : Program) (w : World) (K : PySem.W.Frag) (mg : MG) (base : Heap) (k : Nat) (x : Str) (n : Nat) (F : FS) : Prop
  | mk (f : Addr) (fd : FuncData) (ps : List Str) (hn : ps.length = n) (FO : FnOk P w K mg base (L2.CX P w) k f fd ps (spF K mg ps.length F)) (hm : mg x = some (.ref f)) (hk : PySem.W.keepIn K (.ref f) = true) (hb : Binds K fd ps [])
theorem Cal.mono {P : Program} {w : World} {K : PySem.W.Frag} {mg : MG} {base : Heap} {k k' : Nat} {x : Str} {n : Nat} {F : FS} (h : Cal P w K mg base k x n F) (l : k ≤ k') : Cal P w K mg base k' x n F := by
  obtain ⟨f, fd, ps, hn, FO, hm, hk, hb⟩ := h
  exact ⟨f, fd, ps, hn, FO.mono l, hm, hk, hb⟩
theorem Cal.imp {P : Program} {w : World} {K : PySem.W.Frag} {mg : MG} {base : Heap} {k : Nat} {x : Str} {n : Nat} {F F' : FS} (h : Cal P w K mg base k x n F) (l : ∀ a r, F' a = some r → F a = some r) : Cal P w K mg base k x n F' := by
  obtain ⟨f, fd, ps, hn, FO, hm, hk, hb⟩ := h
  exact ⟨f, fd, ps, hn, FO.imp (spF_imp l), hm, hk, hb⟩
section
variable {X : Cx} {e a b c : Expr} {es : List Expr} {Wx : WX} {p q pos : Pos} {ga : Mo D} {fa fb : Pu D}
theorem x_callC {x : Str} {k n : Nat} {F : FS} {fa : Mo (List Ag)} (C : Cal X.prog X.w X.K X.mg X.base k x n F) (tk : Takes X Wx) (hr : Room k X.A) (hg : Gl X x) (ha : PA X (e :: es) (tAg X.K X.mg Wx fa))
    (hdb : (x == ("__debug__" : Str)) = false := by decide) (he : starEach (e :: es) X.env = (false, eval e X.env) :: starEach es X.env := by rfl) (hpl : (backTo pos (starEach es X.env)).any (·.1) = false := by rfl) :
    PE X (.Call (.Name x p) (e :: es) [] pos) (tX X.K X.mg Wx (callM n F fa)) := by
  obtain ⟨f, fd, ps, hn, FO, hm, hk, hb⟩ := C
  subst hn
  exact x_call tk FO hr hg hm hk hb ha hdb he hpl
/-- f(y = e) -/
theorem x_callK1 {x y : Str} {k : Nat} {f : Addr} {fd : FuncData} {F : FS} {kpos : Pos} (tk : Takes X Wx) (FO : FnOk X.prog X.w X.K X.mg X.base (L2.CX X.prog X.w) k f fd [y] (spF X.K X.mg 1 F)) (hr : Room k X.A) (hg : Gl X x) (hm : X.mg x = some (.ref f)) (hk : PySem.W.keepIn X.K (.ref f) = true)
    (hb : ∀ (s : Shared) (u : Value), BindsTo s fd ⟨[], [(y, u)]⟩ [(y, u)]) (ha : PE X e (tV X.K X.mg Wx ga))
    (hdb : (x == ("__debug__" : Str)) = false := by decide) :
    PE X (.Call (.Name x p) [] [⟨some y, e, kpos⟩] pos) (tX X.K X.mg Wx (callM 1 F (agV ga agN))) := by
  refine PE.wk (t := tCallSD (spF X.K X.mg 1 F) [] (WE Wx) (tCons (tV X.K X.mg Wx ga) tNil)) ⟨fun pins s σ H Q I h => ?_⟩ fun σ H Q h => ?_
  · refine wpAny_Call_Name_kw (ld_glob I hg hm ?_ hdb)
    refine PySem.W.callWith_KW0 (h₀ := X.base) I.ok.mod.kin hk rfl (thn ((pk_cons (nm := some y) (kpos := kpos) ha pk_nil).run pos pins s σ H _ I h) fun us s1 ⟨vs, H1, I1, r1, q1⟩ => ⟨I1.kIn, ?_⟩) rfl
    have hlen : vs.length = 1 := q1.1.symm ▸ by have := q1.1; simpa using this
    obtain ⟨v, rfl⟩ : ∃ v, vs = [v] := by
      match vs, hlen with
      | [v], _ => exact ⟨v, rfl⟩
    obtain ⟨u, rfl, rv⟩ : ∃ u, us = [u] ∧ RelV v u := by
      cases r1 with
      | cons r2 r3 => cases r3; exact ⟨_, rfl, r2⟩
    have hb' : BindsTo s1 fd ⟨[], [(y, u)]⟩ (([y] : List Str).zip [u]) := hb s1 u
    show wpAny _ _ (call (.ref f) [] [(y, u)]) _ _ _
    refine wpAny_call (codeAny_mono (FO.run X.A X.stack s1 H1 ⟨[], [(y, u)]⟩ [u] [v] Q (WE Wx σ) hr I1.env0 hb' (.cons rv .nil) q1) fun r s' hq => ?_)
    cases r with
    | error e => exact passAt tk σ pins H1 s1 e s' I1 hq
    | ok fl =>
      cases fl with
      | ret u => exact I1.after hq
      | next => exact False.elim hq
      | brk => exact False.elim hq
      | cont => exact False.elim hq
  · have h1 := tCall_ok (K := X.K) (mg := X.mg) (Wx := Wx) (F := F) (n := 1) (fa := agV ga agN) σ H Q h
    obtain ⟨g, ρ, T, G, W, hR, k⟩ := h1
    refine ⟨g, ρ, T, G, W, hR, ?_⟩
    unfold agV at k
    cases h1 : ga ρ with
    | none => rw [h1] at k; exact k.elim
    | some r =>
      rw [h1] at k
      cases r with
      | ex c fs ρ' => exact k
      | ok d ρ' => exact fun v H' G' W' R' eg rv => k [v] H' G' W' R' eg ⟨v, [], rfl, rv, rfl⟩
/-! ### constants of the modules -/
theorem p_gint {x : Str} {i : Int} {t : Tok} (hg : Gl X x) (hm : X.mg x = some (.int i t)) (hd : (x == ("__debug__" : Str)) = false := by decide) : PE X (.Name x pos) (tP X.K (cst (.int i))) := p_cst (pe_glob (v := .int i) hg hm ⟨t, rfl⟩ hd) fun G => by rw [Rep]
/-! ### len(set(tuple of ints)) -/
def dedI : List Int → List Int
  | [] => []
  | x :: xs => if x ∈ xs then dedI xs else x :: dedI xs
theorem dedI_mem : ∀ (ns : List Int) (k : Int), k ∈ dedI ns ↔ k ∈ ns
  | [], k => Iff.rfl
  | x :: xs, k => by
    unfold dedI
    split
    · rename_i h
      rw [dedI_mem xs k, List.mem_cons]
      exact ⟨.inr, fun e => e.elim (fun e => e ▸ h) id⟩
    · rw [List.mem_cons, List.mem_cons, dedI_mem xs k]
theorem dedI_nodup : ∀ ns : List Int, (dedI ns).Nodup
  | [] => List.nodup_nil
  | x :: xs => by
    unfold dedI
    split
    · exact dedI_nodup xs
    · rename_i h
      exact List.nodup_cons.mpr ⟨fun m => h ((dedI_mem xs x).mp m), dedI_nodup xs⟩
theorem dedI_le : ∀ ns : List Int, (dedI ns).length ≤ ns.length
  | [] => Nat.le_refl _
  | x :: xs => by
    have := dedI_le xs
    unfold dedI
    split
    · rw [List.length_cons]; omega
    · rw [List.length_cons, List.length_cons]; omega
theorem dedI_eq : ∀ {ns : List Int}, (dedI ns).length = ns.length ↔ ns.Nodup
  | [] => by simp [dedI]
  | x :: xs => by
    have h := dedI_le xs
    have ih := dedI_eq (ns := xs)
    rw [List.nodup_cons]
    unfold dedI
    split
    · rename_i hm
      rw [List.length_cons]
      exact ⟨fun e => absurd e (by omega), fun e => absurd hm e.1⟩
    · rename_i hm
      rw [List.length_cons, List.length_cons, ← ih]
      exact ⟨fun e => ⟨hm, by omega⟩, fun e => by rw [e.2]⟩
def lenSetD (d : D) : Option D := match d with
  | .tup ds => (match intsO ds with
    | some ns => if ns.length ≤ 4000 then some (.int (dedI ns).length) else none
    | none => none)
  | _ => none
theorem v_lenSet {p2 : Pos} (hc : X.calm = true) (hg : Gl X "len") (hm : X.mg "len" = none) (hg2 : Gl X "set") (hm2 : X.mg "set" = none) (ha : PE X a (tP X.K fa))
    (na : starEach [a] X.env = (false, eval a X.env) :: starEach [] X.env := by rfl) : PE X (.Call (.Name "len" p) [.Call (.Name "set" p2) [a] [] q] [] pos) (tP X.K (pu1 lenSetD fa)) := ⟨fun pins s σ H Q I ⟨g, ρ, T, G, W, d, hR, hf, k⟩ => by
  unfold pu1 at hf
  split at hf
  · rename_i x0 e1
    unfold lenSetD at hf
    split at hf
    · rename_i ds
      cases hi : intsO ds with
      | none => rw [hi] at hf; cases hf
      | some ns =>
        rw [hi] at hf
        dsimp only at hf
        split at hf
        · rename_i hl
          cases hf
          refine Call_ (ld_blt I hg hm boot_len ?_)
          refine PyProof.Rows.callWith_builtin1 (PyProof.Rows.args_cons ?_ rfl) rfl rfl
          refine Call_ (ld_blt I hg2 hm2 boot_set ?_)
          refine PyProof.Rows.callWith_type1 (PyProof.Rows.args_cons (thn (ha.run pins s σ H (fun v H1 => ∃ G1, R X.K g ρ T σ H1 G1 W ∧ Same G G1 ∧ Same H H1 ∧ Rep X.K G1 (.tup ds) v) I ⟨g, ρ, T, G, W, .tup ds, hR, e1, fun v H1 G1 R1 eg eh r => ⟨G1, R1, eg, eh, r⟩⟩) fun v s1 ⟨x, H1, I1, r1, G1, R1, eg, eh, rx⟩ => PyProof.Rows.args_nil ?_) na) na rfl
          obtain ⟨l, xs, rfl, hq, hr⟩ := rx.tp
          have exs := hr.intsV hi
          subst exs
          cases r1
          obtain ⟨its, r, pl, hz⟩ := I1.tuple (SqT_same R1.gh hq)
          refine call_set_tupI ns (I1.ok.hd hc) pl (by simpa using r.ints) (by unfold scanBound; omega) fun h' tk cc hS hcl hk => ?_
          refine PyProof.Rows.args_nil ?_
          obtain ⟨o, es, ep, t, ho, hex, hd, hge, hnd, hmem, hsz, hfit, hn, _, _⟩ := hS
          have I2 : Inv X pins σ H1 { s1 with heap := h', toks := tk } := I1.kept fun b o e => hk b o e
          have hcnt : es.size = (dedI ns).length := by
            have h1 : (es.toList.map keyOf).length = (dedI ns).length := by
              refine List.Perm.length_eq ((List.perm_ext_iff_of_nodup hnd (dedI_nodup ns)).mpr fun z => ?_)
              rw [dedI_mem, ← hmem z, decide_eq_true_eq]
            rw [List.length_map, Array.length_toList] at h1
            exact h1
          exact call_len_set ho hex hd hfit (by have := dedI_le ns; omega) ⟨.int (dedI ns).length, H1, I2.tok _, ⟨_, by rw [hcnt]⟩, k _ H1 G1 R1 eg eh (Rep.i.mpr rfl)⟩
        · cases hf
    · cases hf
  · cases hf⟩
end
end Tr
namespace HT
open PySem PyProof.Rows L2
section
variable {prog : Program} {w : World} {A : Around} {E : Value → Shared → Prop} {s : Shared}
theorem tr_places (n : Nat) : Builtin.Slice.slicePlaces ((n : Int) - 1) (-1) (-1) = n := by
  unfold Builtin.Slice.slicePlaces
  have h1 : ¬ ((-1 : Int) > 0) := by omega
  simp only [h1, if_false]
  split
  · show (((n : Int) - 1 - (-1) - 1) / 1 + 1).toNat = n
    rw [Int.ediv_one]; omega
  · rename_i h; simp at h; omega
theorem tr_sliceApplied_rev {sl : Addr} {vs : Value} {n : Nat} {Q : Int × Int × Nat → Shared → Prop} (hs : s.heap.IsSliceOf sl .none .none vs) (ps : IsPart vs (some (-1)))
    (h : Q (((n : Int) - 1), -1, n) s) : wpAny (model prog w) A (Builtin.Slice.sliceApplied (.ref sl) (pure (n : Int))) Q E s := by
  obtain ⟨os, hos, hcs, hds⟩ := id hs
  unfold Builtin.Slice.sliceApplied Builtin.Slice.sliceFields
  refine wpAny_bind (wpAny_bind (wpAny_field hos hds (x := .none) rfl (wpAny_bind (wpAny_field hos hds (x := .none) rfl (wpAny_bind (wpAny_field hos hds (x := vs) rfl (wpAny_pure ?_)))))))
  refine wpAny_bind (slicePart_ ps ?_)
  show wpAny _ _ (if ((-1 : Int) == 0) = true then _ else _) _ _ s
  rw [if_neg (by decide)]
  refine wpAny_bind (slicePart_none (wpAny_bind (slicePart_none (wpAny_bind (wpAny_pure ?_)))))
  show wpAny _ _ (pure (((n : Int) - 1), (-1 : Int), Builtin.Slice.slicePlaces ((n : Int) - 1) (-1) (-1))) _ _ s
  rw [tr_places]
  exact wpAny_pure h
theorem tr_fm {α β : Type} {f : α → Option β} {g : α → β} : ∀ {l : List α}, (∀ m ∈ l, f m = some (g m)) → l.filterMap f = l.map g
  | [], _ => rfl
  | a :: l, h => by
    rw [List.filterMap_cons, h a (List.mem_cons_self ..), List.map_cons, tr_fm fun m hm => h m (List.mem_cons_of_mem _ hm)]
theorem tr_pick_rev (xs : Array Value) : ((List.range xs.size).filterMap fun (m : Nat) => xs[(((xs.size : Int) - 1) + (m : Int) * (-1)).toNat]?).toArray = xs.toList.reverse.toArray := by
  congr 1
  apply List.ext_getElem?
  intro i
  have e : (List.range xs.size).filterMap (fun (m : Nat) => xs[(((xs.size : Int) - 1) + (m : Int) * (-1)).toNat]?) = (List.range xs.size).map fun m => (xs[xs.size - 1 - m]?).getD .none := by
    refine tr_fm fun m hm => ?_
    rw [List.mem_range] at hm
    have h1 : (((xs.size : Int) - 1) + (m : Int) * (-1)).toNat = xs.size - 1 - m := by omega
    have h2 : xs.size - 1 - m < xs.size := by omega
    rw [h1, Array.getElem?_eq_getElem h2]
    rfl
  rw [e, List.getElem?_map]
  by_cases hi : i < xs.size
  · have h2 : xs.size - 1 - i < xs.size := by omega
    rw [List.getElem?_range hi, List.getElem?_reverse (by simpa using hi)]
    simp [h2]
  · rw [List.getElem?_eq_none (by simpa using hi), List.getElem?_eq_none (by simpa using hi)]; rfl
theorem tr_getItem_tuple_rev {t sl : Addr} {items : Array Value} {vs : Value} {Q : Value → Shared → Prop} (ht : IsTup s.heap t items) (hs : s.heap.IsSliceOf sl .none .none vs) (ps : IsPart vs (some (-1)))
    (h : Q (.ref s.heap.objs.size) { s with heap := s.heap.push { cls := .type "tuple", data := .seq items.toList.reverse.toArray } })
    (hsz : items.size ≤ sizeLine) : wpAny (model prog w) A (getItem (.ref t) (.ref sl)) Q E s := by
  have htake : sizeOk (.seq items.toList.reverse.toArray) := by
    show items.toList.reverse.toArray.size ≤ sizeLine
    rw [List.size_toArray, List.length_reverse, Array.length_toList]
    exact hsz
  obtain ⟨os, hos, hcs, hds⟩ := id hs
  have hTs : s.TypeIs (.ref sl) "slice" := ⟨os, hos, hcs⟩
  unfold getItem
  try with_reducible refine wpAny_holding ?_
  first | refine wpAny_bind (wpAny_pure ?_) | skip
  refine wpAny_bind (wpAny_sequenceKey ht.typeIs (by decide) ?_)
  refine wpAny_bind (wpAny_callSpecial?_slot (name := Str.ofString "__getitem__") ht.typeIs PyProof.Rows.slot_tuple_getitem
    (wpAny_call_entry PyProof.Rows.slot_tuple_getitem ht.typeIs entry_tuple_getitem ?_ (args_tuple_getitem _ _)))
  show wpAny _ _ (Builtin.Tuple.tupleItemsOf (.ref t) >>= _) _ _ s
  refine wpAny_bind (tupleItemsOf_ ht ?_)
  refine wpAny_bind (wpAny_typeOf hTs ?_)
  rw [if_pos (by decide)]
  refine wpAny_bind (tr_sliceApplied_rev hs ps ?_)
  have hno : ¬ ((((items.size : Int) - 1) == 0 && (-1 : Int) == 1 && items.size == items.size) = true) := by simp
  show wpAny _ _ (if (((items.size : Int) - 1) == 0 && (-1 : Int) == 1 && items.size == items.size) = true then _ else _) _ _ s
  rw [if_neg hno, tr_pick_rev]
  first
    | exact wpAny_bind (m := Builtin.Tuple.tupleExact _) (wpAny_newObj_type (wpAny_pure ⟨_, rfl, wpAny_pure h⟩) htake)
    | exact wpAny_bind (m := Builtin.Tuple.tupleExact _) (wpAny_newObj_type (wpAny_bind (wpAny_pure (wpAny_pure ⟨_, rfl, wpAny_pure h⟩))) htake)
    | exact wpAny_bind (wpAny_bind (m := Builtin.Tuple.tupleExact _) (wpAny_newObj_type (wpAny_pure (wpAny_pure ⟨_, rfl, wpAny_pure h⟩)) htake))
    | exact wpAny_bind (wpAny_bind (m := Builtin.Tuple.tupleExact _) (wpAny_newObj_type (wpAny_pure ⟨_, rfl, wpAny_pure h⟩) htake))
end
end HT
namespace L2
open PySem PySem.Spec PyProof.Rows
section
variable {X : Cx}
def tRevT (K : PySem.W.Frag) (te : TE) : TE := fun σ H Q => te σ H fun x H1 => ∃ a xs, x = .ref a ∧ SqT K H1 a xs ∧ Tr.NewT H1 xs.reverse Q
theorem pe_revT {e : Expr} {te : TE} {k : Nat} {p1 p2 p3 pos : Pos} (he : PE X e te) : PE X (.Subscript e (.Slice none none (some (.UnaryOp .USub (.Constant (.int 1) k p1) p2)) p3) pos) (tRevT X.K te) := by
  refine ⟨fun pins s σ H Q I h => ?_⟩
  refine Subscript_ (thn (he.run pins s σ H _ I h) fun v s1 ⟨x, H1, I1, r1, q1⟩ => ?_)
  obtain ⟨a, xs, ex, hx, q⟩ := q1
  subst ex
  cases r1
  have hst : PO X (some (.UnaryOp .USub (.Constant (.int 1) k p1) p2)) (tPart (tUn (rU fun i => .int (-i)) (tC (.int 1)))) := po_some (pe_un un_neg pe_int)
  refine wpAny_Slice (thn (po_none.run pins s1 σ H1 (fun o H2 => o = none ∧ H2 = H1) I1 ⟨rfl, rfl⟩) fun vl s2 ⟨l, H2, I2, pl, el, e2⟩ => ?_)
  subst el e2
  refine thn (po_none.run pins s2 σ H2 (fun o H3 => o = none ∧ H3 = H2) I2 ⟨rfl, rfl⟩) fun vu s3 ⟨u, H3, I3, pu, eu, e3⟩ => ?_
  subst eu e3
  refine thn (hst.run pins s3 σ H3 (fun o H4 => o = some (-1) ∧ H4 = H3) I3 ⟨1, rfl, -1, rfl, rfl, rfl⟩) fun vs s4 ⟨o, H4, I4, ps, eo, e4⟩ => ?_
  subst eo e4
  have I5 : Inv X pins σ H4 { s4 with heap := s4.heap.push { cls := .type "slice", data := .fields #[vl, vu, vs] } } := I4.kept (t' := s4.toks) fun b ob q => Heap.get?_push_of_some _ q
  obtain ⟨its, r, ht, hz⟩ := I5.tuple hx
  have hlen := r.length
  cases pl
  cases pu
  show wpAny (model X.prog X.w) X.A (subscriptTail e (.Slice none none (some (.UnaryOp .USub (.Constant (.int 1) k p1) p2)) p3) (.ref a) (.ref s4.heap.objs.size)) (EP X pins σ Q) X.xe { s4 with heap := s4.heap.push { cls := .type "slice", data := .fields #[.none, .none, vs] } }
  refine tail_any (ops := [.ref a, .ref s4.heap.objs.size]) ht.typeIs (PyProof.Rows.slot_tuple_getitem.lookup) ?_ (by with_unfolding_all rfl)
  refine HT.tr_getItem_tuple_rev ht (Heap.IsSliceOf.new _ .none .none vs) ps ?_ (by rw [List.size_toArray]; omega)
  exact Tr.lay_tup I5 r.reverse (by rw [List.length_reverse]; exact hz) q
end
end L2
namespace SrtO
open PySem PySem.Builtin.List PySem.Calls PyProof.Rows
section
variable {prog : Program} {w : World} {A : Around} {E : Value → Shared → Prop} {s : Shared}
theorem tr_sorted_tup {l : Addr} {vs : List Value} {ltv : Value → Value → Bool} {Q : Value → Shared → Prop} (O : Swo ltv) (hl : s.heap.IsTuple l vs.toArray) (hz : vs.length ≤ sizeLine)
    (hS : 2 ≤ vs.length → ∀ (h₁ : Heap) (a : Addr), SortableO prog w A.in1.in1 { s with heap := h₁ } a vs ltv)
    (h : ∀ (out : List Value) (h1 h' : Heap) (e : Nat), Srtd ltv out → Stb ltv out vs → (∀ b o, s.heap.get? b = some o → h1.get? b = some o) → (∀ b o, h1.get? b = some o → h'.get? b = some o) → h'.get? h1.objs.size = some (seqObj "list" out.toArray e) → Q (.ref h1.objs.size) { s with heap := h' }) :
    wpAny (model prog w) A (call (.builtin "sorted") [.ref l]) Q E s := by
  refine Calls.call_function_entry kind_sorted plain_sorted entry_sorted (args_sorted1 _) ?_
  unfold Builtin.«sorted»
  refine wpAny_bind (m := checkCount "sorted" 1 1 _) (wpAny_pure ?_)
  obtain ⟨o, ho, hc, n, hd⟩ := hl
  refine wpAny_bind (wpAny_collect_seq l (.inr rfl) ho hc hd (fun h1 hk => ?_) (by rw [List.size_toArray]; exact hz))
  show wpAny _ _ _ _ _ _
  refine wpAny_bind (wpAny_newList ?_ (by simpa using hz))
  have hoL : (h1.push (seqObj "list" vs.toArray 0)).get? h1.objs.size = some (seqObj "list" vs.toArray 0) := Heap.get?_push_size _ rfl
  refine wpAny_bind (wpAny_holding (wpAny_call_entry slot_list_sort ⟨_, hoL, rfl⟩ entry_list_sort (list_sort_ord O hoL hz (fun h2 => hS h2 _ _) fun out hs hb => ⟨_, rfl, ?_⟩) (args_list_sort _)))
  obtain ⟨e, he⟩ := sortedHeap_at (out := out.toArray) hoL
  refine wpAny_pure ⟨_, rfl, h out h1 _ e hs hb hk (fun b o q => ?_) he⟩
  rw [sortedHeap_old (Nat.ne_of_lt (Heap.lt_size q)) (by rw [size_push']; exact Nat.lt_succ_of_lt (Heap.lt_size q))]
  exact Heap.get?_push_of_some _ q
end
end SrtO
namespace Tr
open PySem PySem.Spec PyProof.Rows L2
section
variable {X : Cx} {e a b c : Expr} {es : List Expr} {Wx : WX} {p q pos : Pos} {ga : Mo D} {fa fb : Pu D}
def rSortT (K : PySem.W.Frag) : List V → Hp → VK → Prop := fun vs H Q => ∃ (a : Addr) (ns : List Int), vs = [V.ref a] ∧ (SqL K H a (ns.map V.int) ∨ SqT K H a (ns.map V.int)) ∧
  ∀ (ns' : List Int) (p : Addr), ns'.Perm ns → ns'.Pairwise (· ≤ ·) → H p = none → Q (.ref p) (upd H p (.lst (ns'.map V.int)))
theorem call_sortT : CallR X (.builtin "sorted") (rSortT X.K) := by
  intro pins s σ H vs us Q I r h
  obtain ⟨a, ns, rfl, hs, q⟩ := h
  rcases hs with hs | hs
  · exact cr_sortedI pins s σ H _ us Q I r ⟨a, ns, rfl, hs, q⟩
  obtain ⟨its, rv, hl, hz⟩ := I.tuple hs
  rw [Vals.ref1 r]
  have hi := rv.ints
  refine SrtO.tr_sorted_tup SrtO.swo_int hl (by rw [← rv.length]; exact hz) (fun h2 h₁ a' => SrtO.ints_sortable hi h2) fun out h1 h' e s1 s2 k1 k2 he => ?_
  obtain ⟨j1, j2, j3⟩ := SrtO.ints_out hi s1 s2
  have I1 : Inv X pins σ H { s with heap := h1 } := I.kept (t' := s.toks) k1
  have hn : H h1.objs.size = none := I1.hok.fresh (Nat.le_refl _)
  have hlen : ((out.map SrtO.iv).map V.int).length ≤ sizeLine := by
    rw [List.length_map, j2.length_eq]
    rw [List.length_map] at hz
    exact hz
  exact ⟨.ref _, upd H h1.objs.size (.lst ((out.map SrtO.iv).map V.int)), I1.laid (t' := s.toks) (fun b o q => k2 b o q) (Nat.le_refl _) ⟨hlen, out, e, vals_of_ints j1, he⟩, rfl, q _ _ j2 j3 hn⟩
def sortTD (d : D) : Option (List D) := match d.sq with
  | some ds => (intsO ds).map fun ns => (sortI ns).map .int
  | none => none
theorem sortTD_ok {K : PySem.W.Frag} : C1L K (rSortT K) sortTD := fun d zs x H G Q hz e r k => by
  unfold sortTD at hz
  cases hd : d.sq with
  | none => rw [hd] at hz; cases hz
  | some ds =>
    rw [hd] at hz
    replace hz : (intsO ds).map (fun ns => (sortI ns).map D.int) = some zs := hz
    cases hi : intsO ds with
    | none => rw [hi] at hz; cases hz
    | some ns =>
      rw [hi] at hz; cases hz
      obtain ⟨a, xs, rfl, h1, h2⟩ := r.sq e hd
      have hn := r.sql hd
      have e2 := h2.intsV hi
      have e3 := ints_some hi
      subst e2 e3
      refine ⟨a, ns, rfl, h1, fun ns' p hp hs hf => ?_⟩
      have e4 : ns' = sortI ns := sorted_uniq (hp.trans (sortI_perm ns).symm) hs (sortI_pw ns)
      subst e4
      exact k _ p hf (Reps.ints.mpr rfl) (by rw [List.length_map, (sortI_perm ns).length_eq]; simpa using hn)
/-! ### t[::-1] -/
def revTD : D → Option D
  | .tup ds => some (.tup ds.reverse)
  | _ => none
theorem p_revT {k : Nat} {p1 p2 p3 : Pos} (he : PE X e (tP X.K fa)) : PE X (.Subscript e (.Slice none none (some (.UnaryOp .USub (.Constant (.int 1) k p1) p2)) p3) pos) (tP X.K (pu1 revTD fa)) := (pe_revT he).wk fun σ H Q ⟨g, ρ, T, G, W, d, hR, hf, k⟩ => by
  unfold pu1 at hf
  split at hf
  · rename_i x0 e1
    cases x0 with
    | tup ds =>
      cases hf
      refine ⟨g, ρ, T, G, W, _, hR, e1, fun v H1 G1 R1 eg eh r => ?_⟩
      obtain ⟨a, xs, rfl, hs, hr⟩ := r.tp
      exact ⟨a, xs, rfl, SqT_same R1.gh hs, fun p o hp ho => k _ _ _ (R1.new hp) (eg.trans (same_upd (R1.gh.free hp))) (eh.trans (same_upd hp)) (Rep.newT ho hr.rev (R1.gh.free hp) (by rw [List.length_reverse]; exact r.sql rfl))⟩
    | _ => cases hf
  · cases hf
/-! ### tuple(range(n)), list(range(n)) -/
def rngOk (n : Int) : Bool := decide (-(2 ^ 62) ≤ n ∧ n ≤ 16777216)
def tupRgD : D → Option D
  | .int n => if rngOk n = true then some (.tup (rngD 0 n.toNat)) else none
  | _ => none
def lstRgD : D → Option (List D)
  | .int n => if rngOk n = true then some (rngD 0 n.toNat) else none
  | _ => none
theorem rng_reps {K : PySem.W.Frag} {G : Hp} (n : Int) : Reps K G (rngD 0 n.toNat) (rgV 0 n) := by
  have e1 : rngD 0 n.toNat = ((List.range n.toNat).map fun i => ((i : Nat) : Int)).map D.int := by
    unfold rngD
    rw [List.map_map]
    apply List.map_congr_left
    intro i _
    simp
  have e2 : rgV 0 n = ((List.range n.toNat).map fun i => ((i : Nat) : Int)).map V.int := by
    unfold rgV
    rw [List.map_map, Int.sub_zero]
    apply List.map_congr_left
    intro i _
    simp
  rw [e1, e2]
  exact Reps.ints.mpr rfl
theorem rng_len (n : Int) : (rngD 0 n.toNat).length = n.toNat := by unfold rngD; rw [List.length_map, List.length_range]
theorem rngOk_ok {n : Int} (h : rngOk n = true) : RgOk 0 n ∧ (rngD 0 n.toNat).length ≤ sizeLine := by
  have h' := of_decide_eq_true h
  rw [rng_len, sizeLine_eq]
  exact ⟨⟨by omega, by omega, by omega, by omega, by omega⟩, by omega⟩
/-- tuple(range(..)) -/
theorem pe_tupRgB {p pos : Pos} {e : Expr} {te} (hc : X.calm = true) (hg : Gl X "tuple") (hm : X.mg "tuple" = none) (he : PRg X e te) (na : starEach [e] X.env = (false, eval e X.env) :: starEach [] X.env := by rfl) :
    PE X (.Call (.Name "tuple" p) [e] [] pos) (fun σ H Q => te σ H fun a b H1 => RgOk a b ∧ NewT H1 (rgV a b) Q) := ⟨fun pins s σ H Q I want =>
  Call_ (ld_blt I hg hm boot_tuple (PyProof.Rows.callWith_type1 (args_cons (thn (he pins s σ H _ I want) fun x s1 ⟨r, a, b, t, u, v, H1, ex, hr, I1, ⟨b1, b2, b3, b4, b5⟩, q⟩ => args_nil (by
    subst ex
    exact call_tuple_range (n := (b - a).toNat) (I1.ok.hd hc) hr (small_one b1 b2 b3 b4) (rangeSize_nat a b) b5 fun h' tk acc hk hi => (by
      have := lay_tup (s := { s1 with heap := h', toks := tk }) (us := acc.toList) (I1.kept hk) (vals_rg hi) (by rw [rgV_length, sizeLine_eq]; omega) q
      rw [Array.toArray_toList] at this
      exact this))) na) na))⟩
theorem p_tupRg {p3 : Pos} (hc : X.calm = true) (hg : Gl X "tuple") (hm : X.mg "tuple" = none) (hg2 : Gl X "range") (hm2 : X.mg "range" = none) (ha : PE X a (tP X.K fa)) (na : starEach [a] X.env = (false, eval a X.env) :: starEach [] X.env := by rfl)
    (nb : starEach [.Call (.Name "range" q) [a] [] p] X.env = (false, eval (.Call (.Name "range" q) [a] [] p) X.env) :: starEach [] X.env := by rfl) :
    PE X (.Call (.Name "tuple" p3) [.Call (.Name "range" q) [a] [] p] [] pos) (tP X.K (pu1 tupRgD fa)) := (pe_tupRgB hc hg hm (prg_1 hg2 hm2 ha na) nb).wk fun σ H Q ⟨g, ρ, T, G, W, d, hR, hf, k⟩ => by
  unfold pu1 at hf
  split at hf
  · rename_i x0 e1
    cases x0 with
    | int n =>
      unfold tupRgD at hf
      dsimp only at hf
      split at hf
      · rename_i hn
        cases hf
        obtain ⟨h1, h2⟩ := rngOk_ok hn
        refine ⟨g, ρ, T, G, W, _, hR, e1, fun v H1 G1 R1 eg eh r => ⟨n, Rep.i.mp r, h1, fun p o hp ho => ?_⟩⟩
        exact k _ _ _ (R1.new hp) (eg.trans (same_upd (R1.gh.free hp))) (eh.trans (same_upd hp)) (Rep.newT ho (rng_reps n) (R1.gh.free hp) h2)
      · cases hf
    | _ => cases hf
  · cases hf
theorem x_lstRg {p3 : Pos} (hc : X.calm = true) (hg : Gl X "list") (hm : X.mg "list" = none) (hg2 : Gl X "range") (hm2 : X.mg "range" = none) (ha : PE X a (tP X.K fa)) (na : starEach [a] X.env = (false, eval a X.env) :: starEach [] X.env := by rfl)
    (nb : starEach [.Call (.Name "range" q) [a] [] p] X.env = (false, eval (.Call (.Name "range" q) [a] [] p) X.env) :: starEach [] X.env := by rfl) :
    PE X (.Call (.Name "list" p3) [.Call (.Name "range" q) [a] [] p] [] pos) (tX X.K X.mg Wx (moL lstRgD fa)) := (pe_listRg hc hg hm (prg_1 hg2 hm2 ha na) nb).wk fun σ H Q ⟨g, ρ, T, G, W, hR, k⟩ => by
  unfold moL at k
  cases h1 : fa ρ with
  | none => rw [h1] at k; exact k.elim
  | some d =>
    rw [h1] at k
    dsimp only at k
    cases h2 : lstRgD d with
    | none => rw [h2] at k; exact k.elim
    | some zs =>
      rw [h2] at k
      cases d with
      | int n =>
        unfold lstRgD at h2
        dsimp only at h2
        split at h2
        · rename_i hn
          cases h2
          obtain ⟨g1, g2⟩ := rngOk_ok hn
          exact ⟨g, ρ, T, G, W, _, hR, h1, fun v H1 G1 R1 eg eh r => ⟨n, Rep.i.mp r, g1, fun p hp => k _ _ _ _ (R1.newF hp (rng_reps n) g2) eg⟩⟩
        · cases h2
      | _ => cases h2
/-! ### a, b, c = x, y, z -/
def par3 (i j l : Nat) (f : Mo (List O)) : MS := fun ρ => match f ρ with
  | some (.ok [o1, o2, o3] ρ') => if stb i ρ' = true ∧ stb j ρ' = true ∧ stb l ρ' = true then some (.nx (((ρ'.set i (.ow o1)).set j (.ow o2)).set l (.ow o3))) else none
  | some (.ex c fs ρ') => some (.ex c fs ρ')
  | _ => none
theorem R.setS3 {K : PySem.W.Frag} {g : Gs} {ρ : Rho} {T : List (O × V)} {σ : L2.St} {H G : Hp} {W : Own} {o1 o2 o3 : O} {v1 v2 v3 : V} {i j l : Nat} (h : R K g ρ (T ++ [(o1, v1), (o2, v2), (o3, v3)]) σ H G W) (hi : i < ρ.length) (hj : j < ρ.length) (hl : l < ρ.length) (hij : i ≠ j) (hil : i ≠ l) (hjl : j ≠ l) :
    ∃ W', R K g (((ρ.set i (.ow o1)).set j (.ow o2)).set l (.ow o3)) T (((σ.set i (some v1)).set j (some v2)).set l (some v3)) H G W' := by
  have h1 : R K g ρ ((T ++ [(o1, v1), (o2, v2)]) ++ [(o3, v3)]) σ H G W := by simpa using h
  have h2 := h1.setS hl
  obtain ⟨W', h3⟩ := h2.setS2 (by rw [List.length_set]; exact hi) (by rw [List.length_set]; exact hj) hij
  refine ⟨W', ?_⟩
  rw [List.set_comm _ _ (Ne.symm hil), List.set_comm _ _ (Ne.symm hjl)] at h3
  rw [List.set_comm _ _ (Ne.symm hil), List.set_comm _ _ (Ne.symm hjl)] at h3
  exact h3
theorem s_par3 {i j l : Nat} {x y z : Str} {f : Mo (List O)} {px py pz pt : Pos} {kt k2 pt2} (hc : X.calm = true) (hN : X.N.Nodup) (hi : X.N[i]? = some x) (hj : X.N[j]? = some y) (hl : X.N[l]? = some z) (hij : i ≠ j) (hil : i ≠ l) (hjl : j ≠ l)
    (hx : X.env.scope.names.lookup x = some .local) (hy : X.env.scope.names.lookup y = some .local) (hz : X.env.scope.names.lookup z = some .local) (ha : PA X [a, b, c] (tA X.K X.mg Wx f))
    (hw : swappedStores [.Tuple [.Name x px, .Name y py, .Name z pz] kt pt] (.Tuple [a, b, c] k2 pt2) X.env = pure (some [x, y, z]))
    (hs : swapsWithSole [.Tuple [.Name x px, .Name y py, .Name z pz] kt pt] (.Tuple [a, b, c] k2 pt2) pos.line X.env = pure false := by rfl) :
    PS X (.Assign [.Tuple [.Name x px, .Name y py, .Name z pz] kt pt] (.Tuple [a, b, c] k2 pt2) pos) (tS X.K X.mg Wx (par3 i j l f)) := (ps_par3 hc hN hi hj hl hij hil hjl hx hy hz ha hw hs).wk fun D σ H ⟨g, ρ, T, G, W, hR, k⟩ => by
  refine ⟨g, ρ, T, G, W, hR, ?_⟩
  unfold par3 at k
  split at k
  · rename_i o1 o2 o3 ρ' h1
    rw [h1]
    intro vs H' G' W' hl R' eg
    obtain ⟨v1, v2, v3, rfl⟩ : ∃ v1 v2 v3, vs = [v1, v2, v3] := by
      match vs, hl with
      | [v1, v2, v3], _ => exact ⟨v1, v2, v3, rfl⟩
    split at k
    · rename_i hs
      obtain ⟨W2, R2⟩ := R'.setS3 (stb_lt hs.1) (stb_lt hs.2.1) (stb_lt hs.2.2) hij hil hjl
      exact ⟨v1, v2, v3, rfl, k _ H' G' W2 R2 eg⟩
    · exact k.elim
  · rename_i h1; rw [h1]; exact k
  · exact k.elim
end
end Tr
namespace Tr
open PySem PySem.Spec PyProof.Rows L2
section
variable {X : Cx} {e a b c : Expr} {es : List Expr} {Wx : WX} {p q pos : Pos} {ga : Mo D} {fa fb : Pu D}
/-- an item of a list that stands -/
def ixC : D → D → Option D
  | .lst ds, .int i => atI ds i
  | .scr ns, .int i => (atI ns i).map .int
  | .tup ds, .int i => atI ds i
  | _, _ => none
theorem p_ixC (ha : PE X a (tC X.K fa)) (hb : PE X b (tP X.K fb)) (hs : PlainIx b) : PE X (.Subscript a b pos) (tP X.K (pu2 ixC fa fb)) := (pe_ix ix_seq ha hb hs).wk fun σ H Q ⟨g, ρ, T, G, W, d, hR, hf, k⟩ => by
  unfold pu2 at hf
  split at hf
  · rename_i d1 d2 e1 e2
    refine ⟨g, ρ, T, G, W, d1, hR, e1, fun v H1 G1 R1 eg1 eh1 r1 => ⟨g, ρ, T, G1, W, d2, R1, e2, fun u H2 G2 R2 eg2 eh2 r2 => ?_⟩⟩
    have eg := eg1.trans eg2
    have eh := eh1.trans eh2
    have key : ∀ ds i, d1.sq = some ds → d2 = .int i → atI ds i = some d → rIx X.K v u H2 Q := fun ds i h1 h2 h3 => by
      obtain ⟨x, xs, rfl, hsq, hr⟩ := (r1.mono eg2 eh2).sq R2.gh h1
      obtain ⟨y, e3, r3⟩ := hr.at h3
      subst h2
      have e4 := Rep.i.mp r2
      subst e4
      rcases hsq with hsq | hsq
      · exact .inl ⟨x, xs, i, y, rfl, rfl, hsq, e3, k _ H2 G2 R2 eg eh r3⟩
      · exact .inr (.inl ⟨x, xs, i, y, rfl, rfl, hsq, e3, k _ H2 G2 R2 eg eh r3⟩)
    unfold ixC at hf
    split at hf
    · exact key _ _ rfl rfl hf
    · rename_i ns i
      refine key (ns.map .int) i rfl rfl ?_
      rw [atI_map, hf]
    · exact key _ _ rfl rfl hf
    · cases hf
  · cases hf
/-- what was read is flat -/
def flD (f : Pu D) : Pu D := fun ρ => match f ρ with
  | some (.int i) => some (.int i)
  | some (.bl i) => some (.bl i)
  | some (.str i) => some (.str i)
  | some .non => some .non
  | some (.tup ds) => some (.tup ds)
  | _ => none
theorem p_flat (ha : PE X a (tC X.K fa)) : PE X a (tP X.K (flD fa)) := ha.wk fun σ H Q ⟨g, ρ, T, G, W, d, hR, hf, k⟩ => by
  unfold flD at hf
  have key : ∀ d', fa ρ = some d' → (∀ v H' G', CRep X.K G' H' d' v → Rep X.K G' d v) → tC X.K fa σ H Q := fun d' h1 h2 => ⟨g, ρ, T, G, W, d', hR, h1, fun v H1 G1 R1 eg eh r => k v H1 G1 R1 eg eh (h2 v H1 G1 r)⟩
  split at hf
  all_goals first
    | (rename_i h1; cases hf; refine key _ h1 fun v H' G' r => ?_; rcases r with r | ⟨_, _, _, e, _⟩ | ⟨_, _, _, e, _⟩; exact r; cases e; cases e)
    | cases hf
/-- [x] * n, owned -/
def mulLX (f g : Pu D) : Mo O := fun ρ => match f ρ, g ρ with
  | some (.lst ds), some (.int i) => if 0 ≤ i ∧ i ≤ 100000 ∧ ds.length ≤ 100 then some (.ok (.fl (List.replicate i.toNat ds).flatten) ρ) else none
  | _, _ => none
theorem x_mulL (ha : PE X a (tP X.K fa)) (hb : PE X b (tP X.K fb)) : PE X (.BinOp a .Mult b pos) (tX X.K X.mg Wx (mulLX fa fb)) := (pe_op op_rep ha hb).wk fun σ H Q ⟨g, ρ, T, G, W, hR, k⟩ => by
  unfold mulLX at k
  split at k
  · rename_i ds i e1 e2
    refine ⟨g, ρ, T, G, W, _, hR, e1, fun v H1 G1 R1 eg1 eh1 r1 => ⟨g, ρ, T, G1, W, _, R1, e2, fun u H2 G2 R2 eg2 eh2 r2 => ?_⟩⟩
    split at k
    · rename_i c
      obtain ⟨p, xs, rfl, h1, q1⟩ := (r1.mono eg2).ls
      have hz : ds.length * i.toNat ≤ sizeLine := by
        rw [sizeLine_eq]
        have : ds.length * i.toNat ≤ 100 * 100000 := Nat.mul_le_mul c.2.2 (by omega)
        omega
      refine ⟨p, i, xs, rfl, Rep.i.mp r2, R2.gh _ _ h1, by omega, by omega, by rw [← q1.len]; exact hz, fun p3 hp => k _ _ _ _ (R2.newF hp (q1.rep _) ?_) (eg1.trans eg2)⟩
      rw [PyProof.Rows.lm_len_rep_flat, Nat.mul_comm]; exact hz
    · exact k.elim
  · exact k.elim
end
end Tr
namespace Tr
open PySem PySem.Spec PyProof.Rows L2
section
variable {X : Cx} {e a b c : Expr} {es : List Expr} {Wx : WX} {p q pos : Pos} {ga : Mo D} {fa fb : Pu D}
def negD : D → Option D
  | .int i => some (.int (-i))
  | _ => none
theorem p_neg (ha : PE X a (tP X.K fa)) : PE X (.UnaryOp .USub a pos) (tP X.K (pu1 negD fa)) := (pe_un un_neg ha).wk fun σ H Q ⟨g, ρ, T, G, W, d, hR, hf, k⟩ => by
  unfold pu1 at hf
  split at hf
  · rename_i x0 e1
    cases x0 with
    | int i =>
      cases hf
      exact ⟨g, ρ, T, G, W, _, hR, e1, fun v H1 G1 R1 eg eh r => ⟨i, Rep.i.mp r, k _ H1 G1 R1 eg eh (Rep.i.mpr rfl)⟩⟩
    | _ => cases hf
  · cases hf
end
/-- sizes, for the loops' measures -/
def O.w : O → Nat
  | .fl ds => ds.length + 1
  | _ => 1
def O.sz : O → Nat
  | .fl ds => ds.length + 1
  | .ol os => (os.map O.w).sum + 1
  | _ => 1
def Sl.sz : Sl → Nat
  | .ow o => o.sz
  | .le o => o.sz
  | .no => 0
def szR (ρ : Rho) : Nat := (ρ.map Sl.sz).sum + 1
/-- one class of errors -/
def mt1 (c : Str) (A : Addr) : Str → Option (Option Addr) := fun cn => if cn = c then some (some A) else none
theorem mt1_ok {K : PySem.W.Frag} {mg : MG} {c : Str} {A : Addr} (g : mg c = some (.ref A)) (em : PySem.W.exmOne K (.ref A) (.ref A) = some true) : ∀ cn C, mg cn = some (.ref C) → (mt1 c A cn = some none → PySem.W.exmOne K (.ref C) (.ref A) = some false) ∧ ∀ C0, mt1 c A cn = some (some C0) → C = C0 ∧ PySem.W.exmOne K (.ref C) (.ref A) = some true := fun cn C hm => by
  unfold mt1
  by_cases h : cn = c
  · subst h
    rw [if_pos rfl]
    rw [g] at hm
    cases hm
    exact ⟨(fun e => nomatch e), fun C0 e => by cases e; exact ⟨rfl, em⟩⟩
  · rw [if_neg h]
    exact ⟨(fun e => nomatch e), fun C0 e => nomatch e⟩
/-- an error class that is raised -/
structure XC (P : Program) (w : World) (K : PySem.W.Frag) (mg : MG) (base : Heap) (x fl : Str) (C fI : Addr) (fd : FuncData) : Prop where
  oc : OexC K C
  iC : PySem.W.findIn K (.ref C) "__init__" = some (some (.ref fI))
  tI : PySem.W.typeIn K (.ref fI) = some (.type "function")
  F1 : FnOk P w K mg base (fun _ _ _ _ _ _ => False) 1 fI fd ["self", fl] (spI C fl)
  hb : Binds K fd ["self", fl] []
  g : mg x = some (.ref C)
/-- a def called by a keyword -/
structure KC (P : Program) (w : World) (K : PySem.W.Frag) (mg : MG) (base : Heap) (k : Nat) (x y : Str) (F : FS) (f : Addr) (fd : FuncData) : Prop where
  fo : FnOk P w K mg base (L2.CX P w) k f fd [y] (spF K mg 1 F)
  g : mg x = some (.ref f)
  kp : PySem.W.keepIn K (.ref f) = true
  hb : ∀ (s : Shared) (u : Value), BindsTo s fd ⟨[], [(y, u)]⟩ [(y, u)]
theorem Fun.kb1 {K : PySem.W.Frag} {x qual y : Str} {st : Stmt} {f : Addr} {fd : FuncData} (F : Fun K x qual st f fd)
    (h : ∀ (kV doc pm : Value) (an : Option Addr) (cdv ct u : Value), bindArgs (PySem.W.fnOf x qual (defArgs st) (defBody st) (defScope st) .none kV doc pm an cdv ct) ⟨[], [(y, u)]⟩ = pure [(y, u)]) (s : Shared) (u : Value) : BindsTo s fd ⟨[], [(y, u)]⟩ [(y, u)] := by
  obtain ⟨oc, od, kV, doc, pm, an, cdv, ct, osl, rfl, lk, hcd⟩ := F.ex
  exact .of_eq (h kV doc pm an cdv ct u)
end Tr
namespace Tr
open PySem PySem.Spec PyProof.Rows L2
/-- the law's own promise, from its function -/
theorem law_sp {K : PySem.W.Frag} {mg : MG} {F : FS} {H : Hp} {a : Addr} {ns : List Int} (hl : ns.length ≤ 63) (hS : SqL K H a (ns.map V.int)) (h : ∃ outs, F [.ow (.fr (.scr ns))] = some (.ret (.fr (.bl true)) outs)) :
    spF K mg 1 F [.ref a] H (fun v _ => v = .bl true) fun _ _ _ => False := by
  obtain ⟨outs, h⟩ := h
  refine ⟨rfl, fun _ => none, H, fun _ => none, [.ow (.fr (.scr ns))], rfl, ⟨Same.refl _, (fun b x e => nomatch e), Same.refl _, (fun b _ e => absurd rfl e), (fun b l e => nomatch e), rfl, fun i s e => ?_, fun k o v e => by simp at e⟩, ?_⟩
  · cases i with
    | zero =>
      cases e
      refine ⟨.ref a, rfl, ?_⟩
      rw [Ow, Rep]
      exact ⟨a, rfl, hS, by rw [sizeLine_eq]; omega⟩
    | succ i => simp at e
  · rw [h]
    intro v H' G' W' R' eg
    have := R'.tm 0 _ v rfl
    rw [Ow] at this
    exact Rep.b.mp this
/-- the methods of a class of the text -/
def clsDef (s : Stmt) (i : Nat) : Stmt := match s with
  | .ClassDef _ _ _ body .. => body.getD i (.Pass ⟨0, 0, 0, 0⟩)
  | _ => .Pass ⟨0, 0, 0, 0⟩
theorem oex_mk {K : PySem.W.Frag} {C : Addr} {nm q : Str} {N : Addr} {bs bm : List Value} {sn : List Str} {sub : List Value} {ab : Bool} {col : Option Bool} {dd : Option Addr} {k0 k1 k2 k3 k5 : Option Value}
    (xL : K.lookup C = some (excClassObj nm q C N bs bm true sn sub ab col dd k0 k1 k2 k3 k5 "ValueError.__new__")) (hb : PySem.HandSPX.refsVE bm = true) (sa : PySem.W.findIn K (.ref C) "__setattr__" = some (some (.builtin "object.__setattr__")))
    (exC : PySem.W.subIn K (.ref C) (.type "BaseException") = some true) (tyC : PySem.W.typeIn K (.ref C) = some (.type "type")) (kC : PySem.W.keepIn K (.ref C) = true) : OexC K C := ⟨⟨nm, q, N, bs, bm, sn, sub, ab, col, dd, k0, k1, k2, k3, k5, xL, hb⟩, sa, exC, tyC, kC⟩
end Tr
namespace Tr
open PySem PySem.Spec PyProof.Rows L2
theorem cx_no {P : Program} {w : World} {H : Hp} {s : Shared} {e : Value} {s' : Shared} (h : L2.CX P w [] H s (fun _ _ _ => False) e s') : False := by
  obtain ⟨_, _, _, _, _, _, _, _, _, _, _, _, h⟩ := h
  exact h
end Tr
namespace Tr
open PySem PySem.Spec PyProof.Rows L2
/-! ### promises where no repr is under way (guards known to be none) -/
structure RoomG (k : Nat) (A : Around) : Prop extends Room k A where
  gd : A.guards = some []
theorem RoomG.le {j k : Nat} {A : Around} (r : RoomG k A) (h : j ≤ k) : RoomG j A := ⟨r.toRoom.mono h, r.gd⟩
theorem RoomG.down {k : Nat} {A : Around} (r : RoomG (k + 1) A) (v : Env) : RoomG k (A.deeper v) := ⟨r.toRoom.deeper v, r.gd⟩
structure FnG (P : Program) (w : World) (K : PySem.W.Frag) (mg : MG) (base : Heap) (k : Nat) (f : Addr) (fd : FuncData) (ps : List Str) (sp : Sp) : Prop where
  ln : ∀ vs H Q E, sp vs H Q E → vs.length = ps.length
  go : ∀ (A : Around) (out : List Env) (s : Shared) (H : Hp) (ar : Args) (us : List Value) (vs : List V) (Q : VK) (E : XK), RoomG k A → Env0 P w K mg base A out s H → BindsTo s fd ar (ps.zip us) → Vals vs us → sp vs H Q E → codeAny (model P w) A (.call (.ref f) ar) (CR (L2.CX P w) out P w H s Q E) s
section
variable {P : Program} {w : World} {K : PySem.W.Frag} {mg : MG} {base : Heap}
theorem FnG.le {j k : Nat} {f : Addr} {fd : FuncData} {ps : List Str} {sp : Sp} (F : FnG P w K mg base j f fd ps sp) (h : j ≤ k) : FnG P w K mg base k f fd ps sp := ⟨F.ln, fun A out s H ar us vs Q E r => F.go A out s H ar us vs Q E (r.le h)⟩
theorem FnG.weak {k : Nat} {f : Addr} {fd : FuncData} {ps : List Str} {sp sp' : Sp} (F : FnG P w K mg base k f fd ps sp) (h : ∀ vs H Q E, sp' vs H Q E → sp vs H Q E) : FnG P w K mg base k f fd ps sp' :=
  ⟨fun vs H Q E q => F.ln vs H Q E (h _ _ _ _ q), fun A out s H ar us vs Q E r e b v q => F.go A out s H ar us vs Q E r e b v (h _ _ _ _ q)⟩
/-- a def's promise by its body -/
theorem fng_ok {x qual : Str} {st : Stmt} {f : Addr} {fd : FuncData} {N ps : List Str} {k : Nat} {ms : MS} (F : Fun K x qual st f fd) (S : FnScope N ps (defScope st)) (hn : ps.length ≤ N.length)
    (body : ∀ (cdv : Value) (A : Around) (out : List Env) (s : Shared) (H : Hp) (E : XK), RoomG k (A.deeper (envOfC qual (defScope st) s.heap.objs.size f cdv)) →
      PSs (cxOf (L2.CX P w) P w K mg base N qual (defScope st) f cdv A out s H E) (defBody st) (tS K mg (fun cls d _ H => E cls d H) ms)) : FnG P w K mg base (k + 1) f fd ps (spF K mg ps.length (runF N.length ps.length ms)) := by
  obtain ⟨_, _, kV, doc, pm, an, cdv, ct, osl, rfl, look, code⟩ := F.ex
  refine ⟨fun vs H Q E h => h.1, fun A out s H ar us vs Q E room env bind rel want => ?_⟩
  have kin : K.In s.heap := env.mod.kin.keeps fun b o e => (env.bs b o e).1
  refine codeAny_call_function room.toRoom.depth (kin _ _ look) rfl S.co S.gen rfl (PySem.W.codeRec_of kin code) (bind _ _ _ _ ?_)
  refine wpAny_newFunctionEnv_cells S.kind (fun ⟨n, v⟩ m => (S.par n (List.of_mem_zip m).1).elim .inl fun q => .inr ⟨q, PySem.W.cellsFrom_some _ _ _ (.inl q)⟩) fun e2 eq2 s1 there => ?_
  subst eq2
  refine ⟨(env.mod.nolimit.keeps fun b o e => (env.bs b o e).1).keeps there.toInCall.keep, codeAny_func ?_⟩
  have start1 : Inv (cxOf (L2.CX P w) P w K mg base N qual (defScope st) f cdv A out s H E) [] (L2.start N vs) H s1 := inv_start S room.toRoom.hd env want.1 rel there
  obtain ⟨hv, kp, G, W, args, _, hR, k⟩ := want
  have la : args.length = vs.length := by have := hR.len; rw [List.length_map] at this; exact this
  have R1 := hR.begin (N := N) (by omega)
  rw [la, hv] at R1
  have ends : ∀ {σ' : L2.St} {H' : Hp} {v : V} {u : Value} {s' : Shared}, Inv (cxOf (L2.CX P w) P w K mg base N qual (defScope st) f cdv A out s H E) [] σ' H' s' → RelV v u → Q v H' → CE out P w H s Q u s' := fun J rv q => ⟨_, _, J.os, J.bare, J.base, J.hok, rv, q⟩
  refine wpAny_mono ((body cdv A out s H E (room.down _)).run [] s1 (L2.start N vs) H { nx := fun _ H' => Q .non H', rt := Q } start1 ⟨⟨kp, G, vs⟩, _, [], G, W, R1, ?_⟩) (fun fl s' hs => ?_) fun e s' hs => hs
  · unfold runF at k
    cases h1 : ms (args ++ List.replicate (N.length - ps.length) .no) with
    | none => rw [h1] at k; exact k.elim
    | some r =>
      rw [h1] at k
      cases r with
      | nx ρ =>
        dsimp only at k
        by_cases hl : ps.length ≤ ρ.length
        · rw [if_pos hl] at k
          exact fun σ' H' G' W' R' eg => k .non H' G' W' ((R'.out rfl hv hl).addT (T := []) (Rep.nn.mpr rfl)) eg
        · rw [if_neg hl] at k; exact k.elim
      | rt o ρ =>
        dsimp only at k
        by_cases hl : ps.length ≤ ρ.length
        · rw [if_pos hl] at k
          exact fun v σ' H' G' W' R' eg => k v H' G' W' (R'.out rfl hv hl) eg
        · rw [if_neg hl] at k; exact k.elim
      | ex c fs ρ =>
        dsimp only at k
        by_cases hl : ps.length ≤ ρ.length
        · rw [if_pos hl] at k
          exact fun C d fv σ' H' G' W' hm R' eg hd hf => k C d fv H' G' W' hm (R'.out rfl hv hl) eg hd hf
        · rw [if_neg hl] at k; exact k.elim
      | bk ρ => exact k.elim
      | ct ρ => exact k.elim
  · cases fl with
    | ret u => obtain ⟨v, σ', H', J, rv, q⟩ := hs; exact ends J rv q
    | next => obtain ⟨σ', H', J, q⟩ := hs; exact ends (v := V.non) (u := Value.none) J rfl q
    | brk => exact hs.elim fun _ h => h.elim fun _ h => h.2.elim
    | cont => exact hs.elim fun _ h => h.elim fun _ h => h.2.elim
end
/-- an own def as one fact -/
inductive CalG (P : Program) (w : World) (K : PySem.W.Frag) (mg : MG) (base : Heap) (k : Nat) (x : Str) (n : Nat) (F : FS) : Prop
  | mk (f : Addr) (fd : FuncData) (ps : List Str) (hn : ps.length = n) (FO : FnG P w K mg base k f fd ps (spF K mg ps.length F)) (hm : mg x = some (.ref f)) (hk : PySem.W.keepIn K (.ref f) = true) (hb : Binds K fd ps [])
theorem CalG.le {P : Program} {w : World} {K : PySem.W.Frag} {mg : MG} {base : Heap} {k k' : Nat} {x : Str} {n : Nat} {F : FS} (h : CalG P w K mg base k x n F) (l : k ≤ k') : CalG P w K mg base k' x n F := by
  obtain ⟨f, fd, ps, hn, FO, hm, hk, hb⟩ := h
  exact ⟨f, fd, ps, hn, FO.le l, hm, hk, hb⟩
section
variable {X : Cx} {e a b c : Expr} {es : List Expr} {Wx : WX} {p q pos : Pos} {ga : Mo D} {fa fb : Pu D}
/-- f(e, ..) -/
theorem x_callG {x : Str} {k n : Nat} {F : FS} {fa : Mo (List Ag)} (C : CalG X.prog X.w X.K X.mg X.base k x n F) (tk : Takes X Wx) (hr : RoomG k X.A) (hg : Gl X x) (ha : PA X (e :: es) (tAg X.K X.mg Wx fa))
    (hdb : (x == ("__debug__" : Str)) = false := by decide) (he : starEach (e :: es) X.env = (false, eval e X.env) :: starEach es X.env := by rfl) (hpl : (backTo pos (starEach es X.env)).any (·.1) = false := by rfl) :
    PE X (.Call (.Name x p) (e :: es) [] pos) (tX X.K X.mg Wx (callM n F fa)) := by
  obtain ⟨f, fd, ps, rfl, FO, hm, hk, hb⟩ := C
  refine PE.wk (t := tCallSD (spF X.K X.mg ps.length F) [] (WE Wx) (tAg X.K X.mg Wx fa)) ⟨fun pins s σ H Q I h => ?_⟩ fun σ H Q h => tCall_ok σ H Q h
  refine wpAny_Call_Name_kw (ld_glob I hg hm ?_ hdb)
  refine PySem.W.callWith_K (h₀ := X.base) I.ok.mod.kin hk (thn (ha.run pos pins s σ H _ I h) fun us s1 ⟨vs, H1, I1, rel, want⟩ => ⟨I1.kIn, ?_⟩) he hpl
  have same : us.length = ps.length := by
    have h1 := FO.ln _ _ _ _ want
    rw [← rel.length]; simpa using h1
  have bd := hb s1 us I1.kIn (by rw [List.append_nil]; exact same)
  have want1 : spF X.K X.mg ps.length F vs H1 Q (WE Wx σ) := by have h2 : spF X.K X.mg ps.length F (vs ++ []) H1 Q (WE Wx σ) := want; rw [List.append_nil] at h2; exact h2
  rw [List.append_nil] at bd
  show wpAny _ _ (call (.ref f) us) _ _ _
  refine wpAny_call (codeAny_mono (FO.go X.A X.stack s1 H1 ⟨us, []⟩ us vs Q (WE Wx σ) hr I1.env0 bd rel want1) fun r s' hq => ?_)
  cases r with
  | error e => exact passAt tk σ pins H1 s1 e s' I1 hq
  | ok fl =>
    cases fl with
    | ret u => exact I1.after hq
    | next => exact hq.elim
    | brk => exact hq.elim
    | cont => exact hq.elim
/-! ### f(y = e, ..), the values pure -/
def perG (per : List Nat) (f : Pu (List D)) : Mo (List Ag) := fun ρ => match f ρ with
  | some ds => some (.ok (per.map fun i => .v (ds.getD i .non)) ρ)
  | none => none
/-- a def that is called by keywords ks; per: for each parameter the place of its keyword -/
inductive KwG (P : Program) (w : World) (K : PySem.W.Frag) (mg : MG) (base : Heap) (k : Nat) (x : Str) (ks : List Str) (per : List Nat) (n : Nat) (F : FS) : Prop
  | mk (f : Addr) (fd : FuncData) (ps : List Str) (hn : ps.length = n) (fo : FnG P w K mg base k f fd ps (spF K mg ps.length F)) (g : mg x = some (.ref f)) (kp : PySem.W.keepIn K (.ref f) = true)
    (hb : ∀ (s : Shared) (us : List Value), us.length = ks.length → BindsTo s fd ⟨[], ks.zip us⟩ (ps.zip (per.map fun i => us.getD i .none))) (hq : per.all (decide <| · < ks.length) = true)
theorem kp_nil : PK X [] (tLP X.K lpN) := ⟨fun pos pins s σ H Q I ⟨g, ρ, T, G, W, ds, hR, hf, k⟩ => pk_nil.run pos pins s σ H Q I (by
  cases hf
  exact k [] H G hR (Same.refl _) (Same.refl _) (by rw [Reps]))⟩
theorem kp_cons {kws : List Keyword} {nm : Option Str} {kpos : Pos} {fr : Pu (List D)} (ha : PE X a (tP X.K fa)) (hr : PK X kws (tLP X.K fr)) : PK X (⟨nm, a, kpos⟩ :: kws) (tLP X.K (lpC fa fr)) := ⟨fun pos pins s σ H Q I ⟨g, ρ, T, G, W, ds, hR, hf, k⟩ => (pk_cons (nm := nm) (kpos := kpos) ha hr).run pos pins s σ H Q I (by
  unfold lpC at hf
  split at hf
  · rename_i d ds' e1 e2
    cases hf
    refine ⟨g, ρ, T, G, W, d, hR, e1, fun x H1 G1 R1 eg1 eh1 r1 => ⟨g, ρ, T, G1, W, ds', R1, e2, fun xs H2 G2 R2 eg2 eh2 r2 => ?_⟩⟩
    refine k _ H2 G2 R2 (eg1.trans eg2) (eh1.trans eh2) ?_
    rw [Reps]
    exact ⟨x, xs, rfl, r1.mono eg2, r2⟩
  · cases hf)⟩
theorem Reps.at0 {K : PySem.W.Frag} {G : Hp} : ∀ {ds : List D} {xs : List V} {i : Nat}, Reps K G ds xs → i < ds.length → ∃ x, xs[i]? = some x ∧ Rep K G (ds.getD i .non) x := fun {ds xs i} h hi => by
  rw [List.getD_eq_getElem?_getD, List.getElem?_eq_getElem hi]
  exact h.get (List.getElem?_eq_getElem hi)
theorem vals_at {vs : List V} {us : List Value} (h : Vals vs us) {i : Nat} {x : V} (e : vs[i]? = some x) : ∃ u, us[i]? = some u ∧ RelV x u := by
  induction h generalizing i with
  | nil => simp at e
  | cons r t ih =>
    cases i with
    | zero => simp at e; subst e; exact ⟨_, rfl, r⟩
    | succ i => simp at e; obtain ⟨u, h1, h2⟩ := ih e; exact ⟨u, by simpa using h1, h2⟩
theorem per_ok {K : PySem.W.Frag} {G : Hp} {σ : L2.St} {ds : List D} {vs : List V} {us : List Value} (r : Reps K G ds vs) (v : Vals vs us) : ∀ {per : List Nat}, per.all (decide <| · < ds.length) = true →
    ∃ ws, AgOk K G σ (per.map fun i => .v (ds.getD i .non)) ws ∧ Vals ws (per.map fun i => us.getD i .none)
  | [], _ => ⟨[], rfl, .nil⟩
  | i :: per, h => by
    rw [List.all_cons, Bool.and_eq_true] at h
    have hi : i < ds.length := of_decide_eq_true h.1
    obtain ⟨x, e1, r1⟩ := Reps.at0 r hi
    obtain ⟨u, e2, r2⟩ := vals_at v e1
    obtain ⟨ws, a1, a2⟩ := per_ok (σ := σ) r v h.2
    refine ⟨x :: ws, ⟨x, ws, rfl, r1, a1⟩, ?_⟩
    rw [List.map_cons, List.getD_eq_getElem?_getD, e2]
    exact .cons r2 a2
theorem GE.grow {K : PySem.W.Frag} {mg : MG} {g : Gs} {T : List (O × V)} {G G' : Hp} {Q : VK} {σ : L2.St} (eg : Same G G') : ∀ {r : Option (Re O)}, GE K mg Wx g T G (fun o ρ' => ∀ v H' G2 W', R K g ρ' (T ++ [(o, v)]) σ H' G2 W' → Same G G2 → Q v H') r → GE K mg Wx g T G' (fun o ρ' => ∀ v H' G2 W', R K g ρ' (T ++ [(o, v)]) σ H' G2 W' → Same G' G2 → Q v H') r
  | none, h => h
  | some (.ok o ρ'), h => fun v H' G2 W' R' e2 => h v H' G2 W' R' (eg.trans e2)
  | some (.ex c fs ρ'), h => fun C d fv σ' H' G2 W' hm R' e2 hd hf => h C d fv σ' H' G2 W' hm R' (eg.trans e2) hd hf
theorem tCall_at {K : PySem.W.Frag} {mg : MG} {F : FS} {n : Nat} {g : Gs} {ρ1 : Rho} {T : List (O × V)} {σ : L2.St} {H1 G1 : Hp} {W1 : Own} {as : List Ag} {vs : List V} {Q : VK} (R1 : R K g ρ1 T σ H1 G1 W1) (ha : AgOk K G1 σ as vs)
    (k : GE K mg Wx g T G1 (fun o ρ' => ∀ v H' G' W', R K g ρ' (T ++ [(o, v)]) σ H' G' W' → Same G1 G' → Q v H') (callM n F (fun ρ => some (.ok as ρ)) ρ1)) : spF K mg n F vs H1 Q (WE Wx σ) := by
  unfold callM at k
  dsimp only at k
  by_cases hnl : noDup as = true ∧ as.length = n
  · rw [if_pos hnl] at k
    obtain ⟨hn, hlen⟩ := hnl
    cases h2 : toSl ρ1 as with
    | none => rw [h2] at k; exact k.elim
    | some args =>
      rw [h2] at k
      refine ⟨by rw [ha.len]; exact hlen, kIn as W1 H1, G1, wIn as W1, args, toSl_all h2, R1.enter ha h2 hn, ?_⟩
      dsimp only at k
      cases h3 : F args with
      | none => rw [h3] at k; exact k.elim
      | some fr =>
        rw [h3] at k
        cases fr with
        | ret o outs =>
          dsimp only at k
          cases h4 : back as outs ρ1 with
          | none => rw [h4] at k; exact k.elim
          | some ρ2 =>
            rw [h4] at k
            exact fun v H' G' W' R' eg => k v H' G' _ (R1.leave hn R' eg ha h4 (Nat.le_refl 1)) eg
        | ex c fs outs =>
          dsimp only at k
          cases h4 : back as outs ρ1 with
          | none => rw [h4] at k; exact k.elim
          | some ρ2 =>
            rw [h4] at k
            intro C d fv H' G' W' hm R' eg hd hf
            have R2 := R1.leave hn R' eg ha h4 (Nat.zero_le 1)
            rw [List.append_nil] at R2
            exact k C d fv σ H' G' _ hm R2 eg hd hf
  · rw [if_neg hnl] at k; exact k.elim
theorem x_callKG {x : Str} {k n : Nat} {F : FS} {kws : List Keyword} {ks : List Str} {per : List Nat} {fs : Pu (List D)} (C : KwG X.prog X.w X.K X.mg X.base k x ks per n F) (tk : Takes X Wx) (hr : RoomG k X.A) (hg : Gl X x) (ha : PK X kws (tLP X.K fs))
    (hl : ∀ ρ ds, fs ρ = some ds → ds.length = ks.length)
    (hks : (backToKw pos (keywordEach kws X.env)).filterMap (·.1) = ks := by rfl) (hall : (backToKw pos (keywordEach kws X.env)).all (·.1.isSome) = true := by rfl)
    (hpl : ((backTo pos (starEach [] X.env)).any (·.1) || (backToKw pos (keywordEach kws X.env)).any (·.1.isNone)) = false := by rfl)
    (hdb : (x == ("__debug__" : Str)) = false := by decide) :
    PE X (.Call (.Name x p) [] kws pos) (tX X.K X.mg Wx (callM n F (perG per fs))) := by
  obtain ⟨f, fd, ps, rfl, fo, hm, hk, hb, hq0⟩ := C
  refine ⟨fun pins s σ H Q I ⟨g, ρ, T, G, W, hR, k⟩ => ?_⟩
  cases hfs : fs ρ with
  | none =>
    unfold callM perG at k
    rw [hfs] at k
    exact k.elim
  | some ds =>
    refine wpAny_Call_Name_kw (ld_glob I hg hm ?_ hdb)
    refine PySem.W.callWith_KW0 (h₀ := X.base) I.ok.mod.kin hk hall (thn (ha.run pos pins s σ H (fun vs H1 => ∃ G1, R X.K g ρ T σ H1 G1 W ∧ Same G G1 ∧ Reps X.K G1 ds vs) I ⟨g, ρ, T, G, W, ds, hR, hfs, fun vs H1 G1 R1 eg eh r => ⟨G1, R1, eg, r⟩⟩) fun us s1 ⟨vs, H1, I1, rel, G1, R1, eg, rr⟩ => ⟨I1.kIn, ?_⟩) hpl
    rw [hks]
    have l1 : ds.length = ks.length := hl ρ ds hfs
    have hq : per.all (decide <| · < ds.length) = true := by rw [l1]; exact hq0
    obtain ⟨ws, a1, a2⟩ := per_ok (σ := σ) rr rel hq
    have lus : us.length = ks.length := by rw [← rel.length, ← rr.len, l1]
    have want : spF X.K X.mg ps.length F ws H1 Q (WE Wx σ) := by
      refine tCall_at R1 a1 ?_
      unfold callM perG at k
      rw [hfs] at k
      unfold callM
      exact k.grow eg
    have bd := hb s1 us lus
    show wpAny _ _ (call (.ref f) [] (ks.zip us)) _ _ _
    refine wpAny_call (codeAny_mono (fo.go X.A X.stack s1 H1 ⟨[], ks.zip us⟩ (per.map fun i => us.getD i .none) ws Q (WE Wx σ) hr I1.env0 bd a2 want) fun r s' hq => ?_)
    cases r with
    | error e => exact passAt tk σ pins H1 s1 e s' I1 hq
    | ok fl =>
      cases fl with
      | ret u => exact I1.after hq
      | next => exact hq.elim
      | brk => exact hq.elim
      | cont => exact hq.elim
end
end Tr
namespace Tr
open PySem PySem.Spec PyProof.Rows L2
/-- the tracked part at the law's start: the script alone -/
theorem law_at {P : Program} {w : World} {K : PySem.W.Frag} {mg m2 : MG} {k : Nat} {fa sc : Addr} {fd : FuncData} {x : Str} {sp : Sp} {z : Shared} {items : Array Value} {H : Hp} {gd : ∀ b u, H b = some u → b = sc}
    (kin : K.In z.heap) (gs : z.heap.Ns mainGlobals mg) (bs : z.heap.Ns builtinsNs m2) (bb : ∀ x : Str, x ≠ "__name__" → m2 x = bootBuiltins x) (nl : z.heap.NoLimit) (gn : z.gens = #[])
    (here : z.heap.get? sc = some { cls := .type "list", data := .seq items }) (hr : RoomG k callerA) (F : ∀ base : Heap, K.In base → base.Ns mainGlobals mg → FnG P w K mg base k fa fd [x] sp) (bind : ∀ (s : Shared) (u : Value), BindsTo s fd ⟨[u], []⟩ [(x, u)])
    (ok : HOk P w H z.heap) (only : Only H) (free : H sc ≠ none → K.lookup sc = none) (want : sp [.ref sc] H (fun v _ => v = .bl true) fun _ _ _ => False) :
    codeAny (model P w) callerA (.call (.ref fa) ⟨[.ref sc], []⟩) (fun r s' => r = .ok (.ret (.bool true)) ∧ OldK z.heap s'.heap ∧ s'.os = z.os ∧ AllBare s'.gens) z := by
  have none_or : ∀ b, H b = none ∨ b = sc := fun b => by
    cases e : H b with
    | none => exact .inl rfl
    | some u => exact .inr (gd b u e)
  have dict_free : ∀ {b : Addr} {o : Obj} {es : Array DictEntry} {ep : Nat}, z.heap.get? b = some o → o.data = .dict es ep → H b = none := fun {b o es ep} e1 e2 => (none_or b).elim id fun eb => by
    subst eb
    rw [here] at e1
    cases e1
    exact absurd e2 (by intro q; cases q)
  have ns_hid : ∀ {b : Addr} {m : MG}, z.heap.Ns b m → (hidT z.heap H).Ns b m := fun {b m} ⟨o, es, ep, e1, e2, r⟩ => ⟨o, es, ep, hidT_get e1 (dict_free e1 e2), e2, r⟩
  have k_hid : K.In (hidT z.heap H) := fun b o e => hidT_get (kin b o e) ((none_or b).elim id fun eb => by
    subst eb
    cases q : H b with
    | none => rfl
    | some u => rw [free (by rw [q]; exact fun c => nomatch c)] at e; cases e)
  have modk : Mod K mg (hidT z.heap H) := ⟨k_hid, ns_hid gs, ⟨m2, ns_hid bs, bb⟩, nl.elim fun mc h => ⟨mc, ns_hid h.1, h.2⟩⟩
  have env : Env0 P w K mg (hidT z.heap H) callerA [] z H := { frames := rfl, mod := modk, bs := fun b o e => of_hidT e, bsz := Nat.le_of_eq (hidT_size _ _), funs := trivial, frf := fun b hb => absurd hb List.not_mem_nil, hok := ok, bare := .of_eq gn }
  have run := (F _ k_hid (ns_hid gs)).go callerA [] z H ⟨[.ref sc], []⟩ [.ref sc] [.ref sc] _ _ hr env (bind z (.ref sc)) (.cons rfl .nil) want
  refine codeAny_mono run fun r s' h => ?_
  match r, h with
  | .error e, h => exact (L2.CX P w [] H z (fun _ _ _ => False) e s' |> fun _ => by obtain ⟨_, _, _, _, _, _, _, _, _, _, _, _, h⟩ := h; exact h.elim)
  | .ok (.ret u), h =>
    obtain ⟨v, H', os, bare, un, ok', rv, (q : v = .bl true)⟩ := h
    subst q
    have eu : u = Value.bool true := rv
    subst eu
    refine ⟨rfl, OldK.of_keep fun b o e => ?_, os, bare⟩
    cases q : H b with
    | none => exact un.keep b o e q (fun c => absurd c List.not_mem_nil) (by simp)
    | some u =>
      rcases only b with c | ⟨ob, xs, c⟩
      · rw [q] at c; cases c
      · have e1 := (ok b _ c).1
        have e2 := (ok' b _ (un.frzs b ob _ c)).1
        rw [e] at e1
        cases e1
        exact e2
/-- the law's run, from its function's promise -/
theorem walkG {l : PySem.W.OpenLaw} {n k : Nat} {q : Program} {loose : List Str} {XP : (Str → Option Value) → Heap → Prop} {YP : World → Heap → Prop} {d : DefRec} {K : Params → PySem.W.Frag} {sp : World → Sp} {x : Str}
    (hn : l.most = some n) (hn2 : n ≤ sizeLine) (hdf : d.params.defaults = []) (hr : RoomG k callerA) (hY : ∀ (w : World) (h : Heap), YP w h → (K w.params).In h)
    (F : ∀ (w : World) (mg : MG) (fa : Addr) (h : Heap), (K w.params).In h → h.Ns mainGlobals mg → mg d.name = some (.ref fa) →
      ∃ fd : FuncData, (∀ (s : Shared) (u : Value), BindsTo s fd ⟨[u], []⟩ [(x, u)]) ∧ ∀ base : Heap, (K w.params).In base → base.Ns mainGlobals mg → FnG l.prog w (K w.params) mg base k fa fd [x] (sp w))
    (want : ∀ (w : World) (H : Hp) (a : Addr) (ns : List Int), ns.length ≤ n → Only H → SqL (K w.params) H a (ns.map V.int) → sp w [.ref a] H (fun v _ => v = .bl true) fun _ _ _ => False) :
    PySem.W.WalkO q loose XP YP l.row.toRowW d [] (fun f vs => PySem.call f vs) := by
  refine Att.attach_call hn hdf fun w s0 z mg mb fa o pm cd doc sc vs ns G Y ho hd hcd hmg here hints len gn => ?_
  have kin := hY w _ Y
  obtain ⟨fd, bind, hF⟩ := F w mg fa _ kin G.T.g hmg
  have rel := vals_ints hints
  have size : ns.length ≤ sizeLine := Nat.le_trans len hn2
  cases own : (K w.params).lookup sc with
  | some ob =>
    have same := kin sc ob own
    rw [here] at same
    cases same
    exact law_at (gd := fun b u c => nomatch c) kin G.T.g G.T.b G.T.builtins G.T.nolimit gn here hr hF bind (H := fun _ => none) (fun b u c => nomatch c) (fun _ => .inl rfl) (fun c => absurd rfl c)
      (want w _ sc ns len (fun _ => .inl rfl) (.inr ⟨_, vs.toArray, _, own, rfl, rfl, rfl, by rw [List.size_toArray, hints.length]; exact size, by simpa using rel⟩))
  | none =>
    have at_ : ∀ b, (fun b => if b = sc then some (HO.frz { cls := .type "list", data := .seq vs.toArray } (.lst (ns.map V.int))) else none : Hp) b ≠ none → b = sc := fun b c => Classical.byContradiction fun hb => c (if_neg hb)
    have only : Only (fun b => if b = sc then some (HO.frz { cls := .type "list", data := .seq vs.toArray } (.lst (ns.map V.int))) else none) := fun b => by
      by_cases hb : b = sc
      · exact .inr ⟨_, _, if_pos hb⟩
      · exact .inl (if_neg hb)
    refine law_at (gd := fun b u c => at_ b (fun e => by have c' := c.symm.trans e; cases c')) kin G.T.g G.T.b G.T.builtins G.T.nolimit gn here hr hF bind (fun b u c => ?_) only (fun _ => own) (want w _ sc ns len only (.inl (.inr ⟨_, if_pos rfl⟩)))
    have hb := at_ b (fun e => by have c' := c.symm.trans e; cases c')
    subst hb
    have c1 := (if_pos rfl).symm.trans c
    cases c1
    exact ⟨here, by rw [List.length_map]; exact size, vs, _, rel, here⟩
end Tr
namespace Tr
open PySem PySem.Spec PyProof.Rows L2
section
variable {X : Cx} {e a b c : Expr} {es : List Expr} {Wx : WX} {p q pos : Pos} {ga : Mo D} {fa fb : Pu D}
/-! ### repr of plain data -/
def rReprD (K : PySem.W.Frag) : List V → Hp → VK → Prop := fun xs H Q => ∃ x d, xs = [x] ∧ Dp K H x d ∧ SeqAt.shaped d = true ∧ d.showable = true ∧ d.shown.length ≤ sizeLine ∧ Q (.str d.shown) H
theorem call_reprD {k : Nat} (hr : RoomG k X.A) : CallR X (.builtin "repr") (rReprD X.K) := by
  intro pins s σ H xs us Q I r h
  obtain ⟨x, d, rfl, hd, hsh, hs, hz, q⟩ := h
  cases r with
  | cons rx rt =>
    cases rt
    obtain ⟨as, rd⟩ := Dp.reads I d x _ hd rx
    have lay := SeqAt.canLay_of_shaped hsh
    have dep := SeqAt.depth_of_shaped hsh
    have un := hr.toRoom.un
    have ref : ∀ {a0 : Addr}, Reads s.heap (.ref a0) d as → wpAny (model X.prog X.w) X.A (call (.builtin "repr") [.ref a0]) (EP X pins σ Q) X.xe s := fun {a0} rd =>
      repr_of_reads' rd hs (PyData.noDict_hsm (PyData.hasDict_of_canLay d lay)) hr.gd (by omega) (fun _ _ z => z) (fun h' u tk hk => ⟨.str d.shown, H, I.kept (t' := tk) fun b o e => hk b o e, ⟨u, rfl⟩, q⟩) hz
    cases rd with
    | none => exact PySem.P.repr_of_none ⟨.str _, H, I.tok _, ⟨_, rfl⟩, q⟩
    | bool => exact PySem.P.repr_of_bool ⟨.str _, H, I.tok _, ⟨_, rfl⟩, q⟩
    | int i t => exact PySem.P.repr_of_int (of_decide_eq_true hs) ⟨.str _, H, I.tok _, ⟨_, rfl⟩, q⟩
    | str x t => exact PySem.P.repr_of_str ⟨.str _, H, I.tok _, ⟨_, rfl⟩, q⟩ hz
    | list h1 h2 h3 h4 => exact ref (.list h1 h2 h3 h4)
    | tuple h1 h2 h3 h4 => exact ref (.tuple h1 h2 h3 h4)
    | dict h1 h2 h3 h4 h5 => exact ref (.dict h1 h2 h3 h4 h5)
def reprOk (d : D) : Bool := okPy d && d.py.showable && decide (d.py.shown.length ≤ sizeLine)
def reprD (d : D) : Option D := if reprOk d = true then some (.str d.py.shown) else none
theorem reprD_ok {K : PySem.W.Frag} : C1 K (rReprD K) reprD := fun d z x H G Q hz e r k => by
  unfold reprD at hz
  split at hz
  · rename_i h
    cases hz
    unfold reprOk okPy at h
    simp only [Bool.and_eq_true, decide_eq_true_eq] at h
    exact ⟨x, d.py, rfl, Rep.dp h.1.1.1 (r.rep e), h.1.1.2, h.1.2, h.2, k _ H G .st (Rep.st.mpr rfl)⟩
  · cases hz
/-! ### texts compared as texts -/
def eqS (a b : D) : Option D := match a, b with
  | .str x, .str y => some (.bl (decide (x = y)))
  | a, b => eqD a b
def neS (a b : D) : Option D := match a, b with
  | .str x, .str y => some (.bl (!decide (x = y)))
  | a, b => neD a b
abbrev rEqS (K : PySem.W.Frag) : R2 := fun x y H Q => rEqD K x y H Q ∨ rEq x y H Q
abbrev rNeS (K : PySem.W.Frag) : R2 := fun x y H Q => rNeD K x y H Q ∨ rNe x y H Q
theorem op_eqS (hu : X.A.units + 64 < cLine) : OpR X (compareOp .Eq) (rEqS X.K) := (op_eqD hu).or op_eq
theorem op_neS (hu : X.A.units + 64 < cLine) : OpR X (compareOp .NotEq) (rNeS X.K) := (op_neD hu).or op_ne
theorem eqS_ok {K : PySem.W.Frag} : OpB K (rEqS K) eqS := fun d1 d2 d x y H Q hf r1 r2 k => by
  unfold eqS at hf
  split at hf
  · cases hf
    have e1 := Rep.st.mp r1
    have e2 := Rep.st.mp r2
    subst e1 e2
    refine .inr ⟨rfl, ?_⟩
    rename_i a b
    have : decide ((V.str a) = V.str b) = decide (a = b) := by
      by_cases h : a = b <;> simp [h]
    rw [this]
    exact k _ fun G => Rep.b.mpr rfl
  · exact .inl (eqD_ok d1 d2 d x y H Q hf r1 r2 k)
theorem neS_ok {K : PySem.W.Frag} : OpB K (rNeS K) neS := fun d1 d2 d x y H Q hf r1 r2 k => by
  unfold neS at hf
  split at hf
  · cases hf
    have e1 := Rep.st.mp r1
    have e2 := Rep.st.mp r2
    subst e1 e2
    refine .inr ⟨rfl, ?_⟩
    rename_i a b
    have : (!decide ((V.str a) = V.str b)) = (!decide (a = b)) := by
      by_cases h : a = b <;> simp [h]
    rw [this]
    exact k _ fun G => Rep.b.mpr rfl
  · exact .inl (neD_ok d1 d2 d x y H Q hf r1 r2 k)
/-! ### x in a list or tuple of flat things -/
def flatD : D → Bool
  | .non => true
  | .bl _ => true
  | .int _ => true
  | .str _ => true
  | _ => false
def eqF : D → D → Bool
  | .non, .non => true
  | .bl a, .bl b => a == b
  | .bl a, .int b => (if a then 1 else 0) == b
  | .int a, .bl b => a == (if b then 1 else 0)
  | .int a, .int b => a == b
  | .str a, .str b => a == b
  | _, _ => false
theorem Rep.flat {K : PySem.W.Frag} {G : Hp} {d : D} {v : V} (h : Rep K G d v) (f : flatD d = true) : flatV v = true := by
  cases d with
  | non => rw [Rep] at h; subst h; rfl
  | bl b => rw [Rep] at h; subst h; rfl
  | int i => rw [Rep] at h; subst h; rfl
  | str x => rw [Rep] at h; subst h; rfl
  | _ => cases f
theorem Rep.eqF {K : PySem.W.Frag} {G : Hp} {d d' : D} {v v' : V} (h : Rep K G d v) (h' : Rep K G d' v') (f : flatD d = true) (f' : flatD d' = true) : eqV v v' = Tr.eqF d d' := by
  cases d <;> first | (cases f; done) | (rw [Rep] at h; subst h; cases d' <;> first | (cases f'; done) | (rw [Rep] at h'; subst h'; rfl))
theorem Reps.flat {K : PySem.W.Frag} {G : Hp} : ∀ {ds : List D} {xs : List V}, Reps K G ds xs → ds.all flatD = true → xs.all flatV = true
  | [], _, h, _ => by rw [Reps] at h; subst h; rfl
  | d :: ds, _, h, f => by
    rw [Reps] at h
    obtain ⟨x, r, rfl, r1, r2⟩ := h
    rw [List.all_cons, Bool.and_eq_true] at f
    rw [List.all_cons, r1.flat f.1, Reps.flat r2 f.2]; rfl
theorem Reps.inF {K : PySem.W.Frag} {G : Hp} {d : D} {v : V} (h : Rep K G d v) (f : flatD d = true) : ∀ {ds : List D} {xs : List V}, Reps K G ds xs → ds.all flatD = true → inV v xs = ds.any (fun y => Tr.eqF y d)
  | [], _, h, _ => by rw [Reps] at h; subst h; rfl
  | y :: ds, _, h2, f2 => by
    rw [Reps] at h2
    obtain ⟨x, r, rfl, r1, r2⟩ := h2
    rw [List.all_cons, Bool.and_eq_true] at f2
    unfold inV
    rw [List.any_cons, List.any_cons, r1.eqF h f2.1 f]
    have := Reps.inF h f r2 f2.2
    unfold inV at this
    rw [this]
def inD (neg : Bool) (d e : D) : Option D := match e.sq with
  | some ds => if flatD d = true ∧ ds.all flatD = true then some (.bl (if neg then !ds.any (fun y => eqF y d) else ds.any (fun y => eqF y d))) else none
  | none => none
theorem inD_ok {K : PySem.W.Frag} {neg : Bool} : OpB K (rIn K neg) (inD neg) := fun d1 d2 d x y H Q hf r1 r2 k => by
  unfold inD at hf
  split at hf
  · rename_i ds es
    split at hf
    · rename_i h
      cases hf
      obtain ⟨p, xs, rfl, hs, hr⟩ := (CRep.of (G := H) (H := H) r2).sq (Same.refl _) es
      refine ⟨p, xs, rfl, hs, r1.flat h.1, hr.flat h.2, ?_⟩
      rw [Reps.inF r1 h.1 hr h.2]
      exact k _ fun G => Rep.b.mpr rfl
    · cases hf
  · cases hf
/-! ### t.index(n) -/
def rIxT (K : PySem.W.Frag) : V → List V → Hp → VK → Prop := fun x xs H Q => ∃ (t : Addr) (ns : List Int) (n : Int), x = .ref t ∧ xs = [.int n] ∧ SqT K H t (ns.map V.int) ∧ n ∈ ns ∧ Q (.int (ns.idxOf n : Nat)) H
theorem mt_ixT {k : Nat} (hr : RoomG k X.A) : MtR X "tuple.index" (rIxT X.K) := by
  intro pins s σ H x xs v us Q I rx rs h
  obtain ⟨t, ns, n, rfl, rfl, hq, hn, q⟩ := h
  cases rx
  obtain ⟨u, rfl, tn, rfl⟩ := vals1 rs
  obtain ⟨its, r, pl, hz⟩ := I.tuple hq
  have un := hr.toRoom.un
  exact PySem.W.index_tuple_datum (α := Int) pl (PySem.W.HoldAll.of_ints r.ints) (PySem.W.holds_int n tn) (by show X.A.units + 1 + 0 < cLine; omega) hn ⟨.int _, H, I.tok _, ⟨_, rfl⟩, q⟩
def ixTD : D → D → Option D
  | .tup ds, .int n => (match intsO ds with
    | some ns => if n ∈ ns then some (.int (ns.idxOf n : Nat)) else none
    | none => none)
  | _, _ => none
/-- a method of a tuple that has no dict of its own -/
theorem pe_tm {o : Expr} {to : TE} {t : TA} {name : Str} {apos cpos : Pos} {id : String} {r : V → List V → Hp → VK → Prop} (slot : Slot "tuple" name id) (ty : typeOf (.builtin id) = pure (.type "method_descriptor")) (hm : MtR X id r) (ho : PE X o to) (ha : PA X (e :: es) t)
    (base : attributeBase o name X.env (eval o X.env) = eval o X.env) (few : ((backTo cpos (starEach (e :: es) X.env)).all (fun x => !x.1) && (backToKw cpos (keywordEach [] X.env)).all (fun x => x.1.isSome) && decide ((e :: es).length + ([] : List Keyword).length + (if ([] : List Keyword).isEmpty then 0 else 1) < 30)) = true)
    (line : (apos.endLine == cpos.line) = true) (st : starEach (e :: es) X.env = (false, eval e X.env) :: starEach es X.env) (pl : (backTo cpos (starEach es X.env)).any (·.1) = false) :
    PE X (.Call (.Attribute o name apos) (e :: es) [] cpos) (fun σ H Q => to σ H fun x H1 => (∃ p ys, x = .ref p ∧ TupB H1 p ys) ∧ t σ H1 fun xs H2 => r x xs H2 Q) := ⟨fun pins s σ H Q I want =>
  wpAny_Call_method_late base few line rfl (thn (ho.run pins s σ H _ I want) fun v s1 ⟨x, H1, I1, rx, ⟨p, ys, ex, ob, nd, there⟩, q⟩ => by
    subst ex
    have ev : v = Value.ref p := rx
    subst ev
    obtain ⟨h1, _, its, _, h2⟩ := I1.hok p _ there
    refine ⟨"tuple", id, PySem.F.plainAttrs_tuple, slot, ty, h2.typeIs, fun a ea => ?_, ?_⟩
    · cases ea; exact ⟨ob, h1, nd⟩
    · have hA := ha.run cpos pins s1 σ H1 _ I1 q
      rw [st] at hA ⊢
      exact Calls.callWith_builtin (by show (false || (backTo cpos (starEach es X.env)).any (·.1)) = false; rw [pl] <;> rfl) (Calls.evalArgs_plain (thn hA fun us s2 ⟨vs, H2, I2, r2, q2⟩ => hm pins s2 σ H2 (.ref p) vs (.ref p) us Q I2 rfl r2 q2)))⟩
theorem p_ixT {o : Expr} {k : Nat} {apos cpos : Pos} (hr : RoomG k X.A) (ho : PE X o (tP X.K fa)) (hb : PE X e (tP X.K fb)) (hbase : attributeBase o "index" X.env (eval o X.env) = eval o X.env := by rfl)
    (hs : starEach [e] X.env = (false, eval e X.env) :: starEach [] X.env := by rfl)
    (hfew : ((backTo cpos (starEach [e] X.env)).all (fun x => !x.1) && (backToKw cpos (keywordEach [] X.env)).all (fun x => x.1.isSome) && decide ([e].length + ([] : List Keyword).length + (if ([] : List Keyword).isEmpty then 0 else 1) < 30)) = true := by rfl)
    (hline : (apos.endLine == cpos.line) = true := by rfl) (hplain : (backTo cpos (starEach [] X.env)).any (·.1) = false := by rfl) :
    PE X (.Call (.Attribute o "index" apos) [e] [] cpos) (tP X.K (pu2 ixTD fa fb)) := (pe_tm PySem.F.slot_tuple_index PySem.F.type_tuple_index (mt_ixT hr) ho (pa_cons hb pa_nil hs) hbase hfew hline hs hplain).wk fun σ H Q ⟨g, ρ, T, G, W, d, hR, hf, k⟩ => by
  unfold pu2 at hf
  split at hf
  · rename_i d1 d2 e1 e2
    unfold ixTD at hf
    split at hf
    · rename_i ds n
      cases hi : intsO ds with
      | none => rw [hi] at hf; cases hf
      | some ns =>
        rw [hi] at hf
        dsimp only at hf
        split at hf
        · rename_i hm
          cases hf
          refine ⟨g, ρ, T, G, W, _, hR, e1, fun v H1 G1 R1 eg1 eh1 r1 => ?_⟩
          obtain ⟨l, xs, rfl, hq, hr'⟩ := r1.tr
          have exs := hr'.intsV hi
          subst exs
          exact ⟨⟨l, _, rfl, hq.same R1.gh⟩, g, ρ, T, G1, W, _, R1, e2, fun u H2 G2 R2 eg2 eh2 r2 => ⟨l, ns, n, rfl, by rw [Rep.i.mp r2], (hq.same (R1.gh.trans eh2)).sq, hm, k _ H2 G2 R2 (eg1.trans eg2) (eh1.trans eh2) (Rep.i.mpr rfl)⟩⟩
        · cases hf
    · cases hf
  · cases hf
end
end Tr
namespace Tr
open PySem PySem.Spec PyProof.Rows L2
theorem RoomG.u1 {k : Nat} {A : Around} (r : RoomG k A) : A.units + 1 < cLine := by have := r.toRoom.un; omega
/-! ### dicts with keys ints and texts -/
def keyD : D → Option Key
  | .int i => some (.inl i)
  | .str x => some (.inr x)
  | _ => none
theorem Rep.key {K : PySem.W.Frag} {G : Hp} {d : D} {v : V} {k : Key} (h : Rep K G d v) (e : keyD d = some k) : v = kV k := by
  cases d with
  | int i => cases e; exact Rep.i.mp h
  | str x => cases e; exact Rep.st.mp h
  | _ => cases e
def putD (kvs : List (Key × D)) (k : Key) (d : D) : List (Key × D) :=
  if (kvs.any fun kv => decide (kv.1 = k)) = true then kvs.map (fun kv => if kv.1 = k then (kv.1, d) else kv) else kvs ++ [(k, d)]
def valD (kvs : List (Key × D)) (k : Key) : Option D := (kvs.find? fun kv => decide (kv.1 = k)).map (·.2)
theorem RepK.keys {K : PySem.W.Frag} {G : Hp} : ∀ {kvs : List (Key × D)} {ys : List (Key × V)}, RepK K G kvs ys → ys.map (·.1) = kvs.map (·.1)
  | [], _, h => by rw [RepK] at h; subst h; rfl
  | (k, d) :: kvs, _, h => by
    rw [RepK] at h
    obtain ⟨x, r, rfl, _, h2⟩ := h
    rw [List.map_cons, List.map_cons, h2.keys]
theorem RepK.any {K : PySem.W.Frag} {G : Hp} {kvs : List (Key × D)} {ys : List (Key × V)} (h : RepK K G kvs ys) (p : Key → Bool) : (ys.any fun kv => p kv.1) = kvs.any fun kv => p kv.1 := by
  have e := h.keys
  have h1 : (ys.any fun kv => p kv.1) = (ys.map (·.1)).any p := by rw [List.any_map]; rfl
  have h2 : (kvs.any fun kv => p kv.1) = (kvs.map (·.1)).any p := by rw [List.any_map]; rfl
  rw [h1, h2, e]
theorem RepK.app {K : PySem.W.Frag} {G : Hp} : ∀ {a b : List (Key × D)} {xs ys : List (Key × V)}, RepK K G a xs → RepK K G b ys → RepK K G (a ++ b) (xs ++ ys)
  | [], _, _, _, h, h2 => by rw [RepK] at h; subst h; exact h2
  | (k, d) :: a, b, _, ys, h, h2 => by
    rw [RepK] at h
    obtain ⟨x, r, rfl, h3, h4⟩ := h
    rw [List.cons_append, RepK]
    exact ⟨x, r ++ ys, rfl, h3, h4.app h2⟩
theorem RepK.upd {K : PySem.W.Frag} {G : Hp} {k : Key} {d : D} {v : V} (r : Rep K G d v) : ∀ {a : List (Key × D)} {xs : List (Key × V)}, RepK K G a xs → RepK K G (a.map fun kv => if kv.1 = k then (kv.1, d) else kv) (xs.map fun kv => if kv.1 = k then (kv.1, v) else kv)
  | [], _, h => by rw [RepK] at h; subst h; rw [List.map_nil, List.map_nil, RepK]
  | (k', d') :: a, _, h => by
    rw [RepK] at h
    obtain ⟨x, r', rfl, h3, h4⟩ := h
    rw [List.map_cons, List.map_cons]
    by_cases hk : k' = k
    · rw [if_pos hk, if_pos hk, RepK]
      exact ⟨v, _, rfl, r, h4.upd r⟩
    · rw [if_neg hk, if_neg hk, RepK]
      exact ⟨x, _, rfl, h3, h4.upd r⟩
theorem RepK.put {K : PySem.W.Frag} {G : Hp} {k : Key} {d : D} {v : V} {a : List (Key × D)} {xs : List (Key × V)} (h : RepK K G a xs) (r : Rep K G d v) : RepK K G (putD a k d) (putK xs k v) := by
  unfold putD putK
  rw [h.any fun k' => decide (k' = k)]
  split
  · exact h.upd r
  · exact h.app (by rw [RepK]; exact ⟨v, [], rfl, r, by rw [RepK]⟩)
theorem RepK.val {K : PySem.W.Frag} {G : Hp} {k : Key} : ∀ {a : List (Key × D)} {xs : List (Key × V)}, RepK K G a xs → (∀ d, valD a k = some d → ∃ v, valV xs k = some v ∧ Rep K G d v) ∧ (valD a k = none → valV xs k = none)
  | [], _, h => by rw [RepK] at h; subst h; exact ⟨fun d e => (nomatch e), fun _ => rfl⟩
  | (k', d') :: a, _, h => by
    rw [RepK] at h
    obtain ⟨x, r', rfl, h3, h4⟩ := h
    unfold valD valV
    rw [List.find?_cons, List.find?_cons]
    by_cases hk : k' = k
    · rw [show decide (((k', d') : Key × D).1 = k) = true from decide_eq_true hk]
      exact ⟨fun d e => by cases e; exact ⟨x, rfl, h3⟩, fun e => (nomatch e)⟩
    · rw [show decide (((k', d') : Key × D).1 = k) = false from decide_eq_false hk]
      exact h4.val
theorem RepK.len {K : PySem.W.Frag} {G : Hp} {a : List (Key × D)} {xs : List (Key × V)} (h : RepK K G a xs) : a.length = xs.length := by
  have := congrArg List.length h.keys
  rw [List.length_map, List.length_map] at this
  exact this.symm
theorem valD_any : ∀ (a : List (Key × D)) (k : Key), (valD a k).isSome = a.any fun kv => decide (kv.1 = k)
  | [], _ => rfl
  | (k', d') :: a, k => by
    unfold valD
    rw [List.find?_cons, List.any_cons]
    by_cases hk : k' = k
    · rw [show decide (((k', d') : Key × D).1 = k) = true from decide_eq_true hk]; rfl
    · rw [show decide (((k', d') : Key × D).1 = k) = false from decide_eq_false hk, Bool.false_or]
      exact valD_any a k
section
variable {X : Cx} {e a b c : Expr} {es : List Expr} {Wx : WX} {p q pos : Pos} {ga : Mo D} {fa fb : Pu D}
/-- a dict that stands: owned, or frozen -/
theorem CRep.dic {K : PySem.W.Frag} {G H : Hp} {kvs : List (Key × D)} {v : V} (e : Same G H) (h : CRep K G H (.dic kvs) v) : ∃ a ys, v = .ref a ∧ H a = some (.dK ys) ∧ RepK K G kvs ys := by
  rcases h with h | ⟨_, _, _, e0, _⟩ | ⟨kvs', a, ys, e0, h1, h2, h3⟩
  · rw [Rep] at h
    obtain ⟨a, ys, h1, h2, h3⟩ := h
    exact ⟨a, ys, h1, e _ _ h2, h3⟩
  · cases e0
  · cases e0
    exact ⟨a, ys, h1, h2, h3⟩
/-- k in d -/
def inK (neg : Bool) (k d : D) : Option D := match keyD k, d with
  | some k, .dic kvs => some (.bl (if neg then !(kvs.any fun kv => decide (kv.1 = k)) else kvs.any fun kv => decide (kv.1 = k)))
  | _, _ => none
theorem inK_key {K : PySem.W.Frag} {g : Gs} {ρ : Rho} {T : List (O × V)} {σ : L2.St} {H G : Hp} {W : Own} {neg : Bool} {d1 d2 d : D} {x y : V} (hR : R K g ρ T σ H G W) (hf : inK neg d1 d2 = some d) (r1 : Rep K G d1 y) (r2 : CRep K G H d2 x) :
    ∃ a o, x = .ref a ∧ DGet H a y o ∧ d = .bl (if neg then !o.isSome else o.isSome) := by
  unfold inK at hf
  split at hf
  · rename_i k kvs e1
    cases hf
    obtain ⟨a, ys, rfl, h1, h2⟩ := r2.dic hR.gh
    refine ⟨a, valV ys k, rfl, .inl ⟨ys, k, .inl h1, r1.key e1, rfl⟩, ?_⟩
    have h3 := h2.val (k := k)
    have h4 := valD_any kvs k
    have h5 : (valV ys k).isSome = (valD kvs k).isSome := by
      cases hv : valD kvs k with
      | none => rw [h3.2 hv]; rfl
      | some d0 => obtain ⟨v, h6, _⟩ := h3.1 d0 hv; rw [h6]; rfl
    rw [h5, h4]
  · cases hf
theorem p_inK (hu : X.A.units + 1 < cLine) (ha : PE X a (tP X.K fa)) (hb : PE X b (tC X.K fb)) (hm : behindInMarks .In b = false := by rfl) : PE X (.Compare a [.In] [b] pos) (tP X.K (pu2 (inK false) fa fb)) := (pe_cmp (pc_din hu ha hb) hm).wk fun σ H Q ⟨g, ρ, T, G, W, d, hR, hf, k⟩ => by
  unfold pu2 at hf
  split at hf
  · rename_i d1 d2 e1 e2
    refine ⟨g, ρ, T, G, W, d1, hR, e1, fun y H1 G1 R1 eg1 eh1 r1 => ⟨g, ρ, T, G1, W, d2, R1, e2, fun x H2 G2 R2 eg2 eh2 r2 => ?_⟩⟩
    obtain ⟨a0, o, rfl, hg, rfl⟩ := inK_key R2 hf (r1.mono eg2) r2
    exact ⟨a0, o, rfl, hg, k _ H2 G2 R2 (eg1.trans eg2) (eh1.trans eh2) (Rep.b.mpr rfl)⟩
  · cases hf
theorem p_notInK (hu : X.A.units + 1 < cLine) (ha : PE X a (tP X.K fa)) (hb : PE X b (tC X.K fb)) (hm : behindInMarks .NotIn b = false := by rfl) : PE X (.Compare a [.NotIn] [b] pos) (tP X.K (pu2 (inK true) fa fb)) := (pe_cmp (pc_dnotin hu ha hb) hm).wk fun σ H Q ⟨g, ρ, T, G, W, d, hR, hf, k⟩ => by
  unfold pu2 at hf
  split at hf
  · rename_i d1 d2 e1 e2
    refine ⟨g, ρ, T, G, W, d1, hR, e1, fun y H1 G1 R1 eg1 eh1 r1 => ⟨g, ρ, T, G1, W, d2, R1, e2, fun x H2 G2 R2 eg2 eh2 r2 => ?_⟩⟩
    obtain ⟨a0, o, rfl, hg, rfl⟩ := inK_key R2 hf (r1.mono eg2) r2
    exact ⟨a0, o, rfl, hg, k _ H2 G2 R2 (eg1.trans eg2) (eh1.trans eh2) (Rep.b.mpr rfl)⟩
  · cases hf
theorem q_inK (hu : X.A.units + 1 < cLine) (ha : PE X a (tP X.K fa)) (hb : PE X b (tC X.K fb)) (hm : behindInMarks .In b = false := by rfl) : PT X (.Compare a [.In] [b] pos) (tQ X.K (tb (pu2 (inK false) fa fb))) := (pt_cmp (pc_din hu ha hb) hm).wk fun σ H Q h => by
  obtain ⟨g, ρ, T, G, W, d, hR, hf, k⟩ := tQ_P σ H Q h
  unfold pu2 at hf
  split at hf
  · rename_i d1 d2 e1 e2
    refine ⟨g, ρ, T, G, W, d1, hR, e1, fun y H1 G1 R1 eg1 eh1 r1 => ⟨g, ρ, T, G1, W, d2, R1, e2, fun x H2 G2 R2 eg2 eh2 r2 => ?_⟩⟩
    obtain ⟨a0, o, rfl, hg, rfl⟩ := inK_key R2 hf (r1.mono eg2) r2
    exact ⟨a0, o, rfl, hg, k _ H2 G2 R2 (eg1.trans eg2) (eh1.trans eh2) (Rep.b.mpr rfl)⟩
  · cases hf
theorem q_notInK (hu : X.A.units + 1 < cLine) (ha : PE X a (tP X.K fa)) (hb : PE X b (tC X.K fb)) (hm : behindInMarks .NotIn b = false := by rfl) : PT X (.Compare a [.NotIn] [b] pos) (tQ X.K (tb (pu2 (inK true) fa fb))) := (pt_cmp (pc_dnotin hu ha hb) hm).wk fun σ H Q h => by
  obtain ⟨g, ρ, T, G, W, d, hR, hf, k⟩ := tQ_P σ H Q h
  unfold pu2 at hf
  split at hf
  · rename_i d1 d2 e1 e2
    refine ⟨g, ρ, T, G, W, d1, hR, e1, fun y H1 G1 R1 eg1 eh1 r1 => ⟨g, ρ, T, G1, W, d2, R1, e2, fun x H2 G2 R2 eg2 eh2 r2 => ?_⟩⟩
    obtain ⟨a0, o, rfl, hg, rfl⟩ := inK_key R2 hf (r1.mono eg2) r2
    exact ⟨a0, o, rfl, hg, k _ H2 G2 R2 (eg1.trans eg2) (eh1.trans eh2) (Rep.b.mpr rfl)⟩
  · cases hf
/-- d[k] = v, d in a slot -/
def stoD (i : Nat) (f : Mo D) (fk : Pu D) : MS := fun ρ => match f ρ with
  | some (.ok d ρ1) => (match ρ1[i]?, fk ρ1 with
    | some s, some kd => (match s.tr, keyD kd with
      | some (.od kvs), some k => if kvs.length < sizeLine then some (.nx (ρ1.set i (s.put (.od (putD kvs k d))))) else none
      | _, _ => none)
    | _, _ => none)
  | some (.ex c fs ρ1) => some (.ex c fs ρ1)
  | none => none
theorem s_stoD {i : Nat} {o ek : Expr} {fk : Pu D} {p1 : Pos} (hu : X.A.units + 1 < cLine) (he : PE X e (tV X.K X.mg Wx ga)) (ho : PE X o (tVar i)) (hk : PE X ek (tP X.K fk)) (hs : swapsWith e (some (.Subscript o ek p1)) pos.line X.env = pure false := by rfl) :
    PS X (.Assign [.Subscript o ek p1] e pos) (tS X.K X.mg Wx (stoD i ga fk)) := (ps_dput hu ho hk he hs).wk fun D0 σ H ⟨g, ρ, T, G, W, hR, k⟩ => by
  refine ⟨g, ρ, T, G, W, hR, ?_⟩
  unfold stoD at k
  cases h1 : ga ρ with
  | none => rw [h1] at k; exact k.elim
  | some r =>
    rw [h1] at k
    cases r with
    | ex c fs ρ1 => exact k
    | ok d ρ1 =>
      intro v H1 G1 W1 R1 eg1 rv
      dsimp only at k
      split at k
      · rename_i s kd e0 ek
        split at k
        · rename_i kvs key et ekey
          split at k
          · rename_i hl
            obtain ⟨v0, hv0, _⟩ := R1.slo e0 et
            refine ⟨v0, hv0, g, ρ1, T, G1, W1, kd, R1, ek, fun y H2 G2 R2 eg2 eh2 ry => ?_⟩
            obtain ⟨a0, ys, hv, ha, hga, hr, wr⟩ := R2.wrD e0 et
            rw [hv0] at hv; cases hv
            have hy := ry.key ekey
            subst hy
            refine ⟨a0, _, rfl, DPut.k ha (by rw [← hr.len]; exact hl), ?_⟩
            exact k σ _ G2 _ (wr G2 _ _ (Same.refl _) R2 (hr.put (rv.mono eg2))) (eg1.trans eg2)
          · exact k.elim
        · exact k.elim
      · exact k.elim
/-! ### a new dict -/
/-- something new that is owned -/
theorem R.newO {K : PySem.W.Frag} {g : Gs} {ρ : Rho} {T : List (O × V)} {σ : L2.St} {H G : Hp} {W : Own} {p : Addr} {u : HO} {o : O} (h : R K g ρ T σ H G W) (hp : H p = none) (ho : Ow K G (upd H p u) (wJoin W T.length p) o (.ref p) (.t T.length) []) :
    R K g ρ (T ++ [(o, .ref p)]) σ (upd H p u) G (wJoin W T.length p) := by
  have ne : ∀ {b l}, W b = some l → b ≠ p := fun {b l} w e => (h.wl b l w).2.2 (by rw [e]; exact hp)
  have hu : Same H (upd H p u) := same_upd hp
  refine ⟨h.gh.trans hu, h.kh.trans hu, h.gg, h.sep, fun b l w => ?_, h.len, fun j s q => ?_, fun k o' v q => ?_⟩
  · by_cases hb : b = p
    · subst hb
      exact ⟨h.gh.free hp, h.kh.free hp, by rw [upd_same]; exact fun z => nomatch z⟩
    · have : ∃ l', W b = some l' := by
        unfold wJoin at w
        rw [if_neg hb] at w
        cases e : W b with
        | none => rw [e] at w; cases w
        | some l' => exact ⟨l', rfl⟩
      obtain ⟨l', w'⟩ := this
      rw [upd_ne hb]
      exact h.wl b l' w'
  · exact (h.sl j s q).keep (Same.refl G) (fun a z w => ⟨upd_ne (ne w), wJoin_s w (ne w)⟩) rfl
  · rcases getElem?_snoc q with ⟨q2, hk⟩ | ⟨ek, q2⟩
    · exact (h.tm k o' v q2).keep (Same.refl G) fun a z w => ⟨upd_ne (ne w), wJoin_lt w (ne w) hk⟩
    · cases q2
      subst ek
      exact ho
theorem R.newD {K : PySem.W.Frag} {g : Gs} {ρ : Rho} {T : List (O × V)} {σ : L2.St} {H G : Hp} {W : Own} {p : Addr} (h : R K g ρ T σ H G W) (hp : H p = none) :
    R K g ρ (T ++ [(.od [], .ref p)]) σ (upd H p (.dK [])) G (wJoin W T.length p) := h.newO hp (by
  rw [Ow]
  exact ⟨p, [], rfl, upd_same, if_pos rfl, by rw [RepK]⟩)
/-- the last temporary, a dict, is written -/
theorem R.wrT {K : PySem.W.Frag} {g : Gs} {ρ : Rho} {T : List (O × V)} {σ : L2.St} {H G : Hp} {W : Own} {p : Addr} {kvs kvs' : List (Key × D)} {ys' : List (Key × V)} (h : R K g ρ (T ++ [(.od kvs, .ref p)]) σ H G W) (r : RepK K G kvs' ys') :
    (∃ ys, H p = some (.dK ys) ∧ RepK K G kvs ys) ∧ R K g ρ (T ++ [(.od kvs', .ref p)]) σ (upd H p (.dK ys')) G W := by
  have last := h.tm T.length _ _ snoc_last
  rw [Ow] at last
  obtain ⟨a, ys, e, h1, h2, h3⟩ := last
  cases e
  have hw := h.wl p _ h2
  have ne : ∀ {b : Addr} {l : Lab}, W b = some l → l.1 ≠ .t T.length → b ≠ p := fun {b l} w hn e => by
    subst e
    rw [h2] at w
    cases w
    exact hn rfl
  refine ⟨⟨ys, h1, h3⟩, ?_, ?_, h.gg, h.sep, fun b l w => ?_, h.len, fun j s q => ?_, fun k o' v q => ?_⟩
  · exact fun b x e => by
      have hb : b ≠ p := fun z => by subst z; rw [hw.1] at e; cases e
      rw [upd_ne hb]; exact h.gh b x e
  · exact fun b x e => by
      have hb : b ≠ p := fun z => by subst z; rw [hw.2.1] at e; cases e
      rw [upd_ne hb]; exact h.kh b x e
  · obtain ⟨w1, w2, w3⟩ := h.wl b l w
    refine ⟨w1, w2, ?_⟩
    by_cases hb : b = p
    · subst hb; rw [upd_same]; exact fun z => nomatch z
    · rw [upd_ne hb]; exact w3
  · exact (h.sl j s q).keep (Same.refl G) (fun a z w => ⟨upd_ne (ne w fun z => nomatch z), w⟩) rfl
  · rcases getElem?_snoc q with ⟨q2, hk⟩ | ⟨ek, q2⟩
    · refine (h.tm k o' v (by rw [List.getElem?_append_left hk]; exact q2)).keep (Same.refl G) fun a z w => ⟨upd_ne (ne w fun z => ?_), w⟩
      injection z with z
      omega
    · cases q2
      subst ek
      rw [Ow]
      exact ⟨p, ys', rfl, upd_same, h2, r⟩
/-- {} -/
def dic0 : Mo O := fun ρ => some (.ok (.od []) ρ)
theorem x_dic0 : PE X (.Dict [] [] pos) (tX X.K X.mg Wx dic0) := pe_dnewK.wk fun σ H Q ⟨g, ρ, T, G, W, hR, k⟩ => fun p hp => k _ _ G _ (hR.newD hp) (Same.refl _)
/-- {k: v} -/
def dic1 (fk fv : Pu D) : Mo O := fun ρ => match fk ρ, fv ρ with
  | some k, some d => (match keyD k with
    | some k => some (.ok (.od [(k, d)]) ρ)
    | none => none)
  | _, _ => none
theorem x_dic1 (ha : PE X a (tP X.K fa)) (hb : PE X b (tP X.K fb)) : PE X (.Dict [some a] [b] pos) (tX X.K X.mg Wx (dic1 fa fb)) := (pe_disp (pps_cons ha hb pps_nil) rfl rfl (by simp) (by simp)).wk fun σ H Q ⟨g, ρ, T, G, W, hR, k⟩ => by
  intro p hp
  unfold dic1 at k
  split at k
  · rename_i d1 d2 e1 e2
    split at k
    · rename_i key ek
      refine ⟨g, ρ, _, G, _, d1, hR.newD hp, e1, fun x H1 G1 R1 eg1 eh1 r1 => ⟨g, ρ, _, G1, _, d2, R1, e2, fun y H2 G2 R2 eg2 eh2 r2 => ?_⟩⟩
      obtain ⟨⟨ys, h1, h2⟩, R3⟩ := R2.wrT (kvs' := [(key, d2)]) (ys' := [(key, y)]) (by rw [RepK]; exact ⟨y, [], rfl, r2, by rw [RepK]⟩)
      rw [RepK] at h2
      subst h2
      refine ⟨h1, [(key, y)], by rw [(r1.mono eg2).key ek]; rfl, by simp, ?_⟩
      exact k _ _ G2 _ R3 (eg1.trans eg2)
    · exact k.elim
  · exact k.elim
end
end Tr
namespace Tr
open PySem PySem.Spec PyProof.Rows L2
/-! ### calls by keywords: what the head gives -/
theorem ll_n : ∀ (ρ : Rho) ds, lpN ρ = some ds → ds.length = 0 := fun ρ ds e => by cases e; rfl
theorem ll_c {n : Nat} {fa : Pu D} {fr : Pu (List D)} (h : ∀ (ρ : Rho) ds, fr ρ = some ds → ds.length = n) : ∀ (ρ : Rho) ds, lpC fa fr ρ = some ds → ds.length = n + 1 := fun ρ ds e => by
  unfold lpC at e
  split at e
  · rename_i d ds' e1 e2
    cases e
    rw [List.length_cons, h ρ ds' e2]
  · cases e
theorem kb_mk {K : PySem.W.Frag} {x qual : Str} {st : Stmt} {f : Addr} {fd : FuncData} {ks ps : List Str} {per : List Nat} (F : Fun K x qual st f fd)
    (h : ∀ (kV doc pm : Value) (an : Option Addr) (cdv ct : Value) (us : List Value), us.length = ks.length → bindArgs (PySem.W.fnOf x qual (defArgs st) (defBody st) (defScope st) .none kV doc pm an cdv ct) ⟨[], ks.zip us⟩ = pure (ps.zip (per.map fun i => us.getD i .none))) (s : Shared) (us : List Value) (hl : us.length = ks.length) : BindsTo s fd ⟨[], ks.zip us⟩ (ps.zip (per.map fun i => us.getD i .none)) := by
  obtain ⟨oc, od, kV, doc, pm, an, cdv, ct, osl, rfl, lk, hcd⟩ := F.ex
  exact .of_eq (h kV doc pm an cdv ct us hl)
section
variable {X : Cx} {e : Expr} {Wx : WX} {pos pos' : Pos} {ga : Mo D}
theorem s_augAdd {i : Nat} {x : Str} (hN : X.N.Nodup) (hi : X.N[i]? = some x) (hx : Loc X.env.scope x) (he : PE X e (tV X.K X.mg Wx ga)) (hf : X.fn x = true ∨ X.env.scope.names.lookup x = some .local := by first | exact .inl rfl | exact .inr rfl | assumption) :
    PS X (.AugAssign (.Name x pos') .Add e pos) (tS X.K X.mg Wx (augS i (fun i j => i + j) ga)) := (ps_aug hN hi hx he ip_add hf).wk fun D0 σ H h => tAug_ok D0 σ H h
theorem s_augSub {i : Nat} {x : Str} (hN : X.N.Nodup) (hi : X.N[i]? = some x) (hx : Loc X.env.scope x) (he : PE X e (tV X.K X.mg Wx ga)) (hf : X.fn x = true ∨ X.env.scope.names.lookup x = some .local := by first | exact .inl rfl | exact .inr rfl | assumption) :
    PS X (.AugAssign (.Name x pos') .Sub e pos) (tS X.K X.mg Wx (augS i (fun i j => i - j) ga)) := (ps_aug hN hi hx he ip_sub hf).wk fun D0 σ H h => tAug_ok D0 σ H h
end
end Tr
set_option maxHeartbeats 4000000
namespace K37
open PySem PySem.Spec PyProof.Rows L2 Tr
abbrev N_is_integer : List Str := ["value"]
def m_is_integer : MS :=
  (retS (ofP (andP (pu1 (isiD "int") (var 0)) (notP (pu1 (isiD "bool") (var 0))))))
def F_is_integer : FS := runF N_is_integer.length (["value"] : List Str).length m_is_integer
abbrev N_is_number : List Str := ["value"]
def m_is_number : MS :=
  (retS (frM (andV (frzM (callM 1 F_is_integer (agV (puV (var 0)) agN))) (puV (pu2 geD (var 0) (cst (.int 0)))))))
def F_is_number : FS := runF N_is_number.length (["value"] : List Str).length m_is_number
abbrev N_is_below : List Str := ["value", "bound"]
def m_is_below : MS :=
  (retS (frM (andV (frzM (callM 1 F_is_number (agV (puV (var 0)) agN))) (puV (pu2 ltD (var 0) (var 1))))))
def F_is_below : FS := runF N_is_below.length (["value", "bound"] : List Str).length m_is_below
abbrev N_need_share : List Str := ["table", "value"]
def m_need_share : MS :=
  (ifS (notY (tbM (frzM (callM 2 F_is_below (agV (puV (var 1)) (agV (puV (pu1 lenD (var 0))) agN)))))) (raiS "InvalidNumber" "word" (puV (cst (.str "share")))) nxS)
def F_need_share : FS := runF N_need_share.length (["table", "value"] : List Str).length m_need_share
abbrev N_times : List Str := ["table", "one", "two"]
def m_times : MS :=
  (seqS (dropS (callM 2 F_need_share (agV (puV (var 0)) (agV (puV (var 1)) agN))))
  (seqS (dropS (callM 2 F_need_share (agV (puV (var 0)) (agV (puV (var 2)) agN))))
  (retS (ofP (pu2 ixD (pu2 ixD (var 0) (var 1)) (var 2))))))
def F_times : FS := runF N_times.length (["table", "one", "two"] : List Str).length m_times
abbrev N_inverse : List Str := ["table", "one"]
def m_inverse : MS :=
  (seqS (dropS (callM 2 F_need_share (agV (puV (var 0)) (agV (puV (var 1)) agN))))
  (retS (ofP (pu2 ixTD (pu2 ixD (var 0) (var 1)) (cst (.int 0))))))
def F_inverse : FS := runF N_inverse.length (["table", "one"] : List Str).length m_inverse
abbrev N_order_of : List Str := ["table", "one", "many", "found"]
def m_order_of : MS :=
  (seqS (dropS (callM 2 F_need_share (agV (puV (var 0)) (agV (puV (var 1)) agN))))
  (seqS (par2 2 3 (lxC (frM (puV (cst (.int 1)))) (lxC (frM (puV (var 1))) lxN)))
  (seqS (whF (fun _ => 1000) (quM (tb (pu2 neD (var 3) (cst (.int 0))))) (par2 2 3 (lxC (frM (puV (pu2 addD (var 2) (cst (.int 1))))) (lxC (frM (puV (pu2 ixD (pu2 ixD (var 0) (var 3)) (var 1)))) lxN))))
  (retS (ofP (var 2))))))
def F_order_of : FS := runF N_order_of.length (["table", "one"] : List Str).length m_order_of
abbrev N_power : List Str := ["table", "one", "many", "found", "turn"]
def m_power : MS :=
  (seqS (dropS (callM 2 F_need_share (agV (puV (var 0)) (agV (puV (var 1)) agN))))
  (seqS (ifS (notY (tbM (frzM (callM 1 F_is_integer (agV (puV (var 2)) agN))))) (raiS "InvalidNumber" "word" (puV (cst (.str "many")))) nxS)
  (seqS (setF 3 (ofP (cst (.int 0))))
  (seqS (forS (itR1 (mo2 modD (puV (var 2)) (frzM (callM 2 F_order_of (agV (puV (var 0)) (agV (puV (var 1)) agN)))))) (gN 4) (setF 3 (ofP (pu2 ixD (pu2 ixD (var 0) (var 3)) (var 1)))))
  (retS (ofP (var 3)))))))
def F_power : FS := runF N_power.length (["table", "one", "many"] : List Str).length m_power
abbrev N_generated : List Str := ["table", "shares", "share", "known", "found", "at", "row"]
def m_generated : MS :=
  (seqS (forS (itS (puV (var 1))) (gN 2) (dropS (callM 2 F_need_share (agV (puV (var 0)) (agV (puV (var 2)) agN)))))
  (seqS (par3 3 4 5 (lxC (dic1 (cst (.int 0)) (cst (.bl true))) (lxC (lstX (lxC (ofP (cst (.int 0))) lxN)) (lxC (frM (puV (cst (.int 0)))) lxN))))
  (seqS (whF (fun _ => 1000) (quM (tb (pu2 ltD (var 5) (pu1 lenD (con 4))))) (seqS (setF 6 (ofP (pu2 ixD (var 0) (flD (conAt 4 (var 5))))))
  (seqS (forS (itS (puV (var 1))) (gN 2) (ifS (quM (tb (pu2 (inK true) (pu2 ixD (var 6) (var 2)) (con 3)))) (seqS (stoD 3 (puV (cst (.bl true))) (pu2 ixD (var 6) (var 2)))
  (dropS (appX 4 (puV (pu2 ixD (var 6) (var 2)))))) nxS))
  (augS 5 (fun i j => i + j) (puV (cst (.int 1)))))))
  (retS (ofP (pu1 tupD (pu1 (fun d => (sortTD d).map .lst) (con 4))))))))
def F_generated : FS := runF N_generated.length (["table", "shares"] : List Str).length m_generated
abbrev N_opposite : List Str := ["table", "at", "row"]
def m_opposite : MS :=
  (retS (frM (mo1 tupD (frzM (lcM (itR1 (puV (pu1 lenD (var 0)))) (gN 1) yes (frM (mo1 tupD (frzM (lcM (itS (puV (var 0))) (gN 2) yes (ofP (pu2 ixD (var 2) (var 1))) [2])))) [1])))))
def F_opposite : FS := runF N_opposite.length (["table"] : List Str).length m_opposite
abbrev N_centre : List Str := ["table", "turned_rows", "share"]
def m_centre : MS :=
  (seqS (setF 1 (callM 1 F_opposite (agV (puV (var 0)) agN)))
  (retS (frM (mo1 tupD (frzM (lcM (itR1 (puV (pu1 lenD (var 0)))) (gN 2) (quM (tb (pu2 eqD (pu2 ixD (var 0) (var 2)) (pu2 ixD (var 1) (var 2))))) (ofP (var 2)) [2]))))))
def F_centre : FS := runF N_centre.length (["table"] : List Str).length m_centre
abbrev N_is_commutative : List Str := ["table"]
def m_is_commutative : MS :=
  (retS (frM (mo2 eqD (puV (var 0)) (frzM (callM 1 F_opposite (agV (puV (var 0)) agN))))))
def F_is_commutative : FS := runF N_is_commutative.length (["table"] : List Str).length m_is_commutative
abbrev N__law_heap : List Str := ["_law_script", "_law_base", "_law_given", "_law_stir", "_law_cell"]
def m__law_heap : MS :=
  (seqS (setF 2 (lcM (itS (puV (slP (var 0) (poS (var 1)) (poS (cst (.int 48)))))) (gN 4) yes (ofP (pu1 absD (var 4))) [4]))
  (seqS (setF 3 (ofP (pu2 addD (cst (.int 6971)) (pu2 mulD (cst (.int 37)) (var 1)))))
  (seqS (forS (itS (puV (var 2))) (gN 4) (setF 3 (ofP (pu2 modD (pu1 intD (pu2 addD (pu2 addD (pu2 mulD (var 3) (cst (.int 48271))) (pu2 modD (pu1 intD (var 4)) (cst (.int 2147483549)))) (cst (.int 19)))) (cst (.int 2147483647))))))
  (retS (lstX (lxC (revXv (frzM (lcM (itS (puV (var 2))) (gN 4) (quM (tb (pu2 geD (var 4) (pu2 powD (cst (.int 10)) (cst (.int 18)))))) (ofP (var 4)) [4]))) (lxC (ofP (var 3)) lxN)))))))
def F__law_heap : FS := runF N__law_heap.length (["_law_script", "_law_base"] : List Str).length m__law_heap
abbrev N__law_draw : List Str := ["_law_heap_here", "_law_many", "_law_rest"]
def m__law_draw : MS :=
  (seqS (whF szR (quM (andQ (tb (pu2 neD (conAt 0 (cst (.int 0))) (lstP lpN))) (tb (pu2 eqD (pu2 ixC (conAt 0 (cst (.int 0))) (pu1 negD (cst (.int 1)))) (cst (.int 0)))))) (dropS (popAt 0 (cst (.int 0)))))
  (seqS (ifS (quM (tb (pu2 neD (conAt 0 (cst (.int 0))) (lstP lpN)))) (seqS (setF 2 (popAt 0 (cst (.int 0))))
  (seqS (dropS (appAt 0 (cst (.int 0)) (pu2 divD (var 2) (var 1))))
  (retS (ofP (pu2 modD (pu1 intD (var 2)) (var 1)))))) nxS)
  (seqS (stoS 0 (puV (pu2 modD (pu1 intD (pu2 addD (pu2 mulD (flD (conAt 0 (cst (.int 1)))) (cst (.int 48271))) (cst (.int 13)))) (cst (.int 2147483647)))) (cst (.int 1)))
  (retS (ofP (pu2 modD (pu1 intD (pu2 divD (flD (conAt 0 (cst (.int 1)))) (cst (.int 64)))) (var 1)))))))
def F__law_draw : FS := runF N__law_draw.length (["_law_heap_here", "_law_many"] : List Str).length m__law_draw
abbrev N__law_pick : List Str := ["_law_heap_here", "_law_some"]
def m__law_pick : MS :=
  (retS (frM (mo2 ixD (puV (var 1)) (frzM (callM 2 F__law_draw (agL 0 (agV (puV (pu1 lenD (var 1))) agN)))))))
def F__law_pick : FS := runF N__law_pick.length (["_law_heap_here", "_law_some"] : List Str).length m__law_pick
abbrev N__law_order : List Str := ["_law_heap_here", "_law_many", "_law_order_here", "_law_one"]
def m__law_order : MS :=
  (seqS (setS 2 (lstX lxN))
  (seqS (forS (itR1 (puV (var 1))) (gN 3) (dropS (insX 2 (lvC (frzM (callM 2 F__law_draw (agL 0 (agV (puV (pu2 addD (pu1 lenD (con 2)) (cst (.int 1)))) agN)))) (lvC (puV (var 3)) lvN)))))
  (retS (mov 2))))
def F__law_order : FS := runF N__law_order.length (["_law_heap_here", "_law_many"] : List Str).length m__law_order
abbrev N__law_table : List Str := ["_law_kind", "_law_wheel", "_law_kinds", "_law_sign", "_law_extra", "_law_rows", "_law_one", "_law_turn", "_law_row", "_law_two", "_law_more", "_law_place", "_law_part"]
def m__law_table : MS :=
  (seqS (asgS (puV (var 0)) (gT 4 (gsC (gN 1) (gsC (gN 2) (gsC (gN 3) (gsC (gN 4) gsN))))))
  (seqS (setS 5 (lstX lxN))
  (seqS (forS (itR1 (puV (pu2 mulD (var 1) (var 2)))) (gN 6) (seqS (par2 7 8 (lxC (frM (puV (ifP (tb (pu2 geD (var 6) (var 1))) (var 3) (cst (.int 1))))) (lxC (lstX lxN) lxN)))
  (seqS (forS (itR1 (puV (pu2 mulD (var 1) (var 2)))) (gN 9) (seqS (setF 10 (ifM (quM (andQ (tb (pu2 geD (var 6) (var 1))) (tb (pu2 geD (var 9) (var 1))))) (ofP (var 4)) (ofP (cst (.int 0)))))
  (seqS (par2 11 12 (lxC (frM (puV (pu2 modD (pu1 intD (pu2 addD (pu2 addD (pu2 modD (var 6) (var 1)) (pu2 mulD (var 7) (pu2 modD (var 9) (var 1)))) (var 10))) (var 1)))) (lxC (frM (puV (pu2 modD (pu1 intD (pu2 addD (pu2 divD (var 6) (var 1)) (pu2 divD (var 9) (var 1)))) (var 2)))) lxN)))
  (dropS (appX 8 (puV (pu2 addD (var 11) (pu2 mulD (var 1) (var 12)))))))))
  (dropS (appX 5 (frzS 8))))))
  (retS (mov 5)))))
def F__law_table : FS := runF N__law_table.length (["_law_kind"] : List Str).length m__law_table
abbrev N__law_renamed : List Str := ["_law_table_here", "_law_names", "_law_rows", "_law_one", "_law_two", "_law_row"]
def m__law_renamed : MS :=
  (seqS (setS 2 (lcM (itS (puV (var 0))) (gN 3) yes (mulLX (lstP (lpC (cst (.int 0)) lpN)) (pu1 lenD (var 0))) [3]))
  (seqS (forS (itR1 (puV (pu1 lenD (var 0)))) (gN 3) (forS (itR1 (puV (pu1 lenD (var 0)))) (gN 4) (sto2S 2 (puV (pu2 ixD (var 1) (pu2 ixD (pu2 ixD (var 0) (var 3)) (var 4)))) (pu2 ixD (var 1) (var 3)) (pu2 ixD (var 1) (var 4)))))
  (retS (frM (mo1 tupD (frzM (lcM (itS (frzS 2)) (gN 5) yes (ofP (pu1 tupD (var 5))) [5])))))))
def F__law_renamed : FS := runF N__law_renamed.length (["_law_table_here", "_law_names"] : List Str).length m__law_renamed
abbrev N__law_group : List Str := ["_law_heap_here", "_law_most", "_law_kinds", "_law_kind", "_law_names", "_law_shares", "_law_one"]
def m__law_group : MS :=
  (seqS (setF 2 (lstX (lxC (ofP (tupP (lpC (cst (.int 1)) (lpC (cst (.int 1)) (lpC (cst (.int 1)) (lpC (cst (.int 0)) lpN)))))) (lxC (ofP (tupP (lpC (cst (.int 2)) (lpC (cst (.int 1)) (lpC (cst (.int 1)) (lpC (cst (.int 0)) lpN)))))) (lxC (ofP (tupP (lpC (cst (.int 2)) (lpC (cst (.int 1)) (lpC (cst (.int 1)) (lpC (cst (.int 0)) lpN)))))) (lxC (ofP (tupP (lpC (cst (.int 3)) (lpC (cst (.int 1)) (lpC (cst (.int 1)) (lpC (cst (.int 0)) lpN)))))) (lxC (ofP (tupP (lpC (cst (.int 4)) (lpC (cst (.int 1)) (lpC (cst (.int 1)) (lpC (cst (.int 0)) lpN)))))) (lxC (ofP (tupP (lpC (cst (.int 2)) (lpC (cst (.int 2)) (lpC (cst (.int 1)) (lpC (cst (.int 0)) lpN)))))) (lxC (ofP (tupP (lpC (cst (.int 5)) (lpC (cst (.int 1)) (lpC (cst (.int 1)) (lpC (cst (.int 0)) lpN)))))) (lxC (ofP (tupP (lpC (cst (.int 6)) (lpC (cst (.int 1)) (lpC (cst (.int 1)) (lpC (cst (.int 0)) lpN)))))) lxN))))))))))
  (seqS (setF 2 (ofP (pu2 addD (pu2 addD (var 2) (pu2 mulD (lstP (lpC (tupP (lpC (cst (.int 3)) (lpC (cst (.int 2)) (lpC (pu2 subD (cst (.int 0)) (cst (.int 1))) (lpC (cst (.int 0)) lpN))))) lpN)) (cst (.int 4)))) (lstP (lpC (tupP (lpC (cst (.int 4)) (lpC (cst (.int 2)) (lpC (pu2 subD (cst (.int 0)) (cst (.int 1))) (lpC (cst (.int 0)) lpN))))) (lpC (tupP (lpC (cst (.int 4)) (lpC (cst (.int 2)) (lpC (pu2 subD (cst (.int 0)) (cst (.int 1))) (lpC (cst (.int 2)) lpN))))) (lpC (tupP (lpC (cst (.int 4)) (lpC (cst (.int 2)) (lpC (cst (.int 1)) (lpC (cst (.int 0)) lpN))))) (lpC (tupP (lpC (cst (.int 7)) (lpC (cst (.int 1)) (lpC (cst (.int 1)) (lpC (cst (.int 0)) lpN))))) lpN))))))))
  (seqS (setF 3 (callM 2 F__law_pick (agL 0 (agV (frzM (lcM (itS (puV (var 2))) (gN 6) (quM (tb (pu2 leD (pu2 mulD (pu2 ixD (var 6) (cst (.int 0))) (pu2 ixD (var 6) (cst (.int 1)))) (var 1)))) (ofP (var 6)) [6])) agN))))
  (seqS (setF 4 (frM (mo2 addD (puV (lstP (lpC (cst (.int 0)) lpN))) (frzM (lcM (itS (frzM (callM 2 F__law_order (agL 0 (agV (puV (pu2 subD (pu2 mulD (pu2 ixD (var 3) (cst (.int 0))) (pu2 ixD (var 3) (cst (.int 1)))) (cst (.int 1)))) agN))))) (gN 6) yes (ofP (pu2 addD (var 6) (cst (.int 1)))) [6])))))
  (seqS (setF 5 (ofP (pu2 addD (lstP (lpC (pu2 ixD (var 4) (pu2 modD (pu1 intD (cst (.int 1))) (pu2 ixD (var 3) (cst (.int 0))))) lpN)) (ifP (tb (pu2 eqD (pu2 ixD (var 3) (cst (.int 1))) (cst (.int 2)))) (lstP (lpC (pu2 ixD (var 4) (pu2 ixD (var 3) (cst (.int 0)))) lpN)) (lstP lpN)))))
  (retS (frM (tupV (lvC (frzM (callM 2 F__law_renamed (agV (frzM (callM 1 F__law_table (agV (puV (var 3)) agN))) (agV (puV (var 4)) agN)))) (lvC (puV (var 5)) lvN))))))))))
def F__law_group : FS := runF N__law_group.length (["_law_heap_here", "_law_most"] : List Str).length m__law_group
abbrev N__law_powers : List Str := ["_law_table_here", "_law_one", "_law_found", "_law_turn"]
def m__law_powers : MS :=
  (seqS (setS 2 (lstX (lxC (ofP (cst (.int 0))) lxN)))
  (seqS (forS (itR1 (puV (pu1 lenD (var 0)))) (gN 3) (seqS (ifS (quM (tb (pu2 eqD (pu2 ixD (pu2 ixD (var 0) (var 1)) (flD (conAt 2 (pu2 subD (pu1 lenD (con 2)) (cst (.int 1)))))) (cst (.int 0))))) bkS nxS)
  (dropS (appX 2 (puV (pu2 ixD (pu2 ixD (var 0) (var 1)) (flD (conAt 2 (pu2 subD (pu1 lenD (con 2)) (cst (.int 1)))))))))))
  (retS (mov 2))))
def F__law_powers : FS := runF N__law_powers.length (["_law_table_here", "_law_one"] : List Str).length m__law_powers
abbrev N__law_closed : List Str := ["_law_table_here", "_law_some", "_law_found", "_law_turn", "_law_every", "_law_one", "_law_two", "_law_share"]
def m__law_closed : MS :=
  (seqS (setF 2 (ofP (pu2 addD (lstP (lpC (cst (.int 0)) lpN)) (pu1 (fun d => (D.sq d).map .lst) (var 1)))))
  (seqS (forS (itR1 (puV (pu1 lenD (var 0)))) (gN 3) (seqS (setF 4 (moL D.sq (var 2)))
  (seqS (forS (itS (puV (var 2))) (gN 5) (setF 4 (frM (mo2 addD (puV (var 4)) (frzM (lcM (itS (puV (var 2))) (gN 6) yes (ofP (pu2 ixD (pu2 ixD (var 0) (var 5)) (var 6))) [6]))))))
  (seqS (setF 4 (lcM (itR1 (puV (pu1 lenD (var 0)))) (gN 7) (quM (tb (pu2 (inD false) (var 7) (var 4)))) (ofP (var 7)) [7]))
  (seqS (ifS (quM (tb (pu2 eqD (var 4) (var 2)))) bkS nxS)
  (setF 2 (ofP (var 4))))))))
  (retS (ofP (pu1 tupD (var 2))))))
def F__law_closed : FS := runF N__law_closed.length (["_law_table_here", "_law_some"] : List Str).length m__law_closed
abbrev N__law_refused : List Str := ["_law_table_here", "_law_one", "_law_two", "_law_many", "_law_shares", "_law_found", "_law_turn", "error"]
noncomputable def m__law_refused (A_InvalidNumber : Addr) : MS :=
  (seqS (setS 5 (lstX lxN))
  (seqS (forS (itR1 (puV (cst (.int 6)))) (gN 6) (tryS (mt1 "InvalidNumber" A_InvalidNumber) 7 (seqS (ifS (quM (tb (pu2 eqD (var 6) (cst (.int 0))))) (dropS (callM 3 F_times (agV (puV (var 0)) (agV (puV (var 1)) (agV (puV (var 2)) agN))))) (ifS (quM (tb (pu2 eqD (var 6) (cst (.int 1))))) (dropS (callM 3 F_times (agV (puV (var 0)) (agV (puV (var 2)) (agV (puV (var 1)) agN))))) (ifS (quM (tb (pu2 eqD (var 6) (cst (.int 2))))) (dropS (callM 2 F_inverse (agV (puV (var 0)) (agV (puV (var 1)) agN)))) (ifS (quM (tb (pu2 eqD (var 6) (cst (.int 3))))) (dropS (callM 3 F_power (agV (puV (var 0)) (agV (puV (var 1)) (agV (puV (var 3)) agN))))) (ifS (quM (tb (pu2 eqD (var 6) (cst (.int 4))))) (dropS (callM 2 F_order_of (agV (puV (var 0)) (agV (puV (var 1)) agN)))) (dropS (callM 2 F_generated (agV (puV (var 0)) (agV (puV (var 4)) agN)))))))))
  (dropS (appX 5 (puV (cst .non))))) (fun a C dd => (dropS (appX 5 (puV (xfF a C dd A_InvalidNumber "word" 7)))))))
  (retS (mov 5))))
noncomputable def F__law_refused (A_InvalidNumber : Addr) : FS := runF N__law_refused.length (["_law_table_here", "_law_one", "_law_two", "_law_many", "_law_shares"] : List Str).length (m__law_refused A_InvalidNumber)
abbrev N_law : List Str := ["_law_script", "_law_heap_here", "_law_table_here", "_law_many", "_law_one", "_law_two", "_law_back", "_law_powers_here", "_law_turned", "_law_great", "_law_number", "_law_shares", "_law_some", "_law_middle", "_law_bad", "_law_wild", "_law_at", "_law_row", "_law_share", "_law_turn"]
noncomputable def m_law (A_InvalidNumber : Addr) : MS :=
  (seqS (setS 1 (callM 2 F__law_heap (agV (puV (var 0)) (agV (puV (cst (.int 0))) agN))))
  (seqS (setF 2 (frM (mo2 ixD (frzM (callM 2 F__law_group (agL 1 (agV (puV (cst (.int 8))) agN)))) (puV (cst (.int 0))))))
  (seqS (setF 3 (ofP (pu1 lenD (var 2))))
  (seqS (asgS (tupV (lvC (frzM (callM 2 F__law_draw (agL 1 (agV (puV (var 3)) agN)))) (lvC (frzM (callM 2 F__law_draw (agL 1 (agV (puV (var 3)) agN)))) lvN))) (gT 2 (gsC (gN 4) (gsC (gN 5) gsN))))
  (seqS (ifS (orY (tbM (mo2 neS (mo1 reprD (frzM (callM 3 F_times (agV (puV (var 2)) (agV (puV (var 4)) (agV (puV (var 5)) agN)))))) (puV (pu1 reprD (pu2 ixD (pu2 ixD (var 2) (var 4)) (var 5)))))) (tbM (mo2 neD (frzM (callM 3 F_times (perG [2, 1, 0] (lpC (var 4) (lpC (var 5) (lpC (var 2) lpN)))))) (puV (pu2 ixD (pu2 ixD (var 2) (var 5)) (var 4)))))) (retS (ofP (cst (.bl false)))) nxS)
  (seqS (setF 6 (callM 2 F_inverse (agV (puV (var 2)) (agV (puV (var 4)) agN))))
  (seqS (ifS (orY (tbM (mo2 neS (puV (pu1 reprD (var 6))) (mo1 reprD (mo2 ixD (frzM (lcM (itR1 (puV (var 3))) (gN 18) (quM (tb (pu2 eqD (pu2 ixD (pu2 ixD (var 2) (var 18)) (var 4)) (cst (.int 0))))) (ofP (var 18)) [18])) (puV (cst (.int 0))))))) (tbM (mo2 neD (frzM (callM 2 F_inverse (perG [1, 0] (lpC (var 6) (lpC (var 2) lpN))))) (puV (var 4))))) (retS (ofP (cst (.bl false)))) nxS)
  (seqS (asgS (tupV (lvC (frzM (callM 2 F__law_powers (agV (puV (var 2)) (agV (puV (var 4)) agN)))) (lvC (mo1 tupD (frzM (lcM (itR1 (puV (var 3))) (gN 16) yes (frM (mo1 tupD (frzM (lcM (itS (puV (var 2))) (gN 17) yes (ofP (pu2 ixD (var 17) (var 16))) [17])))) [16]))) lvN))) (gT 2 (gsC (gN 7) (gsC (gN 8) gsN))))
  (seqS (ifS (orY (tbM (mo2 neS (mo1 reprD (frzM (callM 2 F_order_of (agV (puV (var 2)) (agV (puV (var 4)) agN))))) (puV (pu1 reprD (pu1 lenD (var 7)))))) (tbM (mo2 neD (frzM (callM 2 F_order_of (perG [1, 0] (lpC (var 5) (lpC (var 2) lpN))))) (mo1 lenD (frzM (callM 2 F__law_powers (agV (puV (var 2)) (agV (puV (var 5)) agN)))))))) (retS (ofP (cst (.bl false)))) nxS)
  (seqS (setF 9 (callM 2 F__law_pick (agL 1 (agV (frzM (lstX (lxC (ofP (cst (.int 0))) (lxC (ofP (cst (.int 1))) (lxC (ofP (cst (.int 2))) (lxC (ofP (cst (.int 3))) (lxC (ofP (var 3)) (lxC (ofP (pu2 addD (var 3) (cst (.int 1)))) (lxC (ofP (pu2 powD (cst (.int 10)) (cst (.int 18)))) (lxC (callM 2 F__law_draw (agL 1 (agV (puV (pu2 powD (cst (.int 10)) (cst (.int 18)))) agN))) lxN)))))))))) agN))))
  (seqS (forS (itS (puV (lstP (lpC (var 9) (lpC (pu2 subD (cst (.int 0)) (var 9)) (lpC (pu2 subD (cst (.int 0)) (cst (.int 1))) (lpC (pu2 addD (var 9) (pu1 lenD (var 7))) lpN))))))) (gN 10) (ifS (tbM (mo2 neS (mo1 reprD (frzM (callM 3 F_power (agV (puV (var 2)) (agV (puV (var 4)) (agV (puV (var 10)) agN)))))) (puV (pu1 reprD (pu2 ixD (var 7) (pu2 modD (pu1 intD (var 10)) (pu1 lenD (var 7)))))))) (retS (ofP (cst (.bl false)))) nxS))
  (seqS (ifS (tbM (mo2 neD (frzM (callM 3 F_power (perG [2, 1, 0] (lpC (var 9) (lpC (var 5) (lpC (var 2) lpN)))))) (mo2 ixD (frzM (callM 2 F__law_powers (agV (puV (var 2)) (agV (puV (var 5)) agN)))) (mo2 modD (puV (pu1 intD (var 9))) (mo1 lenD (frzM (callM 2 F__law_powers (agV (puV (var 2)) (agV (puV (var 5)) agN))))))))) (retS (ofP (cst (.bl false)))) nxS)
  (seqS (setF 11 (frM (mo1 tupD (frzM (lcM (itR1 (frzM (callM 2 F__law_draw (agL 1 (agV (puV (cst (.int 4))) agN))))) (gN 19) yes (callM 2 F__law_draw (agL 1 (agV (puV (var 3)) agN))) [19])))))
  (seqS (forS (itS (puV (lstP (lpC (var 11) (lpC (tupP (lpC (var 4) lpN)) (lpC (tupP (lpC (var 4) (lpC (var 5) lpN))) (lpC (tupP (lpC (var 5) (lpC (var 4) (lpC (var 5) (lpC (cst (.int 0)) lpN))))) (lpC (tupP lpN) lpN)))))))) (gN 12) (ifS (tbM (mo2 neS (mo1 reprD (frzM (callM 2 F_generated (agV (puV (var 2)) (agV (puV (var 12)) agN))))) (mo1 reprD (frzM (callM 2 F__law_closed (agV (puV (var 2)) (agV (puV (var 12)) agN))))))) (retS (ofP (cst (.bl false)))) nxS))
  (seqS (setF 13 (frM (mo1 tupD (frzM (lcM (itR1 (puV (var 3))) (gN 18) (quM (tb (pu2 eqD (pu2 ixD (var 2) (var 18)) (pu2 ixD (var 8) (var 18))))) (ofP (var 18)) [18])))))
  (seqS (ifS (orY (tbM (mo2 neS (mo1 reprD (frzM (callM 1 F_centre (agV (puV (var 2)) agN)))) (puV (pu1 reprD (var 13))))) (tbM (mo2 neS (mo1 reprD (frzM (callM 1 F_is_commutative (agV (puV (var 2)) agN)))) (puV (pu1 reprD (pu2 eqD (pu1 lenD (var 13)) (var 3))))))) (retS (ofP (cst (.bl false)))) nxS)
  (seqS (ifS (orY (tbM (mo2 neS (mo1 reprD (frzM (callM 1 F_opposite (perG [0] (lpC (var 2) lpN))))) (puV (pu1 reprD (var 8))))) (orY (tbM (mo2 neD (frzM (callM 1 F_centre (perG [0] (lpC (var 8) lpN)))) (puV (var 13)))) (tbM (mo2 neD (frzM (callM 2 F_generated (perG [1, 0] (lpC (var 11) (lpC (var 8) lpN))))) (frzM (callM 2 F__law_closed (agV (puV (var 2)) (agV (puV (var 11)) agN)))))))) (retS (ofP (cst (.bl false)))) nxS)
  (seqS (setF 14 (callM 2 F__law_pick (agL 1 (agV (puV (lstP (lpC (var 3) (lpC (pu2 addD (var 3) (cst (.int 1))) (lpC (pu2 subD (cst (.int 0)) (cst (.int 1))) (lpC (cst .non) (lpC (pu2 eqD (var 4) (var 4)) (lpC (pu1 strD (var 4)) (lpC (lstP (lpC (var 4) lpN)) (lpC (tupP (lpC (var 4) lpN)) (lpC (pu2 powD (cst (.int 10)) (cst (.int 30))) lpN))))))))))) agN))))
  (seqS (setF 15 (callM 2 F__law_pick (agL 1 (agV (puV (lstP (lpC (cst .non) (lpC (cst (.str "1")) (lpC (pu2 eqD (var 4) (var 4)) (lpC (lstP (lpC (cst (.int 1)) lpN)) (lpC (tupP (lpC (cst (.int 0)) lpN)) lpN))))))) agN))))
  (seqS (setF 16 (callM 2 F__law_draw (agL 1 (agV (puV (pu2 addD (pu1 lenD (var 11)) (cst (.int 1)))) agN))))
  (seqS (setF 17 (ofP (pu2 addD (pu2 addD (slP (var 11) poN (poS (var 16))) (tupP (lpC (var 14) lpN))) (slP (var 11) (poS (var 16)) poN))))
  (seqS (ifS (orY (tbM (mo2 neD (frzM (callM 5 (F__law_refused A_InvalidNumber) (agV (puV (var 2)) (agV (puV (var 14)) (agV (puV (var 5)) (agV (puV (var 15)) (agV (puV (var 17)) agN))))))) (puV (pu2 mulD (lstP (lpC (cst (.str "share")) lpN)) (cst (.int 6)))))) (tbM (mo2 neD (frzM (callM 1 F_is_commutative (perG [0] (lpC (var 8) lpN)))) (puV (pu2 eqD (pu1 lenD (var 13)) (var 3)))))) (retS (ofP (cst (.bl false)))) nxS)
  (retS (frM (mo2 eqD (frzM (callM 5 (F__law_refused A_InvalidNumber) (agV (puV (var 2)) (agV (puV (var 4)) (agV (puV (var 5)) (agV (puV (var 15)) (agV (puV (var 11)) agN))))))) (puV (lstP (lpC (cst .non) (lpC (cst .non) (lpC (cst .non) (lpC (cst (.str "many")) (lpC (cst .non) (lpC (cst .non) lpN)))))))))))))))))))))))))))))))))
noncomputable def F_law (A_InvalidNumber : Addr) : FS := runF N_law.length (["_law_script"] : List Str).length (m_law A_InvalidNumber)
end K37
set_option maxHeartbeats 4000000
namespace K37
open PySem PySem.Spec PyProof.Rows L2 Tr
def topS (i : Nat) : Stmt := PySem.Challenge.pw_sharedunseen_k37_products_powers_and_wha.main.body.getD i (.Pass ⟨0, 0, 0, 0⟩)
/-! ### is_integer -/
abbrev s_is_integer : Stmt := topS 4
theorem sc_is_integer : FnScope N_is_integer ["value"] (defScope s_is_integer) := ⟨rfl, rfl, rfl, by decide +kernel, rfl, by decide +kernel, by decide +kernel⟩
theorem ok_is_integer {P : Program} {w : World} {K : PySem.W.Frag} {mg : Str → Option Value} {base : Heap} {f : Addr} {fd : FuncData} (F : Fun K "is_integer" "is_integer" s_is_integer f fd)
    (z_bool : mg "bool" = none) (z_int : mg "int" = none) (z_isinstance : mg "isinstance" = none) :
    FnG P w K mg base 1 f fd ["value"] (spF K mg (["value"] : List Str).length F_is_integer) := by
  delta F_is_integer
  refine fng_ok (P := P) (w := w) (mg := mg) (base := base) (k := 0) F sc_is_integer (by decide) ?_
  intro cdv A outer s H E hr
  conv => arg 2; whnf
  delta m_is_integer
  exact (Tr.s_one (Tr.s_ret (PE.px (Tr.p_and (Tr.p_isi rfl z_isinstance (PE.pb (Tr.p_var (pv 0))) rfl z_int (by decide +kernel)) (Tr.p_one (Tr.p_not (Tr.p_isi rfl z_isinstance (PE.pb (Tr.p_var (pv 0))) rfl z_bool (by decide +kernel))))))))
/-! ### is_number -/
abbrev s_is_number : Stmt := topS 5
theorem sc_is_number : FnScope N_is_number ["value"] (defScope s_is_number) := ⟨rfl, rfl, rfl, by decide +kernel, rfl, by decide +kernel, by decide +kernel⟩
theorem ok_is_number {P : Program} {w : World} {K : PySem.W.Frag} {mg : Str → Option Value} {base : Heap} {f : Addr} {fd : FuncData} (F : Fun K "is_number" "is_number" s_is_number f fd)
    (C_is_integer : CalG P w K mg base 1 "is_integer" 1 F_is_integer) :
    FnG P w K mg base 2 f fd ["value"] (spF K mg (["value"] : List Str).length F_is_number) := by
  delta F_is_number
  refine fng_ok (P := P) (w := w) (mg := mg) (base := base) (k := 1) F sc_is_number (by decide) ?_
  intro cdv A outer s H E hr
  conv => arg 2; whnf
  delta m_is_number
  exact (Tr.s_one (Tr.s_ret (PE.vx (Tr.v_and (PE.pv (Tr.x_callG (C_is_integer.le (by decide)) (takes_of rfl rfl rfl rfl) hr rfl (Tr.ag_v (PE.pV (Tr.p_var (pv 0))) Tr.ag_nil))) (Tr.v_one (PE.pV (Tr.p_cmp op_ge geD_ok (PE.pb (Tr.p_var (pv 0))) (PE.pb Tr.p_int) (nomark _))))))))
/-! ### is_below -/
abbrev s_is_below : Stmt := topS 6
theorem sc_is_below : FnScope N_is_below ["value", "bound"] (defScope s_is_below) := ⟨rfl, rfl, rfl, by decide +kernel, rfl, by decide +kernel, by decide +kernel⟩
theorem ok_is_below {P : Program} {w : World} {K : PySem.W.Frag} {mg : Str → Option Value} {base : Heap} {f : Addr} {fd : FuncData} (F : Fun K "is_below" "is_below" s_is_below f fd)
    (C_is_number : CalG P w K mg base 2 "is_number" 1 F_is_number) :
    FnG P w K mg base 3 f fd ["value", "bound"] (spF K mg (["value", "bound"] : List Str).length F_is_below) := by
  delta F_is_below
  refine fng_ok (P := P) (w := w) (mg := mg) (base := base) (k := 2) F sc_is_below (by decide) ?_
  intro cdv A outer s H E hr
  conv => arg 2; whnf
  delta m_is_below
  exact (Tr.s_one (Tr.s_ret (PE.vx (Tr.v_and (PE.pv (Tr.x_callG (C_is_number.le (by decide)) (takes_of rfl rfl rfl rfl) hr rfl (Tr.ag_v (PE.pV (Tr.p_var (pv 0))) Tr.ag_nil))) (Tr.v_one (PE.pV (Tr.p_cmp op_lt ltD_ok (PE.pb (Tr.p_var (pv 0))) (PE.pb (Tr.p_var (pv 1))) (nomark _))))))))
/-! ### need_share -/
abbrev s_need_share : Stmt := topS 8
theorem sc_need_share : FnScope N_need_share ["table", "value"] (defScope s_need_share) := ⟨rfl, rfl, rfl, by decide +kernel, rfl, by decide +kernel, by decide +kernel⟩
theorem ok_need_share {P : Program} {w : World} {K : PySem.W.Frag} {mg : Str → Option Value} {base : Heap} {f : Addr} {fd : FuncData} (F : Fun K "need_share" "need_share" s_need_share f fd)
    (z_len : mg "len" = none) {C_InvalidNumber fI_InvalidNumber : Addr} {fd_InvalidNumber : FuncData} (x_InvalidNumber : XC P w K mg base "InvalidNumber" "word" C_InvalidNumber fI_InvalidNumber fd_InvalidNumber) (C_is_below : CalG P w K mg base 3 "is_below" 2 F_is_below) :
    FnG P w K mg base 4 f fd ["table", "value"] (spF K mg (["table", "value"] : List Str).length F_need_share) := by
  delta F_need_share
  refine fng_ok (P := P) (w := w) (mg := mg) (base := base) (k := 3) F sc_need_share (by decide) ?_
  intro cdv A outer s H E hr
  conv => arg 2; whnf
  delta m_need_share
  exact (Tr.s_one (Tr.s_if (Tr.y_not (Tr.y_val (PE.pv (Tr.x_callG (C_is_below.le (by decide)) (takes_of rfl rfl rfl rfl) hr rfl (Tr.ag_v (PE.pV (Tr.p_var (pv 1))) (Tr.ag_v (PE.pV (Tr.p_callB lenD_ok Tr.c_len rfl z_len (by decide +kernel) (PE.pc (Tr.p_var (pv 0))))) Tr.ag_nil)))))) (Tr.s_one (Tr.s_raise (k := 1) rfl (takes_of rfl rfl rfl rfl) x_InvalidNumber.oc x_InvalidNumber.iC x_InvalidNumber.tI x_InvalidNumber.F1 (hr.toRoom.mono (by decide)) x_InvalidNumber.hb rfl x_InvalidNumber.g (PE.pV Tr.p_str))) Tr.s_nil))
/-! ### times -/
abbrev s_times : Stmt := topS 9
theorem sc_times : FnScope N_times ["table", "one", "two"] (defScope s_times) := ⟨rfl, rfl, rfl, by decide +kernel, rfl, by decide +kernel, by decide +kernel⟩
theorem ok_times {P : Program} {w : World} {K : PySem.W.Frag} {mg : Str → Option Value} {base : Heap} {f : Addr} {fd : FuncData} (F : Fun K "times" "times" s_times f fd)
    (C_need_share : CalG P w K mg base 4 "need_share" 2 F_need_share) :
    FnG P w K mg base 5 f fd ["table", "one", "two"] (spF K mg (["table", "one", "two"] : List Str).length F_times) := by
  delta F_times
  refine fng_ok (P := P) (w := w) (mg := mg) (base := base) (k := 4) F sc_times (by decide) ?_
  intro cdv A outer s H E hr
  conv => arg 2; whnf
  delta m_times
  exact (Tr.s_cons (Tr.s_expr (Tr.x_callG (C_need_share.le (by decide)) (takes_of rfl rfl rfl rfl) hr rfl (Tr.ag_v (PE.pV (Tr.p_var (pv 0))) (Tr.ag_v (PE.pV (Tr.p_var (pv 1))) Tr.ag_nil))))
    (Tr.s_cons (Tr.s_expr (Tr.x_callG (C_need_share.le (by decide)) (takes_of rfl rfl rfl rfl) hr rfl (Tr.ag_v (PE.pV (Tr.p_var (pv 0))) (Tr.ag_v (PE.pV (Tr.p_var (pv 2))) Tr.ag_nil))))
    (Tr.s_one (Tr.s_ret (PE.px (Tr.p_ix (Tr.p_ix (Tr.p_var (pv 0)) (Tr.p_var (pv 1)) (fun _ _ => rfl)) (Tr.p_var (pv 2)) (fun _ _ => rfl)))))))
/-! ### inverse -/
abbrev s_inverse : Stmt := topS 10
theorem sc_inverse : FnScope N_inverse ["table", "one"] (defScope s_inverse) := ⟨rfl, rfl, rfl, by decide +kernel, rfl, by decide +kernel, by decide +kernel⟩
theorem ok_inverse {P : Program} {w : World} {K : PySem.W.Frag} {mg : Str → Option Value} {base : Heap} {f : Addr} {fd : FuncData} (F : Fun K "inverse" "inverse" s_inverse f fd)
    (C_need_share : CalG P w K mg base 4 "need_share" 2 F_need_share) :
    FnG P w K mg base 5 f fd ["table", "one"] (spF K mg (["table", "one"] : List Str).length F_inverse) := by
  delta F_inverse
  refine fng_ok (P := P) (w := w) (mg := mg) (base := base) (k := 4) F sc_inverse (by decide) ?_
  intro cdv A outer s H E hr
  conv => arg 2; whnf
  delta m_inverse
  exact (Tr.s_cons (Tr.s_expr (Tr.x_callG (C_need_share.le (by decide)) (takes_of rfl rfl rfl rfl) hr rfl (Tr.ag_v (PE.pV (Tr.p_var (pv 0))) (Tr.ag_v (PE.pV (Tr.p_var (pv 1))) Tr.ag_nil))))
    (Tr.s_one (Tr.s_ret (PE.px (Tr.p_ixT hr (Tr.p_ix (Tr.p_var (pv 0)) (Tr.p_var (pv 1)) (fun _ _ => rfl)) Tr.p_int)))))
/-! ### order_of -/
abbrev s_order_of : Stmt := topS 11
theorem sc_order_of : FnScope N_order_of ["table", "one"] (defScope s_order_of) := ⟨rfl, rfl, rfl, by decide +kernel, rfl, by decide +kernel, by decide +kernel⟩
theorem ok_order_of {P : Program} {w : World} {K : PySem.W.Frag} {mg : Str → Option Value} {base : Heap} {f : Addr} {fd : FuncData} (F : Fun K "order_of" "order_of" s_order_of f fd)
    (C_need_share : CalG P w K mg base 4 "need_share" 2 F_need_share) :
    FnG P w K mg base 5 f fd ["table", "one"] (spF K mg (["table", "one"] : List Str).length F_order_of) := by
  delta F_order_of
  refine fng_ok (P := P) (w := w) (mg := mg) (base := base) (k := 4) F sc_order_of (by decide) ?_
  intro cdv A outer s H E hr
  conv => arg 2; whnf
  delta m_order_of
  exact (Tr.s_cons (Tr.s_expr (Tr.x_callG (C_need_share.le (by decide)) (takes_of rfl rfl rfl rfl) hr rfl (Tr.ag_v (PE.pV (Tr.p_var (pv 0))) (Tr.ag_v (PE.pV (Tr.p_var (pv 1))) Tr.ag_nil))))
    (Tr.s_cons (Tr.s_par2 (i := 2) (j := 3) rfl sc_order_of.nd rfl rfl (by decide) rfl rfl (Tr.lx_cons (PE.vx (PE.pV Tr.p_int)) (Tr.lx_cons (PE.vx (PE.pV (Tr.p_var (pv 1)))) Tr.lx_nil)) (by rfl))
    (Tr.s_cons (Tr.s_while (fun _ => 1000) (passes_of rfl) (PT.qy (Tr.q_cmp (op_neD hr.toRoom.units) neD_ok (PE.pb (Tr.p_var (pv 3))) (PE.pb Tr.p_int) (nomark _))) (Tr.s_one (Tr.s_par2 (i := 2) (j := 3) rfl sc_order_of.nd rfl rfl (by decide) rfl rfl (Tr.lx_cons (PE.vx (PE.pV (Tr.p_op op_addA addD_ok (Tr.p_var (pv 2)) Tr.p_int))) (Tr.lx_cons (PE.vx (PE.pV (Tr.p_ix (Tr.p_ix (Tr.p_var (pv 0)) (Tr.p_var (pv 3)) (fun _ _ => rfl)) (Tr.p_var (pv 1)) (fun _ _ => rfl)))) Tr.lx_nil)) (by rfl))))
    (Tr.s_one (Tr.s_ret (PE.px (Tr.p_var (pv 2))))))))
/-! ### power -/
abbrev s_power : Stmt := topS 12
theorem sc_power : FnScope N_power ["table", "one", "many"] (defScope s_power) := ⟨rfl, rfl, rfl, by decide +kernel, rfl, by decide +kernel, by decide +kernel⟩
theorem ok_power {P : Program} {w : World} {K : PySem.W.Frag} {mg : Str → Option Value} {base : Heap} {f : Addr} {fd : FuncData} (F : Fun K "power" "power" s_power f fd)
    (z_range : mg "range" = none) {C_InvalidNumber fI_InvalidNumber : Addr} {fd_InvalidNumber : FuncData} (x_InvalidNumber : XC P w K mg base "InvalidNumber" "word" C_InvalidNumber fI_InvalidNumber fd_InvalidNumber) (C_is_integer : CalG P w K mg base 1 "is_integer" 1 F_is_integer) (C_need_share : CalG P w K mg base 4 "need_share" 2 F_need_share) (C_order_of : CalG P w K mg base 5 "order_of" 2 F_order_of) :
    FnG P w K mg base 6 f fd ["table", "one", "many"] (spF K mg (["table", "one", "many"] : List Str).length F_power) := by
  delta F_power
  refine fng_ok (P := P) (w := w) (mg := mg) (base := base) (k := 5) F sc_power (by decide) ?_
  intro cdv A outer s H E hr
  conv => arg 2; whnf
  delta m_power
  exact (Tr.s_cons (Tr.s_expr (Tr.x_callG (C_need_share.le (by decide)) (takes_of rfl rfl rfl rfl) hr rfl (Tr.ag_v (PE.pV (Tr.p_var (pv 0))) (Tr.ag_v (PE.pV (Tr.p_var (pv 1))) Tr.ag_nil))))
    (Tr.s_cons (Tr.s_if (Tr.y_not (Tr.y_val (PE.pv (Tr.x_callG (C_is_integer.le (by decide)) (takes_of rfl rfl rfl rfl) hr rfl (Tr.ag_v (PE.pV (Tr.p_var (pv 2))) Tr.ag_nil))))) (Tr.s_one (Tr.s_raise (k := 1) rfl (takes_of rfl rfl rfl rfl) x_InvalidNumber.oc x_InvalidNumber.iC x_InvalidNumber.tI x_InvalidNumber.F1 (hr.toRoom.mono (by decide)) x_InvalidNumber.hb rfl x_InvalidNumber.g (PE.pV Tr.p_str))) Tr.s_nil)
    (Tr.s_cons (Tr.s_setF (i := 3) sc_power.nd rfl (.inl rfl) (PE.px Tr.p_int))
    (Tr.s_cons (Tr.s_for (passes_of rfl) rfl (Tr.i_range1 rfl z_range (Tr.v_op op_mod modD_ok.s (PE.pV (Tr.p_var (pv 2))) (PE.pv (Tr.x_callG (C_order_of.le (by decide)) (takes_of rfl rfl rfl rfl) hr rfl (Tr.ag_v (PE.pV (Tr.p_var (pv 0))) (Tr.ag_v (PE.pV (Tr.p_var (pv 1))) Tr.ag_nil)))))) (Tr.g_name sc_power.nd rfl (.inl rfl)) (Tr.s_one (Tr.s_setF (i := 3) sc_power.nd rfl (.inl rfl) (PE.px (Tr.p_ix (Tr.p_ix (Tr.p_var (pv 0)) (Tr.p_var (pv 3)) (fun _ _ => rfl)) (Tr.p_var (pv 1)) (fun _ _ => rfl))))))
    (Tr.s_one (Tr.s_ret (PE.px (Tr.p_var (pv 3)))))))))
/-! ### generated -/
abbrev s_generated : Stmt := topS 13
theorem sc_generated : FnScope N_generated ["table", "shares"] (defScope s_generated) := ⟨rfl, rfl, rfl, by decide +kernel, rfl, by decide +kernel, by decide +kernel⟩
theorem ok_generated {P : Program} {w : World} {K : PySem.W.Frag} {mg : Str → Option Value} {base : Heap} {f : Addr} {fd : FuncData} (F : Fun K "generated" "generated" s_generated f fd)
    (z_len : mg "len" = none) (z_sorted : mg "sorted" = none) (z_tuple : mg "tuple" = none) (C_need_share : CalG P w K mg base 4 "need_share" 2 F_need_share) :
    FnG P w K mg base 5 f fd ["table", "shares"] (spF K mg (["table", "shares"] : List Str).length F_generated) := by
  delta F_generated
  refine fng_ok (P := P) (w := w) (mg := mg) (base := base) (k := 4) F sc_generated (by decide) ?_
  intro cdv A outer s H E hr
  conv => arg 2; whnf
  delta m_generated
  exact (Tr.s_cons (Tr.s_for (passes_of rfl) rfl (Tr.i_seq (PE.pV (Tr.p_var (pv 1)))) (Tr.g_name sc_generated.nd rfl (.inl rfl)) (Tr.s_one (Tr.s_expr (Tr.x_callG (C_need_share.le (by decide)) (takes_of rfl rfl rfl rfl) hr rfl (Tr.ag_v (PE.pV (Tr.p_var (pv 0))) (Tr.ag_v (PE.pV (Tr.p_var (pv 2))) Tr.ag_nil))))))
    (Tr.s_cons (Tr.s_par3 (i := 3) (j := 4) (l := 5) rfl sc_generated.nd rfl rfl rfl (by decide) (by decide) (by decide) rfl rfl rfl (Tr.lx_cons (Tr.x_dic1 Tr.p_int Tr.p_bl) (Tr.lx_cons (Tr.x_lst (Tr.lx_cons (PE.px Tr.p_int) Tr.lx_nil)) (Tr.lx_cons (PE.vx (PE.pV Tr.p_int)) Tr.lx_nil))) (by rfl))
    (Tr.s_cons (Tr.s_while (fun _ => 1000) (passes_of rfl) (PT.qy (Tr.q_cmp op_lt ltD_ok (PE.pb (Tr.p_var (pv 5))) (PE.pb (Tr.p_callB lenD_ok Tr.c_len rfl z_len (by decide +kernel) (Tr.c_var (pv 4)))) (nomark _))) (Tr.s_cons (Tr.s_setF (i := 6) sc_generated.nd rfl (.inl rfl) (PE.px (Tr.p_ix (Tr.p_var (pv 0)) (Tr.p_flat (Tr.c_at (pv 4) (Tr.p_var (pv 5)) (fun _ _ => rfl))) (fun _ _ => rfl))))
    (Tr.s_cons (Tr.s_for (passes_of rfl) rfl (Tr.i_seq (PE.pV (Tr.p_var (pv 1)))) (Tr.g_name sc_generated.nd rfl (.inl rfl)) (Tr.s_one (Tr.s_if (PT.qy (Tr.q_notInK hr.u1 (Tr.p_ix (Tr.p_var (pv 6)) (Tr.p_var (pv 2)) (fun _ _ => rfl)) (Tr.c_var (pv 3)))) (Tr.s_cons (Tr.s_stoD hr.u1 (PE.pV Tr.p_bl) (pv 3) (Tr.p_ix (Tr.p_var (pv 6)) (Tr.p_var (pv 2)) (fun _ _ => rfl)))
    (Tr.s_one (Tr.s_expr (Tr.x_append (pv 4) (PE.pV (Tr.p_ix (Tr.p_var (pv 6)) (Tr.p_var (pv 2)) (fun _ _ => rfl))))))) Tr.s_nil)))
    (Tr.s_one (Tr.s_augAdd (i := 5) sc_generated.nd rfl (.inl rfl) (PE.pV Tr.p_int))))))
    (Tr.s_one (Tr.s_ret (PE.px (Tr.p_callT tupD_ok call_tupB rfl z_tuple (by decide +kernel) (PE.pc (Tr.p_callB sortTD_ok.s call_sortT rfl z_sorted (by decide +kernel) (Tr.c_var (pv 4)))))))))))
/-! ### opposite -/
abbrev s_opposite : Stmt := topS 14
theorem sc_opposite : FnScope N_opposite ["table"] (defScope s_opposite) := ⟨rfl, rfl, rfl, by decide +kernel, rfl, by decide +kernel, by decide +kernel⟩
theorem ok_opposite {P : Program} {w : World} {K : PySem.W.Frag} {mg : Str → Option Value} {base : Heap} {f : Addr} {fd : FuncData} (F : Fun K "opposite" "opposite" s_opposite f fd)
    (z_len : mg "len" = none) (z_range : mg "range" = none) (z_tuple : mg "tuple" = none) :
    FnG P w K mg base 1 f fd ["table"] (spF K mg (["table"] : List Str).length F_opposite) := by
  delta F_opposite
  refine fng_ok (P := P) (w := w) (mg := mg) (base := base) (k := 0) F sc_opposite (by decide) ?_
  intro cdv A outer s H E hr
  conv => arg 2; whnf
  delta m_opposite
  exact (Tr.s_one (Tr.s_ret (PE.vx (Tr.v_callT tupD_ok call_tupB rfl z_tuple (by decide +kernel) (PE.pv (Tr.x_lc (own := [("at", 1)]) rfl sc_opposite.nd (Tr.i_range1 rfl z_range (PE.pV (Tr.p_callB lenD_ok Tr.c_len rfl z_len (by decide +kernel) (PE.pc (Tr.p_var (pv 0)))))) (blkOk_by (own := [("at", 1)]) (N := N_opposite) (sc := (defScope s_opposite)) (by decide +kernel)) (fun _ _ _ _ _ => (Tr.g_name sc_opposite.nd rfl (.inr rfl))) (fun _ _ _ _ _ => Tr.t_nil) (fun _ _ _ _ _ => (PE.vx (Tr.v_callT tupD_ok call_tupB rfl z_tuple (by decide +kernel) (PE.pv (Tr.x_lc (own := [("row", 2)]) rfl sc_opposite.nd (Tr.i_seq (PE.pV (Tr.p_var (pv 0)))) (blkOk_by (own := [("row", 2)]) (by kernel_rfl)) (fun _ _ _ _ _ => (Tr.g_name sc_opposite.nd rfl (.inl rfl))) (fun _ _ _ _ _ => Tr.t_nil) (fun _ _ _ _ _ => (PE.px (Tr.p_ix (Tr.p_var (pv 2)) (Tr.p_var (pv 1)) (fun _ _ => rfl)))) (by decide)))))) (by decide)))))))
/-! ### centre -/
abbrev s_centre : Stmt := topS 15
theorem sc_centre : FnScope N_centre ["table"] (defScope s_centre) := ⟨rfl, rfl, rfl, by decide +kernel, rfl, by decide +kernel, by decide +kernel⟩
theorem ok_centre {P : Program} {w : World} {K : PySem.W.Frag} {mg : Str → Option Value} {base : Heap} {f : Addr} {fd : FuncData} (F : Fun K "centre" "centre" s_centre f fd)
    (z_len : mg "len" = none) (z_range : mg "range" = none) (z_tuple : mg "tuple" = none) (C_opposite : CalG P w K mg base 1 "opposite" 1 F_opposite) :
    FnG P w K mg base 2 f fd ["table"] (spF K mg (["table"] : List Str).length F_centre) := by
  delta F_centre
  refine fng_ok (P := P) (w := w) (mg := mg) (base := base) (k := 1) F sc_centre (by decide) ?_
  intro cdv A outer s H E hr
  conv => arg 2; whnf
  delta m_centre
  exact (Tr.s_cons (Tr.s_setF (i := 1) sc_centre.nd rfl (.inr rfl) (Tr.x_callG (C_opposite.le (by decide)) (takes_of rfl rfl rfl rfl) hr rfl (Tr.ag_v (PE.pV (Tr.p_var (pv 0))) Tr.ag_nil)))
    (Tr.s_one (Tr.s_ret (PE.vx (Tr.v_callT tupD_ok call_tupB rfl z_tuple (by decide +kernel) (PE.pv (Tr.x_lc (own := [("share", 2)]) rfl sc_centre.nd (Tr.i_range1 rfl z_range (PE.pV (Tr.p_callB lenD_ok Tr.c_len rfl z_len (by decide +kernel) (PE.pc (Tr.p_var (pv 0)))))) (blkOk_by (own := [("share", 2)]) (N := N_centre) (sc := (defScope s_centre)) (by decide +kernel)) (fun _ _ _ _ _ => (Tr.g_name sc_centre.nd rfl (.inl rfl))) (fun _ _ _ _ _ => (Tr.t_one (PT.qy (Tr.q_cmp (op_eqD hr.toRoom.units) eqD_ok (PE.pb (Tr.p_ix (Tr.p_var (pv 0)) (Tr.p_var (pv 2)) (fun _ _ => rfl))) (PE.pb (Tr.p_ix (Tr.p_var (pv 1)) (Tr.p_var (pv 2)) (fun _ _ => rfl))) (nomark _))))) (fun _ _ _ _ _ => (PE.px (Tr.p_var (pv 2)))) (by decide))))))))
/-! ### is_commutative -/
abbrev s_is_commutative : Stmt := topS 16
theorem sc_is_commutative : FnScope N_is_commutative ["table"] (defScope s_is_commutative) := ⟨rfl, rfl, rfl, by decide +kernel, rfl, by decide +kernel, by decide +kernel⟩
theorem ok_is_commutative {P : Program} {w : World} {K : PySem.W.Frag} {mg : Str → Option Value} {base : Heap} {f : Addr} {fd : FuncData} (F : Fun K "is_commutative" "is_commutative" s_is_commutative f fd)
    (C_opposite : CalG P w K mg base 1 "opposite" 1 F_opposite) :
    FnG P w K mg base 2 f fd ["table"] (spF K mg (["table"] : List Str).length F_is_commutative) := by
  delta F_is_commutative
  refine fng_ok (P := P) (w := w) (mg := mg) (base := base) (k := 1) F sc_is_commutative (by decide) ?_
  intro cdv A outer s H E hr
  conv => arg 2; whnf
  delta m_is_commutative
  exact (Tr.s_one (Tr.s_ret (PE.vx (Tr.v_cmp (op_eqD hr.toRoom.units) eqD_ok.s (PE.pV (Tr.p_var (pv 0))) (PE.pv (Tr.x_callG (C_opposite.le (by decide)) (takes_of rfl rfl rfl rfl) hr rfl (Tr.ag_v (PE.pV (Tr.p_var (pv 0))) Tr.ag_nil))) (nomark _)))))
/-! ### _law_heap -/
abbrev s__law_heap : Stmt := topS 18
theorem sc__law_heap : FnScope N__law_heap ["_law_script", "_law_base"] (defScope s__law_heap) := ⟨rfl, rfl, rfl, by decide +kernel, rfl, by decide +kernel, by decide +kernel⟩
theorem ok__law_heap {P : Program} {w : World} {K : PySem.W.Frag} {mg : Str → Option Value} {base : Heap} {f : Addr} {fd : FuncData} (F : Fun K "_law_heap" "_law_heap" s__law_heap f fd)
    (z_abs : mg "abs" = none) (z_int : mg "int" = none) :
    FnG P w K mg base 1 f fd ["_law_script", "_law_base"] (spF K mg (["_law_script", "_law_base"] : List Str).length F__law_heap) := by
  delta F__law_heap
  refine fng_ok (P := P) (w := w) (mg := mg) (base := base) (k := 0) F sc__law_heap (by decide) ?_
  intro cdv A outer s H E hr
  conv => arg 2; whnf
  delta m__law_heap
  exact (Tr.s_cons (Tr.s_setLcF (i := 2) (own := [("_law_cell", 4)]) rfl sc__law_heap.nd rfl rfl (sw_true rfl rfl rfl (by decide +kernel)) (Tr.i_seq (PE.pV (Tr.p_slice (PE.pc (Tr.p_var (pv 0))) (Tr.o_some (Tr.p_var (pv 1))) (Tr.o_some Tr.p_int)))) (blkOk_by (own := [("_law_cell", 4)]) (N := N__law_heap) (sc := (defScope s__law_heap)) (by decide +kernel)) (fun _ _ _ _ _ => (Tr.g_name sc__law_heap.nd rfl (.inl rfl))) (fun _ _ _ _ _ => Tr.t_nil) (fun _ _ _ _ _ => (PE.px (Tr.p_callB absD_ok call_abs rfl z_abs (by decide +kernel) (PE.pc (Tr.p_var (pv 4)))))) (by decide))
    (Tr.s_cons (Tr.s_setF (i := 3) sc__law_heap.nd rfl (.inl rfl) (PE.px (Tr.p_op op_addA addD_ok Tr.p_int (Tr.p_op op_mulA mulD_ok Tr.p_int (Tr.p_var (pv 1))))))
    (Tr.s_cons (Tr.s_for (passes_of rfl) rfl (Tr.i_seq (PE.pV (Tr.p_var (pv 2)))) (Tr.g_name sc__law_heap.nd rfl (.inl rfl)) (Tr.s_one (Tr.s_setF (i := 3) sc__law_heap.nd rfl (.inl rfl) (PE.px (Tr.p_op op_mod modD_ok.s (Tr.p_callT intD_ok call_int1 rfl z_int (by decide +kernel) (PE.pc (Tr.p_op op_addA addD_ok (Tr.p_op op_addA addD_ok (Tr.p_op op_mulA mulD_ok (Tr.p_var (pv 3)) Tr.p_int) (Tr.p_op op_mod modD_ok.s (Tr.p_callT intD_ok call_int1 rfl z_int (by decide +kernel) (PE.pc (Tr.p_var (pv 4)))) Tr.p_int)) Tr.p_int))) Tr.p_int)))))
    (Tr.s_one (Tr.s_ret (Tr.x_lst (Tr.lx_cons (Tr.x_revv (PE.pv (Tr.x_lc (own := [("_law_cell", 4)]) rfl sc__law_heap.nd (Tr.i_seq (PE.pV (Tr.p_var (pv 2)))) (blkOk_by (own := [("_law_cell", 4)]) (N := N__law_heap) (sc := (defScope s__law_heap)) (by decide +kernel)) (fun _ _ _ _ _ => (Tr.g_name sc__law_heap.nd rfl (.inl rfl))) (fun _ _ _ _ _ => (Tr.t_one (PT.qy (Tr.q_cmp op_ge geD_ok (PE.pb (Tr.p_var (pv 4))) (PE.pb (Tr.p_op op_pow powD_ok.s Tr.p_int Tr.p_int)) (nomark _))))) (fun _ _ _ _ _ => (PE.px (Tr.p_var (pv 4)))) (by decide)))) (Tr.lx_cons (PE.px (Tr.p_var (pv 3))) Tr.lx_nil))))))))
/-! ### _law_draw -/
abbrev s__law_draw : Stmt := topS 19
theorem sc__law_draw : FnScope N__law_draw ["_law_heap_here", "_law_many"] (defScope s__law_draw) := ⟨rfl, rfl, rfl, by decide +kernel, rfl, by decide +kernel, by decide +kernel⟩
theorem ok__law_draw {P : Program} {w : World} {K : PySem.W.Frag} {mg : Str → Option Value} {base : Heap} {f : Addr} {fd : FuncData} (F : Fun K "_law_draw" "_law_draw" s__law_draw f fd)
    (z_int : mg "int" = none) :
    FnG P w K mg base 1 f fd ["_law_heap_here", "_law_many"] (spF K mg (["_law_heap_here", "_law_many"] : List Str).length F__law_draw) := by
  delta F__law_draw
  refine fng_ok (P := P) (w := w) (mg := mg) (base := base) (k := 0) F sc__law_draw (by decide) ?_
  intro cdv A outer s H E hr
  conv => arg 2; whnf
  delta m__law_draw
  exact (Tr.s_cons (Tr.s_while szR (passes_of rfl) (PT.qy (PW.pt (Tr.q_and (Tr.q_cmp (op_neD hr.toRoom.units) neD_ok (PE.cb (Tr.c_at (pv 0) Tr.p_int (fun _ _ => rfl))) (PE.pb (Tr.p_lst Tr.lp_nil)) (nomark _)) (Tr.q_and1 (Tr.q_cmp (op_eqD hr.toRoom.units) eqD_ok (PE.pb (Tr.p_ixC (Tr.c_at (pv 0) Tr.p_int (fun _ _ => rfl)) (Tr.p_neg Tr.p_int) (fun _ _ => rfl))) (PE.pb Tr.p_int) (nomark _)))))) (Tr.s_one (Tr.s_expr (Tr.x_popAt (pv 0) Tr.p_int (fun _ _ => rfl)))))
    (Tr.s_cons (Tr.s_if (PT.qy (Tr.q_cmp (op_neD hr.toRoom.units) neD_ok (PE.cb (Tr.c_at (pv 0) Tr.p_int (fun _ _ => rfl))) (PE.pb (Tr.p_lst Tr.lp_nil)) (nomark _))) (Tr.s_cons (Tr.s_setF (i := 2) sc__law_draw.nd rfl (.inl rfl) (Tr.x_popAt (pv 0) Tr.p_int (fun _ _ => rfl)))
    (Tr.s_cons (Tr.s_expr (Tr.x_appAt (pv 0) Tr.p_int (fun _ _ => rfl) (Tr.p_op op_fdivW divD_ok.s (Tr.p_var (pv 2)) (Tr.p_var (pv 1)))))
    (Tr.s_one (Tr.s_ret (PE.px (Tr.p_op op_mod modD_ok.s (Tr.p_callT intD_ok call_int1 rfl z_int (by decide +kernel) (PE.pc (Tr.p_var (pv 2)))) (Tr.p_var (pv 1)))))))) Tr.s_nil)
    (Tr.s_cons (Tr.s_sto (PE.pV (Tr.p_op op_mod modD_ok.s (Tr.p_callT intD_ok call_int1 rfl z_int (by decide +kernel) (PE.pc (Tr.p_op op_addA addD_ok (Tr.p_op op_mulA mulD_ok (Tr.p_flat (Tr.c_at (pv 0) Tr.p_int (fun _ _ => rfl))) Tr.p_int) Tr.p_int))) Tr.p_int)) (pv 0) Tr.p_int)
    (Tr.s_one (Tr.s_ret (PE.px (Tr.p_op op_mod modD_ok.s (Tr.p_callT intD_ok call_int1 rfl z_int (by decide +kernel) (PE.pc (Tr.p_op op_fdivW divD_ok.s (Tr.p_flat (Tr.c_at (pv 0) Tr.p_int (fun _ _ => rfl))) Tr.p_int))) (Tr.p_var (pv 1)))))))))
/-! ### _law_pick -/
abbrev s__law_pick : Stmt := topS 20
theorem sc__law_pick : FnScope N__law_pick ["_law_heap_here", "_law_some"] (defScope s__law_pick) := ⟨rfl, rfl, rfl, by decide +kernel, rfl, by decide +kernel, by decide +kernel⟩
theorem ok__law_pick {P : Program} {w : World} {K : PySem.W.Frag} {mg : Str → Option Value} {base : Heap} {f : Addr} {fd : FuncData} (F : Fun K "_law_pick" "_law_pick" s__law_pick f fd)
    (z_len : mg "len" = none) (C__law_draw : CalG P w K mg base 1 "_law_draw" 2 F__law_draw) :
    FnG P w K mg base 2 f fd ["_law_heap_here", "_law_some"] (spF K mg (["_law_heap_here", "_law_some"] : List Str).length F__law_pick) := by
  delta F__law_pick
  refine fng_ok (P := P) (w := w) (mg := mg) (base := base) (k := 1) F sc__law_pick (by decide) ?_
  intro cdv A outer s H E hr
  conv => arg 2; whnf
  delta m__law_pick
  exact (Tr.s_one (Tr.s_ret (PE.vx (Tr.v_ix (PE.pV (Tr.p_var (pv 1))) (PE.pv (Tr.x_callG (C__law_draw.le (by decide)) (takes_of rfl rfl rfl rfl) hr rfl (Tr.ag_l (pv 0) (Tr.ag_v (PE.pV (Tr.p_callB lenD_ok Tr.c_len rfl z_len (by decide +kernel) (PE.pc (Tr.p_var (pv 1))))) Tr.ag_nil)))) (fun _ _ => rfl)))))
/-! ### _law_order -/
abbrev s__law_order : Stmt := topS 21
theorem sc__law_order : FnScope N__law_order ["_law_heap_here", "_law_many"] (defScope s__law_order) := ⟨rfl, rfl, rfl, by decide +kernel, rfl, by decide +kernel, by decide +kernel⟩
theorem ok__law_order {P : Program} {w : World} {K : PySem.W.Frag} {mg : Str → Option Value} {base : Heap} {f : Addr} {fd : FuncData} (F : Fun K "_law_order" "_law_order" s__law_order f fd)
    (z_len : mg "len" = none) (z_range : mg "range" = none) (C__law_draw : CalG P w K mg base 1 "_law_draw" 2 F__law_draw) :
    FnG P w K mg base 2 f fd ["_law_heap_here", "_law_many"] (spF K mg (["_law_heap_here", "_law_many"] : List Str).length F__law_order) := by
  delta F__law_order
  refine fng_ok (P := P) (w := w) (mg := mg) (base := base) (k := 1) F sc__law_order (by decide) ?_
  intro cdv A outer s H E hr
  conv => arg 2; whnf
  delta m__law_order
  exact (Tr.s_cons (Tr.s_set (i := 2) sc__law_order.nd rfl (.inl rfl) (Tr.x_lst Tr.lx_nil))
    (Tr.s_cons (Tr.s_for (passes_of rfl) rfl (Tr.i_range1 rfl z_range (PE.pV (Tr.p_var (pv 1)))) (Tr.g_name sc__law_order.nd rfl (.inl rfl)) (Tr.s_one (Tr.s_expr (Tr.x_insert (pv 2) (Tr.lv_cons (PE.pv (Tr.x_callG (C__law_draw.le (by decide)) (takes_of rfl rfl rfl rfl) hr rfl (Tr.ag_l (pv 0) (Tr.ag_v (PE.pV (Tr.p_op op_addA addD_ok (Tr.p_callB lenD_ok Tr.c_len rfl z_len (by decide +kernel) (Tr.c_var (pv 2))) Tr.p_int)) Tr.ag_nil)))) (Tr.lv_cons (PE.pV (Tr.p_var (pv 3))) Tr.lv_nil))))))
    (Tr.s_one (Tr.s_ret (Tr.x_mov (pv 2))))))
/-! ### _law_table -/
abbrev s__law_table : Stmt := topS 22
theorem sc__law_table : FnScope N__law_table ["_law_kind"] (defScope s__law_table) := ⟨rfl, rfl, rfl, by decide +kernel, rfl, by decide +kernel, by decide +kernel⟩
theorem ok__law_table {P : Program} {w : World} {K : PySem.W.Frag} {mg : Str → Option Value} {base : Heap} {f : Addr} {fd : FuncData} (F : Fun K "_law_table" "_law_table" s__law_table f fd)
    (z_int : mg "int" = none) (z_range : mg "range" = none) :
    FnG P w K mg base 1 f fd ["_law_kind"] (spF K mg (["_law_kind"] : List Str).length F__law_table) := by
  delta F__law_table
  refine fng_ok (P := P) (w := w) (mg := mg) (base := base) (k := 0) F sc__law_table (by decide) ?_
  intro cdv A outer s H E hr
  conv => arg 2; whnf
  delta m__law_table
  exact (Tr.s_cons (Tr.s_asg (PE.pV (Tr.p_var (pv 0))) (Tr.g_tup rfl (Tr.gs_cons (Tr.g_name sc__law_table.nd rfl (.inl rfl)) (Tr.gs_cons (Tr.g_name sc__law_table.nd rfl (.inl rfl)) (Tr.gs_cons (Tr.g_name sc__law_table.nd rfl (.inl rfl)) (Tr.gs_cons (Tr.g_name sc__law_table.nd rfl (.inl rfl)) Tr.gs_nil))))))
    (Tr.s_cons (Tr.s_set (i := 5) sc__law_table.nd rfl (.inl rfl) (Tr.x_lst Tr.lx_nil))
    (Tr.s_cons (Tr.s_for (passes_of rfl) rfl (Tr.i_range1 rfl z_range (PE.pV (Tr.p_op op_mulA mulD_ok (Tr.p_var (pv 1)) (Tr.p_var (pv 2))))) (Tr.g_name sc__law_table.nd rfl (.inl rfl)) (Tr.s_cons (Tr.s_par2 (i := 7) (j := 8) rfl sc__law_table.nd rfl rfl (by decide) rfl rfl (Tr.lx_cons (PE.vx (PE.pV (Tr.p_if (Tr.q_cmp op_ge geD_ok (PE.pb (Tr.p_var (pv 6))) (PE.pb (Tr.p_var (pv 1))) (nomark _)) (Tr.p_var (pv 3)) Tr.p_int))) (Tr.lx_cons (Tr.x_lst Tr.lx_nil) Tr.lx_nil)) (by rfl))
    (Tr.s_cons (Tr.s_for (passes_of rfl) rfl (Tr.i_range1 rfl z_range (PE.pV (Tr.p_op op_mulA mulD_ok (Tr.p_var (pv 1)) (Tr.p_var (pv 2))))) (Tr.g_name sc__law_table.nd rfl (.inl rfl)) (Tr.s_cons (Tr.s_setF (i := 10) sc__law_table.nd rfl (.inl rfl) (Tr.x_if (PT.qy (PW.pt (Tr.q_and (Tr.q_cmp op_ge geD_ok (PE.pb (Tr.p_var (pv 6))) (PE.pb (Tr.p_var (pv 1))) (nomark _)) (Tr.q_and1 (Tr.q_cmp op_ge geD_ok (PE.pb (Tr.p_var (pv 9))) (PE.pb (Tr.p_var (pv 1))) (nomark _)))))) (PE.px (Tr.p_var (pv 4))) (PE.px Tr.p_int)))
    (Tr.s_cons (Tr.s_par2 (i := 11) (j := 12) rfl sc__law_table.nd rfl rfl (by decide) rfl rfl (Tr.lx_cons (PE.vx (PE.pV (Tr.p_op op_mod modD_ok.s (Tr.p_callT intD_ok call_int1 rfl z_int (by decide +kernel) (PE.pc (Tr.p_op op_addA addD_ok (Tr.p_op op_addA addD_ok (Tr.p_op op_mod modD_ok.s (Tr.p_var (pv 6)) (Tr.p_var (pv 1))) (Tr.p_op op_mulA mulD_ok (Tr.p_var (pv 7)) (Tr.p_op op_mod modD_ok.s (Tr.p_var (pv 9)) (Tr.p_var (pv 1))))) (Tr.p_var (pv 10))))) (Tr.p_var (pv 1))))) (Tr.lx_cons (PE.vx (PE.pV (Tr.p_op op_mod modD_ok.s (Tr.p_callT intD_ok call_int1 rfl z_int (by decide +kernel) (PE.pc (Tr.p_op op_addA addD_ok (Tr.p_op op_fdivW divD_ok.s (Tr.p_var (pv 6)) (Tr.p_var (pv 1))) (Tr.p_op op_fdivW divD_ok.s (Tr.p_var (pv 9)) (Tr.p_var (pv 1)))))) (Tr.p_var (pv 2))))) Tr.lx_nil)) (by rfl))
    (Tr.s_one (Tr.s_expr (Tr.x_append (pv 8) (PE.pV (Tr.p_op op_addA addD_ok (Tr.p_var (pv 11)) (Tr.p_op op_mulA mulD_ok (Tr.p_var (pv 1)) (Tr.p_var (pv 12)))))))))))
    (Tr.s_one (Tr.s_expr (Tr.x_append (pv 5) (Tr.v_frz (pv 8))))))))
    (Tr.s_one (Tr.s_ret (Tr.x_mov (pv 5)))))))
/-! ### _law_renamed -/
abbrev s__law_renamed : Stmt := topS 23
theorem sc__law_renamed : FnScope N__law_renamed ["_law_table_here", "_law_names"] (defScope s__law_renamed) := ⟨rfl, rfl, rfl, by decide +kernel, rfl, by decide +kernel, by decide +kernel⟩
theorem ok__law_renamed {P : Program} {w : World} {K : PySem.W.Frag} {mg : Str → Option Value} {base : Heap} {f : Addr} {fd : FuncData} (F : Fun K "_law_renamed" "_law_renamed" s__law_renamed f fd)
    (z_len : mg "len" = none) (z_range : mg "range" = none) (z_tuple : mg "tuple" = none) :
    FnG P w K mg base 1 f fd ["_law_table_here", "_law_names"] (spF K mg (["_law_table_here", "_law_names"] : List Str).length F__law_renamed) := by
  delta F__law_renamed
  refine fng_ok (P := P) (w := w) (mg := mg) (base := base) (k := 0) F sc__law_renamed (by decide) ?_
  intro cdv A outer s H E hr
  conv => arg 2; whnf
  delta m__law_renamed
  exact (Tr.s_cons (Tr.s_setLc (i := 2) (own := [("_law_one", 3)]) rfl sc__law_renamed.nd rfl rfl (sw_true rfl rfl rfl (by decide +kernel)) (Tr.i_seq (PE.pV (Tr.p_var (pv 0)))) (blkOk_by (own := [("_law_one", 3)]) (N := N__law_renamed) (sc := (defScope s__law_renamed)) (by decide +kernel)) (fun _ _ _ _ _ => (Tr.g_name sc__law_renamed.nd rfl (.inl rfl))) (fun _ _ _ _ _ => Tr.t_nil) (fun _ _ _ _ _ => (Tr.x_mulL (Tr.p_lst (Tr.lp_cons Tr.p_int Tr.lp_nil)) (Tr.p_callB lenD_ok Tr.c_len rfl z_len (by decide +kernel) (PE.pc (Tr.p_var (pv 0)))))) (by decide))
    (Tr.s_cons (Tr.s_for (passes_of rfl) rfl (Tr.i_range1 rfl z_range (PE.pV (Tr.p_callB lenD_ok Tr.c_len rfl z_len (by decide +kernel) (PE.pc (Tr.p_var (pv 0)))))) (Tr.g_name sc__law_renamed.nd rfl (.inl rfl)) (Tr.s_one (Tr.s_for (passes_of rfl) rfl (Tr.i_range1 rfl z_range (PE.pV (Tr.p_callB lenD_ok Tr.c_len rfl z_len (by decide +kernel) (PE.pc (Tr.p_var (pv 0)))))) (Tr.g_name sc__law_renamed.nd rfl (.inl rfl)) (Tr.s_one (Tr.s_sto2 (PE.pV (Tr.p_ix (Tr.p_var (pv 1)) (Tr.p_ix (Tr.p_ix (Tr.p_var (pv 0)) (Tr.p_var (pv 3)) (fun _ _ => rfl)) (Tr.p_var (pv 4)) (fun _ _ => rfl)) (fun _ _ => rfl))) (pv 2) (Tr.p_ix (Tr.p_var (pv 1)) (Tr.p_var (pv 3)) (fun _ _ => rfl)) (Tr.p_ix (Tr.p_var (pv 1)) (Tr.p_var (pv 4)) (fun _ _ => rfl)) (fun _ _ => rfl))))))
    (Tr.s_one (Tr.s_ret (PE.vx (Tr.v_callT tupD_ok call_tupB rfl z_tuple (by decide +kernel) (PE.pv (Tr.x_lc (own := [("_law_row", 5)]) rfl sc__law_renamed.nd (Tr.i_seq (Tr.v_frz (pv 2))) (blkOk_by (own := [("_law_row", 5)]) (N := N__law_renamed) (sc := (defScope s__law_renamed)) (by decide +kernel)) (fun _ _ _ _ _ => (Tr.g_name sc__law_renamed.nd rfl (.inl rfl))) (fun _ _ _ _ _ => Tr.t_nil) (fun _ _ _ _ _ => (PE.px (Tr.p_callT tupD_ok call_tupB rfl z_tuple (by decide +kernel) (PE.pc (Tr.p_var (pv 5)))))) (by decide)))))))))
/-! ### _law_group -/
abbrev s__law_group : Stmt := topS 24
theorem sc__law_group : FnScope N__law_group ["_law_heap_here", "_law_most"] (defScope s__law_group) := ⟨rfl, rfl, rfl, by decide +kernel, rfl, by decide +kernel, by decide +kernel⟩
theorem ok__law_group {P : Program} {w : World} {K : PySem.W.Frag} {mg : Str → Option Value} {base : Heap} {f : Addr} {fd : FuncData} (F : Fun K "_law_group" "_law_group" s__law_group f fd)
    (z_int : mg "int" = none) (C__law_order : CalG P w K mg base 2 "_law_order" 2 F__law_order) (C__law_pick : CalG P w K mg base 2 "_law_pick" 2 F__law_pick) (C__law_renamed : CalG P w K mg base 1 "_law_renamed" 2 F__law_renamed) (C__law_table : CalG P w K mg base 1 "_law_table" 1 F__law_table) :
    FnG P w K mg base 3 f fd ["_law_heap_here", "_law_most"] (spF K mg (["_law_heap_here", "_law_most"] : List Str).length F__law_group) := by
  delta F__law_group
  refine fng_ok (P := P) (w := w) (mg := mg) (base := base) (k := 2) F sc__law_group (by decide) ?_
  intro cdv A outer s H E hr
  conv => arg 2; whnf
  delta m__law_group
  exact (Tr.s_cons (Tr.s_setF (i := 2) sc__law_group.nd rfl (.inl rfl) (Tr.x_lst (Tr.lx_cons (PE.px (Tr.p_tup (Tr.lp_cons Tr.p_int (Tr.lp_cons Tr.p_int (Tr.lp_cons Tr.p_int (Tr.lp_cons Tr.p_int Tr.lp_nil)))))) (Tr.lx_cons (PE.px (Tr.p_tup (Tr.lp_cons Tr.p_int (Tr.lp_cons Tr.p_int (Tr.lp_cons Tr.p_int (Tr.lp_cons Tr.p_int Tr.lp_nil)))))) (Tr.lx_cons (PE.px (Tr.p_tup (Tr.lp_cons Tr.p_int (Tr.lp_cons Tr.p_int (Tr.lp_cons Tr.p_int (Tr.lp_cons Tr.p_int Tr.lp_nil)))))) (Tr.lx_cons (PE.px (Tr.p_tup (Tr.lp_cons Tr.p_int (Tr.lp_cons Tr.p_int (Tr.lp_cons Tr.p_int (Tr.lp_cons Tr.p_int Tr.lp_nil)))))) (Tr.lx_cons (PE.px (Tr.p_tup (Tr.lp_cons Tr.p_int (Tr.lp_cons Tr.p_int (Tr.lp_cons Tr.p_int (Tr.lp_cons Tr.p_int Tr.lp_nil)))))) (Tr.lx_cons (PE.px (Tr.p_tup (Tr.lp_cons Tr.p_int (Tr.lp_cons Tr.p_int (Tr.lp_cons Tr.p_int (Tr.lp_cons Tr.p_int Tr.lp_nil)))))) (Tr.lx_cons (PE.px (Tr.p_tup (Tr.lp_cons Tr.p_int (Tr.lp_cons Tr.p_int (Tr.lp_cons Tr.p_int (Tr.lp_cons Tr.p_int Tr.lp_nil)))))) (Tr.lx_cons (PE.px (Tr.p_tup (Tr.lp_cons Tr.p_int (Tr.lp_cons Tr.p_int (Tr.lp_cons Tr.p_int (Tr.lp_cons Tr.p_int Tr.lp_nil)))))) Tr.lx_nil))))))))))
    (Tr.s_cons (Tr.s_setF (i := 2) sc__law_group.nd rfl (.inl rfl) (PE.px (Tr.p_op op_addA addD_ok (Tr.p_op op_addA addD_ok (Tr.p_var (pv 2)) (Tr.p_op op_mulA mulD_ok (Tr.p_lst (Tr.lp_cons (Tr.p_tup (Tr.lp_cons Tr.p_int (Tr.lp_cons Tr.p_int (Tr.lp_cons (Tr.p_op op_sub subD_ok.s Tr.p_int Tr.p_int) (Tr.lp_cons Tr.p_int Tr.lp_nil))))) Tr.lp_nil)) Tr.p_int)) (Tr.p_lst (Tr.lp_cons (Tr.p_tup (Tr.lp_cons Tr.p_int (Tr.lp_cons Tr.p_int (Tr.lp_cons (Tr.p_op op_sub subD_ok.s Tr.p_int Tr.p_int) (Tr.lp_cons Tr.p_int Tr.lp_nil))))) (Tr.lp_cons (Tr.p_tup (Tr.lp_cons Tr.p_int (Tr.lp_cons Tr.p_int (Tr.lp_cons (Tr.p_op op_sub subD_ok.s Tr.p_int Tr.p_int) (Tr.lp_cons Tr.p_int Tr.lp_nil))))) (Tr.lp_cons (Tr.p_tup (Tr.lp_cons Tr.p_int (Tr.lp_cons Tr.p_int (Tr.lp_cons Tr.p_int (Tr.lp_cons Tr.p_int Tr.lp_nil))))) (Tr.lp_cons (Tr.p_tup (Tr.lp_cons Tr.p_int (Tr.lp_cons Tr.p_int (Tr.lp_cons Tr.p_int (Tr.lp_cons Tr.p_int Tr.lp_nil))))) Tr.lp_nil))))))))
    (Tr.s_cons (Tr.s_setF (i := 3) sc__law_group.nd rfl (.inl rfl) (Tr.x_callG (C__law_pick.le (by decide)) (takes_of rfl rfl rfl rfl) hr rfl (Tr.ag_l (pv 0) (Tr.ag_v (PE.pv (Tr.x_lc (own := [("_law_one", 6)]) rfl sc__law_group.nd (Tr.i_seq (PE.pV (Tr.p_var (pv 2)))) (blkOk_by (own := [("_law_one", 6)]) (N := N__law_group) (sc := (defScope s__law_group)) (by decide +kernel)) (fun _ _ _ _ _ => (Tr.g_name sc__law_group.nd rfl (.inl rfl))) (fun _ _ _ _ _ => (Tr.t_one (PT.qy (Tr.q_cmp op_le leD_ok (PE.pb (Tr.p_op op_mulA mulD_ok (Tr.p_ix (Tr.p_var (pv 6)) Tr.p_int (fun _ _ => rfl)) (Tr.p_ix (Tr.p_var (pv 6)) Tr.p_int (fun _ _ => rfl)))) (PE.pb (Tr.p_var (pv 1))) (nomark _))))) (fun _ _ _ _ _ => (PE.px (Tr.p_var (pv 6)))) (by decide))) Tr.ag_nil))))
    (Tr.s_cons (Tr.s_setF (i := 4) sc__law_group.nd rfl (.inl rfl) (PE.vx (Tr.v_op op_addA addD_ok (PE.pV (Tr.p_lst (Tr.lp_cons Tr.p_int Tr.lp_nil))) (PE.pv (Tr.x_lc (own := [("_law_one", 6)]) rfl sc__law_group.nd (Tr.i_seq (PE.pv (Tr.x_callG (C__law_order.le (by decide)) (takes_of rfl rfl rfl rfl) hr rfl (Tr.ag_l (pv 0) (Tr.ag_v (PE.pV (Tr.p_op op_sub subD_ok.s (Tr.p_op op_mulA mulD_ok (Tr.p_ix (Tr.p_var (pv 3)) Tr.p_int (fun _ _ => rfl)) (Tr.p_ix (Tr.p_var (pv 3)) Tr.p_int (fun _ _ => rfl))) Tr.p_int)) Tr.ag_nil))))) (blkOk_by (own := [("_law_one", 6)]) (N := N__law_group) (sc := (defScope s__law_group)) (by decide +kernel)) (fun _ _ _ _ _ => (Tr.g_name sc__law_group.nd rfl (.inl rfl))) (fun _ _ _ _ _ => Tr.t_nil) (fun _ _ _ _ _ => (PE.px (Tr.p_op op_addA addD_ok (Tr.p_var (pv 6)) Tr.p_int))) (by decide))))))
    (Tr.s_cons (Tr.s_setF (i := 5) sc__law_group.nd rfl (.inl rfl) (PE.px (Tr.p_op op_addA addD_ok (Tr.p_lst (Tr.lp_cons (Tr.p_ix (Tr.p_var (pv 4)) (Tr.p_op op_mod modD_ok.s (Tr.p_callT intD_ok call_int1 rfl z_int (by decide +kernel) (PE.pc Tr.p_int)) (Tr.p_ix (Tr.p_var (pv 3)) Tr.p_int (fun _ _ => rfl))) (fun _ _ => rfl)) Tr.lp_nil)) (Tr.p_if (Tr.q_cmp (op_eqD hr.toRoom.units) eqD_ok (PE.pb (Tr.p_ix (Tr.p_var (pv 3)) Tr.p_int (fun _ _ => rfl))) (PE.pb Tr.p_int) (nomark _)) (Tr.p_lst (Tr.lp_cons (Tr.p_ix (Tr.p_var (pv 4)) (Tr.p_ix (Tr.p_var (pv 3)) Tr.p_int (fun _ _ => rfl)) (fun _ _ => rfl)) Tr.lp_nil)) (Tr.p_lst Tr.lp_nil)))))
    (Tr.s_one (Tr.s_ret (PE.vx (Tr.v_tup (Tr.lv_cons (PE.pv (Tr.x_callG (C__law_renamed.le (by decide)) (takes_of rfl rfl rfl rfl) hr rfl (Tr.ag_v (PE.pv (Tr.x_callG (C__law_table.le (by decide)) (takes_of rfl rfl rfl rfl) hr rfl (Tr.ag_v (PE.pV (Tr.p_var (pv 3))) Tr.ag_nil))) (Tr.ag_v (PE.pV (Tr.p_var (pv 4))) Tr.ag_nil)))) (Tr.lv_cons (PE.pV (Tr.p_var (pv 5))) Tr.lv_nil)))))))))))
/-! ### _law_powers -/
abbrev s__law_powers : Stmt := topS 25
theorem sc__law_powers : FnScope N__law_powers ["_law_table_here", "_law_one"] (defScope s__law_powers) := ⟨rfl, rfl, rfl, by decide +kernel, rfl, by decide +kernel, by decide +kernel⟩
theorem ok__law_powers {P : Program} {w : World} {K : PySem.W.Frag} {mg : Str → Option Value} {base : Heap} {f : Addr} {fd : FuncData} (F : Fun K "_law_powers" "_law_powers" s__law_powers f fd)
    (z_len : mg "len" = none) (z_range : mg "range" = none) :
    FnG P w K mg base 1 f fd ["_law_table_here", "_law_one"] (spF K mg (["_law_table_here", "_law_one"] : List Str).length F__law_powers) := by
  delta F__law_powers
  refine fng_ok (P := P) (w := w) (mg := mg) (base := base) (k := 0) F sc__law_powers (by decide) ?_
  intro cdv A outer s H E hr
  conv => arg 2; whnf
  delta m__law_powers
  exact (Tr.s_cons (Tr.s_set (i := 2) sc__law_powers.nd rfl (.inl rfl) (Tr.x_lst (Tr.lx_cons (PE.px Tr.p_int) Tr.lx_nil)))
    (Tr.s_cons (Tr.s_for (passes_of rfl) rfl (Tr.i_range1 rfl z_range (PE.pV (Tr.p_callB lenD_ok Tr.c_len rfl z_len (by decide +kernel) (PE.pc (Tr.p_var (pv 0)))))) (Tr.g_name sc__law_powers.nd rfl (.inl rfl)) (Tr.s_cons (Tr.s_if (PT.qy (Tr.q_cmp (op_eqD hr.toRoom.units) eqD_ok (PE.pb (Tr.p_ix (Tr.p_ix (Tr.p_var (pv 0)) (Tr.p_var (pv 1)) (fun _ _ => rfl)) (Tr.p_flat (Tr.c_at (pv 2) (Tr.p_op op_sub subD_ok.s (Tr.p_callB lenD_ok Tr.c_len rfl z_len (by decide +kernel) (Tr.c_var (pv 2))) Tr.p_int) (fun _ _ => rfl))) (fun _ _ => rfl))) (PE.pb Tr.p_int) (nomark _))) (Tr.s_one Tr.s_break) Tr.s_nil)
    (Tr.s_one (Tr.s_expr (Tr.x_append (pv 2) (PE.pV (Tr.p_ix (Tr.p_ix (Tr.p_var (pv 0)) (Tr.p_var (pv 1)) (fun _ _ => rfl)) (Tr.p_flat (Tr.c_at (pv 2) (Tr.p_op op_sub subD_ok.s (Tr.p_callB lenD_ok Tr.c_len rfl z_len (by decide +kernel) (Tr.c_var (pv 2))) Tr.p_int) (fun _ _ => rfl))) (fun _ _ => rfl))))))))
    (Tr.s_one (Tr.s_ret (Tr.x_mov (pv 2))))))
/-! ### _law_closed -/
abbrev s__law_closed : Stmt := topS 26
theorem sc__law_closed : FnScope N__law_closed ["_law_table_here", "_law_some"] (defScope s__law_closed) := ⟨rfl, rfl, rfl, by decide +kernel, rfl, by decide +kernel, by decide +kernel⟩
theorem ok__law_closed {P : Program} {w : World} {K : PySem.W.Frag} {mg : Str → Option Value} {base : Heap} {f : Addr} {fd : FuncData} (F : Fun K "_law_closed" "_law_closed" s__law_closed f fd)
    (z_len : mg "len" = none) (z_list : mg "list" = none) (z_range : mg "range" = none) (z_tuple : mg "tuple" = none) :
    FnG P w K mg base 1 f fd ["_law_table_here", "_law_some"] (spF K mg (["_law_table_here", "_law_some"] : List Str).length F__law_closed) := by
  delta F__law_closed
  refine fng_ok (P := P) (w := w) (mg := mg) (base := base) (k := 0) F sc__law_closed (by decide) ?_
  intro cdv A outer s H E hr
  conv => arg 2; whnf
  delta m__law_closed
  exact (Tr.s_cons (Tr.s_setF (i := 2) sc__law_closed.nd rfl (.inl rfl) (PE.px (Tr.p_op op_addA addD_ok (Tr.p_lst (Tr.lp_cons Tr.p_int Tr.lp_nil)) (Tr.p_callT listD_ok.s call_list_of rfl z_list (by decide +kernel) (PE.pc (Tr.p_var (pv 1)))))))
    (Tr.s_cons (Tr.s_for (passes_of rfl) rfl (Tr.i_range1 rfl z_range (PE.pV (Tr.p_callB lenD_ok Tr.c_len rfl z_len (by decide +kernel) (PE.pc (Tr.p_var (pv 0)))))) (Tr.g_name sc__law_closed.nd rfl (.inl rfl)) (Tr.s_cons (Tr.s_setF (i := 4) sc__law_closed.nd rfl (.inr rfl) (Tr.x_callTL listD_ok call_list_of rfl z_list (by decide +kernel) (PE.pc (Tr.p_var (pv 2)))))
    (Tr.s_cons (Tr.s_for (passes_of rfl) rfl (Tr.i_seq (PE.pV (Tr.p_var (pv 2)))) (Tr.g_name sc__law_closed.nd rfl (.inr rfl)) (Tr.s_one (Tr.s_setF (i := 4) sc__law_closed.nd rfl (.inr rfl) (PE.vx (Tr.v_op op_addA addD_ok (PE.pV (Tr.p_var (pv 4))) (PE.pv (Tr.x_lc (own := [("_law_two", 6)]) rfl sc__law_closed.nd (Tr.i_seq (PE.pV (Tr.p_var (pv 2)))) (blkOk_by (own := [("_law_two", 6)]) (N := N__law_closed) (sc := (defScope s__law_closed)) (by decide +kernel)) (fun _ _ _ _ _ => (Tr.g_name sc__law_closed.nd rfl (.inl rfl))) (fun _ _ _ _ _ => Tr.t_nil) (fun _ _ _ _ _ => (PE.px (Tr.p_ix (Tr.p_ix (Tr.p_var (pv 0)) (Tr.p_var (pv 5)) (fun _ _ => rfl)) (Tr.p_var (pv 6)) (fun _ _ => rfl)))) (by decide))))))))
    (Tr.s_cons (Tr.s_setF (i := 4) sc__law_closed.nd rfl (.inr rfl) (Tr.x_lc (own := [("_law_share", 7)]) rfl sc__law_closed.nd (Tr.i_range1 rfl z_range (PE.pV (Tr.p_callB lenD_ok Tr.c_len rfl z_len (by decide +kernel) (PE.pc (Tr.p_var (pv 0)))))) (blkOk_by (own := [("_law_share", 7)]) (N := N__law_closed) (sc := (defScope s__law_closed)) (by decide +kernel)) (fun _ _ _ _ _ => (Tr.g_name sc__law_closed.nd rfl (.inl rfl))) (fun _ _ _ _ _ => (Tr.t_one (PT.qy (Tr.q_cmp op_in_seq inD_ok (PE.pb (Tr.p_var (pv 7))) (PE.pb (Tr.p_var (pv 4))) rfl)))) (fun _ _ _ _ _ => (PE.px (Tr.p_var (pv 7)))) (by decide)))
    (Tr.s_cons (Tr.s_if (PT.qy (Tr.q_cmp (op_eqD hr.toRoom.units) eqD_ok (PE.pb (Tr.p_var (pv 4))) (PE.pb (Tr.p_var (pv 2))) (nomark _))) (Tr.s_one Tr.s_break) Tr.s_nil)
    (Tr.s_one (Tr.s_setF (i := 2) sc__law_closed.nd rfl (.inl rfl) (PE.px (Tr.p_var (pv 4))))))))))
    (Tr.s_one (Tr.s_ret (PE.px (Tr.p_callT tupD_ok call_tupB rfl z_tuple (by decide +kernel) (PE.pc (Tr.p_var (pv 2)))))))))
/-! ### _law_refused -/
abbrev s__law_refused : Stmt := topS 27
theorem sc__law_refused : FnScope N__law_refused ["_law_table_here", "_law_one", "_law_two", "_law_many", "_law_shares"] (defScope s__law_refused) := ⟨rfl, rfl, rfl, by decide +kernel, rfl, by decide +kernel, by decide +kernel⟩
theorem ok__law_refused {P : Program} {w : World} {K : PySem.W.Frag} {mg : Str → Option Value} {base : Heap} {f : Addr} {fd : FuncData} (F : Fun K "_law_refused" "_law_refused" s__law_refused f fd)
    (z_range : mg "range" = none) {A_InvalidNumber : Addr} (g_InvalidNumber : mg "InvalidNumber" = some (.ref A_InvalidNumber)) (em_InvalidNumber : PySem.W.exmOne K (.ref A_InvalidNumber) (.ref A_InvalidNumber) = some true) (xf_InvalidNumber : XfC K A_InvalidNumber) (xc_InvalidNumber : ExcC K A_InvalidNumber) (no_InvalidNumber_word : PySem.W.findIn K (.ref A_InvalidNumber) "word" = some none) (C_generated : CalG P w K mg base 5 "generated" 2 F_generated) (C_inverse : CalG P w K mg base 5 "inverse" 2 F_inverse) (C_order_of : CalG P w K mg base 5 "order_of" 2 F_order_of) (C_power : CalG P w K mg base 6 "power" 3 F_power) (C_times : CalG P w K mg base 5 "times" 3 F_times) :
    FnG P w K mg base 7 f fd ["_law_table_here", "_law_one", "_law_two", "_law_many", "_law_shares"] (spF K mg (["_law_table_here", "_law_one", "_law_two", "_law_many", "_law_shares"] : List Str).length (F__law_refused A_InvalidNumber)) := by
  delta F__law_refused
  refine fng_ok (P := P) (w := w) (mg := mg) (base := base) (k := 6) F sc__law_refused (by decide) ?_
  intro cdv A outer s H E hr
  conv => arg 2; whnf
  delta m__law_refused
  exact (Tr.s_cons (Tr.s_set (i := 5) sc__law_refused.nd rfl (.inl rfl) (Tr.x_lst Tr.lx_nil))
    (Tr.s_cons (Tr.s_for (passes_of rfl) rfl (Tr.i_range1 rfl z_range (PE.pV Tr.p_int)) (Tr.g_name sc__law_refused.nd rfl (.inl rfl)) (Tr.s_one (Tr.s_try (i := 7) rfl rfl sc__law_refused.nd rfl rfl ⟨rfl, by decide, .inl g_InvalidNumber⟩ (takes_of rfl rfl rfl rfl) (mt1_ok g_InvalidNumber em_InvalidNumber) (fun W pn xe tk hp => (Tr.s_cons (Tr.s_if (PT.qy (Tr.q_cmp (op_eqD hr.toRoom.units) eqD_ok (PE.pb (Tr.p_var (pv 6))) (PE.pb Tr.p_int) (nomark _))) (Tr.s_one (Tr.s_expr (Tr.x_callG (C_times.le (by decide)) tk hr rfl (Tr.ag_v (PE.pV (Tr.p_var (pv 0))) (Tr.ag_v (PE.pV (Tr.p_var (pv 1))) (Tr.ag_v (PE.pV (Tr.p_var (pv 2))) Tr.ag_nil)))))) (Tr.s_one (Tr.s_if (PT.qy (Tr.q_cmp (op_eqD hr.toRoom.units) eqD_ok (PE.pb (Tr.p_var (pv 6))) (PE.pb Tr.p_int) (nomark _))) (Tr.s_one (Tr.s_expr (Tr.x_callG (C_times.le (by decide)) tk hr rfl (Tr.ag_v (PE.pV (Tr.p_var (pv 0))) (Tr.ag_v (PE.pV (Tr.p_var (pv 2))) (Tr.ag_v (PE.pV (Tr.p_var (pv 1))) Tr.ag_nil)))))) (Tr.s_one (Tr.s_if (PT.qy (Tr.q_cmp (op_eqD hr.toRoom.units) eqD_ok (PE.pb (Tr.p_var (pv 6))) (PE.pb Tr.p_int) (nomark _))) (Tr.s_one (Tr.s_expr (Tr.x_callG (C_inverse.le (by decide)) tk hr rfl (Tr.ag_v (PE.pV (Tr.p_var (pv 0))) (Tr.ag_v (PE.pV (Tr.p_var (pv 1))) Tr.ag_nil))))) (Tr.s_one (Tr.s_if (PT.qy (Tr.q_cmp (op_eqD hr.toRoom.units) eqD_ok (PE.pb (Tr.p_var (pv 6))) (PE.pb Tr.p_int) (nomark _))) (Tr.s_one (Tr.s_expr (Tr.x_callG (C_power.le (by decide)) tk hr rfl (Tr.ag_v (PE.pV (Tr.p_var (pv 0))) (Tr.ag_v (PE.pV (Tr.p_var (pv 1))) (Tr.ag_v (PE.pV (Tr.p_var (pv 3))) Tr.ag_nil)))))) (Tr.s_one (Tr.s_if (PT.qy (Tr.q_cmp (op_eqD hr.toRoom.units) eqD_ok (PE.pb (Tr.p_var (pv 6))) (PE.pb Tr.p_int) (nomark _))) (Tr.s_one (Tr.s_expr (Tr.x_callG (C_order_of.le (by decide)) tk hr rfl (Tr.ag_v (PE.pV (Tr.p_var (pv 0))) (Tr.ag_v (PE.pV (Tr.p_var (pv 1))) Tr.ag_nil))))) (Tr.s_one (Tr.s_expr (Tr.x_callG (C_generated.le (by decide)) tk hr rfl (Tr.ag_v (PE.pV (Tr.p_var (pv 0))) (Tr.ag_v (PE.pV (Tr.p_var (pv 4))) Tr.ag_nil))))))))))))))
    (Tr.s_one (Tr.s_expr (Tr.x_append (pv 5) (PE.pV Tr.p_non)))))) (fun a oe C dd pn hz hfs => (Tr.s_one (Tr.s_expr (Tr.x_append (pv 5) (PE.pV (Tr.p_xf xf_InvalidNumber no_InvalidNumber_word hz hfs (pv 7))))))))))
    (Tr.s_one (Tr.s_ret (Tr.x_mov (pv 5))))))
/-! ### law -/
abbrev s_law : Stmt := topS 28
theorem sc_law : FnScope N_law ["_law_script"] (defScope s_law) := ⟨rfl, rfl, rfl, by decide +kernel, rfl, by decide +kernel, by decide +kernel⟩
theorem ok_law {P : Program} {w : World} {K : PySem.W.Frag} {mg : Str → Option Value} {base : Heap} {f : Addr} {fd : FuncData} (F : Fun K "law" "law" s_law f fd)
    (z_int : mg "int" = none) (z_len : mg "len" = none) (z_range : mg "range" = none) (z_repr : mg "repr" = none) (z_str : mg "str" = none) (z_tuple : mg "tuple" = none) (C__law_closed : CalG P w K mg base 1 "_law_closed" 2 F__law_closed) (C__law_draw : CalG P w K mg base 1 "_law_draw" 2 F__law_draw) (C__law_group : CalG P w K mg base 3 "_law_group" 2 F__law_group) (C__law_heap : CalG P w K mg base 1 "_law_heap" 2 F__law_heap) (C__law_pick : CalG P w K mg base 2 "_law_pick" 2 F__law_pick) (C__law_powers : CalG P w K mg base 1 "_law_powers" 2 F__law_powers) {A_InvalidNumber : Addr} (C__law_refused : CalG P w K mg base 7 "_law_refused" 5 (F__law_refused A_InvalidNumber)) (C_centre : CalG P w K mg base 2 "centre" 1 F_centre) (C_generated : CalG P w K mg base 5 "generated" 2 F_generated) (C_inverse : CalG P w K mg base 5 "inverse" 2 F_inverse) (C_is_commutative : CalG P w K mg base 2 "is_commutative" 1 F_is_commutative) (C_opposite : CalG P w K mg base 1 "opposite" 1 F_opposite) (C_order_of : CalG P w K mg base 5 "order_of" 2 F_order_of) (C_power : CalG P w K mg base 6 "power" 3 F_power) (C_times : CalG P w K mg base 5 "times" 3 F_times) (K_times_210 : KwG P w K mg base 5 "times" ["two", "one", "table"] [2, 1, 0] 3 F_times) (K_inverse_10 : KwG P w K mg base 5 "inverse" ["one", "table"] [1, 0] 2 F_inverse) (K_order_of_10 : KwG P w K mg base 5 "order_of" ["one", "table"] [1, 0] 2 F_order_of) (K_power_210 : KwG P w K mg base 6 "power" ["many", "one", "table"] [2, 1, 0] 3 F_power) (K_opposite_0 : KwG P w K mg base 1 "opposite" ["table"] [0] 1 F_opposite) (K_centre_0 : KwG P w K mg base 2 "centre" ["table"] [0] 1 F_centre) (K_generated_10 : KwG P w K mg base 5 "generated" ["shares", "table"] [1, 0] 2 F_generated) (K_is_commutative_0 : KwG P w K mg base 2 "is_commutative" ["table"] [0] 1 F_is_commutative) :
    FnG P w K mg base 8 f fd ["_law_script"] (spF K mg (["_law_script"] : List Str).length (F_law A_InvalidNumber)) := by
  delta F_law
  refine fng_ok (P := P) (w := w) (mg := mg) (base := base) (k := 7) F sc_law (by decide) ?_
  intro cdv A outer s H E hr
  conv => arg 2; whnf
  delta m_law
  exact (Tr.s_cons (Tr.s_set (i := 1) sc_law.nd rfl (.inr rfl) (Tr.x_callG (C__law_heap.le (by decide)) (takes_of rfl rfl rfl rfl) hr rfl (Tr.ag_v (PE.pV (Tr.p_var (pv 0))) (Tr.ag_v (PE.pV Tr.p_int) Tr.ag_nil))))
    (Tr.s_cons (Tr.s_setF (i := 2) sc_law.nd rfl (.inr rfl) (PE.vx (Tr.v_ix (PE.pv (Tr.x_callG (C__law_group.le (by decide)) (takes_of rfl rfl rfl rfl) hr rfl (Tr.ag_l (pv 1) (Tr.ag_v (PE.pV Tr.p_int) Tr.ag_nil)))) (PE.pV Tr.p_int) (fun _ _ => rfl))))
    (Tr.s_cons (Tr.s_setF (i := 3) sc_law.nd rfl (.inr rfl) (PE.px (Tr.p_callB lenD_ok Tr.c_len rfl z_len (by decide +kernel) (PE.pc (Tr.p_var (pv 2))))))
    (Tr.s_cons (Tr.s_asg (Tr.v_tup (Tr.lv_cons (PE.pv (Tr.x_callG (C__law_draw.le (by decide)) (takes_of rfl rfl rfl rfl) hr rfl (Tr.ag_l (pv 1) (Tr.ag_v (PE.pV (Tr.p_var (pv 3))) Tr.ag_nil)))) (Tr.lv_cons (PE.pv (Tr.x_callG (C__law_draw.le (by decide)) (takes_of rfl rfl rfl rfl) hr rfl (Tr.ag_l (pv 1) (Tr.ag_v (PE.pV (Tr.p_var (pv 3))) Tr.ag_nil)))) Tr.lv_nil))) (Tr.g_tup rfl (Tr.gs_cons (Tr.g_name sc_law.nd rfl (.inr rfl)) (Tr.gs_cons (Tr.g_name sc_law.nd rfl (.inl rfl)) Tr.gs_nil))))
    (Tr.s_cons (Tr.s_if (PW.pt (Tr.y_or (Tr.y_cmp (op_neS hr.toRoom.units) neS_ok.s (Tr.v_callB reprD_ok (call_reprD hr) rfl z_repr (by decide +kernel) (PE.pv (Tr.x_callG (C_times.le (by decide)) (takes_of rfl rfl rfl rfl) hr rfl (Tr.ag_v (PE.pV (Tr.p_var (pv 2))) (Tr.ag_v (PE.pV (Tr.p_var (pv 4))) (Tr.ag_v (PE.pV (Tr.p_var (pv 5))) Tr.ag_nil)))))) (PE.pV (Tr.p_callB reprD_ok (call_reprD hr) rfl z_repr (by decide +kernel) (PE.pc (Tr.p_ix (Tr.p_ix (Tr.p_var (pv 2)) (Tr.p_var (pv 4)) (fun _ _ => rfl)) (Tr.p_var (pv 5)) (fun _ _ => rfl))))) (nomark _)) (Tr.y_or1 (Tr.y_cmp (op_neD hr.toRoom.units) neD_ok.s (PE.pv (Tr.x_callKG K_times_210 (takes_of rfl rfl rfl rfl) (hr.le (by decide)) rfl (kp_cons (Tr.p_var (pv 4)) (kp_cons (Tr.p_var (pv 5)) (kp_cons (Tr.p_var (pv 2)) kp_nil))) (ll_c (ll_c (ll_c ll_n))))) (PE.pV (Tr.p_ix (Tr.p_ix (Tr.p_var (pv 2)) (Tr.p_var (pv 5)) (fun _ _ => rfl)) (Tr.p_var (pv 4)) (fun _ _ => rfl))) (nomark _))))) (Tr.s_one (Tr.s_ret (PE.px Tr.p_bl))) Tr.s_nil)
    (Tr.s_cons (Tr.s_setF (i := 6) sc_law.nd rfl (.inl rfl) (Tr.x_callG (C_inverse.le (by decide)) (takes_of rfl rfl rfl rfl) hr rfl (Tr.ag_v (PE.pV (Tr.p_var (pv 2))) (Tr.ag_v (PE.pV (Tr.p_var (pv 4))) Tr.ag_nil))))
    (Tr.s_cons (Tr.s_if (PW.pt (Tr.y_or (Tr.y_cmp (op_neS hr.toRoom.units) neS_ok.s (PE.pV (Tr.p_callB reprD_ok (call_reprD hr) rfl z_repr (by decide +kernel) (PE.pc (Tr.p_var (pv 6))))) (Tr.v_callB reprD_ok (call_reprD hr) rfl z_repr (by decide +kernel) (Tr.v_ix (PE.pv (Tr.x_lc (own := [("_law_share", 18)]) rfl sc_law.nd (Tr.i_range1 rfl z_range (PE.pV (Tr.p_var (pv 3)))) (blkOk_by (own := [("_law_share", 18)]) (N := N_law) (sc := (defScope s_law)) (by decide +kernel)) (fun _ _ _ _ _ => (Tr.g_name sc_law.nd rfl (.inl rfl))) (fun _ _ _ _ _ => (Tr.t_one (PT.qy (Tr.q_cmp (op_eqD hr.toRoom.units) eqD_ok (PE.pb (Tr.p_ix (Tr.p_ix (Tr.p_var (pv 2)) (Tr.p_var (pv 18)) (fun _ _ => rfl)) (Tr.p_var (pv 4)) (fun _ _ => rfl))) (PE.pb Tr.p_int) (nomark _))))) (fun _ _ _ _ _ => (PE.px (Tr.p_var (pv 18)))) (by decide))) (PE.pV Tr.p_int) (fun _ _ => rfl))) (nomark _)) (Tr.y_or1 (Tr.y_cmp (op_neD hr.toRoom.units) neD_ok.s (PE.pv (Tr.x_callKG K_inverse_10 (takes_of rfl rfl rfl rfl) (hr.le (by decide)) rfl (kp_cons (Tr.p_var (pv 6)) (kp_cons (Tr.p_var (pv 2)) kp_nil)) (ll_c (ll_c ll_n)))) (PE.pV (Tr.p_var (pv 4))) (nomark _))))) (Tr.s_one (Tr.s_ret (PE.px Tr.p_bl))) Tr.s_nil)
    (Tr.s_cons (Tr.s_asg (Tr.v_tup (Tr.lv_cons (PE.pv (Tr.x_callG (C__law_powers.le (by decide)) (takes_of rfl rfl rfl rfl) hr rfl (Tr.ag_v (PE.pV (Tr.p_var (pv 2))) (Tr.ag_v (PE.pV (Tr.p_var (pv 4))) Tr.ag_nil)))) (Tr.lv_cons (Tr.v_callT tupD_ok call_tupB rfl z_tuple (by decide +kernel) (PE.pv (Tr.x_lc (own := [("_law_at", 16)]) rfl sc_law.nd (Tr.i_range1 rfl z_range (PE.pV (Tr.p_var (pv 3)))) (blkOk_by (own := [("_law_at", 16)]) (N := N_law) (sc := (defScope s_law)) (by decide +kernel)) (fun _ _ _ _ _ => (Tr.g_name sc_law.nd rfl (.inr rfl))) (fun _ _ _ _ _ => Tr.t_nil) (fun _ _ _ _ _ => (PE.vx (Tr.v_callT tupD_ok call_tupB rfl z_tuple (by decide +kernel) (PE.pv (Tr.x_lc (own := [("_law_row", 17)]) rfl sc_law.nd (Tr.i_seq (PE.pV (Tr.p_var (pv 2)))) (blkOk_by (own := [("_law_row", 17)]) (by kernel_rfl)) (fun _ _ _ _ _ => (Tr.g_name sc_law.nd rfl (.inl rfl))) (fun _ _ _ _ _ => Tr.t_nil) (fun _ _ _ _ _ => (PE.px (Tr.p_ix (Tr.p_var (pv 17)) (Tr.p_var (pv 16)) (fun _ _ => rfl)))) (by decide)))))) (by decide)))) Tr.lv_nil))) (Tr.g_tup rfl (Tr.gs_cons (Tr.g_name sc_law.nd rfl (.inl rfl)) (Tr.gs_cons (Tr.g_name sc_law.nd rfl (.inr rfl)) Tr.gs_nil))))
    (Tr.s_cons (Tr.s_if (PW.pt (Tr.y_or (Tr.y_cmp (op_neS hr.toRoom.units) neS_ok.s (Tr.v_callB reprD_ok (call_reprD hr) rfl z_repr (by decide +kernel) (PE.pv (Tr.x_callG (C_order_of.le (by decide)) (takes_of rfl rfl rfl rfl) hr rfl (Tr.ag_v (PE.pV (Tr.p_var (pv 2))) (Tr.ag_v (PE.pV (Tr.p_var (pv 4))) Tr.ag_nil))))) (PE.pV (Tr.p_callB reprD_ok (call_reprD hr) rfl z_repr (by decide +kernel) (PE.pc (Tr.p_callB lenD_ok Tr.c_len rfl z_len (by decide +kernel) (PE.pc (Tr.p_var (pv 7))))))) (nomark _)) (Tr.y_or1 (Tr.y_cmp (op_neD hr.toRoom.units) neD_ok.s (PE.pv (Tr.x_callKG K_order_of_10 (takes_of rfl rfl rfl rfl) (hr.le (by decide)) rfl (kp_cons (Tr.p_var (pv 5)) (kp_cons (Tr.p_var (pv 2)) kp_nil)) (ll_c (ll_c ll_n)))) (Tr.v_callB lenD_ok Tr.c_len rfl z_len (by decide +kernel) (PE.pv (Tr.x_callG (C__law_powers.le (by decide)) (takes_of rfl rfl rfl rfl) hr rfl (Tr.ag_v (PE.pV (Tr.p_var (pv 2))) (Tr.ag_v (PE.pV (Tr.p_var (pv 5))) Tr.ag_nil))))) (nomark _))))) (Tr.s_one (Tr.s_ret (PE.px Tr.p_bl))) Tr.s_nil)
    (Tr.s_cons (Tr.s_setF (i := 9) sc_law.nd rfl (.inl rfl) (Tr.x_callG (C__law_pick.le (by decide)) (takes_of rfl rfl rfl rfl) hr rfl (Tr.ag_l (pv 1) (Tr.ag_v (PE.pv (Tr.x_lst (Tr.lx_cons (PE.px Tr.p_int) (Tr.lx_cons (PE.px Tr.p_int) (Tr.lx_cons (PE.px Tr.p_int) (Tr.lx_cons (PE.px Tr.p_int) (Tr.lx_cons (PE.px (Tr.p_var (pv 3))) (Tr.lx_cons (PE.px (Tr.p_op op_addA addD_ok (Tr.p_var (pv 3)) Tr.p_int)) (Tr.lx_cons (PE.px (Tr.p_op op_pow powD_ok.s Tr.p_int Tr.p_int)) (Tr.lx_cons (Tr.x_callG (C__law_draw.le (by decide)) (takes_of rfl rfl rfl rfl) hr rfl (Tr.ag_l (pv 1) (Tr.ag_v (PE.pV (Tr.p_op op_pow powD_ok.s Tr.p_int Tr.p_int)) Tr.ag_nil))) Tr.lx_nil)))))))))) Tr.ag_nil))))
    (Tr.s_cons (Tr.s_for (passes_of rfl) rfl (Tr.i_seq (PE.pV (Tr.p_lst (Tr.lp_cons (Tr.p_var (pv 9)) (Tr.lp_cons (Tr.p_op op_sub subD_ok.s Tr.p_int (Tr.p_var (pv 9))) (Tr.lp_cons (Tr.p_op op_sub subD_ok.s Tr.p_int Tr.p_int) (Tr.lp_cons (Tr.p_op op_addA addD_ok (Tr.p_var (pv 9)) (Tr.p_callB lenD_ok Tr.c_len rfl z_len (by decide +kernel) (PE.pc (Tr.p_var (pv 7))))) Tr.lp_nil))))))) (Tr.g_name sc_law.nd rfl (.inl rfl)) (Tr.s_one (Tr.s_if (Tr.y_cmp (op_neS hr.toRoom.units) neS_ok.s (Tr.v_callB reprD_ok (call_reprD hr) rfl z_repr (by decide +kernel) (PE.pv (Tr.x_callG (C_power.le (by decide)) (takes_of rfl rfl rfl rfl) hr rfl (Tr.ag_v (PE.pV (Tr.p_var (pv 2))) (Tr.ag_v (PE.pV (Tr.p_var (pv 4))) (Tr.ag_v (PE.pV (Tr.p_var (pv 10))) Tr.ag_nil)))))) (PE.pV (Tr.p_callB reprD_ok (call_reprD hr) rfl z_repr (by decide +kernel) (PE.pc (Tr.p_ix (Tr.p_var (pv 7)) (Tr.p_op op_mod modD_ok.s (Tr.p_callT intD_ok call_int1 rfl z_int (by decide +kernel) (PE.pc (Tr.p_var (pv 10)))) (Tr.p_callB lenD_ok Tr.c_len rfl z_len (by decide +kernel) (PE.pc (Tr.p_var (pv 7))))) (fun _ _ => rfl))))) (nomark _)) (Tr.s_one (Tr.s_ret (PE.px Tr.p_bl))) Tr.s_nil)))
    (Tr.s_cons (Tr.s_if (Tr.y_cmp (op_neD hr.toRoom.units) neD_ok.s (PE.pv (Tr.x_callKG K_power_210 (takes_of rfl rfl rfl rfl) (hr.le (by decide)) rfl (kp_cons (Tr.p_var (pv 9)) (kp_cons (Tr.p_var (pv 5)) (kp_cons (Tr.p_var (pv 2)) kp_nil))) (ll_c (ll_c (ll_c ll_n))))) (Tr.v_ix (PE.pv (Tr.x_callG (C__law_powers.le (by decide)) (takes_of rfl rfl rfl rfl) hr rfl (Tr.ag_v (PE.pV (Tr.p_var (pv 2))) (Tr.ag_v (PE.pV (Tr.p_var (pv 5))) Tr.ag_nil)))) (Tr.v_op op_mod modD_ok.s (PE.pV (Tr.p_callT intD_ok call_int1 rfl z_int (by decide +kernel) (PE.pc (Tr.p_var (pv 9))))) (Tr.v_callB lenD_ok Tr.c_len rfl z_len (by decide +kernel) (PE.pv (Tr.x_callG (C__law_powers.le (by decide)) (takes_of rfl rfl rfl rfl) hr rfl (Tr.ag_v (PE.pV (Tr.p_var (pv 2))) (Tr.ag_v (PE.pV (Tr.p_var (pv 5))) Tr.ag_nil)))))) (fun _ _ => rfl)) (nomark _)) (Tr.s_one (Tr.s_ret (PE.px Tr.p_bl))) Tr.s_nil)
    (Tr.s_cons (Tr.s_setF (i := 11) sc_law.nd rfl (.inl rfl) (PE.vx (Tr.v_callT tupD_ok call_tupB rfl z_tuple (by decide +kernel) (PE.pv (Tr.x_lc (own := [("_law_turn", 19)]) rfl sc_law.nd (Tr.i_range1 rfl z_range (PE.pv (Tr.x_callG (C__law_draw.le (by decide)) (takes_of rfl rfl rfl rfl) hr rfl (Tr.ag_l (pv 1) (Tr.ag_v (PE.pV Tr.p_int) Tr.ag_nil))))) (blkOk_by (own := [("_law_turn", 19)]) (N := N_law) (sc := (defScope s_law)) (by decide +kernel)) (fun _ _ _ _ _ => (Tr.g_name sc_law.nd rfl (.inl rfl))) (fun _ _ _ _ _ => Tr.t_nil) (fun _ _ _ _ _ => (Tr.x_callG (C__law_draw.le (by decide)) takes0 hr rfl (Tr.ag_l (pv 1) (Tr.ag_v (PE.pV (Tr.p_var (pv 3))) Tr.ag_nil)))) (by decide))))))
    (Tr.s_cons (Tr.s_for (passes_of rfl) rfl (Tr.i_seq (PE.pV (Tr.p_lst (Tr.lp_cons (Tr.p_var (pv 11)) (Tr.lp_cons (Tr.p_tup (Tr.lp_cons (Tr.p_var (pv 4)) Tr.lp_nil)) (Tr.lp_cons (Tr.p_tup (Tr.lp_cons (Tr.p_var (pv 4)) (Tr.lp_cons (Tr.p_var (pv 5)) Tr.lp_nil))) (Tr.lp_cons (Tr.p_tup (Tr.lp_cons (Tr.p_var (pv 5)) (Tr.lp_cons (Tr.p_var (pv 4)) (Tr.lp_cons (Tr.p_var (pv 5)) (Tr.lp_cons Tr.p_int Tr.lp_nil))))) (Tr.lp_cons (Tr.p_tup Tr.lp_nil) Tr.lp_nil)))))))) (Tr.g_name sc_law.nd rfl (.inl rfl)) (Tr.s_one (Tr.s_if (Tr.y_cmp (op_neS hr.toRoom.units) neS_ok.s (Tr.v_callB reprD_ok (call_reprD hr) rfl z_repr (by decide +kernel) (PE.pv (Tr.x_callG (C_generated.le (by decide)) (takes_of rfl rfl rfl rfl) hr rfl (Tr.ag_v (PE.pV (Tr.p_var (pv 2))) (Tr.ag_v (PE.pV (Tr.p_var (pv 12))) Tr.ag_nil))))) (Tr.v_callB reprD_ok (call_reprD hr) rfl z_repr (by decide +kernel) (PE.pv (Tr.x_callG (C__law_closed.le (by decide)) (takes_of rfl rfl rfl rfl) hr rfl (Tr.ag_v (PE.pV (Tr.p_var (pv 2))) (Tr.ag_v (PE.pV (Tr.p_var (pv 12))) Tr.ag_nil))))) (nomark _)) (Tr.s_one (Tr.s_ret (PE.px Tr.p_bl))) Tr.s_nil)))
    (Tr.s_cons (Tr.s_setF (i := 13) sc_law.nd rfl (.inl rfl) (PE.vx (Tr.v_callT tupD_ok call_tupB rfl z_tuple (by decide +kernel) (PE.pv (Tr.x_lc (own := [("_law_share", 18)]) rfl sc_law.nd (Tr.i_range1 rfl z_range (PE.pV (Tr.p_var (pv 3)))) (blkOk_by (own := [("_law_share", 18)]) (N := N_law) (sc := (defScope s_law)) (by decide +kernel)) (fun _ _ _ _ _ => (Tr.g_name sc_law.nd rfl (.inl rfl))) (fun _ _ _ _ _ => (Tr.t_one (PT.qy (Tr.q_cmp (op_eqD hr.toRoom.units) eqD_ok (PE.pb (Tr.p_ix (Tr.p_var (pv 2)) (Tr.p_var (pv 18)) (fun _ _ => rfl))) (PE.pb (Tr.p_ix (Tr.p_var (pv 8)) (Tr.p_var (pv 18)) (fun _ _ => rfl))) (nomark _))))) (fun _ _ _ _ _ => (PE.px (Tr.p_var (pv 18)))) (by decide))))))
    (Tr.s_cons (Tr.s_if (PW.pt (Tr.y_or (Tr.y_cmp (op_neS hr.toRoom.units) neS_ok.s (Tr.v_callB reprD_ok (call_reprD hr) rfl z_repr (by decide +kernel) (PE.pv (Tr.x_callG (C_centre.le (by decide)) (takes_of rfl rfl rfl rfl) hr rfl (Tr.ag_v (PE.pV (Tr.p_var (pv 2))) Tr.ag_nil)))) (PE.pV (Tr.p_callB reprD_ok (call_reprD hr) rfl z_repr (by decide +kernel) (PE.pc (Tr.p_var (pv 13))))) (nomark _)) (Tr.y_or1 (Tr.y_cmp (op_neS hr.toRoom.units) neS_ok.s (Tr.v_callB reprD_ok (call_reprD hr) rfl z_repr (by decide +kernel) (PE.pv (Tr.x_callG (C_is_commutative.le (by decide)) (takes_of rfl rfl rfl rfl) hr rfl (Tr.ag_v (PE.pV (Tr.p_var (pv 2))) Tr.ag_nil)))) (PE.pV (Tr.p_callB reprD_ok (call_reprD hr) rfl z_repr (by decide +kernel) (PE.pc (Tr.p_cmp (op_eqD hr.toRoom.units) eqD_ok (PE.pb (Tr.p_callB lenD_ok Tr.c_len rfl z_len (by decide +kernel) (PE.pc (Tr.p_var (pv 13))))) (PE.pb (Tr.p_var (pv 3))) (nomark _))))) (nomark _))))) (Tr.s_one (Tr.s_ret (PE.px Tr.p_bl))) Tr.s_nil)
    (Tr.s_cons (Tr.s_if (PW.pt (Tr.y_or (Tr.y_cmp (op_neS hr.toRoom.units) neS_ok.s (Tr.v_callB reprD_ok (call_reprD hr) rfl z_repr (by decide +kernel) (PE.pv (Tr.x_callKG K_opposite_0 (takes_of rfl rfl rfl rfl) (hr.le (by decide)) rfl (kp_cons (Tr.p_var (pv 2)) kp_nil) (ll_c ll_n)))) (PE.pV (Tr.p_callB reprD_ok (call_reprD hr) rfl z_repr (by decide +kernel) (PE.pc (Tr.p_var (pv 8))))) (nomark _)) (Tr.y_or (Tr.y_cmp (op_neD hr.toRoom.units) neD_ok.s (PE.pv (Tr.x_callKG K_centre_0 (takes_of rfl rfl rfl rfl) (hr.le (by decide)) rfl (kp_cons (Tr.p_var (pv 8)) kp_nil) (ll_c ll_n))) (PE.pV (Tr.p_var (pv 13))) (nomark _)) (Tr.y_or1 (Tr.y_cmp (op_neD hr.toRoom.units) neD_ok.s (PE.pv (Tr.x_callKG K_generated_10 (takes_of rfl rfl rfl rfl) (hr.le (by decide)) rfl (kp_cons (Tr.p_var (pv 11)) (kp_cons (Tr.p_var (pv 8)) kp_nil)) (ll_c (ll_c ll_n)))) (PE.pv (Tr.x_callG (C__law_closed.le (by decide)) (takes_of rfl rfl rfl rfl) hr rfl (Tr.ag_v (PE.pV (Tr.p_var (pv 2))) (Tr.ag_v (PE.pV (Tr.p_var (pv 11))) Tr.ag_nil)))) (nomark _)))))) (Tr.s_one (Tr.s_ret (PE.px Tr.p_bl))) Tr.s_nil)
    (Tr.s_cons (Tr.s_setF (i := 14) sc_law.nd rfl (.inl rfl) (Tr.x_callG (C__law_pick.le (by decide)) (takes_of rfl rfl rfl rfl) hr rfl (Tr.ag_l (pv 1) (Tr.ag_v (PE.pV (Tr.p_lst (Tr.lp_cons (Tr.p_var (pv 3)) (Tr.lp_cons (Tr.p_op op_addA addD_ok (Tr.p_var (pv 3)) Tr.p_int) (Tr.lp_cons (Tr.p_op op_sub subD_ok.s Tr.p_int Tr.p_int) (Tr.lp_cons Tr.p_non (Tr.lp_cons (Tr.p_cmp (op_eqD hr.toRoom.units) eqD_ok (PE.pb (Tr.p_var (pv 4))) (PE.pb (Tr.p_var (pv 4))) (nomark _)) (Tr.lp_cons (Tr.p_callT strD_ok call_str_int rfl z_str (by decide +kernel) (PE.pc (Tr.p_var (pv 4)))) (Tr.lp_cons (Tr.p_lst (Tr.lp_cons (Tr.p_var (pv 4)) Tr.lp_nil)) (Tr.lp_cons (Tr.p_tup (Tr.lp_cons (Tr.p_var (pv 4)) Tr.lp_nil)) (Tr.lp_cons (Tr.p_op op_pow powD_ok.s Tr.p_int Tr.p_int) Tr.lp_nil))))))))))) Tr.ag_nil))))
    (Tr.s_cons (Tr.s_setF (i := 15) sc_law.nd rfl (.inl rfl) (Tr.x_callG (C__law_pick.le (by decide)) (takes_of rfl rfl rfl rfl) hr rfl (Tr.ag_l (pv 1) (Tr.ag_v (PE.pV (Tr.p_lst (Tr.lp_cons Tr.p_non (Tr.lp_cons Tr.p_str (Tr.lp_cons (Tr.p_cmp (op_eqD hr.toRoom.units) eqD_ok (PE.pb (Tr.p_var (pv 4))) (PE.pb (Tr.p_var (pv 4))) (nomark _)) (Tr.lp_cons (Tr.p_lst (Tr.lp_cons Tr.p_int Tr.lp_nil)) (Tr.lp_cons (Tr.p_tup (Tr.lp_cons Tr.p_int Tr.lp_nil)) Tr.lp_nil))))))) Tr.ag_nil))))
    (Tr.s_cons (Tr.s_setF (i := 16) sc_law.nd rfl (.inl rfl) (Tr.x_callG (C__law_draw.le (by decide)) (takes_of rfl rfl rfl rfl) hr rfl (Tr.ag_l (pv 1) (Tr.ag_v (PE.pV (Tr.p_op op_addA addD_ok (Tr.p_callB lenD_ok Tr.c_len rfl z_len (by decide +kernel) (PE.pc (Tr.p_var (pv 11)))) Tr.p_int)) Tr.ag_nil))))
    (Tr.s_cons (Tr.s_setF (i := 17) sc_law.nd rfl (.inl rfl) (PE.px (Tr.p_op op_addA addD_ok (Tr.p_op op_addA addD_ok (Tr.p_slice (PE.pc (Tr.p_var (pv 11))) Tr.o_none (Tr.o_some (Tr.p_var (pv 16)))) (Tr.p_tup (Tr.lp_cons (Tr.p_var (pv 14)) Tr.lp_nil))) (Tr.p_slice (PE.pc (Tr.p_var (pv 11))) (Tr.o_some (Tr.p_var (pv 16))) Tr.o_none))))
    (Tr.s_cons (Tr.s_if (PW.pt (Tr.y_or (Tr.y_cmp (op_neD hr.toRoom.units) neD_ok.s (PE.pv (Tr.x_callG (C__law_refused.le (by decide)) (takes_of rfl rfl rfl rfl) hr rfl (Tr.ag_v (PE.pV (Tr.p_var (pv 2))) (Tr.ag_v (PE.pV (Tr.p_var (pv 14))) (Tr.ag_v (PE.pV (Tr.p_var (pv 5))) (Tr.ag_v (PE.pV (Tr.p_var (pv 15))) (Tr.ag_v (PE.pV (Tr.p_var (pv 17))) Tr.ag_nil))))))) (PE.pV (Tr.p_op op_mulA mulD_ok (Tr.p_lst (Tr.lp_cons Tr.p_str Tr.lp_nil)) Tr.p_int)) (nomark _)) (Tr.y_or1 (Tr.y_cmp (op_neD hr.toRoom.units) neD_ok.s (PE.pv (Tr.x_callKG K_is_commutative_0 (takes_of rfl rfl rfl rfl) (hr.le (by decide)) rfl (kp_cons (Tr.p_var (pv 8)) kp_nil) (ll_c ll_n))) (PE.pV (Tr.p_cmp (op_eqD hr.toRoom.units) eqD_ok (PE.pb (Tr.p_callB lenD_ok Tr.c_len rfl z_len (by decide +kernel) (PE.pc (Tr.p_var (pv 13))))) (PE.pb (Tr.p_var (pv 3))) (nomark _))) (nomark _))))) (Tr.s_one (Tr.s_ret (PE.px Tr.p_bl))) Tr.s_nil)
    (Tr.s_one (Tr.s_ret (PE.vx (Tr.v_cmp (op_eqD hr.toRoom.units) eqD_ok.s (PE.pv (Tr.x_callG (C__law_refused.le (by decide)) (takes_of rfl rfl rfl rfl) hr rfl (Tr.ag_v (PE.pV (Tr.p_var (pv 2))) (Tr.ag_v (PE.pV (Tr.p_var (pv 4))) (Tr.ag_v (PE.pV (Tr.p_var (pv 5))) (Tr.ag_v (PE.pV (Tr.p_var (pv 15))) (Tr.ag_v (PE.pV (Tr.p_var (pv 11))) Tr.ag_nil))))))) (PE.pV (Tr.p_lst (Tr.lp_cons Tr.p_non (Tr.lp_cons Tr.p_non (Tr.lp_cons Tr.p_non (Tr.lp_cons Tr.p_str (Tr.lp_cons Tr.p_non (Tr.lp_cons Tr.p_non Tr.lp_nil)))))))) (nomark _)))))))))))))))))))))))))))
end K37
namespace Tr
open PySem L2
/-! ### loops, in plain words -/
theorem lcL_filter {t : D → Rho → Option Rho} {q : Mo Bool} {fe : Mo O} {vs : List Nat} {p : D → Bool} {g : D → O} {ρ : Rho} : ∀ {ds : List D}, (∀ d ∈ ds, ∃ ρ1, t d ρ = some ρ1 ∧ q ρ1 = some (.ok (p d) ρ1) ∧ wipeR ρ1 vs = ρ ∧ (p d = true → ∃ ρ2, fe ρ1 = some (.ok (g d) ρ2) ∧ wipeR ρ2 vs = ρ)) →
    lcL t q fe vs ds ρ = some ((ds.filter p).map g, ρ)
  | [], _ => rfl
  | d :: ds, h => by
    obtain ⟨ρ1, h1, h2, h3, h4⟩ := h d (List.mem_cons_self ..)
    have ih := lcL_filter (ds := ds) fun d' m => h d' (List.mem_cons_of_mem _ m)
    unfold lcL
    rw [h1]
    dsimp only
    rw [h2]
    cases hp : p d with
    | true =>
      obtain ⟨ρ2, h5, h6⟩ := h4 hp
      dsimp only
      rw [h5]
      dsimp only
      rw [h6, ih, List.filter_cons_of_pos hp]
      rfl
    | false =>
      dsimp only
      rw [h3, ih, List.filter_cons_of_neg (by rw [hp]; exact Bool.false_ne_true)]
theorem lcL_map {t : D → Rho → Option Rho} {q : Mo Bool} {fe : Mo O} {vs : List Nat} {g : D → O} {ρ : Rho} {ds : List D} (h : ∀ d ∈ ds, ∃ ρ1 ρ2, t d ρ = some ρ1 ∧ q ρ1 = some (.ok true ρ1) ∧ wipeR ρ1 vs = ρ ∧ fe ρ1 = some (.ok (g d) ρ2) ∧ wipeR ρ2 vs = ρ) :
    lcL t q fe vs ds ρ = some (ds.map g, ρ) := by
  have := lcL_filter (t := t) (q := q) (fe := fe) (vs := vs) (p := fun _ => true) (g := g) (ρ := ρ) (ds := ds) fun d m => by
    obtain ⟨ρ1, ρ2, h1, h2, h3, h4, h5⟩ := h d m
    exact ⟨ρ1, h1, h2, h3, fun _ => ⟨ρ2, h4, h5⟩⟩
  rw [this, List.filter_eq_self.mpr fun _ _ => rfl]
theorem find_map {α β : Type} {p : β → Bool} {f : α → β} : ∀ (l : List α), (l.map f).find? p = (l.find? (p ∘ f)).map f
  | [] => rfl
  | a :: l => by
    rw [List.map_cons, List.find?_cons, List.find?_cons]
    show (match p (f a) with | true => some (f a) | false => List.find? p (List.map f l)) = Option.map f (match p (f a) with | true => some a | false => List.find? (p ∘ f) l)
    cases p (f a) with
    | true => rfl
    | false => exact find_map l
/-- a loop that goes on, or ends in a turn -/
theorem forL_find {α : Type} {t : D → Rho → Option Rho} {b : MS} {f : α → D} {St : Rho → Prop} {p : α → Bool} {Ex : α → So → Prop} (hEx : ∀ a r, Ex a r → (∃ o ρ, r = .rt o ρ) ∨ ∃ c fs ρ, r = .ex c fs ρ) : ∀ {as : List α},
    (∀ a ∈ as, ∀ ρ, St ρ → ∃ ρ1, t (f a) ρ = some ρ1 ∧ (p a = true → ∃ ρ2, b ρ1 = some (.nx ρ2) ∧ St ρ2) ∧ (p a = false → ∃ r, b ρ1 = some r ∧ Ex a r)) → ∀ ρ, St ρ →
    (as.find? (fun a => !p a) = none → ∃ ρ', forL t b (as.map f) ρ = some (.nx ρ') ∧ St ρ') ∧ (∀ a, as.find? (fun a => !p a) = some a → ∃ r, forL t b (as.map f) ρ = some r ∧ Ex a r)
  | [], _, ρ, hs => ⟨fun _ => ⟨ρ, rfl, hs⟩, fun a e => nomatch e⟩
  | a :: as, h, ρ, hs => by
    obtain ⟨ρ1, h1, h2, h3⟩ := h a (List.mem_cons_self ..) ρ hs
    rw [List.find?_cons, List.map_cons]
    unfold forL
    rw [h1]
    dsimp only
    cases hp : p a with
    | true =>
      obtain ⟨ρ2, h4, h5⟩ := h2 hp
      rw [h4]
      exact forL_find hEx (fun a' m => h a' (List.mem_cons_of_mem _ m)) ρ2 h5
    | false =>
      obtain ⟨r, h4, h5⟩ := h3 hp
      refine ⟨fun e => (by cases e), fun a' e => ?_⟩
      have e' : some a = some a' := e
      cases e'
      rw [h4]
      rcases hEx _ _ h5 with ⟨o, ρ', rfl⟩ | ⟨c, fs, ρ', rfl⟩ <;> exact ⟨_, rfl, h5⟩
/-- a loop whose every turn goes on: an invariant over what was walked -/
theorem forL_inv {α : Type} {t : D → Rho → Option Rho} {b : MS} {f : α → D} {St : List α → Rho → Prop} : ∀ {bs as : List α}, (∀ a l r, bs ++ as = l ++ a :: r → bs.length ≤ l.length → ∀ ρ, St l ρ → ∃ ρ1 ρ2, t (f a) ρ = some ρ1 ∧ (b ρ1 = some (.nx ρ2) ∨ b ρ1 = some (.ct ρ2)) ∧ St (l ++ [a]) ρ2) → ∀ ρ, St bs ρ → ∃ ρ', forL t b (as.map f) ρ = some (.nx ρ') ∧ St (bs ++ as) ρ'
  | bs, [], _, ρ, hs => ⟨ρ, rfl, by rw [List.append_nil]; exact hs⟩
  | bs, a :: as, h, ρ, hs => by
    obtain ⟨ρ1, ρ2, h1, h2, h3⟩ := h a bs as rfl (Nat.le_refl _) ρ hs
    have ih := forL_inv (bs := bs ++ [a]) (as := as) (t := t) (b := b) (f := f) (St := St) (fun a' l r e hl => h a' l r (by rw [← e, List.append_assoc]; rfl) (by rw [List.length_append] at hl; simp at hl; omega)) ρ2 h3
    obtain ⟨ρ', e1, e2⟩ := ih
    rw [List.append_assoc] at e2
    refine ⟨ρ', ?_, e2⟩
    rw [List.map_cons]
    unfold forL
    rw [h1]
    dsimp only
    rcases h2 with h2 | h2 <;> (rw [h2]; exact e1)
theorem rngD_eq (n : Nat) : rngD 0 n = (List.range n).map fun i => D.int (i : Nat) := by
  unfold rngD
  apply List.map_congr_left
  intro i _
  rw [Int.zero_add]
theorem enumD_eq (ds : List D) : enumD ds = (List.range ds.length).map fun i => .tup [.int (i : Nat), ds.getD i .non] := by
  unfold enumD
  apply List.ext_getElem?
  intro i
  rw [List.getElem?_mapIdx, List.getElem?_map]
  by_cases h : i < ds.length
  · rw [List.getElem?_range h, List.getElem?_eq_getElem h, Option.map_some, Option.map_some, List.getD_eq_getElem?_getD, List.getElem?_eq_getElem h]
    rfl
  · rw [List.getElem?_eq_none (by omega), List.getElem?_eq_none (by simpa using h)]
    rfl
theorem atI_nat' {α : Type} {xs : List α} {j : Nat} {x : α} (h : xs[j]? = some x) : atI xs (j : Int) = some x := L2.atI_nat h
theorem mkL_map {α : Type} (f : α → D) (l : List α) : mkL (l.map fun d => O.fr (f d)) = .fl (l.map f) := by
  have e : (l.map fun d => O.fr (f d)) = (l.map f).map .fr := by rw [List.map_map]; rfl
  rw [e, mkL_fr]
theorem mkL_fr' (ds : List D) : mkL (ds.map .fr) = .fl ds := mkL_fr ds
/-! ### comparing whole numbers and lists of them -/
theorem pys_map (ns : List Int) : D.pys (ns.map .int) = ns.map PyData.int := by
  induction ns with
  | nil => rw [List.map_nil, List.map_nil, D.pys]
  | cons n ns ih => rw [List.map_cons, List.map_cons, D.pys, D.py, ih]
theorem isPy_int (n : Int) : D.isPy (.int n) = true := by first | rfl | simp [D.isPy]
theorem arePy_map (ns : List Int) : D.arePy (ns.map .int) = true := by
  induction ns with
  | nil => rw [List.map_nil, D.arePy]
  | cons n ns ih => rw [List.map_cons, D.arePy, isPy_int, ih]; rfl
theorem lay_map (ns : List Int) : PyData.canLayAll0 (ns.map PyData.int) = true ∧ PyData.depthAll (ns.map PyData.int) = 0 := by
  induction ns with
  | nil => rw [List.map_nil, PyData.canLayAll0, PyData.depthAll]; exact ⟨rfl, rfl⟩
  | cons n ns ih => rw [List.map_cons, PyData.canLayAll0, PyData.depthAll, ih.1, ih.2, PyData.canLay0, PyData.depth]; exact ⟨rfl, rfl⟩
theorem eqv_map : ∀ (ns ms : List Int), PyData.eqvAll (ns.map PyData.int) (ms.map PyData.int) = decide (ns = ms)
  | [], [] => by simp [PyData.eqvAll]
  | [], _ :: _ => by simp [PyData.eqvAll]
  | _ :: _, [] => by simp [PyData.eqvAll]
  | n :: ns, m :: ms => by
    rw [List.map_cons, List.map_cons, PyData.eqvAll, PyData.eqv, eqv_map ns ms]
    by_cases h : n = m <;> simp [h]
theorem okPy_int (i : Int) : okPy (.int i) = true := by unfold okPy; rw [isPy_int, D.py]; first | rfl | (simp [SeqAt.shaped, PyData.canLay0, PyData.depth])
theorem okPy_tup (ns : List Int) : okPy (.tup (ns.map .int)) = true := by
  unfold okPy SeqAt.shaped
  rw [D.isPy, D.py, arePy_map, pys_map, PyData.canLay0, PyData.depth, (lay_map ns).1, (lay_map ns).2]; rfl
theorem okPy_lst (ns : List Int) : okPy (.lst (ns.map .int)) = true := by
  unfold okPy SeqAt.shaped
  rw [D.isPy, D.py, arePy_map, pys_map, PyData.canLay0, PyData.depth, (lay_map ns).1, (lay_map ns).2]; rfl
theorem eqD_int (i j : Int) : eqD (.int i) (.int j) = some (.bl (decide (i = j))) := by
  unfold eqD
  rw [okPy_int, okPy_int, if_pos ⟨rfl, rfl⟩, D.py, D.py, PyData.eqv]
  by_cases h : i = j <;> simp [h]
theorem neD_int (i j : Int) : neD (.int i) (.int j) = some (.bl (!decide (i = j))) := by
  unfold neD
  rw [okPy_int, okPy_int, if_pos ⟨rfl, rfl⟩, D.py, D.py, PyData.eqv]
  by_cases h : i = j <;> simp [h]
theorem eqD_tup (ns ms : List Int) : eqD (.tup (ns.map .int)) (.tup (ms.map .int)) = some (.bl (decide (ns = ms))) := by
  unfold eqD
  rw [okPy_tup, okPy_tup, if_pos ⟨rfl, rfl⟩, D.py, D.py, pys_map, pys_map, PyData.eqv, eqv_map]
theorem neD_lst (ns ms : List Int) : neD (.lst (ns.map .int)) (.lst (ms.map .int)) = some (.bl (!decide (ns = ms))) := by
  unfold neD
  rw [okPy_lst, okPy_lst, if_pos ⟨rfl, rfl⟩, D.py, D.py, pys_map, pys_map, PyData.eqv, eqv_map]
theorem eqD_lst (ns ms : List Int) : eqD (.lst (ns.map .int)) (.lst (ms.map .int)) = some (.bl (decide (ns = ms))) := by
  unfold eqD
  rw [okPy_lst, okPy_lst, if_pos ⟨rfl, rfl⟩, D.py, D.py, pys_map, pys_map, PyData.eqv, eqv_map]
theorem bools_map (bs : List Bool) : bools (bs.map .bl) = some bs := by
  induction bs with
  | nil => rfl
  | cons b bs ih => rw [List.map_cons, bools, ih]; rfl
theorem allD_map (ds : List D) (f : D → Bool) : allD (.lst (ds.map fun d => .bl (f d))) = some (.bl (ds.all f)) := by
  have e : (ds.map fun d => D.bl (f d)) = (ds.map f).map .bl := by rw [List.map_map]; rfl
  unfold allD
  rw [e]
  dsimp only
  rw [bools_map]
  simp [List.all_map]
theorem nodup_sub_len : ∀ {l m : List Int}, l.Nodup → (∀ x ∈ l, x ∈ m) → l.length ≤ m.length
  | [], _, _, _ => Nat.zero_le _
  | a :: l, m, hn, hs => by
    rw [List.nodup_cons] at hn
    have ha := hs a (List.mem_cons_self ..)
    have ih := nodup_sub_len (l := l) (m := m.erase a) hn.2 fun x hx => (List.mem_erase_of_ne fun e => hn.1 (by rw [← e]; exact hx)).mpr (hs x (List.mem_cons_of_mem _ hx))
    rw [List.length_erase_of_mem ha] at ih
    have := List.length_pos_of_mem ha
    rw [List.length_cons]; omega
def rgI (n : Nat) : List Int := (List.range n).map fun (i : Nat) => (Nat.cast i : Int)
theorem rgI_len (n : Nat) : (rgI n).length = n := by unfold rgI; rw [List.length_map, List.length_range]
theorem rgI_mem (n : Nat) (x : Int) : x ∈ rgI n ↔ 0 ≤ x ∧ x < n := by
  unfold rgI
  rw [List.mem_map]
  constructor
  · rintro ⟨i, hi, rfl⟩
    rw [List.mem_range] at hi
    omega
  · intro h
    exact ⟨x.toNat, by rw [List.mem_range]; omega, by omega⟩
theorem rgI_nodup (n : Nat) : (rgI n).Nodup := by
  unfold rgI
  refine List.Pairwise.map _ (fun a b (h : a ≠ b) e => h (by omega)) List.nodup_range
theorem rgI_sorted (n : Nat) : (rgI n).Pairwise (· ≤ ·) := by
  unfold rgI
  refine List.Pairwise.map _ (fun a b (h : a < b) => by omega) List.pairwise_lt_range
theorem rngD_rgI (n : Nat) : rngD 0 n = (rgI n).map .int := by rw [rngD_eq]; unfold rgI; rw [List.map_map]; rfl
/-- the numbers 0 .. n - 1 in some order, told by their set and by sorting -/
theorem perm_rg {ns : List Int} {n : Nat} (hl : ns.length = n) : (ns.Nodup ∧ ∀ x ∈ ns, 0 ≤ x ∧ x < n) ↔ sortI ns = rgI n := by
  constructor
  · rintro ⟨hn, hb⟩
    have hsub : ∀ x ∈ ns, x ∈ rgI n := fun x hx => (rgI_mem n x).mpr (hb x hx)
    have hp : ns.Perm (rgI n) := by
      rw [List.perm_ext_iff_of_nodup hn (rgI_nodup n)]
      intro x
      refine ⟨hsub x, fun hx => Classical.byContradiction fun hc => ?_⟩
      have := nodup_sub_len (l := x :: ns) (m := rgI n) (List.nodup_cons.mpr ⟨hc, hn⟩) fun y hy => by
        rcases List.mem_cons.mp hy with rfl | hy
        · exact hx
        · exact hsub y hy
      rw [rgI_len, List.length_cons] at this
      omega
    exact sorted_uniq ((sortI_perm ns).trans hp) (sortI_pw ns) (rgI_sorted n)
  · intro e
    have hp : ns.Perm (rgI n) := by rw [← e]; exact (sortI_perm ns).symm
    exact ⟨hp.nodup_iff.mpr (rgI_nodup n), fun x hx => (rgI_mem n x).mp (hp.mem_iff.mp hx)⟩
/-- a slot that may be written anew -/
def stbS : Sl → Bool
  | .no => true
  | .ow _ => true
  | .le _ => false
theorem stb_at (i : Nat) (ρ : Rho) : stb i ρ = match ρ[i]? with
    | some s => stbS s
    | none => false := by
  unfold stb
  cases ρ[i]? with
  | none => rfl
  | some s => cases s <;> rfl
theorem stbS_no : stbS .no = true := rfl
theorem stbS_ow (o : O) : stbS (.ow o) = true := rfl
end Tr
set_option maxHeartbeats 4000000
namespace K37
open PySem PySem.Spec L2 Tr
def isI : D → Bool
  | .int _ => true
  | _ => false
def below (d : D) (n : Int) : Bool := match d with
  | .int i => decide (0 ≤ i) && decide (i < n)
  | _ => false
theorem is_integer_eq (d : D) (h : d.isPy = true) : F_is_integer [.ow (.fr d)] = some (.ret (.fr (.bl (isI d))) [.no]) := by
  cases d <;> first | rfl | (rw [D.isPy] at h; cases h)
theorem is_number_eq (d : D) (h : d.isPy = true) : F_is_number [.ow (.fr d)] = some (.ret (.fr (.bl (match d with | .int i => decide (0 ≤ i) | _ => false))) [.no]) := by
  have e := is_integer_eq d h
  unfold F_is_number m_is_number
  cases d <;> first
    | (rw [D.isPy] at h; cases h; done)
    | (simp [pu1, pu2, mo1, mo2, cst, var, bor, con, conAt, flD, puV, frM, frzM, ofP, mov, frzS, tupP, lpN, lpC, lstP, lxN, lxC, lstX, lvN, lvC, tupV, andV, orV, notV, andP, orP, notP, ifP, ifM, tb, tbM, quM, notQ, notY, andQ, orQ, andY, orY, seqS, ifS, retS, retN, nxS, setF, setS, dropS, agN, agV, agL, callM, toSl, back, noDup, lents, Sl.tr, Sl.put, O.fz, gN, gT, gsN, gsC, stb_at, stbS_no, stbS_ow, frOk, wipeR, unw, itS, itR1, itR2, itE, asgS, par2, par3, raiS, chn, yes, moL, moLv, lent, runF, forS, onI0, onI, ltD, leD, gtD, geD, subD, negD, isND, notND, mkL_map, sizeLine_eq, D.isN, D.sq, D.lsq, e, isI]; done)
theorem is_below_eq (d : D) (n : Int) (h : d.isPy = true) : F_is_below [.ow (.fr d), .ow (.fr (.int n))] = some (.ret (.fr (.bl (below d n))) [.no, .no]) := by
  have e := is_number_eq d h
  unfold F_is_below m_is_below
  cases d with
  | int i =>
    by_cases h0 : 0 ≤ i <;> simp [pu1, pu2, mo1, mo2, cst, var, bor, con, conAt, flD, puV, frM, frzM, ofP, mov, frzS, tupP, lpN, lpC, lstP, lxN, lxC, lstX, lvN, lvC, tupV, andV, orV, notV, andP, orP, notP, ifP, ifM, tb, tbM, quM, notQ, notY, andQ, orQ, andY, orY, seqS, ifS, retS, retN, nxS, setF, setS, dropS, agN, agV, agL, callM, toSl, back, noDup, lents, Sl.tr, Sl.put, O.fz, gN, gT, gsN, gsC, stb_at, stbS_no, stbS_ow, frOk, wipeR, unw, itS, itR1, itR2, itE, asgS, par2, par3, raiS, chn, yes, moL, moLv, lent, runF, forS, onI0, onI, ltD, leD, gtD, geD, subD, negD, isND, notND, mkL_map, sizeLine_eq, D.isN, D.sq, D.lsq, e, below, h0]
  | _ => first
    | (rw [D.isPy] at h; cases h; done)
    | (simp [pu1, pu2, mo1, mo2, cst, var, bor, con, conAt, flD, puV, frM, frzM, ofP, mov, frzS, tupP, lpN, lpC, lstP, lxN, lxC, lstX, lvN, lvC, tupV, andV, orV, notV, andP, orP, notP, ifP, ifM, tb, tbM, quM, notQ, notY, andQ, orQ, andY, orY, seqS, ifS, retS, retN, nxS, setF, setS, dropS, agN, agV, agL, callM, toSl, back, noDup, lents, Sl.tr, Sl.put, O.fz, gN, gT, gsN, gsC, stb_at, stbS_no, stbS_ow, frOk, wipeR, unw, itS, itR1, itR2, itE, asgS, par2, par3, raiS, chn, yes, moL, moLv, lent, runF, forS, onI0, onI, ltD, leD, gtD, geD, subD, negD, isND, notND, mkL_map, sizeLine_eq, D.isN, D.sq, D.lsq, e, below]; done)
def isT : D → Bool
  | .tup _ => true
  | _ => false
theorem isiT_eq (d : D) (h : d.isPy = true) : isiD "tuple" d = some (.bl (isT d)) := by
  cases d <;> first | rfl | (rw [D.isPy] at h; cases h)
theorem arePy_mem : ∀ {ds : List D}, D.arePy ds = true → ∀ d ∈ ds, d.isPy = true
  | d :: ds, h, d', m => by
    rw [D.arePy, Bool.and_eq_true] at h
    rcases List.mem_cons.mp m with rfl | m
    · exact h.1
    · exact arePy_mem h.2 d' m
def rowB (d : D) (n : Int) : Bool := match d with
  | .tup ds => decide ((ds.length : Int) = n) && ds.all (below · n)
  | _ => false
def rowD (r : List Int) : D := .tup (r.map D.int)
def tD (rows : List (List Int)) : D := .tup (rows.map rowD)
def rowA (rows : List (List Int)) (j : Int) : List Int := rows.getD j.toNat []
def elA (r : List Int) (j : Int) : Int := r.getD j.toNat 0
/-- an entry -/
def en (rows : List (List Int)) (i j : Int) : Int := elA (rowA rows i) j
structure Vd (rows : List (List Int)) (n : Nat) : Prop where
  len : rows.length = n
  row : ∀ r ∈ rows, r.length = n ∧ ∀ x ∈ r, 0 ≤ x ∧ x < n
theorem toNat_cast (j : Int) (h : 0 ≤ j) : ((j.toNat : Nat) : Int) = j := by omega
theorem elA_get {r : List Int} {j : Int} (h0 : 0 ≤ j) (h1 : j < r.length) : ∃ h : j.toNat < r.length, elA r j = r[j.toNat] := by
  have hj : j.toNat < r.length := by omega
  refine ⟨hj, ?_⟩
  unfold elA
  rw [List.getD_eq_getElem?_getD, List.getElem?_eq_getElem hj]; rfl
theorem rowA_get {rows : List (List Int)} {j : Int} (h0 : 0 ≤ j) (h1 : j < rows.length) : ∃ h : j.toNat < rows.length, rowA rows j = rows[j.toNat] := by
  have hj : j.toNat < rows.length := by omega
  refine ⟨hj, ?_⟩
  unfold rowA
  rw [List.getD_eq_getElem?_getD, List.getElem?_eq_getElem hj]; rfl
theorem ix_int (r : List Int) (j : Int) (h0 : 0 ≤ j) (h1 : j < r.length) : ixD (rowD r) (.int j) = some (.int (elA r j)) := by
  obtain ⟨hj, e⟩ := elA_get h0 h1
  show atI (r.map D.int) j = _
  rw [← toNat_cast j h0]
  refine (atI_nat' (x := D.int (elA r j)) (by rw [List.getElem?_map, List.getElem?_eq_getElem hj, e]; rfl)).trans (by rw [toNat_cast j h0])
theorem ix_row {rows : List (List Int)} {n : Nat} (V : Vd rows n) (j : Int) (h0 : 0 ≤ j) (h1 : j < n) : ixD (tD rows) (.int j) = some (rowD (rowA rows j)) := by
  obtain ⟨hj, e⟩ := rowA_get (rows := rows) h0 (by have := V.len; omega)
  show atI (rows.map rowD) j = _
  rw [← toNat_cast j h0]
  refine (atI_nat' (x := rowD (rowA rows j)) (by rw [List.getElem?_map, List.getElem?_eq_getElem hj, e]; rfl)).trans (by rw [toNat_cast j h0])
theorem Vd.get {rows : List (List Int)} {n : Nat} (V : Vd rows n) {j : Int} (h0 : 0 ≤ j) (h1 : j < n) : (rowA rows j).length = n ∧ ∀ x ∈ rowA rows j, 0 ≤ x ∧ x < n := by
  obtain ⟨hj, e⟩ := rowA_get (rows := rows) h0 (by have := V.len; omega)
  rw [e]
  exact V.row _ (List.getElem_mem hj)
theorem Vd.en {rows : List (List Int)} {n : Nat} (V : Vd rows n) {i j : Int} (h0 : 0 ≤ i) (h1 : i < n) (h2 : 0 ≤ j) (h3 : j < n) : 0 ≤ en rows i j ∧ en rows i j < n := by
  obtain ⟨hl, hx⟩ := V.get h0 h1
  obtain ⟨hj, e⟩ := elA_get (r := rowA rows i) h2 (by omega)
  unfold K37.en
  rw [e]
  exact hx _ (List.getElem_mem hj)
theorem ix_en {rows : List (List Int)} {n : Nat} (V : Vd rows n) {i j : Int} (h0 : 0 ≤ i) (h1 : i < n) (h2 : 0 ≤ j) (h3 : j < n) : ixD (rowD (rowA rows i)) (.int j) = some (.int (en rows i j)) :=
  ix_int _ j h2 (by rw [(V.get h0 h1).1]; exact h3)
theorem lenD_t {rows : List (List Int)} {n : Nat} (V : Vd rows n) : lenD (tD rows) = some (.int n) := by
  show some (D.int ((rows.map rowD).length : Nat)) = _
  rw [List.length_map, V.len]
def regB (rows : List (List Int)) (n : Nat) (a : Int) : Bool := (List.range n).all fun (two : Nat) => (List.range n).all fun (three : Nat) => decide (en rows (en rows a two) three = en rows a (en rows two three))
theorem find_all {α : Type} {p : α → Bool} : ∀ {l : List α}, l.find? (fun a => !p a) = none ↔ l.all p = true
  | [] => by simp
  | a :: l => by
    rw [List.find?_cons, List.all_cons]
    cases h : p a with
    | true => simp [h, find_all]
    | false => simp [h]
theorem mem_range' {n i : Nat} (h : i ∈ List.range n) : i < n := List.mem_range.mp h
theorem rowD_enum (r : List Int) : enumD (r.map D.int) = (List.range r.length).map fun (i : Nat) => D.tup [.int (Nat.cast i), .int (elA r i)] := by
  rw [enumD_eq, List.length_map]
  apply List.map_congr_left
  intro i hi
  have hi' := mem_range' hi
  obtain ⟨_, e⟩ := elA_get (r := r) (j := i) (by omega) (by omega)
  rw [e, List.getD_eq_getElem?_getD, List.getElem?_map, List.getElem?_eq_getElem hi']
  rfl
def firstB (r : List Int) (k : Int) : Bool := decide r.Nodup && (if k = 0 then decide (r = rgI r.length) else decide (elA r 0 = k))
theorem lenD_row (r : List Int) : lenD (rowD r) = some (.int (Nat.cast r.length)) := by
  show some (D.int ((r.map D.int).length : Nat)) = _
  rw [List.length_map]
theorem lstRg_len (n : Nat) (h : n ≤ 4000) : lstRgD (.int (Nat.cast n)) = some ((rgI n).map .int) := by
  unfold lstRgD
  dsimp only
  rw [if_pos (show rngOk _ = true from decide_eq_true (by omega)), Int.toNat_natCast, rngD_rgI]
theorem eqD_row (r s : List Int) : eqD (rowD r) (rowD s) = some (.bl (decide (r = s))) := eqD_tup r s
def dAt (ds : List D) (i : Nat) : D := ds.getD i .non
theorem enumD_at (ds : List D) : enumD ds = (List.range ds.length).map fun (i : Nat) => .tup [.int (Nat.cast i), dAt ds i] := enumD_eq ds
theorem dAt_get {ds : List D} {i : Nat} (h : i < ds.length) : dAt ds i = ds[i] := by unfold dAt; rw [List.getD_eq_getElem?_getD, List.getElem?_eq_getElem h]; rfl
/-- the first place where p fails -/
def fst (n : Nat) (p : Nat → Bool) : Option Nat := (List.range n).find? fun i => !p i
def ints1 : List D → Option (List Int) := intsO
/-- a row as check_table sees it -/
def rOk (d : D) (n i : Nat) : Bool := rowB d n && (match d with
  | .tup ds => (match intsO ds with
    | some r => firstB r i
    | none => false)
  | _ => false)
theorem below_ints : ∀ {ds : List D} {n : Int}, ds.all (below · n) = true → ∃ r : List Int, ds = r.map .int ∧ ∀ x ∈ r, 0 ≤ x ∧ x < n
  | [], _, _ => ⟨[], rfl, fun _ h => nomatch h⟩
  | d :: ds, n, h => by
    rw [List.all_cons, Bool.and_eq_true] at h
    obtain ⟨r, e, hr⟩ := below_ints h.2
    cases d with
    | int i =>
      have hb : (decide (0 ≤ i) && decide (i < n)) = true := h.1
      rw [Bool.and_eq_true] at hb
      refine ⟨i :: r, by rw [e]; rfl, fun x hx => ?_⟩
      rcases List.mem_cons.mp hx with rfl | hx
      · exact ⟨of_decide_eq_true hb.1, of_decide_eq_true hb.2⟩
      · exact hr x hx
    | _ => exact absurd h.1 Bool.false_ne_true
theorem rowB_row {d : D} {n : Nat} (h : rowB d n = true) : ∃ r : List Int, d = rowD r ∧ r.length = n ∧ ∀ x ∈ r, 0 ≤ x ∧ x < n := by
  cases d with
  | tup ds =>
    have hb : (decide ((ds.length : Int) = n) && ds.all (below · n)) = true := h
    rw [Bool.and_eq_true] at hb
    obtain ⟨r, e, hr⟩ := below_ints hb.2
    have hl := of_decide_eq_true hb.1
    refine ⟨r, by rw [e]; rfl, ?_, hr⟩
    rw [e, List.length_map] at hl
    omega
  | _ => exact absurd h Bool.false_ne_true
theorem rOk_row (r : List Int) (n i : Nat) : rOk (rowD r) n i = (rowB (rowD r) n && firstB r i) := by
  unfold rOk rowD
  dsimp only
  rw [ints_map]
/-- rows that all pass -/
theorem rows_ok : ∀ {ds : List D} {n : Nat}, (∀ d ∈ ds, rowB d n = true) → ∃ rows : List (List Int), ds = rows.map rowD ∧ ∀ r ∈ rows, r.length = n ∧ ∀ x ∈ r, 0 ≤ x ∧ x < n
  | [], _, _ => ⟨[], rfl, fun _ h => nomatch h⟩
  | d :: ds, n, h => by
    obtain ⟨r, e, hr⟩ := rowB_row (h d (List.mem_cons_self ..))
    obtain ⟨rows, e2, hrs⟩ := rows_ok fun d' m => h d' (List.mem_cons_of_mem _ m)
    refine ⟨r :: rows, by rw [e, e2]; rfl, fun x hx => ?_⟩
    rcases List.mem_cons.mp hx with rfl | hx
    · exact hr
    · exact hrs x hx
def urow : D → List Int
  | .tup xs => (intsO xs).getD []
  | _ => []
/-- what check_table refuses -/
def chk : D → Option Int
  | .tup ds => if 1 ≤ ds.length ∧ ds.length ≤ 200 then
      (match fst ds.length fun i => rOk (dAt ds i) ds.length i with
        | some i => some i
        | none => (match fst ds.length fun a => regB (ds.map urow) ds.length a with
          | some a => some a
          | none => none))
    else some (-1)
  | _ => some (-1)
theorem unrow (rows : List (List Int)) : (rows.map rowD).map urow = rows := by
  rw [List.map_map]
  have : urow ∘ rowD = fun r : List Int => r := by
    funext r
    show (intsO (r.map D.int)).getD [] = r
    rw [ints_map]; rfl
  rw [this, List.map_id']
theorem getD_py {ds : List D} (h : D.arePy ds = true) (i : Nat) : (dAt ds i).isPy = true := by
  unfold dAt
  rw [List.getD_eq_getElem?_getD]
  by_cases hi : i < ds.length
  · rw [List.getElem?_eq_getElem hi]
    exact arePy_mem h _ (List.getElem_mem hi)
  · rw [List.getElem?_eq_none (by omega)]; rfl
theorem all_isI : ∀ {xs : List D}, xs.all isI = true → ∃ r : List Int, xs = r.map .int
  | [], _ => ⟨[], rfl⟩
  | d :: xs, h => by
    rw [List.all_cons, Bool.and_eq_true] at h
    obtain ⟨r, e⟩ := all_isI h.2
    cases d with
    | int i => exact ⟨i :: r, by rw [e]; rfl⟩
    | _ => exact absurd h.1 Bool.false_ne_true
theorem below_isI {d : D} {n : Int} (h : below d n = true) : isI d = true := by
  cases d with
  | int i => rfl
  | _ => exact absurd h Bool.false_ne_true
theorem rowB_rowD (r : List Int) (n : Nat) : rowB (rowD r) n = true ↔ r.length = n ∧ ∀ x ∈ r, 0 ≤ x ∧ x < n := by
  constructor
  · intro h
    obtain ⟨r', e, h1, h2⟩ := rowB_row h
    have : r' = r := by
      have e2 : r.map D.int = r'.map D.int := D.tup.inj e
      have e3 := congrArg intsO e2
      rw [ints_map, ints_map] at e3
      exact (Option.some.inj e3).symm
    rw [this] at h1 h2
    exact ⟨h1, h2⟩
  · rintro ⟨h1, h2⟩
    show (decide (((r.map D.int).length : Int) = n) && (r.map D.int).all (below · n)) = true
    rw [Bool.and_eq_true, List.length_map, List.all_map]
    refine ⟨decide_eq_true (by omega), List.all_eq_true.mpr fun x hx => ?_⟩
    have := h2 x hx
    show (decide (0 ≤ x) && decide (x < (n : Int))) = true
    rw [Bool.and_eq_true]
    exact ⟨decide_eq_true this.1, decide_eq_true this.2⟩
theorem rgI_zero (n : Nat) (h : 1 ≤ n) : elA (rgI n) 0 = 0 := by
  unfold elA rgI
  rw [List.getD_eq_getElem?_getD, List.getElem?_map, List.getElem?_range (by show (0 : Nat) < n; omega)]; rfl
theorem ix_dAt {ds : List D} {i : Nat} (h : i < ds.length) : ixD (.tup ds) (.int (Nat.cast i)) = some (dAt ds i) := by
  show atI ds _ = _
  exact atI_nat' (by rw [List.getElem?_eq_getElem h, dAt_get h])
def hpO (hs : List Int) (s : Int) : O := .ol [.fl (hs.map .int), .fr (.int s)]
theorem con0 (hs : List Int) (s : Int) (r : Rho) : conAt 0 (cst (.int 0)) (.le (hpO hs s) :: r) = some (.lst (hs.map .int)) := rfl
theorem con1 (hs : List Int) (s : Int) (r : Rho) : conAt 0 (cst (.int 1)) (.le (hpO hs s) :: r) = some (.int s) := rfl
theorem pop0 (hs : List Int) (x s : Int) (r : Rho) : popAt 0 (cst (.int 0)) (.le (hpO (hs ++ [x]) s) :: r) = some (.ok (.fr (.int x)) (.le (hpO hs s) :: r)) := by
  simp [popAt, cst, hpO, Sl.tr, Sl.put, atI, ixN]
theorem app0 (hs : List Int) (x s : Int) (r : Rho) (f : Pu D) (hl : hs.length < 1000) (hf : f (.le (hpO hs s) :: r) = some (.int x)) : appAt 0 (cst (.int 0)) f (.le (hpO hs s) :: r) = some (.ok (.fr .non) (.le (hpO (hs ++ [x]) s) :: r)) := by
  have h2 : hs.length < 16777216 := by omega
  unfold appAt
  rw [hf]
  simp [cst, hpO, Sl.tr, Sl.put, atI, ixN, sizeLine_eq, h2]
theorem sto1 (hs : List Int) (s x : Int) (r r' : Rho) (f : Mo D) (hf : f (.le (hpO hs s) :: r) = some (.ok (.int x) (.le (hpO hs s) :: r))) : stoS 0 f (cst (.int 1)) (.le (hpO hs s) :: r) = some (.nx (.le (hpO hs x) :: r)) := by
  unfold stoS
  rw [hf]
  simp [cst, hpO, Sl.tr, Sl.put, ixN]
theorem last1 (hs : List Int) (x : Int) : ixC (.lst ((hs ++ [x]).map .int)) (.int (-1)) = some (.int x) := by
  show atI _ (-1) = _
  rw [List.map_append]
  exact atI_last _ _
theorem ne_nil0 : neD (.lst []) (.lst []) = some (.bl false) := neD_lst [] []
theorem ne_nil1 (hs : List Int) (x : Int) : neD (.lst ((hs ++ [x]).map .int)) (.lst []) = some (.bl true) := by
  have := neD_lst (hs ++ [x]) []
  rw [decide_eq_false (by simp)] at this
  exact this
theorem ne_nil (hs : List Int) : neD (.lst (hs.map .int)) (.lst []) = some (.bl (!decide (hs = []))) := neD_lst hs []
def cond : Mo Bool := (quM (andQ (tb (pu2 neD (conAt 0 (cst (.int 0))) (lstP lpN))) (tb (pu2 eqD (pu2 ixC (conAt 0 (cst (.int 0))) (pu1 negD (cst (.int 1)))) (cst (.int 0))))))
theorem cond0 (s : Int) (m c : Sl) : cond [.le (hpO [] s), m, c] = some (.ok false [.le (hpO [] s), m, c]) := by
  have := con0 [] s [m, c]
  simp [cond, quM, andQ, tb, pu2, this, lstP, lpN, ne_nil0]
theorem cond1 (hs : List Int) (x s : Int) (m c : Sl) : cond [.le (hpO (hs ++ [x]) s), m, c] = some (.ok (decide (x = 0)) [.le (hpO (hs ++ [x]) s), m, c]) := by
  have h1 := con0 (hs ++ [x]) s [m, c]
  have h2 := ne_nil1 hs x
  have h3 := last1 hs x
  have h4 : lstP lpN [.le (hpO (hs ++ [x]) s), m, c] = some (.lst []) := by simp [lstP, lpN]
  have h5 : tb (pu2 neD (conAt 0 (cst (.int 0))) (lstP lpN)) [.le (hpO (hs ++ [x]) s), m, c] = some true := by
    simp only [tb, pu2, h1, h4, h2]
  have h6 : tb (pu2 eqD (pu2 ixC (conAt 0 (cst (.int 0))) (pu1 negD (cst (.int 1)))) (cst (.int 0))) [.le (hpO (hs ++ [x]) s), m, c] = some (decide (x = 0)) := by
    have h7 : pu1 negD (cst (.int 1)) [.le (hpO (hs ++ [x]) s), m, c] = some (.int (-1)) := rfl
    have h8 : (cst (.int 0) : Pu D) [.le (hpO (hs ++ [x]) s), m, c] = some (.int 0) := rfl
    simp only [tb, pu2, h1, h7, h3, h8, eqD_int]
  simp only [cond, quM, andQ, h5, h6]
theorem loop0 (m : Sl) (s : Int) : ∀ (n : Nat) (hs : List Int), hs.length < n → ∃ hs', hs'.length ≤ hs.length ∧ whS n cond (dropS (popAt 0 (cst (.int 0)))) [.le (hpO hs s), m, .no] = some (.nx [.le (hpO hs' s), m, .no])
  | 0, hs, h => absurd h (Nat.not_lt_zero _)
  | n + 1, hs, h => by
    unfold whS
    rcases List.eq_nil_or_concat hs with rfl | ⟨l, x, rfl⟩
    · refine ⟨[], Nat.le_refl _, ?_⟩
      rw [cond0]
    · rw [List.concat_eq_append] at *
      rw [cond1]
      by_cases hx : x = 0
      · rw [decide_eq_true hx]
        dsimp only
        have hp := pop0 l x s [m, .no]
        unfold dropS
        rw [hp]
        obtain ⟨hs', h1, h2⟩ := loop0 m s n l (by simp at h; omega)
        refine ⟨hs', by simp; omega, ?_⟩
        unfold dropS at h2
        exact h2
      · rw [decide_eq_false hx]
        exact ⟨l ++ [x], Nat.le_refl _, rfl⟩
theorem szR_hp (hs : List Int) (s m : Int) : szR [.le (hpO hs s), .ow (.fr (.int m)), .no] = hs.length + 5 := by
  simp [szR, Sl.sz, O.sz, O.w, hpO]
theorem div_eq (x m : Int) (h0 : 0 < m) (h2 : m < 2 ^ 64) : divD (.int x) (.int m) = some (.int (x / m)) := by
  have hlog : m.natAbs.log2 < 9000 := Nat.lt_trans ((Nat.log2_lt (by omega)).mpr (show m.natAbs < 2 ^ 64 by omega)) (by decide)
  show (if 0 < m ∧ m.natAbs.log2 < 9000 then some (D.int (x / m)) else none) = _
  rw [if_pos ⟨h0, hlog⟩]
theorem mod_eq (x m : Int) (h0 : 0 < m) : modD (.int x) (.int m) = some (.int (x % m)) := by
  show (if 0 < m then some (D.int (x % m)) else none) = _
  rw [if_pos h0]
theorem draw_eq (hs : List Int) (s m : Int) (h1 : 1 ≤ m) (h2 : m < 2 ^ 64) (hl : hs.length ≤ 63) : ∃ r hs' s', 0 ≤ r ∧ r < m ∧ hs'.length ≤ 63 ∧ F__law_draw [.le (hpO hs s), .ow (.fr (.int m))] = some (.ret (.fr (.int r)) [.le (hpO hs' s'), .no]) := by
  have h0 : 0 < m := by omega
  have hdiv : ∀ x : Int, divD (.int x) (.int m) = some (.int (x / m)) := fun x => div_eq x m h0 h2
  have hmod : ∀ x : Int, modD (.int x) (.int m) = some (.int (x % m)) := fun x => mod_eq x m h0
  obtain ⟨hs', hl', hw⟩ := loop0 (.ow (.fr (.int m))) s (szR [.le (hpO hs s), .ow (.fr (.int m)), .no]) hs (by rw [szR_hp]; omega)
  have hW : whF szR (quM (andQ (tb (pu2 neD (conAt 0 (cst (.int 0))) (lstP lpN))) (tb (pu2 eqD (pu2 ixC (conAt 0 (cst (.int 0))) (pu1 negD (cst (.int 1)))) (cst (.int 0)))))) (dropS (popAt 0 (cst (.int 0)))) [.le (hpO hs s), .ow (.fr (.int m)), .no] = some (.nx [.le (hpO hs' s), .ow (.fr (.int m)), .no]) := hw
  unfold F__law_draw m__law_draw
  rcases List.eq_nil_or_concat hs' with rfl | ⟨l, x, rfl⟩
  · have hc : quM (tb (pu2 neD (conAt 0 (cst (.int 0))) (lstP lpN))) [.le (hpO [] s), .ow (.fr (.int m)), .no] = some (.ok false [.le (hpO [] s), .ow (.fr (.int m)), .no]) := by
      have := con0 [] s [.ow (.fr (.int m)), .no]
      simp [quM, tb, pu2, this, lstP, lpN, ne_nil0]
    have hf : puV (pu2 modD (pu1 intD (pu2 addD (pu2 mulD (flD (conAt 0 (cst (.int 1)))) (cst (.int 48271))) (cst (.int 13)))) (cst (.int 2147483647))) [.le (hpO [] s), .ow (.fr (.int m)), .no] = some (.ok (.int ((s * 48271 + 13) % 2147483647)) [.le (hpO [] s), .ow (.fr (.int m)), .no]) := by
      have := con1 [] s [.ow (.fr (.int m)), .no]
      simp [puV, pu2, pu1, flD, this, cst, mulD, addD, intD, modD, onI]
    have hst := sto1 [] s _ [.ow (.fr (.int m)), .no] [] _ hf
    have hret : retS (ofP (pu2 modD (pu1 intD (pu2 divD (flD (conAt 0 (cst (.int 1)))) (cst (.int 64)))) (var 1))) [.le (hpO [] ((s * 48271 + 13) % 2147483647)), .ow (.fr (.int m)), .no] = some (.rt (.fr (.int (((s * 48271 + 13) % 2147483647) / 64 % m))) [.le (hpO [] ((s * 48271 + 13) % 2147483647)), .ow (.fr (.int m)), .no]) := by
      have h1 := con1 [] ((s * 48271 + 13) % 2147483647) [.ow (.fr (.int m)), .no]
      have h64 : divD (.int ((s * 48271 + 13) % 2147483647)) (.int 64) = some (.int ((s * 48271 + 13) % 2147483647 / 64)) := div_eq _ 64 (by omega) (by omega)
      have hm := hmod ((s * 48271 + 13) % 2147483647 / 64)
      simp only [retS, ofP, pu2, pu1, flD, h1, cst, h64, intD, var, List.getElem?_cons_zero, List.getElem?_cons_succ, hm]
    refine ⟨((s * 48271 + 13) % 2147483647) / 64 % m, [], (s * 48271 + 13) % 2147483647, Int.emod_nonneg _ (by omega), Int.emod_lt_of_pos _ h0, by simp, ?_⟩
    simp only [runF, List.length_cons, List.length_nil, List.replicate, List.cons_append, List.nil_append, seqS, hW, ifS, hc, nxS, hst, hret]
    simp [lent]
  · rw [List.concat_eq_append] at *
    have hc : quM (tb (pu2 neD (conAt 0 (cst (.int 0))) (lstP lpN))) [.le (hpO (l ++ [x]) s), .ow (.fr (.int m)), .no] = some (.ok true [.le (hpO (l ++ [x]) s), .ow (.fr (.int m)), .no]) := by
      have h1 := con0 (l ++ [x]) s [.ow (.fr (.int m)), .no]
      have h2 := ne_nil1 l x
      have h3 : lstP lpN [.le (hpO (l ++ [x]) s), .ow (.fr (.int m)), .no] = some (.lst []) := by simp [lstP, lpN, sizeLine_eq]
      simp only [quM, tb, pu2, h1, h3, h2]
    have hp := pop0 l x s [.ow (.fr (.int m)), .no]
    have hset : setF 2 (popAt 0 (cst (.int 0))) [.le (hpO (l ++ [x]) s), .ow (.fr (.int m)), .no] = some (.nx [.le (hpO l s), .ow (.fr (.int m)), .ow (.fr (.int x))]) := by
      simp only [setF, setS, frM, frzM, hp, O.fz]
      rfl
    have hll : l.length < 1000 := by simp at hl'; omega
    have hap := app0 l (x / m) s [.ow (.fr (.int m)), .ow (.fr (.int x))] (pu2 divD (var 2) (var 1)) hll (by
      simp only [pu2, var, List.getElem?_cons_zero, List.getElem?_cons_succ, hdiv])
    have hret : retS (ofP (pu2 modD (pu1 intD (var 2)) (var 1))) [.le (hpO (l ++ [x / m]) s), .ow (.fr (.int m)), .ow (.fr (.int x))] = some (.rt (.fr (.int (x % m))) [.le (hpO (l ++ [x / m]) s), .ow (.fr (.int m)), .ow (.fr (.int x))]) := by
      simp only [retS, ofP, pu2, pu1, var, List.getElem?_cons_zero, List.getElem?_cons_succ, intD, hmod]
    refine ⟨x % m, l ++ [x / m], s, Int.emod_nonneg _ (by omega), Int.emod_lt_of_pos _ h0, by simp at hl' ⊢; omega, ?_⟩
    simp only [runF, List.length_cons, List.length_nil, List.replicate, List.cons_append, List.nil_append, seqS, hW, ifS, hc, hset, dropS, hap, hret]
    simp [lent]
/-- a box of draws -/
def HP (o : O) : Prop := ∃ hs s, hs.length ≤ 63 ∧ o = hpO hs s
theorem call_draw {i : Nat} {ρ : Rho} {s0 : Sl} {o : O} {m : Int} {f : Mo D} (e : ρ[i]? = some s0) (et : s0.tr = some o) (ho : HP o) (hf : f ρ = some (.ok (.int m) ρ)) (h1 : 1 ≤ m) (h2 : m < 2 ^ 64) :
    ∃ r o', 0 ≤ r ∧ r < m ∧ HP o' ∧ callM 2 F__law_draw (agL i (agV f agN)) ρ = some (.ok (.fr (.int r)) (ρ.set i (s0.put o'))) := by
  obtain ⟨hs, s, hl, rfl⟩ := ho
  obtain ⟨r, hs', s', q1, q2, q3, q4⟩ := draw_eq hs s m h1 h2 hl
  refine ⟨r, hpO hs' s', q1, q2, ⟨hs', s', q3, rfl⟩, ?_⟩
  simp [callM, agL, agV, agN, e, et, hf, toSl, noDup, lents, back, q4]
theorem pick_eq (o : O) (ho : HP o) (ds : List D) (h1 : 1 ≤ ds.length) (h2 : ds.length < 1000) : ∃ d o', d ∈ ds ∧ HP o' ∧ F__law_pick [.le o, .ow (.fr (.lst ds))] = some (.ret (.fr d) [.le o', .no]) := by
  have hf : puV (pu1 lenD (var 1)) [.le o, .ow (.fr (.lst ds))] = some (.ok (.int (Nat.cast ds.length)) [.le o, .ow (.fr (.lst ds))]) := rfl
  obtain ⟨r, o', q1, q2, q3, q4⟩ := call_draw (i := 0) (s0 := .le o) rfl rfl ho hf (by omega) (by omega)
  have hr : r.toNat < ds.length := by omega
  have hix : ixD (.lst ds) (.int r) = some ds[r.toNat] := by
    show atI ds r = _
    have h := atI_nat' (xs := ds) (j := r.toNat) (x := ds[r.toNat]) (by rw [List.getElem?_eq_getElem hr])
    rw [toNat_cast r q1] at h
    exact h
  refine ⟨ds[r.toNat], o', List.getElem_mem hr, q3, ?_⟩
  unfold F__law_pick m__law_pick
  simp only [runF, List.length_cons, List.length_nil, List.replicate, List.cons_append, List.nil_append, List.append_nil, retS, frM, mo2, puV, var, List.getElem?_cons_zero, List.getElem?_cons_succ]
  simp [frzM, q4, O.fz, hix, Sl.put, lent]
def cI (l : List Nat) : List Int := l.map fun (i : Nat) => (Nat.cast i : Int)
theorem order_eq (o : O) (ho : HP o) (n : Int) (h0 : 0 ≤ n) (h1 : n ≤ 1000) : ∃ (p : List Int) (o' : O), p.Perm (rgI n.toNat) ∧ HP o' ∧ F__law_order [.le o, .ow (.fr (.int n))] = some (.ret (.fl (p.map .int)) [.le o', .no]) := by
  have hloop := forL_inv (α := Nat) (t := gN 3) (b := (dropS (insX 2 (lvC (frzM (callM 2 F__law_draw (agL 0 (agV (puV (pu2 addD (pu1 lenD (con 2)) (cst (.int 1)))) agN)))) (lvC (puV (var 3)) lvN))))) (f := fun i => D.int (Nat.cast i))
    (St := fun l ρ => ∃ (p : List Int) (o' : O) (s3 : Sl), p.Perm (cI l) ∧ HP o' ∧ stbS s3 = true ∧ ρ = [.le o', .ow (.fr (.int n)), .ow (.fl (p.map .int)), s3]) (bs := []) (as := List.range n.toNat) (fun a l r hl _ ρ ⟨p, o', s3, hp, ho', c3, e⟩ => by
      subst e
      have hlen : l.length < n.toNat := by
        have := congrArg List.length hl
        simp at this
        omega
      have hpl : p.length = l.length := by rw [hp.length_eq]; unfold cI; rw [List.length_map]
      have hf : puV (pu2 addD (pu1 lenD (con 2)) (cst (.int 1))) [.le o', .ow (.fr (.int n)), .ow (.fl (p.map .int)), .ow (.fr (.int (Nat.cast a)))] = some (.ok (.int (Nat.cast p.length + 1)) [.le o', .ow (.fr (.int n)), .ow (.fl (p.map .int)), .ow (.fr (.int (Nat.cast a)))]) := by
        simp [puV, pu2, pu1, con, lenD, addD, cst, O.cont, Sl.tr, D.sq]
      obtain ⟨r1, o2, q1, q2, q3, q4⟩ := call_draw (i := 0) (s0 := .le o') rfl rfl ho' hf (by omega) (by omega)
      refine ⟨[.le o', .ow (.fr (.int n)), .ow (.fl (p.map .int)), .ow (.fr (.int (Nat.cast a)))], [.le o2, .ow (.fr (.int n)), .ow (.fl ((p.take r1.toNat ++ [(Nat.cast a : Int)] ++ p.drop r1.toNat).map .int)), .ow (.fr (.int (Nat.cast a)))], by simp [pu1, pu2, mo1, mo2, cst, var, bor, con, conAt, flD, puV, frM, frzM, ofP, mov, frzS, tupP, lpN, lpC, lstP, lxN, lxC, lstX, lvN, lvC, tupV, andV, orV, notV, andP, orP, notP, ifP, ifM, tb, tbM, quM, notQ, notY, andQ, orQ, andY, orY, seqS, ifS, retS, retN, nxS, setF, setS, dropS, agN, agV, agL, callM, toSl, back, noDup, lents, Sl.tr, Sl.put, O.fz, gN, gT, gsN, gsC, stb_at, stbS_no, stbS_ow, frOk, wipeR, unw, itS, itR1, itR2, itE, asgS, par2, par3, raiS, chn, yes, moL, moLv, lent, runF, forS, onI0, onI, ltD, leD, gtD, geD, subD, negD, isND, notND, mkL_map, sizeLine_eq, D.isN, D.sq, D.lsq, c3], .inl ?_, _, o2, _, ?_, q3, rfl, rfl⟩
      · have e1 : lvC (frzM (callM 2 F__law_draw (agL 0 (agV (puV (pu2 addD (pu1 lenD (con 2)) (cst (.int 1)))) agN)))) (lvC (puV (var 3)) lvN) [.le o', .ow (.fr (.int n)), .ow (.fl (p.map .int)), .ow (.fr (.int (Nat.cast a)))] = some (.ok [.int r1, .int (Nat.cast a)] [.le o2, .ow (.fr (.int n)), .ow (.fl (p.map .int)), .ow (.fr (.int (Nat.cast a)))]) := by
          simp only [lvC, frzM, q4, O.fz]
          rfl
        have hz : (p.map D.int).length < sizeLine ∧ 0 ≤ r1 ∧ r1 < 2 ^ 63 := by rw [List.length_map, sizeLine_eq]; omega
        simp only [dropS, insX, List.getElem?_cons_zero, List.getElem?_cons_succ, Option.bind_some, Sl.tr, e1, if_pos hz, Sl.put, List.set_cons_zero, List.set_cons_succ]
        simp [List.map_append, List.map_take, List.map_drop]
      · unfold cI
        rw [List.map_append]
        have hpp : (p.take r1.toNat ++ [(Nat.cast a : Int)] ++ p.drop r1.toNat).Perm (p ++ [(Nat.cast a : Int)]) := by
          rw [List.append_assoc]
          refine (List.perm_append_left_iff _ |>.mpr List.perm_append_comm).trans ?_
          rw [← List.append_assoc, List.take_append_drop]
        exact hpp.trans (hp.append_right _)) [.le o, .ow (.fr (.int n)), .ow (.fl []), .no] ⟨[], o, .no, List.Perm.refl _, ho, rfl, rfl⟩
  obtain ⟨ρ', e1, p, o', s3, hp, ho', _, e2⟩ := hloop
  subst e2
  refine ⟨p, o', hp, ho', ?_⟩
  have hr : itR1 (puV (var 1)) [.le o, .ow (.fr (.int n)), .ow (.fl []), .no] = some (.ok ((List.range n.toNat).map fun (i : Nat) => D.int (Nat.cast i)) [.le o, .ow (.fr (.int n)), .ow (.fl []), .no]) := by
    simp only [itR1, puV, var, List.getElem?_cons_zero, List.getElem?_cons_succ]
    rw [if_pos (by omega), rngD_eq]
  have hs : setS 2 (lstX lxN) [.le o, .ow (.fr (.int n)), .no, .no] = some (.nx [.le o, .ow (.fr (.int n)), .ow (.fl []), .no]) := by
    have : mkL [] = .fl [] := rfl
    simp [setS, lstX, lxN, sizeLine_eq, this, stb_at, stbS]
  unfold F__law_order m__law_order
  simp only [runF, List.length_cons, List.length_nil, List.replicate, List.cons_append, List.nil_append, List.append_nil, seqS, hs, forS, hr, e1]
  simp [retS, mov, lent]
theorem lcM_ok {mi : Mo (List D)} {t : D → Rho → Option Rho} {q : Mo Bool} {fe : Mo O} {vs : List Nat} {ρ ρ0 ρ1 : Rho} {ds : List D} {os : List O} (h1 : mi ρ = some (.ok ds ρ0)) (h2 : frOk ρ0 vs = true) (h3 : lcL t q fe vs ds (wipeR ρ0 vs) = some (os, ρ1)) : lcM mi t q fe vs ρ = some (.ok (mkL os) (unw ρ0 ρ1 vs)) := by
  unfold lcM
  rw [h1]
  dsimp only
  rw [if_pos h2, h3]
theorem heap_eq (ns : List Int) (h : ns.length ≤ 63) : ∃ o, HP o ∧ F__law_heap [.ow (.fr (.scr ns)), .ow (.fr (.int 0))] = some (.ret o [.no, .no]) := by
  obtain ⟨cs, hcs⟩ : ∃ cs : List Int, cs = cutA ns (some 0) (some 48) := ⟨_, rfl⟩
  have hcl : cs.length ≤ 63 := by rw [hcs]; exact Nat.le_trans (cutA_le _ _ _) h
  have hcut : cutA (ns.map D.int) (some 0) (some 48) = cs.map D.int := by
    rw [hcs]; unfold cutA
    rw [List.length_map, List.map_take, List.map_drop]
  obtain ⟨gs, hgs⟩ : ∃ gs : List Int, gs = cs.map fun c => (Nat.cast c.natAbs : Int) := ⟨_, rfl⟩
  have hgl : gs.length ≤ 63 := by rw [hgs, List.length_map]; exact hcl
  have l1 : lcL (gN 4) yes (ofP (pu1 absD (var 4))) [4] (cs.map D.int) [.ow (.fr (.scr ns)), .ow (.fr (.int 0)), .no, .no, .no] = some ((cs.map D.int).map (fun d => O.fr (match d with | .int c => .int (Nat.cast c.natAbs) | d => d)), [.ow (.fr (.scr ns)), .ow (.fr (.int 0)), .no, .no, .no]) :=
    lcL_map fun d m => by
      obtain ⟨c, _, rfl⟩ := List.mem_map.mp m
      exact ⟨[.ow (.fr (.scr ns)), .ow (.fr (.int 0)), .no, .no, .ow (.fr (.int c))], [.ow (.fr (.scr ns)), .ow (.fr (.int 0)), .no, .no, .ow (.fr (.int c))], rfl, rfl, rfl, rfl, rfl⟩
  have hmap : (cs.map D.int).map (fun d => (match d with | .int c => D.int (Nat.cast c.natAbs) | d => d)) = gs.map D.int := by
    rw [hgs, List.map_map, List.map_map]; rfl
  have s1 : setF 2 (lcM (itS (puV (slP (var 0) (poS (var 1)) (poS (cst (.int 48)))))) (gN 4) yes (ofP (pu1 absD (var 4))) [4]) [.ow (.fr (.scr ns)), .ow (.fr (.int 0)), .no, .no, .no] = some (.nx [.ow (.fr (.scr ns)), .ow (.fr (.int 0)), .ow (.fr (.lst (gs.map .int))), .no, .no]) := by
    have i1 : itS (puV (slP (var 0) (poS (var 1)) (poS (cst (.int 48))))) [.ow (.fr (.scr ns)), .ow (.fr (.int 0)), .no, .no, .no] = some (.ok (cs.map D.int) [.ow (.fr (.scr ns)), .ow (.fr (.int 0)), .no, .no, .no]) := by
      simp only [itS, puV, slP, poS, var, cst, List.getElem?_cons_zero, List.getElem?_cons_succ, slD, hcut, D.sq]
    have i2 : lcM (itS (puV (slP (var 0) (poS (var 1)) (poS (cst (.int 48)))))) (gN 4) yes (ofP (pu1 absD (var 4))) [4] [.ow (.fr (.scr ns)), .ow (.fr (.int 0)), .no, .no, .no] = some (.ok (.fl (gs.map .int)) [.ow (.fr (.scr ns)), .ow (.fr (.int 0)), .no, .no, .no]) := by
      refine (lcM_ok i1 rfl l1).trans ?_
      rw [mkL_map, hmap]
      rfl
    simp only [setF, setS, frM, frzM, i2, O.fz]
    rfl
  have s2 : setF 3 (ofP (pu2 addD (cst (.int 6971)) (pu2 mulD (cst (.int 37)) (var 1)))) [.ow (.fr (.scr ns)), .ow (.fr (.int 0)), .ow (.fr (.lst (gs.map .int))), .no, .no] = some (.nx [.ow (.fr (.scr ns)), .ow (.fr (.int 0)), .ow (.fr (.lst (gs.map .int))), .ow (.fr (.int 6971)), .no]) := by
    simp [setF, setS, frM, frzM, ofP, pu2, addD, mulD, cst, var, O.fz, stb_at, stbS]
  have hloop := forL_inv (α := Int) (t := gN 4) (b := (setF 3 (ofP (pu2 modD (pu1 intD (pu2 addD (pu2 addD (pu2 mulD (var 3) (cst (.int 48271))) (pu2 modD (pu1 intD (var 4)) (cst (.int 2147483549)))) (cst (.int 19)))) (cst (.int 2147483647)))))) (f := D.int)
    (St := fun _ ρ => ∃ (st : Int) (c : Sl), (c = .no ∨ ∃ i, c = .ow (.fr (.int i))) ∧ ρ = [.ow (.fr (.scr ns)), .ow (.fr (.int 0)), .ow (.fr (.lst (gs.map .int))), .ow (.fr (.int st)), c]) (bs := []) (as := gs) (fun a l r _ _ ρ ⟨st, c, hc, e⟩ => by
      subst e
      have hcs : stbS c = true := by rcases hc with rfl | ⟨i, rfl⟩ <;> rfl
      refine ⟨[.ow (.fr (.scr ns)), .ow (.fr (.int 0)), .ow (.fr (.lst (gs.map .int))), .ow (.fr (.int st)), .ow (.fr (.int a))], [.ow (.fr (.scr ns)), .ow (.fr (.int 0)), .ow (.fr (.lst (gs.map .int))), .ow (.fr (.int ((st * 48271 + a % 2147483549 + 19) % 2147483647))), .ow (.fr (.int a))], by simp [pu1, pu2, mo1, mo2, cst, var, bor, con, conAt, flD, puV, frM, frzM, ofP, mov, frzS, tupP, lpN, lpC, lstP, lxN, lxC, lstX, lvN, lvC, tupV, andV, orV, notV, andP, orP, notP, ifP, ifM, tb, tbM, quM, notQ, notY, andQ, orQ, andY, orY, seqS, ifS, retS, retN, nxS, setF, setS, dropS, agN, agV, agL, callM, toSl, back, noDup, lents, Sl.tr, Sl.put, O.fz, gN, gT, gsN, gsC, stb_at, stbS_no, stbS_ow, frOk, wipeR, unw, itS, itR1, itR2, itE, asgS, par2, par3, raiS, chn, yes, moL, moLv, lent, runF, forS, onI0, onI, ltD, leD, gtD, geD, subD, negD, isND, notND, mkL_map, sizeLine_eq, D.isN, D.sq, D.lsq, hcs], .inl ?_, _, _, .inr ⟨a, rfl⟩, rfl⟩
      simp [setF, setS, frM, frzM, ofP, pu2, pu1, addD, mulD, modD, intD, onI, cst, var, O.fz, stb_at, stbS]) [.ow (.fr (.scr ns)), .ow (.fr (.int 0)), .ow (.fr (.lst (gs.map .int))), .ow (.fr (.int 6971)), .no] ⟨_, _, .inl rfl, rfl⟩
  obtain ⟨ρ', e1, st, c, hc, e2⟩ := hloop
  subst e2
  have s3 : forS (itS (puV (var 2))) (gN 4) (setF 3 (ofP (pu2 modD (pu1 intD (pu2 addD (pu2 addD (pu2 mulD (var 3) (cst (.int 48271))) (pu2 modD (pu1 intD (var 4)) (cst (.int 2147483549)))) (cst (.int 19)))) (cst (.int 2147483647))))) [.ow (.fr (.scr ns)), .ow (.fr (.int 0)), .ow (.fr (.lst (gs.map .int))), .ow (.fr (.int 6971)), .no] = some (.nx [.ow (.fr (.scr ns)), .ow (.fr (.int 0)), .ow (.fr (.lst (gs.map .int))), .ow (.fr (.int st)), c]) := e1
  let big : D → Bool := fun d => match d with
    | .int i => decide (10 ^ 18 ≤ i)
    | _ => false
  have l2 : lcL (gN 4) (quM (tb (pu2 geD (var 4) (pu2 powD (cst (.int 10)) (cst (.int 18)))))) (ofP (var 4)) [4] (gs.map D.int) [.ow (.fr (.scr ns)), .ow (.fr (.int 0)), .ow (.fr (.lst (gs.map .int))), .ow (.fr (.int st)), .no] = some (((gs.map D.int).filter big).map O.fr, [.ow (.fr (.scr ns)), .ow (.fr (.int 0)), .ow (.fr (.lst (gs.map .int))), .ow (.fr (.int st)), .no]) :=
    lcL_filter fun d m => by
      obtain ⟨i, _, rfl⟩ := List.mem_map.mp m
      refine ⟨[.ow (.fr (.scr ns)), .ow (.fr (.int 0)), .ow (.fr (.lst (gs.map .int))), .ow (.fr (.int st)), .ow (.fr (.int i))], rfl, ?_, rfl, fun _ => ⟨_, rfl, rfl⟩⟩
      have hpw : powD (.int 10) (.int 18) = some (.int (10 ^ 18)) := by
        show (if 0 ≤ (18 : Int) ∧ (18 : Int) ≤ 1000000 ∧ (10 : Int).natAbs < 2 ^ 64 then some (D.int (10 ^ (18 : Int).toNat)) else none) = _
        rw [if_pos ⟨by decide, by decide, by decide⟩]; rfl
      simp only [quM, tb, pu2, var, cst, List.getElem?_cons_zero, List.getElem?_cons_succ, hpw, geD, onI0]
      rfl
  obtain ⟨bs, hbs⟩ : ∃ bs : List Int, (gs.map D.int).filter big = bs.map D.int ∧ bs.length ≤ 63 := by
    refine ⟨gs.filter fun i => decide (10 ^ 18 ≤ i), ?_, Nat.le_trans (List.length_filter_le _ _) hgl⟩
    rw [List.filter_map]; rfl
  have s4 : retS (lstX (lxC (revXv (frzM (lcM (itS (puV (var 2))) (gN 4) (quM (tb (pu2 geD (var 4) (pu2 powD (cst (.int 10)) (cst (.int 18)))))) (ofP (var 4)) [4]))) (lxC (ofP (var 3)) lxN))) [.ow (.fr (.scr ns)), .ow (.fr (.int 0)), .ow (.fr (.lst (gs.map .int))), .ow (.fr (.int st)), c] = some (.rt (hpO bs.reverse st) [.ow (.fr (.scr ns)), .ow (.fr (.int 0)), .ow (.fr (.lst (gs.map .int))), .ow (.fr (.int st)), c]) := by
    have i2 : lcM (itS (puV (var 2))) (gN 4) (quM (tb (pu2 geD (var 4) (pu2 powD (cst (.int 10)) (cst (.int 18)))))) (ofP (var 4)) [4] [.ow (.fr (.scr ns)), .ow (.fr (.int 0)), .ow (.fr (.lst (gs.map .int))), .ow (.fr (.int st)), c] = some (.ok (.fl (bs.map .int)) [.ow (.fr (.scr ns)), .ow (.fr (.int 0)), .ow (.fr (.lst (gs.map .int))), .ow (.fr (.int st)), c]) := by
      have hi : itS (puV (var 2)) [.ow (.fr (.scr ns)), .ow (.fr (.int 0)), .ow (.fr (.lst (gs.map .int))), .ow (.fr (.int st)), c] = some (.ok (gs.map D.int) [.ow (.fr (.scr ns)), .ow (.fr (.int 0)), .ow (.fr (.lst (gs.map .int))), .ow (.fr (.int st)), c]) := rfl
      have hw : wipeR [.ow (.fr (.scr ns)), .ow (.fr (.int 0)), .ow (.fr (.lst (gs.map .int))), .ow (.fr (.int st)), c] [4] = [.ow (.fr (.scr ns)), .ow (.fr (.int 0)), .ow (.fr (.lst (gs.map .int))), .ow (.fr (.int st)), .no] := rfl
      refine (lcM_ok hi (by rcases hc with rfl | ⟨i, rfl⟩ <;> rfl) (by rw [hw]; exact l2)).trans ?_
      rw [mkL_fr, hbs.1]
      rfl
    have hm : mkL [O.fl (bs.reverse.map .int), O.fr (.int st)] = hpO bs.reverse st := rfl
    simp only [retS, lstX, lxC, revXv, frzM, i2, O.fz, D.lsq, ofP, var, List.getElem?_cons_zero, List.getElem?_cons_succ, lxN]
    rw [← List.map_reverse, if_pos (by show 2 ≤ sizeLine; decide), hm]
  refine ⟨hpO bs.reverse st, ⟨bs.reverse, st, by rw [List.length_reverse]; exact hbs.2, rfl⟩, ?_⟩
  unfold F__law_heap m__law_heap
  simp only [runF, List.length_cons, List.length_nil, List.replicate, List.cons_append, List.nil_append, List.append_nil, seqS]
  show (match (match setF 2 _ [.ow (.fr (.scr ns)), .ow (.fr (.int 0)), .no, .no, .no] with | some (.nx ρ) => _ | r => r) with | some (.rt o ρ) => _ | some (.nx ρ) => _ | some (.ex c fs ρ) => _ | _ => _) = _
  rw [s1]
  dsimp only
  rw [s2]
  dsimp only
  rw [s3]
  dsimp only
  rw [s4]
  rfl
/-- a list of lists, as _law_table gives it -/
def lD (rows : List (List Int)) : List D := rows.map fun r => .lst (r.map .int)
def kD (k : Int × Int × Int × Int) : D := .tup [.int k.1, .int k.2.1, .int k.2.2.1, .int k.2.2.2]
/-- the law's own tables, plainly -/
def gtab (k : Int × Int × Int × Int) : List (List Int) :=
  (List.range (k.1 * k.2.1).toNat).map fun (one : Nat) => (List.range (k.1 * k.2.1).toNat).map fun (two : Nat) =>
    ((one : Int) % k.1 + (if k.1 ≤ (one : Int) then k.2.2.1 else 1) * ((two : Int) % k.1) + (if k.1 ≤ (one : Int) ∧ k.1 ≤ (two : Int) then k.2.2.2 else 0)) % k.1 + k.1 * (((one : Int) / k.1 + (two : Int) / k.1) % k.2.1)
/-- what it says that nothing is refused -/
theorem chk_none {rows : List (List Int)} (h : chk (tD rows) = none) : 1 ≤ rows.length ∧ rows.length ≤ 200 ∧ Vd rows rows.length ∧ (∀ i : Nat, i < rows.length → firstB (rowA rows i) i = true) ∧ ∀ a : Nat, a < rows.length → regB rows rows.length a = true := by
  unfold tD chk at h
  dsimp only at h
  rw [List.length_map] at h
  by_cases hb : 1 ≤ rows.length ∧ rows.length ≤ 200
  · rw [if_pos hb, unrow] at h
    cases hf : fst rows.length fun i => rOk (dAt (rows.map rowD) i) rows.length i with
    | some i => rw [hf] at h; cases h
    | none =>
      rw [hf] at h
      dsimp only at h
      cases hg : fst rows.length fun (a : Nat) => regB rows rows.length a with
      | some i => rw [hg] at h; cases h
      | none =>
        have h1 := List.all_eq_true.mp (find_all.mp hf)
        have h2 := List.all_eq_true.mp (find_all.mp hg)
        have hd : ∀ i, i < rows.length → dAt (rows.map rowD) i = rowD (rowA rows i) := fun i hi => by
          obtain ⟨hj, e⟩ := rowA_get (rows := rows) (j := i) (by omega) (by omega)
          rw [dAt_get (by rw [List.length_map]; exact hi), e, List.getElem_map]
          rfl
        have h3 : ∀ i, i < rows.length → rowB (rowD (rowA rows i)) rows.length = true ∧ firstB (rowA rows i) i = true := fun i hi => by
          have := h1 i (List.mem_range.mpr hi)
          rw [hd i hi, rOk_row, Bool.and_eq_true] at this
          exact this
        refine ⟨hb.1, hb.2, ⟨rfl, fun r hr => ?_⟩, fun i hi => (h3 i hi).2, fun a ha => h2 a (List.mem_range.mpr ha)⟩
        obtain ⟨j, hj, ej⟩ := List.getElem_of_mem hr
        have := (rowB_rowD _ _).mp (h3 j hj).1
        obtain ⟨hj', e⟩ := rowA_get (rows := rows) (j := j) (by omega) (by omega)
        rw [e] at this
        rw [← ej]
        exact this
  · rw [if_neg hb] at h; cases h
theorem chk_of {rows : List (List Int)} {n : Nat} (h1 : 1 ≤ n) (h2 : n ≤ 200) (V : Vd rows n) (hf : ∀ i : Nat, i < n → firstB (rowA rows i) i = true) (hg : ∀ a : Nat, a < n → regB rows n a = true) : chk (tD rows) = none := by
  have hl := V.len
  subst hl
  unfold tD chk
  dsimp only
  rw [List.length_map, if_pos ⟨h1, h2⟩, unrow]
  have e1 : (fst rows.length fun i => rOk (dAt (rows.map rowD) i) rows.length i) = none := find_all.mpr (List.all_eq_true.mpr fun i hi => by
    have hi' := mem_range' hi
    have hd : dAt (rows.map rowD) i = rowD (rowA rows i) := by
      obtain ⟨hj, e⟩ := rowA_get (rows := rows) (j := i) (by omega) (by omega)
      rw [dAt_get (by rw [List.length_map]; exact hi'), e, List.getElem_map]
      rfl
    rw [hd, rOk_row, (rowB_rowD _ _).mpr (V.get (by omega) (by omega)), hf i hi']; rfl)
  have e2 : (fst rows.length fun (a : Nat) => regB rows rows.length a) = none := find_all.mpr (List.all_eq_true.mpr fun a ha => hg a (mem_range' ha))
  rw [e1, e2]
theorem elA_inj {r : List Int} (h : r.Nodup) {i j : Int} (i0 : 0 ≤ i) (i1 : i < r.length) (j0 : 0 ≤ j) (j1 : j < r.length) (e : elA r i = elA r j) : i = j := by
  obtain ⟨hi, ei⟩ := elA_get i0 i1
  obtain ⟨hj, ej⟩ := elA_get j0 j1
  rw [ei, ej] at e
  have hp := List.pairwise_iff_getElem.mp h
  rcases Nat.lt_trichotomy i.toNat j.toNat with k | k | k
  · exact absurd e (hp _ _ hi hj k)
  · omega
  · exact absurd e.symm (hp _ _ hj hi k)
theorem nodup_elA {r : List Int} (h : ∀ i j : Int, 0 ≤ i → i < r.length → 0 ≤ j → j < r.length → elA r i = elA r j → i = j) : r.Nodup := by
  refine List.pairwise_iff_getElem.mpr fun i j hi hj hij e => ?_
  obtain ⟨hi', ei⟩ := elA_get (r := r) (j := (i : Int)) (by omega) (by omega)
  obtain ⟨hj', ej⟩ := elA_get (r := r) (j := (j : Int)) (by omega) (by omega)
  have := h i j (by omega) (by omega) (by omega) (by omega) (by rw [ei, ej]; exact e)
  omega
theorem elA_mem {r : List Int} {i : Int} (i0 : 0 ≤ i) (i1 : i < r.length) : elA r i ∈ r := by
  obtain ⟨hi, ei⟩ := elA_get i0 i1
  rw [ei]; exact List.getElem_mem hi
theorem mem_elA {r : List Int} {x : Int} (h : x ∈ r) : ∃ i : Int, 0 ≤ i ∧ i < r.length ∧ elA r i = x := by
  obtain ⟨j, hj, e⟩ := List.getElem_of_mem h
  obtain ⟨_, ej⟩ := elA_get (r := r) (j := (j : Int)) (by omega) (by omega)
  exact ⟨j, by omega, by omega, ej.trans e⟩
theorem elA_rg (n : Nat) {i : Int} (i0 : 0 ≤ i) (i1 : i < n) : elA (rgI n) i = i := by
  obtain ⟨hi, ei⟩ := elA_get (r := rgI n) i0 (by rw [rgI_len]; exact i1)
  rw [ei]
  simp [rgI]
  omega
theorem ext_elA {r s : List Int} (h : r.length = s.length) (e : ∀ i : Int, 0 ≤ i → i < r.length → elA r i = elA s i) : r = s := by
  apply List.ext_getElem h
  intro i hi hj
  obtain ⟨_, ei⟩ := elA_get (r := r) (j := (i : Int)) (by omega) (by omega)
  obtain ⟨_, ej⟩ := elA_get (r := s) (j := (i : Int)) (by omega) (by omega)
  have := e i (by omega) (by omega)
  rw [ei, ej] at this
  exact this
theorem transport {rows rows' : List (List Int)} {n : Nat} {p : List Int} (hc : chk (tD rows) = none) (hl : rows.length = n) (hp : p.Perm (rgI n)) (h0 : elA p 0 = 0) (V' : Vd rows' n)
    (he : ∀ i j : Int, 0 ≤ i → i < n → 0 ≤ j → j < n → en rows' (elA p i) (elA p j) = elA p (en rows i j)) : chk (tD rows') = none := by
  obtain ⟨n1, n2, V, hf, hg⟩ := chk_none hc
  rw [hl] at n1 n2 V hf hg
  have pl : p.length = n := by rw [hp.length_eq, rgI_len]
  have pn : p.Nodup := hp.nodup_iff.mpr (rgI_nodup n)
  have pr : ∀ i : Int, 0 ≤ i → i < n → 0 ≤ elA p i ∧ elA p i < n := fun i a b => (rgI_mem n _).mp (hp.mem_iff.mp (elA_mem a (by omega)))
  have ps : ∀ y : Int, 0 ≤ y → y < n → ∃ i : Int, 0 ≤ i ∧ i < n ∧ elA p i = y := fun y a b => by
    obtain ⟨i, h1, h2, h3⟩ := mem_elA (hp.mem_iff.mpr ((rgI_mem n y).mpr ⟨a, b⟩))
    exact ⟨i, h1, by omega, h3⟩
  have pi : ∀ i j : Int, 0 ≤ i → i < n → 0 ≤ j → j < n → elA p i = elA p j → i = j := fun i j a b c d e => elA_inj pn a (by omega) c (by omega) e
  -- what the old table says
  have old : ∀ i : Int, 0 ≤ i → i < n → (rowA rows i).Nodup ∧ (i = 0 → rowA rows i = rgI n) ∧ (i ≠ 0 → elA (rowA rows i) 0 = i) := fun i a b => by
    have := hf i.toNat (by omega)
    rw [toNat_cast i a] at this
    unfold firstB at this
    rw [Bool.and_eq_true] at this
    refine ⟨of_decide_eq_true this.1, fun hi => ?_, fun hi => ?_⟩
    · rw [if_pos hi] at this
      have := of_decide_eq_true this.2
      rw [(V.get a b).1] at this
      exact this
    · rw [if_neg hi] at this
      exact of_decide_eq_true this.2
  have col0 : ∀ i : Int, 0 ≤ i → i < n → en rows i 0 = i := fun i a b => by
    by_cases hi : i = 0
    · show elA (rowA rows i) 0 = i
      rw [(old i a b).2.1 hi, elA_rg n (by omega) (by omega), hi]
    · exact (old i a b).2.2 hi
  have row0 : ∀ j : Int, 0 ≤ j → j < n → en rows 0 j = j := fun j a b => by
    show elA (rowA rows 0) j = j
    rw [(old 0 (by omega) (by omega)).2.1 rfl, elA_rg n a b]
  have asc : ∀ i j k : Int, 0 ≤ i → i < n → 0 ≤ j → j < n → 0 ≤ k → k < n → en rows (en rows i j) k = en rows i (en rows j k) := fun i j k a b c d e f => by
    have := hg i.toNat (by omega)
    unfold regB at this
    have := List.all_eq_true.mp (List.all_eq_true.mp this j.toNat (List.mem_range.mpr (by omega))) k.toNat (List.mem_range.mpr (by omega))
    rw [toNat_cast i a, toNat_cast j c, toNat_cast k e] at this
    exact of_decide_eq_true this
  refine chk_of n1 n2 V' (fun a ha => ?_) fun a ha => ?_
  · obtain ⟨i, i0, i1, ei⟩ := ps a (by omega) (by omega)
    have hlen := (V'.get (j := (a : Int)) (by omega) (by omega)).1
    unfold firstB
    rw [Bool.and_eq_true]
    refine ⟨decide_eq_true (nodup_elA fun c c' c0 c1 d0 d1 e => ?_), ?_⟩
    · rw [hlen] at c1 d1
      obtain ⟨j, j0, j1, ej⟩ := ps c c0 c1
      obtain ⟨j', j0', j1', ej'⟩ := ps c' d0 d1
      have e1 := he i j i0 i1 j0 j1
      have e2 := he i j' i0 i1 j0' j1'
      rw [ei, ej] at e1
      rw [ei, ej'] at e2
      have e3 : elA p (en rows i j) = elA p (en rows i j') := by rw [← e1, ← e2]; exact e
      have q1 := V.en i0 i1 j0 j1
      have q2 := V.en i0 i1 j0' j1'
      have e4 := pi _ _ q1.1 q1.2 q2.1 q2.2 e3
      have hrl := (V.get i0 i1).1
      have e5 := elA_inj (old i i0 i1).1 j0 (by omega) j0' (by omega) e4
      rw [← ej, ← ej', e5]
    · by_cases ha0 : (a : Int) = 0
      · rw [if_pos ha0]
        refine decide_eq_true (ext_elA (by rw [hlen, rgI_len]) fun c c0 c1 => ?_)
        rw [hlen] at c1
        rw [hlen, elA_rg n c0 c1]
        obtain ⟨j, j0, j1, ej⟩ := ps c c0 c1
        have e1 := he 0 j (by omega) (by omega) j0 j1
        rw [h0, row0 j j0 j1, ej] at e1
        rw [ha0]; exact e1
      · rw [if_neg ha0]
        have e1 := he i 0 i0 i1 (by omega) (by omega)
        rw [h0, col0 i i0 i1, ei] at e1
        exact decide_eq_true e1
  · unfold regB
    refine List.all_eq_true.mpr fun b hb => List.all_eq_true.mpr fun c hcc => decide_eq_true ?_
    have hb' := mem_range' hb
    have hc' := mem_range' hcc
    obtain ⟨i, i0, i1, ei⟩ := ps a (by omega) (by omega)
    obtain ⟨j, j0, j1, ej⟩ := ps b (by omega) (by omega)
    obtain ⟨k, k0, k1, ek⟩ := ps c (by omega) (by omega)
    have q1 := V.en i0 i1 j0 j1
    have q2 := V.en j0 j1 k0 k1
    rw [← ei, ← ej, ← ek, he i j i0 i1 j0 j1, he _ k q1.1 q1.2 k0 k1, he j k j0 j1 k0 k1, he i _ i0 i1 q2.1 q2.2, asc i j k i0 i1 j0 j1 k0 k1]
def oM (M : List (List Int)) : O := .ol (M.map fun r => .fl (r.map .int))
theorem ixN_ok {n : Nat} {j : Int} (h0 : 0 ≤ j) (h1 : j < n) : ixN n j = some j.toNat := by
  unfold ixN
  rw [if_pos h0, if_pos h1]
def put (M : List (List Int)) (x y v : Int) : List (List Int) := M.set x.toNat ((rowA M x).set y.toNat v)
theorem put_vd {M : List (List Int)} {n : Nat} (V : Vd M n) {x y v : Int} (x0 : 0 ≤ x) (x1 : x < n) (v0 : 0 ≤ v) (v1 : v < n) : Vd (put M x y v) n := by
  refine ⟨by unfold put; rw [List.length_set]; exact V.len, fun r hr => ?_⟩
  unfold put at hr
  rcases List.mem_or_eq_of_mem_set hr with hr | rfl
  · exact V.row r hr
  · obtain ⟨h1, h2⟩ := V.get x0 x1
    refine ⟨by rw [List.length_set]; exact h1, fun z hz => ?_⟩
    rcases List.mem_or_eq_of_mem_set hz with hz | rfl
    · exact h2 z hz
    · exact ⟨v0, v1⟩
theorem put_en {M : List (List Int)} {n : Nat} (V : Vd M n) {x y v i j : Int} (x0 : 0 ≤ x) (x1 : x < n) (y0 : 0 ≤ y) (y1 : y < n) (i0 : 0 ≤ i) (i1 : i < n) (j0 : 0 ≤ j) (j1 : j < n) : en (put M x y v) i j = if i = x ∧ j = y then v else en M i j := by
  have hl := V.len
  obtain ⟨g1, _⟩ := V.get x0 x1
  by_cases hx : i = x
  · subst hx
    have e1 : rowA (put M i y v) i = (rowA M i).set y.toNat v := by
      unfold put
      show (M.set i.toNat _).getD i.toNat [] = _
      rw [List.getD_eq_getElem?_getD, List.getElem?_set_self (by omega)]; rfl
    unfold en
    rw [e1]
    by_cases hy : j = y
    · subst hy
      rw [if_pos ⟨rfl, rfl⟩]
      unfold elA
      rw [List.getD_eq_getElem?_getD, List.getElem?_set_self (by omega)]; rfl
    · rw [if_neg (fun h => hy h.2)]
      unfold elA
      rw [List.getD_eq_getElem?_getD, List.getD_eq_getElem?_getD, List.getElem?_set_ne (by omega)]
  · rw [if_neg (fun h => hx h.1)]
    have e1 : rowA (put M x y v) i = rowA M i := by
      unfold put
      show (M.set x.toNat _).getD i.toNat [] = M.getD i.toNat []
      rw [List.getD_eq_getElem?_getD, List.getD_eq_getElem?_getD, List.getElem?_set_ne (by omega)]
    unfold en
    rw [e1]
theorem oM_put (M : List (List Int)) {n : Nat} (V : Vd M n) {x y v : Int} (x0 : 0 ≤ x) (x1 : x < n) (y0 : 0 ≤ y) (y1 : y < n) (i : Nat) (f : Mo D) (fj fl : Pu D) (ρ : Rho) (s : Sl) (hs : ρ[i]? = some s) (ht : s.tr = some (oM M))
    (hf : f ρ = some (.ok (.int v) ρ)) (hj : fj ρ = some (.int x)) (hl : fl ρ = some (.int y)) : sto2S i f fj fl ρ = some (.nx (ρ.set i (s.put (oM (put M x y v))))) := by
  have hM := V.len
  obtain ⟨g1, _⟩ := V.get x0 x1
  obtain ⟨hx, er⟩ := rowA_get (rows := M) x0 (by omega)
  have e1 : atI (M.map fun r => O.fl (r.map .int)) x = some (.fl ((rowA M x).map .int)) := by
    unfold atI
    rw [ixN_ok x0 (by rw [List.length_map]; omega)]
    show (M.map _)[x.toNat]? = _
    rw [List.getElem?_map, List.getElem?_eq_getElem hx, er]; rfl
  have e2 : ixN (M.map fun r => O.fl (r.map D.int)).length x = some x.toNat := ixN_ok x0 (by rw [List.length_map]; omega)
  have e3 : ixN ((rowA M x).map D.int).length y = some y.toNat := ixN_ok y0 (by rw [List.length_map]; omega)
  have e4 : (M.map fun r => O.fl (r.map D.int)).set x.toNat (.fl (((rowA M x).map D.int).set y.toNat (.int v))) = (put M x y v).map fun r => O.fl (r.map D.int) := by
    unfold put
    rw [List.map_set, List.map_set]
  unfold sto2S
  rw [hf]
  dsimp only
  rw [hs, hj, hl]
  dsimp only
  rw [ht]
  show (match atI (M.map fun r => O.fl (r.map .int)) x, ixN (M.map fun r => O.fl (r.map D.int)).length x with | some (.fl ds), some jj => _ | _, _ => _) = _
  rw [e1, e2]
  dsimp only
  rw [e3]
  dsimp only
  rw [e4]
  rfl
def frS (s : Sl) : Prop := s = .no ∨ ∃ d, s = .ow (.fr d)
theorem frS_stb {s : Sl} (h : frS s) : stbS s = true := by rcases h with rfl | ⟨d, rfl⟩ <;> rfl
theorem ixL_int (r : List Int) (j : Int) (h0 : 0 ≤ j) (h1 : j < r.length) : ixD (.lst (r.map .int)) (.int j) = some (.int (elA r j)) := ix_int r j h0 h1
theorem ixL_row {rows : List (List Int)} {n : Nat} (V : Vd rows n) (j : Int) (h0 : 0 ≤ j) (h1 : j < n) : ixD (.lst (lD rows)) (.int j) = some (.lst ((rowA rows j).map .int)) := by
  obtain ⟨hj, e⟩ := rowA_get (rows := rows) h0 (by have := V.len; omega)
  have h := atI_nat' (xs := lD rows) (j := j.toNat) (x := D.lst ((rowA rows j).map .int)) (by unfold lD; rw [List.getElem?_map, List.getElem?_eq_getElem hj, e]; rfl)
  rw [toNat_cast j h0] at h
  exact h
theorem rep_flat : ∀ n : Nat, (List.replicate n [D.int 0]).flatten = (List.replicate n (0 : Int)).map D.int
  | 0 => rfl
  | n + 1 => by rw [List.replicate_succ, List.flatten_cons, rep_flat n, List.replicate_succ]; rfl
def zeros (n : Nat) : List (List Int) := List.replicate n (List.replicate n 0)
theorem zeros_vd {n : Nat} (h : 1 ≤ n) : Vd (zeros n) n := by
  refine ⟨by unfold zeros; rw [List.length_replicate], fun r hr => ?_⟩
  have := List.eq_of_mem_replicate hr
  subst this
  refine ⟨List.length_replicate, fun x hx => ?_⟩
  have := List.eq_of_mem_replicate hx
  omega
theorem renamed_eq {rows : List (List Int)} {n : Nat} (V : Vd rows n) (n1 : 1 ≤ n) (n2 : n ≤ 100) {p : List Int} (hp : p.Perm (rgI n)) :
    ∃ M, Vd M n ∧ (∀ i j : Int, 0 ≤ i → i < n → 0 ≤ j → j < n → en M (elA p i) (elA p j) = elA p (en rows i j)) ∧ F__law_renamed [.ow (.fr (.lst (lD rows))), .ow (.fr (.lst (p.map .int)))] = some (.ret (.fr (tD M)) [.no, .no]) := by
  have hrl := V.len
  have pl : p.length = n := by rw [hp.length_eq, rgI_len]
  have pn : p.Nodup := hp.nodup_iff.mpr (rgI_nodup n)
  have pr : ∀ i : Int, 0 ≤ i → i < n → 0 ≤ elA p i ∧ elA p i < n := fun i a b => (rgI_mem n _).mp (hp.mem_iff.mp (elA_mem a (by omega)))
  have pi : ∀ i j : Int, 0 ≤ i → i < n → 0 ≤ j → j < n → elA p i = elA p j → i = j := fun i j a b c d e => elA_inj pn a (by omega) c (by omega) e
  let A : Sl := .ow (.fr (.lst (lD rows)))
  let B : Sl := .ow (.fr (.lst (p.map .int)))
  have hA : lenD (.lst (lD rows)) = some (.int (Nat.cast n)) := by
    show some (D.int ((lD rows).length : Nat)) = _
    unfold lD
    rw [List.length_map, hrl]
  -- the zeros
  have l1 : lcL (gN 3) yes (mulLX (lstP (lpC (cst (.int 0)) lpN)) (pu1 lenD (var 0))) [3] (lD rows) [A, B, .no, .no, .no, .no] = some ((lD rows).map (fun _ => O.fl ((List.replicate n (0 : Int)).map .int)), [A, B, .no, .no, .no, .no]) :=
    lcL_map fun d m => by
      refine ⟨[A, B, .no, .ow (.fr d), .no, .no], [A, B, .no, .ow (.fr d), .no, .no], rfl, rfl, rfl, ?_, rfl⟩
      have hz : lstP (lpC (cst (.int 0)) lpN) [A, B, .no, .ow (.fr d), .no, .no] = some (.lst [.int 0]) := by simp [lstP, lpC, lpN, cst, sizeLine_eq]
      have hn : pu1 lenD (var 0) [A, B, .no, .ow (.fr d), .no, .no] = some (.int (Nat.cast n)) := hA
      unfold mulLX
      rw [hz, hn]
      dsimp only
      rw [if_pos ⟨by omega, by omega, by decide⟩, Int.toNat_natCast]
      rw [rep_flat]
  have hm1 : mkL ((lD rows).map (fun _ => O.fl ((List.replicate n (0 : Int)).map .int))) = oM (zeros n) := by
    have e1 : (lD rows).map (fun _ => O.fl ((List.replicate n (0 : Int)).map .int)) = List.replicate n (O.fl ((List.replicate n (0 : Int)).map .int)) := by
      rw [List.map_const']
      unfold lD
      rw [List.length_map, hrl]
    have e2 : oM (zeros n) = .ol (List.replicate n (O.fl ((List.replicate n (0 : Int)).map .int))) := by
      unfold oM zeros
      rw [List.map_replicate]
    rw [e1, e2]
    obtain ⟨m, rfl⟩ : ∃ m, n = m + 1 := ⟨n - 1, by omega⟩
    rfl
  have s1 : setS 2 (lcM (itS (puV (var 0))) (gN 3) yes (mulLX (lstP (lpC (cst (.int 0)) lpN)) (pu1 lenD (var 0))) [3]) [A, B, .no, .no, .no, .no] = some (.nx [A, B, .ow (oM (zeros n)), .no, .no, .no]) := by
    have i1 : itS (puV (var 0)) [A, B, .no, .no, .no, .no] = some (.ok (lD rows) [A, B, .no, .no, .no, .no]) := rfl
    have i2 := lcM_ok i1 rfl l1
    rw [hm1] at i2
    unfold setS
    rw [i2]
    rfl
  have hr : ∀ s2 s3 s4 s5, itR1 (puV (pu1 lenD (var 0))) [A, B, s2, s3, s4, s5] = some (.ok ((List.range n).map fun (i : Nat) => D.int (Nat.cast i)) [A, B, s2, s3, s4, s5]) := fun s2 s3 s4 s5 => by
    have : pu1 lenD (var 0) [A, B, s2, s3, s4, s5] = some (.int (Nat.cast n)) := hA
    unfold itR1 puV
    rw [this]
    dsimp only
    rw [if_pos (by omega), Int.toNat_natCast, rngD_eq]
  let bd : MS := (sto2S 2 (puV (pu2 ixD (var 1) (pu2 ixD (pu2 ixD (var 0) (var 3)) (var 4)))) (pu2 ixD (var 1) (var 3)) (pu2 ixD (var 1) (var 4)))
  -- inner loop
  have inner := fun (M0 : List (List Int)) (V0 : Vd M0 n) (a : Nat) (ha : a < n) (s4 : Sl) (h4 : frS s4) => forL_inv (α := Nat) (t := gN 4) (b := bd) (f := fun i => D.int (Nat.cast i))
    (St := fun l ρ => ∃ (M : List (List Int)) (s4 : Sl), Vd M n ∧ frS s4 ∧ (∀ x y : Int, 0 ≤ x → x < n → 0 ≤ y → y < n → x ≠ elA p a → en M x y = en M0 x y) ∧ (∀ j ∈ l, j < n → en M (elA p a) (elA p j) = elA p (en rows a j)) ∧ ρ = [A, B, .ow (oM M), .ow (.fr (.int (Nat.cast a))), s4, .no])
    (bs := []) (as := List.range n) (fun b l r hl _ ρ ⟨M, s4, VM, h4, k1, k2, e⟩ => by
      subst e
      have hb : b < n := by
        have : b ∈ List.range n := by rw [show List.range n = l ++ b :: r from hl]; simp
        exact mem_range' this
      have q := V.en (i := a) (j := b) (by omega) (by omega) (by omega) (by omega)
      have p1 := pr a (by omega) (by omega)
      have p2 := pr b (by omega) (by omega)
      have p3 := pr _ q.1 q.2
      have x1 : ixD (.lst (p.map D.int)) (.int (Nat.cast a)) = some (.int (elA p a)) := ixL_int p a (by omega) (by omega)
      have x2 : ixD (.lst (p.map D.int)) (.int (Nat.cast b)) = some (.int (elA p b)) := ixL_int p b (by omega) (by omega)
      have x3 := ixL_row V a (by omega) (by omega)
      have x4 : ixD (.lst ((rowA rows a).map D.int)) (.int (Nat.cast b)) = some (.int (en rows a b)) := ixL_int _ b (by omega) (by rw [(V.get (j := (a : Int)) (by omega) (by omega)).1]; omega)
      have x5 : ixD (.lst (p.map D.int)) (.int (en rows a b)) = some (.int (elA p (en rows a b))) := ixL_int p _ q.1 (by omega)
      have st := oM_put M VM p1.1 p1.2 p2.1 p2.2 2 (puV (pu2 ixD (var 1) (pu2 ixD (pu2 ixD (var 0) (var 3)) (var 4)))) (pu2 ixD (var 1) (var 3)) (pu2 ixD (var 1) (var 4)) [A, B, .ow (oM M), .ow (.fr (.int (Nat.cast a))), .ow (.fr (.int (Nat.cast b))), .no] (.ow (oM M)) rfl rfl (v := elA p (en rows a b))
        (by simp only [puV, pu2, var, A, B, List.getElem?_cons_zero, List.getElem?_cons_succ, x3, x4, x5])
        (by simp only [pu2, var, A, B, List.getElem?_cons_zero, List.getElem?_cons_succ, x1])
        (by simp only [pu2, var, A, B, List.getElem?_cons_zero, List.getElem?_cons_succ, x2])
      refine ⟨[A, B, .ow (oM M), .ow (.fr (.int (Nat.cast a))), .ow (.fr (.int (Nat.cast b))), .no], [A, B, .ow (oM (put M (elA p a) (elA p b) (elA p (en rows a b)))), .ow (.fr (.int (Nat.cast a))), .ow (.fr (.int (Nat.cast b))), .no], ?_, .inl st, _, _, put_vd VM p1.1 p1.2 p3.1 p3.2, .inr ⟨_, rfl⟩, fun x y x0 x1 y0 y1 hx => ?_, fun j hj hjn => ?_, rfl⟩
      · have := frS_stb h4
        simp [gN, stb_at, this]
      · rw [put_en VM p1.1 p1.2 p2.1 p2.2 x0 x1 y0 y1, if_neg (fun h => hx h.1)]
        exact k1 x y x0 x1 y0 y1 hx
      · have p4 := pr j (by omega) (by omega)
        rw [put_en VM p1.1 p1.2 p2.1 p2.2 p1.1 p1.2 p4.1 p4.2]
        by_cases hjb : j = b
        · subst hjb
          rw [if_pos ⟨rfl, rfl⟩]
        · rw [if_neg (fun h => hjb (by have := pi j b (by omega) (by omega) (by omega) (by omega) h.2; omega))]
          rcases List.mem_append.mp hj with hj | hj
          · exact k2 j hj hjn
          · exact absurd (List.mem_singleton.mp hj) hjb) [A, B, .ow (oM M0), .ow (.fr (.int (Nat.cast a))), s4, .no] ⟨M0, s4, V0, h4, fun _ _ _ _ _ _ _ => rfl, fun j hj => (nomatch hj), rfl⟩
  have outer := forL_inv (α := Nat) (t := gN 3) (b := forS (itR1 (puV (pu1 lenD (var 0)))) (gN 4) bd) (f := fun i => D.int (Nat.cast i))
    (St := fun l ρ => ∃ (M : List (List Int)) (s3 s4 : Sl), Vd M n ∧ frS s3 ∧ frS s4 ∧ (∀ i ∈ l, i < n → ∀ j : Nat, j < n → en M (elA p i) (elA p j) = elA p (en rows i j)) ∧ ρ = [A, B, .ow (oM M), s3, s4, .no])
    (bs := []) (as := List.range n) (fun a l r hl _ ρ ⟨M, s3, s4, VM, h3, h4, k, e⟩ => by
      subst e
      have ha : a < n := by
        have : a ∈ List.range n := by rw [show List.range n = l ++ a :: r from hl]; simp
        exact mem_range' this
      have p1 := pr a (by omega) (by omega)
      obtain ⟨ρ', e1, M', s4', VM', h4', k1, k2, e2⟩ := inner M VM a ha s4 h4
      refine ⟨[A, B, .ow (oM M), .ow (.fr (.int (Nat.cast a))), s4, .no], ρ', ?_, .inl ?_, M', _, s4', VM', .inr ⟨_, rfl⟩, h4', fun i hi hin j hj => ?_, e2⟩
      · have := frS_stb h3
        simp [gN, stb_at, this]
      · show (match itR1 (puV (pu1 lenD (var 0))) _ with | some (.ok ds ρ') => forL (gN 4) bd ds ρ' | some (.ex c fs ρ') => some (.ex c fs ρ') | none => none) = _
        rw [hr]; exact e1
      · by_cases hia : i = a
        · subst hia
          exact k2 j (by simp [hj]) hj
        · have p2 := pr i (by omega) (by omega)
          have p3 := pr j (by omega) (by omega)
          rw [k1 _ _ p2.1 p2.2 p3.1 p3.2 (fun h => hia (by have := pi i a (by omega) (by omega) (by omega) (by omega) h; omega))]
          rcases List.mem_append.mp hi with hi | hi
          · exact k i hi hin j hj
          · exact absurd (List.mem_singleton.mp hi) hia) [A, B, .ow (oM (zeros n)), .no, .no, .no] ⟨zeros n, _, _, zeros_vd n1, .inl rfl, .inl rfl, fun i hi => (nomatch hi), rfl⟩
  obtain ⟨ρ', e1, M, s3, s4, VM, h3, h4, k, e2⟩ := outer
  subst e2
  refine ⟨M, VM, fun i j i0 i1 j0 j1 => ?_, ?_⟩
  · have := k i.toNat (by simp; omega) (by omega) j.toNat (by omega)
    rw [toNat_cast i i0, toNat_cast j j0] at this
    exact this
  · have hz : (oM M).fz = .lst (lD M) := by
      unfold oM lD
      rw [O.fz, fzs_eq, List.map_map]
      rfl
    have f1 : itS (frzS 2) [A, B, .ow (oM M), s3, s4, .no] = some (.ok (lD M) [A, B, .ow (.fr (.lst (lD M))), s3, s4, .no]) := by
      have : frzS 2 [A, B, .ow (oM M), s3, s4, .no] = some (.ok (.lst (lD M)) [A, B, .ow (.fr (.lst (lD M))), s3, s4, .no]) := by
        show some (Re.ok (oM M).fz _) = _
        rw [hz]; rfl
      unfold itS
      rw [this]
      rfl
    have f2 : lcL (gN 5) yes (ofP (pu1 tupD (var 5))) [5] (lD M) [A, B, .ow (.fr (.lst (lD M))), s3, s4, .no] = some ((lD M).map (fun d => O.fr (match d with | .lst ds => .tup ds | d => d)), [A, B, .ow (.fr (.lst (lD M))), s3, s4, .no]) :=
      lcL_map fun d m => by
        obtain ⟨r, _, rfl⟩ := List.mem_map.mp m
        exact ⟨[A, B, .ow (.fr (.lst (lD M))), s3, s4, .ow (.fr (.lst (r.map .int)))], [A, B, .ow (.fr (.lst (lD M))), s3, s4, .ow (.fr (.lst (r.map .int)))], rfl, rfl, rfl, rfl, rfl⟩
    have f3 := lcM_ok f1 rfl f2
    rw [mkL_map] at f3
    have f4 : (lD M).map (fun d => (match d with | .lst ds => D.tup ds | d => d)) = M.map rowD := by
      unfold lD
      rw [List.map_map]; rfl
    rw [f4] at f3
    have f5 : unw [A, B, .ow (.fr (.lst (lD M))), s3, s4, .no] [A, B, .ow (.fr (.lst (lD M))), s3, s4, .no] [5] = [A, B, .ow (.fr (.lst (lD M))), s3, s4, .no] := rfl
    rw [f5] at f3
    have s2 : forS (itR1 (puV (pu1 lenD (var 0)))) (gN 3) (forS (itR1 (puV (pu1 lenD (var 0)))) (gN 4) bd) [A, B, .ow (oM (zeros n)), .no, .no, .no] = some (.nx [A, B, .ow (oM M), s3, s4, .no]) := by
      show (match itR1 (puV (pu1 lenD (var 0))) _ with | some (.ok ds ρ') => forL (gN 3) (forS (itR1 (puV (pu1 lenD (var 0)))) (gN 4) bd) ds ρ' | some (.ex c fs ρ') => some (.ex c fs ρ') | none => none) = _
      rw [hr]; exact e1
    unfold F__law_renamed m__law_renamed
    show (match (match setS 2 _ [A, B, .no, .no, .no, .no] with | some (.nx ρ) => _ | r => r) with | some (.rt o ρ) => _ | some (.nx ρ) => _ | some (.ex c fs ρ) => _ | _ => _) = _
    rw [s1]
    dsimp only
    unfold seqS
    rw [s2]
    dsimp only
    simp only [retS, frM, mo1, frzM, f3, O.fz, tupD, D.sq, Option.map]
    rfl
theorem call_pick {i : Nat} {ρ : Rho} {s0 : Sl} {o : O} {ds : List D} {f : Mo D} (e : ρ[i]? = some s0) (et : s0.tr = some o) (ho : HP o) (hf : f ρ = some (.ok (.lst ds) ρ)) (h1 : 1 ≤ ds.length) (h2 : ds.length < 1000) :
    ∃ d o', d ∈ ds ∧ HP o' ∧ callM 2 F__law_pick (agL i (agV f agN)) ρ = some (.ok (.fr d) (ρ.set i (s0.put o'))) := by
  obtain ⟨d, o', q1, q2, q3⟩ := pick_eq o ho ds h1 h2
  refine ⟨d, o', q1, q2, ?_⟩
  simp [callM, agL, agV, agN, e, et, hf, toSl, noDup, lents, back, q3]
theorem call_order {i : Nat} {ρ : Rho} {s0 : Sl} {o : O} {n : Int} {f : Mo D} (e : ρ[i]? = some s0) (et : s0.tr = some o) (ho : HP o) (hf : f ρ = some (.ok (.int n) ρ)) (h0 : 0 ≤ n) (h1 : n ≤ 1000) :
    ∃ (p : List Int) (o' : O), p.Perm (rgI n.toNat) ∧ HP o' ∧ callM 2 F__law_order (agL i (agV f agN)) ρ = some (.ok (.fl (p.map .int)) (ρ.set i (s0.put o'))) := by
  obtain ⟨p, o', q1, q2, q3⟩ := order_eq o ho n h0 h1
  refine ⟨p, o', q1, q2, ?_⟩
  simp [callM, agL, agV, agN, e, et, hf, toSl, noDup, lents, back, q3]
theorem call_v {F : FS} {f : Mo D} {ρ ρ1 : Rho} {d1 : D} {r : O} (h1 : f ρ = some (.ok d1 ρ1)) (h3 : F [.ow (.fr d1)] = some (.ret r [.no])) : callM 1 F (agV f agN) ρ = some (.ok r ρ1) := by
  simp [callM, agV, agN, h1, toSl, noDup, lents, back, h3]
theorem call_vv {F : FS} {f g : Mo D} {ρ ρ1 ρ2 : Rho} {d1 d2 : D} {r : O} (h1 : f ρ = some (.ok d1 ρ1)) (h2 : g ρ1 = some (.ok d2 ρ2)) (h3 : F [.ow (.fr d1), .ow (.fr d2)] = some (.ret r [.no, .no])) : callM 2 F (agV f (agV g agN)) ρ = some (.ok r ρ2) := by
  simp [callM, agV, agN, h1, h2, toSl, noDup, lents, back, h3]
theorem call_vvv {F : FS} {f g h : Mo D} {ρ ρ1 ρ2 ρ3 : Rho} {d1 d2 d3 : D} {r : O} (h1 : f ρ = some (.ok d1 ρ1)) (h2 : g ρ1 = some (.ok d2 ρ2)) (h3 : h ρ2 = some (.ok d3 ρ3)) (h4 : F [.ow (.fr d1), .ow (.fr d2), .ow (.fr d3)] = some (.ret r [.no, .no, .no])) : callM 3 F (agV f (agV g (agV h agN))) ρ = some (.ok r ρ3) := by
  simp [callM, agV, agN, h1, h2, h3, toSl, noDup, lents, back, h4]
theorem perm_up {p : List Int} {n : Nat} (hp : p.Perm (rgI n)) : (0 :: p.map (· + 1)).Perm (rgI (n + 1)) := by
  have e : rgI (n + 1) = 0 :: (rgI n).map (· + 1) := by
    unfold rgI
    rw [List.range_succ_eq_map, List.map_cons, List.map_map, List.map_map]
    congr 1
  rw [e]
  exact (hp.map _).cons 0
theorem arePy_app : ∀ {a b : List D}, D.arePy a = true → D.arePy b = true → D.arePy (a ++ b) = true
  | [], _, _, h => h
  | d :: a, b, h1, h2 => by
    rw [D.arePy, Bool.and_eq_true] at h1
    rw [List.cons_append, D.arePy, h1.1, arePy_app h1.2 h2]; rfl
theorem arePy_of : ∀ {a : List D}, (∀ d ∈ a, d.isPy = true) → D.arePy a = true
  | [], _ => by rw [D.arePy]
  | d :: a, h => by rw [D.arePy, h d (List.mem_cons_self ..), arePy_of fun d' m => h d' (List.mem_cons_of_mem _ m)]; rfl
theorem arePy_sub {a b : List D} (h : D.arePy b = true) (hs : ∀ d ∈ a, d ∈ b) : D.arePy a = true := arePy_of fun d m => arePy_mem h d (hs d m)
theorem cutA_mem {xs : List D} {lo hi : Option Int} : ∀ d ∈ cutA xs lo hi, d ∈ xs := fun d m => by
  unfold cutA at m
  exact List.mem_of_mem_drop (List.mem_of_mem_take m)
theorem cutA_py {xs : List D} {lo hi : Option Int} (h : D.arePy xs = true) : D.arePy (cutA xs lo hi) = true := arePy_sub h cutA_mem
theorem cut_to {xs : List D} {i : Int} (h0 : 0 ≤ i) (h1 : i ≤ xs.length) : cutA xs none (some i) = xs.take i.toNat := by
  unfold cutA HT.sIx
  dsimp only
  rw [if_neg (by omega), Nat.min_eq_left (by omega)]
  simp
theorem cut_from {xs : List D} {i : Int} (h0 : 0 ≤ i) (h1 : i ≤ xs.length) : cutA xs (some i) none = xs.drop i.toNat := by
  unfold cutA HT.sIx
  dsimp only
  rw [if_neg (by omega), Nat.min_eq_left (by omega)]
  rw [List.take_of_length_le (by rw [List.length_drop]; omega)]
theorem slD_tup (xs : List D) (lo hi : Option Int) : slD (.tup xs) lo hi = some (.tup (cutA xs lo hi)) := rfl
theorem addD_tup {a b : List D} (h : a.length + b.length ≤ 16777216) : addD (.tup a) (.tup b) = some (.tup (a ++ b)) := by
  show (if a.length + b.length ≤ sizeLine then _ else _) = _
  rw [if_pos (by rw [sizeLine_eq]; exact h)]
theorem tD_py (rows : List (List Int)) : D.arePy (rows.map rowD) = true := arePy_of fun d m => by
  obtain ⟨r, _, rfl⟩ := List.mem_map.mp m
  unfold rowD
  rw [D.isPy]; exact arePy_map r
theorem rowD_py (r : List Int) : (rowD r).isPy = true := by unfold rowD; rw [D.isPy]; exact arePy_map r
theorem tD_isPy (rows : List (List Int)) : (tD rows).isPy = true := by unfold tD; rw [D.isPy]; exact tD_py rows
end K37
set_option maxHeartbeats 4000000
namespace K37
open PySem PySem.Spec L2 Tr
theorem least {P : Nat → Prop} [DecidablePred P] : ∀ {m : Nat}, P m → ∃ k, k ≤ m ∧ P k ∧ ∀ j, j < k → ¬ P j := fun {m} => by
  induction m using Nat.strongRecOn with
  | ind m ih =>
    intro h
    by_cases hx : ∃ j, j < m ∧ P j
    · obtain ⟨j, h1, h2⟩ := hx
      obtain ⟨k, k1, k2, k3⟩ := ih j h1 h2
      exact ⟨k, by omega, k2, k3⟩
    · exact ⟨m, Nat.le_refl _, h, fun j hj hp => hx ⟨j, hj, hp⟩⟩
/-- in range -/
abbrev Ir (n : Nat) (x : Int) : Prop := 0 ≤ x ∧ x < n
structure Gp (T : List (List Int)) (n : Nat) : Prop where
  v : Vd T n
  n1 : 1 ≤ n
  n2 : n ≤ 200
  row : ∀ i : Int, Ir n i → (rowA T i).Nodup
  l0 : ∀ j : Int, Ir n j → en T 0 j = j
  r0 : ∀ i : Int, Ir n i → en T i 0 = i
  asc : ∀ i j k : Int, Ir n i → Ir n j → Ir n k → en T (en T i j) k = en T i (en T j k)
theorem Gp.of {T : List (List Int)} (hc : chk (tD T) = none) : Gp T T.length := by
  obtain ⟨n1, n2, V, hf, hg⟩ := chk_none hc
  have old : ∀ i : Int, Ir T.length i → (rowA T i).Nodup ∧ (i = 0 → rowA T i = rgI T.length) ∧ (i ≠ 0 → elA (rowA T i) 0 = i) := fun i ⟨a, b⟩ => by
    have := hf i.toNat (by omega)
    rw [toNat_cast i a] at this
    unfold firstB at this
    rw [Bool.and_eq_true] at this
    refine ⟨of_decide_eq_true this.1, fun hi => ?_, fun hi => ?_⟩
    · rw [if_pos hi] at this
      have := of_decide_eq_true this.2
      rw [(V.get a b).1] at this
      exact this
    · rw [if_neg hi] at this
      exact of_decide_eq_true this.2
  refine ⟨V, n1, n2, fun i h => (old i h).1, fun j h => ?_, fun i h => ?_, fun i j k hi hj hk => ?_⟩
  · show elA (rowA T 0) j = j
    rw [(old 0 ⟨by omega, by omega⟩).2.1 rfl, elA_rg _ h.1 h.2]
  · by_cases h0 : i = 0
    · show elA (rowA T i) 0 = i
      rw [(old i h).2.1 h0, elA_rg _ (by omega) (by omega), h0]
    · exact (old i h).2.2 h0
  · have := hg i.toNat (by have := hi.2; have := hi.1; omega)
    unfold regB at this
    have := List.all_eq_true.mp (List.all_eq_true.mp this j.toNat (List.mem_range.mpr (by have := hj.2; have := hj.1; omega))) k.toNat (List.mem_range.mpr (by have := hk.2; have := hk.1; omega))
    rw [toNat_cast i hi.1, toNat_cast j hj.1, toNat_cast k hk.1] at this
    exact of_decide_eq_true this
section
variable {T : List (List Int)} {n : Nat} (G : Gp T n)
include G
theorem Gp.ir {i j : Int} (hi : Ir n i) (hj : Ir n j) : Ir n (en T i j) := G.v.en hi.1 hi.2 hj.1 hj.2
theorem Gp.z : Ir n 0 := ⟨Int.le_refl _, by have := G.n1; omega⟩
theorem Gp.canc {i j k : Int} (hi : Ir n i) (hj : Ir n j) (hk : Ir n k) (e : en T i j = en T i k) : j = k := by
  have hl := (G.v.get hi.1 hi.2).1
  exact elA_inj (G.row i hi) hj.1 (by rw [hl]; exact hj.2) hk.1 (by rw [hl]; exact hk.2) e
/-- each row holds each share -/
theorem Gp.has {i y : Int} (hi : Ir n i) (hy : Ir n y) : y ∈ rowA T i := by
  obtain ⟨hl, hx⟩ := G.v.get hi.1 hi.2
  have hs := (perm_rg hl).mp ⟨G.row i hi, hx⟩
  have hp : (rowA T i).Perm (rgI n) := by rw [← hs]; exact (sortI_perm _).symm
  exact hp.mem_iff.mpr ((rgI_mem n y).mpr hy)
/-- the place of 0 -/
def inv (T : List (List Int)) (i : Int) : Int := ((rowA T i).idxOf 0 : Nat)
theorem Gp.inv_ok {i : Int} (hi : Ir n i) : Ir n (inv T i) ∧ en T i (inv T i) = 0 := by
  have hm := G.has hi G.z
  have hlt := List.idxOf_lt_length_iff.mpr hm
  have hl := (G.v.get hi.1 hi.2).1
  refine ⟨⟨by unfold inv; omega, by unfold inv; omega⟩, ?_⟩
  obtain ⟨h1, h2⟩ := elA_get (r := rowA T i) (j := inv T i) (by unfold inv; omega) (by unfold inv; omega)
  show elA (rowA T i) (inv T i) = 0
  rw [h2]
  have := List.getElem_idxOf hlt
  simpa [inv] using this
theorem Gp.inv_l {i : Int} (hi : Ir n i) : en T (inv T i) i = 0 := by
  obtain ⟨hj, e1⟩ := G.inv_ok hi
  obtain ⟨hk, e2⟩ := G.inv_ok hj
  have : i = inv T (inv T i) := by
    have h1 := G.asc i (inv T i) (inv T (inv T i)) hi hj hk
    rw [e1, G.l0 _ hk, e2, G.r0 _ hi] at h1
    exact h1.symm
  have h2 := e2
  rw [← this] at h2
  exact h2
theorem Gp.inv_u {s i : Int} (hs : Ir n s) (hi : Ir n i) (e : en T s i = 0) : s = inv T i := by
  obtain ⟨hj, e1⟩ := G.inv_ok hi
  have h1 := G.asc s i (inv T i) hs hi hj
  rw [e, G.l0 _ hj, e1, G.r0 _ hs] at h1
  exact h1.symm
theorem Gp.inv_inv {i : Int} (hi : Ir n i) : inv T (inv T i) = i := (G.inv_u hi (G.inv_ok hi).1 (G.inv_ok hi).2).symm
theorem Gp.inv_list {i : Int} (hi : Ir n i) : (rgI n).filter (fun s => decide (en T s i = 0)) = [inv T i] := by
  have h1 : (rgI n).filter (fun s => decide (en T s i = 0)) = (rgI n).filter (· == inv T i) := by
    apply List.filter_congr
    intro s hs
    have hs' := (rgI_mem n s).mp hs
    by_cases h : s = inv T i
    · subst h; simp [G.inv_l hi]
    · have : ¬ en T s i = 0 := fun e => h (G.inv_u hs' hi e)
      simp [h, this]
  rw [h1, List.filter_beq]
  have h2 := (List.nodup_iff_count.mp (rgI_nodup n)) (inv T i)
  have h3 := List.count_pos_iff.mpr ((rgI_mem n (inv T i)).mpr (G.inv_ok hi).1)
  rw [show (rgI n).count (inv T i) = 1 by omega]
  rfl
/-! ### powers -/
def pw (T : List (List Int)) (a : Int) : Nat → Int
  | 0 => 0
  | k + 1 => en T (pw T a k) a
theorem Gp.pw_ir {a : Int} (ha : Ir n a) : ∀ k, Ir n (pw T a k)
  | 0 => G.z
  | k + 1 => G.ir (Gp.pw_ir ha k) ha
theorem Gp.pw_1 {a : Int} (ha : Ir n a) : pw T a 1 = a := G.l0 a ha
theorem Gp.pw_l {a : Int} (ha : Ir n a) : ∀ k, en T a (pw T a k) = pw T a (k + 1)
  | 0 => by
    show en T a 0 = en T 0 a
    rw [G.r0 a ha, G.l0 a ha]
  | k + 1 => by
    show en T a (en T (pw T a k) a) = en T (pw T a (k + 1)) a
    rw [← G.asc _ _ _ ha (G.pw_ir ha k) ha, Gp.pw_l ha k]
theorem Gp.pw_add {a : Int} (ha : Ir n a) (i : Nat) : ∀ j, en T (pw T a i) (pw T a j) = pw T a (i + j)
  | 0 => G.r0 _ (G.pw_ir ha i)
  | j + 1 => by
    show en T (pw T a i) (en T (pw T a j) a) = en T (pw T a (i + j)) a
    rw [← G.asc _ _ _ (G.pw_ir ha i) (G.pw_ir ha j) ha, Gp.pw_add ha i j]
/-- the order of a share -/
theorem Gp.ord {a : Int} (ha : Ir n a) : ∃ m, 1 ≤ m ∧ m ≤ n ∧ pw T a m = 0 ∧ ∀ k, 1 ≤ k → k < m → pw T a k ≠ 0 := by
  have hx : ∃ i j, i < j ∧ j ≤ n ∧ pw T a i = pw T a j := by
    refine Classical.byContradiction fun hc => ?_
    have nd : ((List.range (n + 1)).map (pw T a)).Nodup := by
      refine List.pairwise_iff_getElem.mpr fun i j hi hj hij e => hc ⟨i, j, hij, ?_, ?_⟩
      · rw [List.length_map, List.length_range] at hj; omega
      · simpa using e
    have := nodup_sub_len (m := rgI n) nd fun x hx => by
      obtain ⟨k, _, rfl⟩ := List.mem_map.mp hx
      exact (rgI_mem n _).mpr (G.pw_ir ha k)
    rw [List.length_map, List.length_range, rgI_len] at this
    omega
  obtain ⟨i, j, hij, hj, e⟩ := hx
  have h0 : pw T a (j - i) = 0 := by
    have h1 := G.pw_add ha i (j - i)
    rw [show i + (j - i) = j by omega, ← e] at h1
    refine G.canc (G.pw_ir ha i) (G.pw_ir ha _) G.z ?_
    rw [h1, G.r0 _ (G.pw_ir ha i)]
  obtain ⟨k, k1, k2, k3⟩ := least (P := fun k => pw T a (k + 1) = 0) (m := j - i - 1) (by rw [show j - i - 1 + 1 = j - i by omega]; exact h0)
  refine ⟨k + 1, by omega, by omega, k2, fun l l1 l2 e => k3 (l - 1) (by omega) (by rw [show l - 1 + 1 = l by omega]; exact e)⟩
end
/-! ### what some shares generate -/
inductive Cl (T : List (List Int)) (ss : List Int) : Int → Prop
  | z : Cl T ss 0
  | s {x s : Int} : Cl T ss x → s ∈ ss → Cl T ss (en T x s)
inductive Cm (T : List (List Int)) (ss : List Int) : Int → Prop
  | z : Cm T ss 0
  | g {s : Int} : s ∈ ss → Cm T ss s
  | m {x y : Int} : Cm T ss x → Cm T ss y → Cm T ss (en T x y)
theorem Gp.cl_ir {T : List (List Int)} {n : Nat} (G : Gp T n) {ss : List Int} (hs : ∀ s ∈ ss, Ir n s) {x : Int} (h : Cl T ss x) : Ir n x := by
  induction h with
  | z => exact G.z
  | s _ m ih => exact G.ir ih (hs _ m)
theorem Gp.cm_ir {T : List (List Int)} {n : Nat} (G : Gp T n) {ss : List Int} (hs : ∀ s ∈ ss, Ir n s) {x : Int} (h : Cm T ss x) : Ir n x := by
  induction h with
  | z => exact G.z
  | g m => exact hs _ m
  | m _ _ i1 i2 => exact G.ir i1 i2
theorem Gp.cl_cm {T : List (List Int)} {n : Nat} (G : Gp T n) {ss : List Int} (hs : ∀ s ∈ ss, Ir n s) (x : Int) : Cl T ss x ↔ Cm T ss x := by
  constructor
  · intro h
    induction h with
    | z => exact .z
    | s _ m ih => exact .m ih (.g m)
  · have mul : ∀ {y : Int}, Cl T ss y → ∀ {x : Int}, Cl T ss x → Cl T ss (en T x y) := fun {y} hy => by
      induction hy with
      | z => intro x hx; rw [G.r0 x (G.cl_ir hs hx)]; exact hx
      | s h m ih =>
        intro x hx
        rw [← G.asc _ _ _ (G.cl_ir hs hx) (G.cl_ir hs h) (hs _ m)]
        exact .s (ih hx) m
    intro h
    induction h with
    | z => exact .z
    | @g s m =>
      have := Cl.s (T := T) (ss := ss) .z m
      rw [G.l0 s (hs s m)] at this
      exact this
    | m _ _ i1 i2 => exact mul i2 i1
/-! ### the opposite table -/
def opp (T : List (List Int)) (n : Nat) : List (List Int) := (List.range n).map fun (j : Nat) => T.map fun r => elA r j
theorem opp_vd {T : List (List Int)} {n : Nat} (V : Vd T n) : Vd (opp T n) n := by
  refine ⟨by unfold opp; rw [List.length_map, List.length_range], fun r hr => ?_⟩
  obtain ⟨j, hj, rfl⟩ := List.mem_map.mp hr
  have hj' := mem_range' hj
  refine ⟨by rw [List.length_map, V.len], fun x hx => ?_⟩
  obtain ⟨r, hr2, rfl⟩ := List.mem_map.mp hx
  obtain ⟨hl, hb⟩ := V.row r hr2
  exact hb _ (elA_mem (by omega) (by omega))
theorem opp_row {T : List (List Int)} {n : Nat} (V : Vd T n) {j : Int} (hj : Ir n j) : rowA (opp T n) j = T.map fun r => elA r j := by
  obtain ⟨h1, h2⟩ := rowA_get (rows := opp T n) hj.1 (by rw [(opp_vd V).len]; exact hj.2)
  have h3 : (opp T n)[j.toNat] = T.map fun r => elA r ((j.toNat : Nat) : Int) := by simp [opp]
  rw [h2, h3, toNat_cast j hj.1]
theorem opp_en {T : List (List Int)} {n : Nat} (V : Vd T n) {i j : Int} (hi : Ir n i) (hj : Ir n j) : en (opp T n) i j = en T j i := by
  unfold en
  rw [opp_row V hi]
  obtain ⟨h1, h2⟩ := elA_get (r := T.map fun r => elA r i) hj.1 (by rw [List.length_map, V.len]; exact hj.2)
  obtain ⟨h3, h4⟩ := rowA_get (rows := T) hj.1 (by rw [V.len]; exact hj.2)
  rw [h2, List.getElem_map, h4]
theorem ext_en {S T : List (List Int)} {n : Nat} (V : Vd S n) (W : Vd T n) (h : ∀ i j : Int, Ir n i → Ir n j → en S i j = en T i j) : S = T := by
  apply List.ext_getElem (by rw [V.len, W.len])
  intro i h1 h2
  have hi : Ir n (i : Int) := ⟨by omega, by have := V.len; omega⟩
  obtain ⟨_, e1⟩ := rowA_get (rows := S) hi.1 (by rw [V.len]; exact hi.2)
  obtain ⟨_, e2⟩ := rowA_get (rows := T) hi.1 (by rw [W.len]; exact hi.2)
  have e1' : rowA S i = S[i] := e1
  have e2' : rowA T i = T[i] := e2
  rw [← e1', ← e2']
  refine ext_elA (by rw [(V.get hi.1 hi.2).1, (W.get hi.1 hi.2).1]) fun j j0 j1 => ?_
  rw [(V.get hi.1 hi.2).1] at j1
  exact h i j hi ⟨j0, j1⟩
theorem opp_opp {T : List (List Int)} {n : Nat} (V : Vd T n) : opp (opp T n) n = T := ext_en (opp_vd (opp_vd V)) V fun i j hi hj => by
  rw [opp_en (opp_vd V) hi hj, opp_en V hj hi]
theorem Gp.opp {T : List (List Int)} {n : Nat} (G : Gp T n) : Gp (opp T n) n := by
  refine ⟨opp_vd G.v, G.n1, G.n2, fun i hi => ?_, fun j hj => ?_, fun i hi => ?_, fun i j k hi hj hk => ?_⟩
  · have hl := ((opp_vd G.v).get hi.1 hi.2).1
    refine nodup_elA fun a b a0 a1 b0 b1 e => ?_
    rw [hl] at a1 b1
    have e1 : en (K37.opp T n) i a = en (K37.opp T n) i b := e
    rw [opp_en G.v hi ⟨a0, a1⟩, opp_en G.v hi ⟨b0, b1⟩] at e1
    have this : en T (en T a i) (inv T i) = en T (en T b i) (inv T i) := by rw [e1]
    rw [G.asc _ _ _ ⟨a0, a1⟩ hi (G.inv_ok hi).1, G.asc _ _ _ ⟨b0, b1⟩ hi (G.inv_ok hi).1, (G.inv_ok hi).2, G.r0 _ ⟨a0, a1⟩, G.r0 _ ⟨b0, b1⟩] at this
    exact this
  · rw [opp_en G.v G.z hj, G.r0 j hj]
  · rw [opp_en G.v hi G.z, G.l0 i hi]
  · rw [opp_en G.v hi hj, opp_en G.v (G.ir hj hi) hk, opp_en G.v hj hk, opp_en G.v hi (G.ir hk hj), G.asc _ _ _ hk hj hi]
/-- the opposite group generates the same -/
theorem Gp.cm_opp {T : List (List Int)} {n : Nat} (G : Gp T n) {ss : List Int} (hs : ∀ s ∈ ss, Ir n s) (x : Int) : Cm (K37.opp T n) ss x ↔ Cm T ss x := by
  have one : ∀ {S : List (List Int)} (GS : Gp S n) {x : Int}, Cm (K37.opp S n) ss x → Cm S ss x := fun {S} GS {x} h => by
    induction h with
    | z => exact .z
    | g m => exact .g m
    | m h1 h2 i1 i2 =>
      rw [opp_en GS.v (GS.cm_ir hs i1) (GS.cm_ir hs i2)]
      exact .m i2 i1
  refine ⟨one G, fun h => ?_⟩
  have := one (S := K37.opp T n) G.opp (x := x)
  rw [opp_opp G.v] at this
  exact this h
end K37
set_option maxHeartbeats 4000000
namespace K37
open PySem PySem.Spec L2 Tr
theorem seq_nx {f g : MS} {ρ ρ' : Rho} (h : f ρ = some (.nx ρ')) : seqS f g ρ = g ρ' := by unfold seqS; rw [h]
theorem seq_ex {f g : MS} {ρ ρ' : Rho} {c fs} (h : f ρ = some (.ex c fs ρ')) : seqS f g ρ = some (.ex c fs ρ') := by unfold seqS; rw [h]
theorem frz_x {f : Mo O} {ρ ρ1 : Rho} {d : D} (h : f ρ = some (.ok (.fr d) ρ1)) : frzM f ρ = some (.ok d ρ1) := by unfold frzM; rw [h]; rfl
theorem set_of {i : Nat} {f : Mo O} {ρ ρ' : Rho} {d : D} (h : f ρ = some (.ok (.fr d) ρ')) (hs : ∃ s, ρ'[i]? = some s ∧ stbS s = true) : setF i f ρ = some (.nx (ρ'.set i (.ow (.fr d)))) := by
  obtain ⟨s, h1, h2⟩ := hs
  unfold setF setS frM frzM
  rw [h]
  simp [O.fz, stb_at, h1, h2]
theorem drop_of {f : Mo O} {ρ ρ' : Rho} {o : O} (h : f ρ = some (.ok o ρ')) : dropS f ρ = some (.nx ρ') := by unfold dropS; rw [h]
theorem drop_ex {f : Mo O} {ρ ρ' : Rho} {c fs} (h : f ρ = some (.ex c fs ρ')) : dropS f ρ = some (.ex c fs ρ') := by unfold dropS; rw [h]
theorem ex_vv {F : FS} {f g : Mo D} {ρ ρ1 ρ2 : Rho} {d1 d2 : D} {c fs} (h1 : f ρ = some (.ok d1 ρ1)) (h2 : g ρ1 = some (.ok d2 ρ2)) (h3 : F [.ow (.fr d1), .ow (.fr d2)] = some (.ex c fs [.no, .no])) : callM 2 F (agV f (agV g agN)) ρ = some (.ex c fs ρ2) := by
  simp [callM, agV, agN, h1, h2, toSl, noDup, lents, back, h3]
theorem ex_vvv {F : FS} {f g h : Mo D} {ρ ρ1 ρ2 ρ3 : Rho} {d1 d2 d3 : D} {c fs} (h1 : f ρ = some (.ok d1 ρ1)) (h2 : g ρ1 = some (.ok d2 ρ2)) (h3 : h ρ2 = some (.ok d3 ρ3)) (h4 : F [.ow (.fr d1), .ow (.fr d2), .ow (.fr d3)] = some (.ex c fs [.no, .no, .no])) : callM 3 F (agV f (agV g (agV h agN))) ρ = some (.ex c fs ρ3) := by
  simp [callM, agV, agN, h1, h2, h3, toSl, noDup, lents, back, h4]
def bad (l : List Sl) : Option FR := some (.ex "InvalidNumber" [("word", .str "share")] l)
section
variable {T : List (List Int)} {n : Nat}
theorem int_py (i : Int) : (D.int i).isPy = true := by simp [D.isPy]
theorem need_ok (V : Vd T n) {d : D} (h : d.isPy = true) (hb : below d n = true) : F_need_share [.ow (.fr (tD T)), .ow (.fr d)] = some (.ret (.fr .non) [.no, .no]) := by
  have e := is_below_eq d n h
  have l := lenD_t V
  unfold F_need_share m_need_share
  simp [pu1, pu2, mo1, mo2, cst, var, bor, con, conAt, flD, puV, frM, frzM, ofP, mov, frzS, tupP, lpN, lpC, lstP, lxN, lxC, lstX, lvN, lvC, tupV, andV, orV, notV, andP, orP, notP, ifP, ifM, tb, tbM, quM, notQ, notY, andQ, orQ, andY, orY, seqS, ifS, retS, retN, nxS, setF, setS, dropS, agN, agV, agL, callM, toSl, back, noDup, lents, Sl.tr, Sl.put, O.fz, gN, gT, gsN, gsC, stb_at, stbS_no, stbS_ow, frOk, wipeR, unw, itS, itR1, itR2, itE, asgS, par2, par3, raiS, chn, yes, moL, moLv, lent, runF, forS, onI0, onI, ltD, leD, gtD, geD, subD, negD, isND, notND, mkL_map, sizeLine_eq, D.isN, D.sq, D.lsq, e, l, hb]
theorem need_bad (V : Vd T n) {d : D} (h : d.isPy = true) (hb : below d n = false) : F_need_share [.ow (.fr (tD T)), .ow (.fr d)] = bad [.no, .no] := by
  have e := is_below_eq d n h
  have l := lenD_t V
  unfold F_need_share m_need_share
  simp [pu1, pu2, mo1, mo2, cst, var, bor, con, conAt, flD, puV, frM, frzM, ofP, mov, frzS, tupP, lpN, lpC, lstP, lxN, lxC, lstX, lvN, lvC, tupV, andV, orV, notV, andP, orP, notP, ifP, ifM, tb, tbM, quM, notQ, notY, andQ, orQ, andY, orY, seqS, ifS, retS, retN, nxS, setF, setS, dropS, agN, agV, agL, callM, toSl, back, noDup, lents, Sl.tr, Sl.put, O.fz, gN, gT, gsN, gsC, stb_at, stbS_no, stbS_ow, frOk, wipeR, unw, itS, itR1, itR2, itE, asgS, par2, par3, raiS, chn, yes, moL, moLv, lent, runF, forS, onI0, onI, ltD, leD, gtD, geD, subD, negD, isND, notND, mkL_map, sizeLine_eq, D.isN, D.sq, D.lsq, e, l, hb, bad]
theorem below_ir {a : Int} (h : Ir n a) : below (.int a) n = true := by
  show (decide (0 ≤ a) && decide (a < n)) = true
  rw [decide_eq_true h.1, decide_eq_true h.2]; rfl
theorem need_ir (V : Vd T n) {a : Int} (h : Ir n a) : F_need_share [.ow (.fr (tD T)), .ow (.fr (.int a))] = some (.ret (.fr .non) [.no, .no]) := need_ok V (int_py a) (below_ir h)
theorem times_eq (V : Vd T n) {a b : Int} (ha : Ir n a) (hb : Ir n b) : F_times [.ow (.fr (tD T)), .ow (.fr (.int a)), .ow (.fr (.int b))] = some (.ret (.fr (.int (en T a b))) [.no, .no, .no]) := by
  have e1 := need_ir V ha
  have e2 := need_ir V hb
  have i1 := ix_row V a ha.1 ha.2
  have i2 := ix_en V ha.1 ha.2 hb.1 hb.2
  unfold F_times m_times
  simp [pu1, pu2, mo1, mo2, cst, var, bor, con, conAt, flD, puV, frM, frzM, ofP, mov, frzS, tupP, lpN, lpC, lstP, lxN, lxC, lstX, lvN, lvC, tupV, andV, orV, notV, andP, orP, notP, ifP, ifM, tb, tbM, quM, notQ, notY, andQ, orQ, andY, orY, seqS, ifS, retS, retN, nxS, setF, setS, dropS, agN, agV, agL, callM, toSl, back, noDup, lents, Sl.tr, Sl.put, O.fz, gN, gT, gsN, gsC, stb_at, stbS_no, stbS_ow, frOk, wipeR, unw, itS, itR1, itR2, itE, asgS, par2, par3, raiS, chn, yes, moL, moLv, lent, runF, forS, onI0, onI, ltD, leD, gtD, geD, subD, negD, isND, notND, mkL_map, sizeLine_eq, D.isN, D.sq, D.lsq, e1, e2, i1, i2]
theorem times_bad1 (V : Vd T n) {d e : D} (h : d.isPy = true) (hb : below d n = false) : F_times [.ow (.fr (tD T)), .ow (.fr d), .ow (.fr e)] = bad [.no, .no, .no] := by
  have e1 := need_bad V h hb
  unfold bad at e1
  unfold F_times m_times
  simp [pu1, pu2, mo1, mo2, cst, var, bor, con, conAt, flD, puV, frM, frzM, ofP, mov, frzS, tupP, lpN, lpC, lstP, lxN, lxC, lstX, lvN, lvC, tupV, andV, orV, notV, andP, orP, notP, ifP, ifM, tb, tbM, quM, notQ, notY, andQ, orQ, andY, orY, seqS, ifS, retS, retN, nxS, setF, setS, dropS, agN, agV, agL, callM, toSl, back, noDup, lents, Sl.tr, Sl.put, O.fz, gN, gT, gsN, gsC, stb_at, stbS_no, stbS_ow, frOk, wipeR, unw, itS, itR1, itR2, itE, asgS, par2, par3, raiS, chn, yes, moL, moLv, lent, runF, forS, onI0, onI, ltD, leD, gtD, geD, subD, negD, isND, notND, mkL_map, sizeLine_eq, D.isN, D.sq, D.lsq, e1, bad]
theorem times_bad2 (V : Vd T n) {a : Int} (ha : Ir n a) {d : D} (h : d.isPy = true) (hb : below d n = false) : F_times [.ow (.fr (tD T)), .ow (.fr (.int a)), .ow (.fr d)] = bad [.no, .no, .no] := by
  have e1 := need_ir V ha
  have e2 := need_bad V h hb
  unfold bad at e2
  unfold F_times m_times
  simp [pu1, pu2, mo1, mo2, cst, var, bor, con, conAt, flD, puV, frM, frzM, ofP, mov, frzS, tupP, lpN, lpC, lstP, lxN, lxC, lstX, lvN, lvC, tupV, andV, orV, notV, andP, orP, notP, ifP, ifM, tb, tbM, quM, notQ, notY, andQ, orQ, andY, orY, seqS, ifS, retS, retN, nxS, setF, setS, dropS, agN, agV, agL, callM, toSl, back, noDup, lents, Sl.tr, Sl.put, O.fz, gN, gT, gsN, gsC, stb_at, stbS_no, stbS_ow, frOk, wipeR, unw, itS, itR1, itR2, itE, asgS, par2, par3, raiS, chn, yes, moL, moLv, lent, runF, forS, onI0, onI, ltD, leD, gtD, geD, subD, negD, isND, notND, mkL_map, sizeLine_eq, D.isN, D.sq, D.lsq, e1, e2, bad]
theorem ixT_row {r : List Int} (h : 0 ∈ r) : ixTD (rowD r) (.int 0) = some (.int (Nat.cast (r.idxOf 0))) := by
  unfold ixTD rowD
  dsimp only
  rw [ints_map]
  exact if_pos h
theorem inverse_eq (G : Gp T n) {a : Int} (ha : Ir n a) : F_inverse [.ow (.fr (tD T)), .ow (.fr (.int a))] = some (.ret (.fr (.int (inv T a))) [.no, .no]) := by
  have e1 := need_ir G.v ha
  have i1 := ix_row G.v a ha.1 ha.2
  have i2 : ixTD (rowD (rowA T a)) (.int 0) = some (.int (inv T a)) := ixT_row (G.has ha G.z)
  unfold F_inverse m_inverse
  simp [pu1, pu2, mo1, mo2, cst, var, bor, con, conAt, flD, puV, frM, frzM, ofP, mov, frzS, tupP, lpN, lpC, lstP, lxN, lxC, lstX, lvN, lvC, tupV, andV, orV, notV, andP, orP, notP, ifP, ifM, tb, tbM, quM, notQ, notY, andQ, orQ, andY, orY, seqS, ifS, retS, retN, nxS, setF, setS, dropS, agN, agV, agL, callM, toSl, back, noDup, lents, Sl.tr, Sl.put, O.fz, gN, gT, gsN, gsC, stb_at, stbS_no, stbS_ow, frOk, wipeR, unw, itS, itR1, itR2, itE, asgS, par2, par3, raiS, chn, yes, moL, moLv, lent, runF, forS, onI0, onI, ltD, leD, gtD, geD, subD, negD, isND, notND, mkL_map, sizeLine_eq, D.isN, D.sq, D.lsq, e1, i1, i2]
theorem inverse_bad (V : Vd T n) {d : D} (h : d.isPy = true) (hb : below d n = false) : F_inverse [.ow (.fr (tD T)), .ow (.fr d)] = bad [.no, .no] := by
  have e1 := need_bad V h hb
  unfold bad at e1
  unfold F_inverse m_inverse
  simp [pu1, pu2, mo1, mo2, cst, var, bor, con, conAt, flD, puV, frM, frzM, ofP, mov, frzS, tupP, lpN, lpC, lstP, lxN, lxC, lstX, lvN, lvC, tupV, andV, orV, notV, andP, orP, notP, ifP, ifM, tb, tbM, quM, notQ, notY, andQ, orQ, andY, orY, seqS, ifS, retS, retN, nxS, setF, setS, dropS, agN, agV, agL, callM, toSl, back, noDup, lents, Sl.tr, Sl.put, O.fz, gN, gT, gsN, gsC, stb_at, stbS_no, stbS_ow, frOk, wipeR, unw, itS, itR1, itR2, itE, asgS, par2, par3, raiS, chn, yes, moL, moLv, lent, runF, forS, onI0, onI, ltD, leD, gtD, geD, subD, negD, isND, notND, mkL_map, sizeLine_eq, D.isN, D.sq, D.lsq, e1, bad]
/-! ### order -/
def oC : Mo Bool := (quM (tb (pu2 neD (var 3) (cst (.int 0)))))
def oB : MS := (par2 2 3 (lxC (frM (puV (pu2 addD (var 2) (cst (.int 1))))) (lxC (frM (puV (pu2 ixD (pu2 ixD (var 0) (var 3)) (var 1)))) lxN)))
theorem order_loop (G : Gp T n) {a : Int} (ha : Ir n a) {m : Nat} (hm : pw T a m = 0) (hl : ∀ k, 1 ≤ k → k < m → pw T a k ≠ 0) : ∀ (f k : Nat), 1 ≤ k → k ≤ m → m - k < f →
    whS f oC oB [.ow (.fr (tD T)), .ow (.fr (.int a)), .ow (.fr (.int (Nat.cast k))), .ow (.fr (.int (pw T a k)))] = some (.nx [.ow (.fr (tD T)), .ow (.fr (.int a)), .ow (.fr (.int (Nat.cast m))), .ow (.fr (.int 0))])
  | 0, k, h1, h2, h3 => by omega
  | f + 1, k, h1, h2, h3 => by
    unfold whS
    have hc : oC [.ow (.fr (tD T)), .ow (.fr (.int a)), .ow (.fr (.int (Nat.cast k))), .ow (.fr (.int (pw T a k)))] = some (.ok (!decide (pw T a k = 0)) [.ow (.fr (tD T)), .ow (.fr (.int a)), .ow (.fr (.int (Nat.cast k))), .ow (.fr (.int (pw T a k)))]) := by
      simp [oC, pu1, pu2, mo1, mo2, cst, var, bor, con, conAt, flD, puV, frM, frzM, ofP, mov, frzS, tupP, lpN, lpC, lstP, lxN, lxC, lstX, lvN, lvC, tupV, andV, orV, notV, andP, orP, notP, ifP, ifM, tb, tbM, quM, notQ, notY, andQ, orQ, andY, orY, seqS, ifS, retS, retN, nxS, setF, setS, dropS, agN, agV, agL, callM, toSl, back, noDup, lents, Sl.tr, Sl.put, O.fz, gN, gT, gsN, gsC, stb_at, stbS_no, stbS_ow, frOk, wipeR, unw, itS, itR1, itR2, itE, asgS, par2, par3, raiS, chn, yes, moL, moLv, lent, runF, forS, onI0, onI, ltD, leD, gtD, geD, subD, negD, isND, notND, mkL_map, sizeLine_eq, D.isN, D.sq, D.lsq, neD_int]
    rw [hc]
    by_cases h0 : pw T a k = 0
    · have : k = m := by
        refine Classical.byContradiction fun hne => hl k h1 (by omega) h0
      subst this
      rw [decide_eq_true h0, h0]
      rfl
    · rw [decide_eq_false h0, Bool.not_false]
      dsimp only
      have hk := G.pw_ir ha k
      have i1 := ix_row G.v _ hk.1 hk.2
      have i2 := ix_en G.v hk.1 hk.2 ha.1 ha.2
      have hb : oB [.ow (.fr (tD T)), .ow (.fr (.int a)), .ow (.fr (.int (Nat.cast k))), .ow (.fr (.int (pw T a k)))] = some (.nx [.ow (.fr (tD T)), .ow (.fr (.int a)), .ow (.fr (.int (Nat.cast (k + 1)))), .ow (.fr (.int (pw T a (k + 1))))]) := by
        simp [oB, pu1, pu2, mo1, mo2, cst, var, bor, con, conAt, flD, puV, frM, frzM, ofP, mov, frzS, tupP, lpN, lpC, lstP, lxN, lxC, lstX, lvN, lvC, tupV, andV, orV, notV, andP, orP, notP, ifP, ifM, tb, tbM, quM, notQ, notY, andQ, orQ, andY, orY, seqS, ifS, retS, retN, nxS, setF, setS, dropS, agN, agV, agL, callM, toSl, back, noDup, lents, Sl.tr, Sl.put, O.fz, gN, gT, gsN, gsC, stb_at, stbS_no, stbS_ow, frOk, wipeR, unw, itS, itR1, itR2, itE, asgS, par2, par3, raiS, chn, yes, moL, moLv, lent, runF, forS, onI0, onI, ltD, leD, gtD, geD, subD, negD, isND, notND, mkL_map, sizeLine_eq, D.isN, D.sq, D.lsq, i1, i2, addD, pw]
      rw [hb]
      have hlt : k < m := by
        refine Classical.byContradiction fun hne => h0 ?_
        rw [show k = m by omega]; exact hm
      exact order_loop G ha hm hl f (k + 1) (by omega) (by omega) (by omega)
theorem order_eq0 (G : Gp T n) {a : Int} (ha : Ir n a) : ∃ m : Nat, 1 ≤ m ∧ m ≤ n ∧ pw T a m = 0 ∧ (∀ k, 1 ≤ k → k < m → pw T a k ≠ 0) ∧ F_order_of [.ow (.fr (tD T)), .ow (.fr (.int a))] = some (.ret (.fr (.int (Nat.cast m))) [.no, .no]) := by
  obtain ⟨m, m1, m2, m3, m4⟩ := G.ord ha
  refine ⟨m, m1, m2, m3, m4, ?_⟩
  have e1 := need_ir G.v ha
  have l := order_loop G ha m3 m4 1000 1 (Nat.le_refl _) m1 (by have := G.n2; omega)
  rw [G.pw_1 ha] at l
  have w : whF (fun _ => 1000) oC oB [.ow (.fr (tD T)), .ow (.fr (.int a)), .ow (.fr (.int 1)), .ow (.fr (.int a))] = some (.nx [.ow (.fr (tD T)), .ow (.fr (.int a)), .ow (.fr (.int (Nat.cast m))), .ow (.fr (.int 0))]) := l
  have s1 : dropS (callM 2 F_need_share (agV (puV (var 0)) (agV (puV (var 1)) agN))) [.ow (.fr (tD T)), .ow (.fr (.int a)), .no, .no] = some (.nx [.ow (.fr (tD T)), .ow (.fr (.int a)), .no, .no]) := drop_of (call_vv rfl rfl e1)
  have s2 : par2 2 3 (lxC (frM (puV (cst (.int 1)))) (lxC (frM (puV (var 1))) lxN)) [.ow (.fr (tD T)), .ow (.fr (.int a)), .no, .no] = some (.nx [.ow (.fr (tD T)), .ow (.fr (.int a)), .ow (.fr (.int 1)), .ow (.fr (.int a))]) := by simp [pu1, pu2, mo1, mo2, cst, var, bor, con, conAt, flD, puV, frM, frzM, ofP, mov, frzS, tupP, lpN, lpC, lstP, lxN, lxC, lstX, lvN, lvC, tupV, andV, orV, notV, andP, orP, notP, ifP, ifM, tb, tbM, quM, notQ, notY, andQ, orQ, andY, orY, seqS, ifS, retS, retN, nxS, setF, setS, dropS, agN, agV, agL, callM, toSl, back, noDup, lents, Sl.tr, Sl.put, O.fz, gN, gT, gsN, gsC, stb_at, stbS_no, stbS_ow, frOk, wipeR, unw, itS, itR1, itR2, itE, asgS, par2, par3, raiS, chn, yes, moL, moLv, lent, runF, forS, onI0, onI, ltD, leD, gtD, geD, subD, negD, isND, notND, mkL_map, sizeLine_eq, D.isN, D.sq, D.lsq]
  unfold F_order_of m_order_of runF
  show (match (seqS (dropS (callM 2 F_need_share (agV (puV (var 0)) (agV (puV (var 1)) agN)))) (seqS (par2 2 3 (lxC (frM (puV (cst (.int 1)))) (lxC (frM (puV (var 1))) lxN))) (seqS (whF (fun _ => 1000) oC oB) (retS (ofP (var 2)))))) [.ow (.fr (tD T)), .ow (.fr (.int a)), .no, .no] with | some (.rt o ρ) => _ | some (.nx ρ) => _ | some (.ex c fs ρ) => _ | _ => _) = _
  rw [seq_nx s1, seq_nx s2, seq_nx w]
  rfl
theorem order_bad (V : Vd T n) {d : D} (h : d.isPy = true) (hb : below d n = false) : F_order_of [.ow (.fr (tD T)), .ow (.fr d)] = bad [.no, .no] := by
  have e1 := need_bad V h hb
  unfold bad at e1
  unfold F_order_of m_order_of
  simp [pu1, pu2, mo1, mo2, cst, var, bor, con, conAt, flD, puV, frM, frzM, ofP, mov, frzS, tupP, lpN, lpC, lstP, lxN, lxC, lstX, lvN, lvC, tupV, andV, orV, notV, andP, orP, notP, ifP, ifM, tb, tbM, quM, notQ, notY, andQ, orQ, andY, orY, seqS, ifS, retS, retN, nxS, setF, setS, dropS, agN, agV, agL, callM, toSl, back, noDup, lents, Sl.tr, Sl.put, O.fz, gN, gT, gsN, gsC, stb_at, stbS_no, stbS_ow, frOk, wipeR, unw, itS, itR1, itR2, itE, asgS, par2, par3, raiS, chn, yes, moL, moLv, lent, runF, forS, onI0, onI, ltD, leD, gtD, geD, subD, negD, isND, notND, mkL_map, sizeLine_eq, D.isN, D.sq, D.lsq, e1, bad]
/-! ### power -/
theorem power_bad (V : Vd T n) {d e : D} (h : d.isPy = true) (hb : below d n = false) : F_power [.ow (.fr (tD T)), .ow (.fr d), .ow (.fr e)] = bad [.no, .no, .no] := by
  have e1 := need_bad V h hb
  unfold bad at e1
  unfold F_power m_power
  simp [pu1, pu2, mo1, mo2, cst, var, bor, con, conAt, flD, puV, frM, frzM, ofP, mov, frzS, tupP, lpN, lpC, lstP, lxN, lxC, lstX, lvN, lvC, tupV, andV, orV, notV, andP, orP, notP, ifP, ifM, tb, tbM, quM, notQ, notY, andQ, orQ, andY, orY, seqS, ifS, retS, retN, nxS, setF, setS, dropS, agN, agV, agL, callM, toSl, back, noDup, lents, Sl.tr, Sl.put, O.fz, gN, gT, gsN, gsC, stb_at, stbS_no, stbS_ow, frOk, wipeR, unw, itS, itR1, itR2, itE, asgS, par2, par3, raiS, chn, yes, moL, moLv, lent, runF, forS, onI0, onI, ltD, leD, gtD, geD, subD, negD, isND, notND, mkL_map, sizeLine_eq, D.isN, D.sq, D.lsq, e1, bad]
theorem power_wild (V : Vd T n) {a : Int} (ha : Ir n a) {d : D} (h : d.isPy = true) (hb : isI d = false) : F_power [.ow (.fr (tD T)), .ow (.fr (.int a)), .ow (.fr d)] = some (.ex "InvalidNumber" [("word", .str "many")] [.no, .no, .no]) := by
  have e1 := need_ir V ha
  have e2 := is_integer_eq d h
  unfold F_power m_power
  simp [pu1, pu2, mo1, mo2, cst, var, bor, con, conAt, flD, puV, frM, frzM, ofP, mov, frzS, tupP, lpN, lpC, lstP, lxN, lxC, lstX, lvN, lvC, tupV, andV, orV, notV, andP, orP, notP, ifP, ifM, tb, tbM, quM, notQ, notY, andQ, orQ, andY, orY, seqS, ifS, retS, retN, nxS, setF, setS, dropS, agN, agV, agL, callM, toSl, back, noDup, lents, Sl.tr, Sl.put, O.fz, gN, gT, gsN, gsC, stb_at, stbS_no, stbS_ow, frOk, wipeR, unw, itS, itR1, itR2, itE, asgS, par2, par3, raiS, chn, yes, moL, moLv, lent, runF, forS, onI0, onI, ltD, leD, gtD, geD, subD, negD, isND, notND, mkL_map, sizeLine_eq, D.isN, D.sq, D.lsq, e1, e2, hb]
theorem power_eq (G : Gp T n) {a : Int} (ha : Ir n a) {m : Nat} (m1 : 1 ≤ m) (m2 : m ≤ n) (ho : F_order_of [.ow (.fr (tD T)), .ow (.fr (.int a))] = some (.ret (.fr (.int (Nat.cast m))) [.no, .no])) (k : Int) :
    F_power [.ow (.fr (tD T)), .ow (.fr (.int a)), .ow (.fr (.int k))] = some (.ret (.fr (.int (pw T a (k % m).toNat))) [.no, .no, .no]) := by
  have e1 := need_ir G.v ha
  have e2 := is_integer_eq (.int k) (int_py k)
  have hn := G.n2
  have q1 : 0 ≤ k % m := Int.emod_nonneg _ (by omega)
  have q2 : k % m < m := Int.emod_lt_of_pos _ (by omega)
  have hloop := forL_inv (α := Nat) (t := gN 4) (b := (setF 3 (ofP (pu2 ixD (pu2 ixD (var 0) (var 3)) (var 1))))) (f := fun i => D.int (Nat.cast i))
    (St := fun l ρ => ∃ s4, frS s4 ∧ ρ = [.ow (.fr (tD T)), .ow (.fr (.int a)), .ow (.fr (.int k)), .ow (.fr (.int (pw T a l.length))), s4]) (bs := []) (as := List.range (k % m).toNat) (fun i l r hl _ ρ ⟨s4, h4, e⟩ => by
      subst e
      have hk := G.pw_ir ha l.length
      have i1 := ix_row G.v _ hk.1 hk.2
      have i2 := ix_en G.v hk.1 hk.2 ha.1 ha.2
      have h4' := frS_stb h4
      refine ⟨[.ow (.fr (tD T)), .ow (.fr (.int a)), .ow (.fr (.int k)), .ow (.fr (.int (pw T a l.length))), .ow (.fr (.int (Nat.cast i)))], [.ow (.fr (tD T)), .ow (.fr (.int a)), .ow (.fr (.int k)), .ow (.fr (.int (pw T a (l ++ [i]).length))), .ow (.fr (.int (Nat.cast i)))], by simp [pu1, pu2, mo1, mo2, cst, var, bor, con, conAt, flD, puV, frM, frzM, ofP, mov, frzS, tupP, lpN, lpC, lstP, lxN, lxC, lstX, lvN, lvC, tupV, andV, orV, notV, andP, orP, notP, ifP, ifM, tb, tbM, quM, notQ, notY, andQ, orQ, andY, orY, seqS, ifS, retS, retN, nxS, setF, setS, dropS, agN, agV, agL, callM, toSl, back, noDup, lents, Sl.tr, Sl.put, O.fz, gN, gT, gsN, gsC, stb_at, stbS_no, stbS_ow, frOk, wipeR, unw, itS, itR1, itR2, itE, asgS, par2, par3, raiS, chn, yes, moL, moLv, lent, runF, forS, onI0, onI, ltD, leD, gtD, geD, subD, negD, isND, notND, mkL_map, sizeLine_eq, D.isN, D.sq, D.lsq, h4'], .inl ?_, _, .inr ⟨_, rfl⟩, rfl⟩
      simp [pu1, pu2, mo1, mo2, cst, var, bor, con, conAt, flD, puV, frM, frzM, ofP, mov, frzS, tupP, lpN, lpC, lstP, lxN, lxC, lstX, lvN, lvC, tupV, andV, orV, notV, andP, orP, notP, ifP, ifM, tb, tbM, quM, notQ, notY, andQ, orQ, andY, orY, seqS, ifS, retS, retN, nxS, setF, setS, dropS, agN, agV, agL, callM, toSl, back, noDup, lents, Sl.tr, Sl.put, O.fz, gN, gT, gsN, gsC, stb_at, stbS_no, stbS_ow, frOk, wipeR, unw, itS, itR1, itR2, itE, asgS, par2, par3, raiS, chn, yes, moL, moLv, lent, runF, forS, onI0, onI, ltD, leD, gtD, geD, subD, negD, isND, notND, mkL_map, sizeLine_eq, D.isN, D.sq, D.lsq, i1, i2, pw]) [.ow (.fr (tD T)), .ow (.fr (.int a)), .ow (.fr (.int k)), .ow (.fr (.int 0)), .no] ⟨.no, .inl rfl, rfl⟩
  obtain ⟨ρ', l1, s4, _, l2⟩ := hloop
  subst l2
  rw [List.nil_append, List.length_range] at l1
  have s1 : dropS (callM 2 F_need_share (agV (puV (var 0)) (agV (puV (var 1)) agN))) [.ow (.fr (tD T)), .ow (.fr (.int a)), .ow (.fr (.int k)), .no, .no] = some (.nx [.ow (.fr (tD T)), .ow (.fr (.int a)), .ow (.fr (.int k)), .no, .no]) := drop_of (call_vv rfl rfl e1)
  have s2 : ifS (notY (tbM (frzM (callM 1 F_is_integer (agV (puV (var 2)) agN))))) (raiS "InvalidNumber" "word" (puV (cst (.str "many")))) nxS [.ow (.fr (tD T)), .ow (.fr (.int a)), .ow (.fr (.int k)), .no, .no] = some (.nx [.ow (.fr (tD T)), .ow (.fr (.int a)), .ow (.fr (.int k)), .no, .no]) := by
    simp [pu1, pu2, mo1, mo2, cst, var, bor, con, conAt, flD, puV, frM, frzM, ofP, mov, frzS, tupP, lpN, lpC, lstP, lxN, lxC, lstX, lvN, lvC, tupV, andV, orV, notV, andP, orP, notP, ifP, ifM, tb, tbM, quM, notQ, notY, andQ, orQ, andY, orY, seqS, ifS, retS, retN, nxS, setF, setS, dropS, agN, agV, agL, callM, toSl, back, noDup, lents, Sl.tr, Sl.put, O.fz, gN, gT, gsN, gsC, stb_at, stbS_no, stbS_ow, frOk, wipeR, unw, itS, itR1, itR2, itE, asgS, par2, par3, raiS, chn, yes, moL, moLv, lent, runF, forS, onI0, onI, ltD, leD, gtD, geD, subD, negD, isND, notND, mkL_map, sizeLine_eq, D.isN, D.sq, D.lsq, e2, isI]
  have s3 : setF 3 (ofP (cst (.int 0))) [.ow (.fr (tD T)), .ow (.fr (.int a)), .ow (.fr (.int k)), .no, .no] = some (.nx [.ow (.fr (tD T)), .ow (.fr (.int a)), .ow (.fr (.int k)), .ow (.fr (.int 0)), .no]) := by simp [pu1, pu2, mo1, mo2, cst, var, bor, con, conAt, flD, puV, frM, frzM, ofP, mov, frzS, tupP, lpN, lpC, lstP, lxN, lxC, lstX, lvN, lvC, tupV, andV, orV, notV, andP, orP, notP, ifP, ifM, tb, tbM, quM, notQ, notY, andQ, orQ, andY, orY, seqS, ifS, retS, retN, nxS, setF, setS, dropS, agN, agV, agL, callM, toSl, back, noDup, lents, Sl.tr, Sl.put, O.fz, gN, gT, gsN, gsC, stb_at, stbS_no, stbS_ow, frOk, wipeR, unw, itS, itR1, itR2, itE, asgS, par2, par3, raiS, chn, yes, moL, moLv, lent, runF, forS, onI0, onI, ltD, leD, gtD, geD, subD, negD, isND, notND, mkL_map, sizeLine_eq, D.isN, D.sq, D.lsq]
  have hmod : modD (.int k) (.int (Nat.cast m)) = some (.int (k % m)) := mod_eq k m (by omega)
  have i1 : itR1 (mo2 modD (puV (var 2)) (frzM (callM 2 F_order_of (agV (puV (var 0)) (agV (puV (var 1)) agN))))) [.ow (.fr (tD T)), .ow (.fr (.int a)), .ow (.fr (.int k)), .ow (.fr (.int 0)), .no] = some (.ok ((List.range (k % m).toNat).map fun i => D.int (Nat.cast i)) [.ow (.fr (tD T)), .ow (.fr (.int a)), .ow (.fr (.int k)), .ow (.fr (.int 0)), .no]) := by
    have h1 := frz_x (call_vv (F := F_order_of) (f := puV (var 0)) (g := puV (var 1)) (ρ := [.ow (.fr (tD T)), .ow (.fr (.int a)), .ow (.fr (.int k)), .ow (.fr (.int 0)), .no]) rfl rfl ho)
    unfold itR1 mo2
    rw [show puV (var 2) [.ow (.fr (tD T)), .ow (.fr (.int a)), .ow (.fr (.int k)), .ow (.fr (.int 0)), .no] = some (.ok (.int k) [.ow (.fr (tD T)), .ow (.fr (.int a)), .ow (.fr (.int k)), .ow (.fr (.int 0)), .no]) from rfl]
    dsimp only
    rw [h1]
    dsimp only
    rw [hmod]
    dsimp only
    rw [if_pos (by omega), rngD_eq]
  have s4' : forS (itR1 (mo2 modD (puV (var 2)) (frzM (callM 2 F_order_of (agV (puV (var 0)) (agV (puV (var 1)) agN)))))) (gN 4) (setF 3 (ofP (pu2 ixD (pu2 ixD (var 0) (var 3)) (var 1)))) [.ow (.fr (tD T)), .ow (.fr (.int a)), .ow (.fr (.int k)), .ow (.fr (.int 0)), .no] = some (.nx [.ow (.fr (tD T)), .ow (.fr (.int a)), .ow (.fr (.int k)), .ow (.fr (.int (pw T a (k % m).toNat))), s4]) := by
    unfold forS
    rw [i1]
    exact l1
  unfold F_power m_power runF
  show (match (seqS (dropS (callM 2 F_need_share (agV (puV (var 0)) (agV (puV (var 1)) agN)))) (seqS (ifS (notY (tbM (frzM (callM 1 F_is_integer (agV (puV (var 2)) agN))))) (raiS "InvalidNumber" "word" (puV (cst (.str "many")))) nxS) (seqS (setF 3 (ofP (cst (.int 0)))) (seqS (forS (itR1 (mo2 modD (puV (var 2)) (frzM (callM 2 F_order_of (agV (puV (var 0)) (agV (puV (var 1)) agN)))))) (gN 4) (setF 3 (ofP (pu2 ixD (pu2 ixD (var 0) (var 3)) (var 1))))) (retS (ofP (var 3))))))) [.ow (.fr (tD T)), .ow (.fr (.int a)), .ow (.fr (.int k)), .no, .no] with | some (.rt o ρ) => _ | some (.nx ρ) => _ | some (.ex c fs ρ) => _ | _ => _) = _
  rw [seq_nx s1, seq_nx s2, seq_nx s3, seq_nx s4']
  rfl
end
end K37
set_option maxHeartbeats 4000000
namespace K37
open PySem PySem.Spec L2 Tr
mutual
theorem eqv_refl : ∀ {d : PyData}, d.canLay0 = true → PyData.eqv d d = true
  | .none, _ => by simp [PyData.eqv]
  | .bool _, _ => by simp [PyData.eqv]
  | .int _, _ => by simp [PyData.eqv]
  | .str _, _ => by simp [PyData.eqv]
  | .list xs, h => by
    rw [PyData.canLay0] at h
    rw [PyData.eqv]; exact eqvAll_refl h
  | .tuple xs, h => by
    rw [PyData.canLay0] at h
    rw [PyData.eqv]; exact eqvAll_refl h
  | .dict _, h => by rw [PyData.canLay0] at h; cases h
theorem eqvAll_refl : ∀ {ds : List PyData}, PyData.canLayAll0 ds = true → PyData.eqvAll ds ds = true
  | [], _ => by rw [PyData.eqvAll]
  | d :: ds, h => by
    rw [PyData.canLayAll0, Bool.and_eq_true] at h
    rw [PyData.eqvAll, eqv_refl h.1, eqvAll_refl h.2]; rfl
end
theorem lay_of_ok {d : D} (h : okPy d = true) : d.py.canLay0 = true := by
  unfold okPy at h
  rw [Bool.and_eq_true] at h
  exact SeqAt.canLay_of_shaped h.2
theorem eqD_refl {d : D} (h : okPy d = true) : eqD d d = some (.bl true) := by
  unfold eqD
  rw [if_pos ⟨h, h⟩, eqv_refl (lay_of_ok h)]
theorem neD_refl {d : D} (h : okPy d = true) : neD d d = some (.bl false) := by
  unfold neD
  rw [if_pos ⟨h, h⟩, eqv_refl (lay_of_ok h)]; rfl
theorem pys_rows (rows : List (List Int)) : PyData.canLayAll0 (D.pys (rows.map rowD)) = true ∧ PyData.depthAll (D.pys (rows.map rowD)) ≤ 1 := by
  induction rows with
  | nil => rw [List.map_nil, D.pys, PyData.canLayAll0, PyData.depthAll]; exact ⟨rfl, Nat.zero_le _⟩
  | cons r rows ih =>
    rw [List.map_cons, D.pys, PyData.canLayAll0, PyData.depthAll, ih.1]
    unfold rowD at ih ⊢
    rw [D.py, pys_map, PyData.canLay0, PyData.depth, (lay_map r).1, (lay_map r).2]
    exact ⟨rfl, by have := ih.2; omega⟩
theorem tD_ok (rows : List (List Int)) : okPy (tD rows) = true := by
  unfold okPy SeqAt.shaped
  have h := pys_rows rows
  rw [tD_isPy]
  unfold tD
  rw [D.py, PyData.canLay0, PyData.depth, h.1, decide_eq_true (by omega)]; rfl
theorem eqv_rows : ∀ (S T : List (List Int)), PyData.eqvAll (D.pys (S.map rowD)) (D.pys (T.map rowD)) = decide (S = T)
  | [], [] => by simp [D.pys, PyData.eqvAll]
  | [], _ :: _ => by simp [D.pys, PyData.eqvAll]
  | _ :: _, [] => by simp [D.pys, PyData.eqvAll]
  | r :: S, s :: T => by
    rw [List.map_cons, List.map_cons, D.pys, D.pys, PyData.eqvAll, eqv_rows S T]
    unfold rowD
    rw [D.py, D.py, pys_map, pys_map, PyData.eqv, eqv_map]
    by_cases h1 : r = s <;> by_cases h2 : S = T <;> simp [h1, h2]
theorem eqD_tab (S T : List (List Int)) : eqD (tD S) (tD T) = some (.bl (decide (S = T))) := by
  unfold eqD
  rw [if_pos ⟨tD_ok S, tD_ok T⟩]
  unfold tD
  rw [D.py, D.py, PyData.eqv, eqv_rows]
section
variable {T : List (List Int)} {n : Nat}
theorem rng_len (V : Vd T n) (n2 : n ≤ 4000) {ρ : Rho} {i : Nat} (h : var i ρ = some (tD T)) : itR1 (puV (pu1 lenD (var i))) ρ = some (.ok ((rgI n).map .int) ρ) := by
  unfold itR1 puV pu1
  rw [h]
  dsimp only
  rw [lenD_t V]
  dsimp only
  rw [if_pos (by omega), Int.toNat_natCast, rngD_rgI]
theorem opposite_eq (V : Vd T n) (n2 : n ≤ 200) : F_opposite [.ow (.fr (tD T))] = some (.ret (.fr (tD (opp T n))) [.no]) := by
  have i1 : itR1 (puV (pu1 lenD (var 0))) [.ow (.fr (tD T)), .no, .no] = some (.ok ((rgI n).map .int) [.ow (.fr (tD T)), .no, .no]) := rng_len V (by omega) rfl
  have inner : ∀ j : Int, Ir n j → frM (mo1 tupD (frzM (lcM (itS (puV (var 0))) (gN 2) yes (ofP (pu2 ixD (var 2) (var 1))) [2]))) [.ow (.fr (tD T)), .ow (.fr (.int j)), .no] = some (.ok (.fr (rowD (T.map fun r => elA r j))) [.ow (.fr (tD T)), .ow (.fr (.int j)), .no]) := fun j hj => by
    have k1 : itS (puV (var 0)) [.ow (.fr (tD T)), .ow (.fr (.int j)), .no] = some (.ok (T.map rowD) [.ow (.fr (tD T)), .ow (.fr (.int j)), .no]) := rfl
    have k2 : lcL (gN 2) yes (ofP (pu2 ixD (var 2) (var 1))) [2] (T.map rowD) [.ow (.fr (tD T)), .ow (.fr (.int j)), .no] = some ((T.map rowD).map (fun d => O.fr (match d with | .tup ds => (ds.getD j.toNat .non) | d => d)), [.ow (.fr (tD T)), .ow (.fr (.int j)), .no]) :=
      lcL_map fun d m => by
        obtain ⟨r, hr, rfl⟩ := List.mem_map.mp m
        have hl := (V.row r hr).1
        have h := ix_int r j hj.1 (by rw [hl]; exact hj.2)
        refine ⟨[.ow (.fr (tD T)), .ow (.fr (.int j)), .ow (.fr (rowD r))], [.ow (.fr (tD T)), .ow (.fr (.int j)), .ow (.fr (rowD r))], rfl, rfl, rfl, ?_, rfl⟩
        obtain ⟨h1, h2⟩ := elA_get (r := r) hj.1 (by rw [hl]; exact hj.2)
        have e : (r.map D.int).getD j.toNat .non = .int (elA r j) := by
          rw [List.getD_eq_getElem?_getD, List.getElem?_map, List.getElem?_eq_getElem h1, h2]; rfl
        simp only [ofP, pu2, var, List.getElem?_cons_zero, List.getElem?_cons_succ, h]
        unfold rowD
        dsimp only
        rw [e]
    have k3 := lcM_ok k1 rfl k2
    rw [mkL_map] at k3
    have k4 : (T.map rowD).map (fun d => (match d with | .tup ds => (ds.getD j.toNat .non) | d => d)) = (T.map fun r => elA r j).map .int := by
      rw [List.map_map, List.map_map]
      apply List.map_congr_left
      intro r hr
      have hl := (V.row r hr).1
      obtain ⟨h1, h2⟩ := elA_get (r := r) hj.1 (by rw [hl]; exact hj.2)
      show (r.map D.int).getD j.toNat .non = .int (elA r j)
      rw [List.getD_eq_getElem?_getD, List.getElem?_map, List.getElem?_eq_getElem h1, h2]; rfl
    rw [k4] at k3
    simp only [frM, mo1, frzM, k3, O.fz]
    rfl
  have l1 : lcL (gN 1) yes (frM (mo1 tupD (frzM (lcM (itS (puV (var 0))) (gN 2) yes (ofP (pu2 ixD (var 2) (var 1))) [2])))) [1] ((rgI n).map D.int) [.ow (.fr (tD T)), .no, .no] = some (((rgI n).map D.int).map (fun d => O.fr (match d with | .int j => rowD (T.map fun r => elA r j) | d => d)), [.ow (.fr (tD T)), .no, .no]) :=
    lcL_map fun d m => by
      obtain ⟨j, hj, rfl⟩ := List.mem_map.mp m
      exact ⟨[.ow (.fr (tD T)), .ow (.fr (.int j)), .no], [.ow (.fr (tD T)), .ow (.fr (.int j)), .no], rfl, rfl, rfl, inner j ((rgI_mem n j).mp hj), rfl⟩
  have l2 := lcM_ok i1 rfl l1
  rw [mkL_map] at l2
  have l3 : ((rgI n).map D.int).map (fun d => (match d with | .int j => rowD (T.map fun r => elA r j) | d => d)) = (opp T n).map rowD := by
    unfold opp rgI
    rw [List.map_map, List.map_map, List.map_map]; rfl
  rw [l3] at l2
  unfold F_opposite m_opposite runF
  show (match retS (frM (mo1 tupD (frzM (lcM (itR1 (puV (pu1 lenD (var 0)))) (gN 1) yes (frM (mo1 tupD (frzM (lcM (itS (puV (var 0))) (gN 2) yes (ofP (pu2 ixD (var 2) (var 1))) [2])))) [1])))) [.ow (.fr (tD T)), .no, .no] with | some (.rt o ρ) => _ | some (.nx ρ) => _ | some (.ex c fs ρ) => _ | _ => _) = _
  simp only [retS, frM, mo1, frzM, l2, O.fz]
  rfl
/-- the middle: shares that commute with all -/
def mid (T : List (List Int)) (n : Nat) : List Int := (rgI n).filter fun s => decide (rowA T s = rowA (opp T n) s)
theorem mid_opp (V : Vd T n) : mid (opp T n) n = mid T n := by
  unfold mid
  rw [opp_opp V]
  apply List.filter_congr
  intro s _
  by_cases h : rowA (opp T n) s = rowA T s
  · rw [decide_eq_true h, decide_eq_true h.symm]
  · rw [decide_eq_false h, decide_eq_false fun e => h e.symm]
theorem mid_all (V : Vd T n) : decide ((mid T n).length = n) = decide (T = opp T n) := by
  have h1 : (mid T n).length = n ↔ T = opp T n := by
    constructor
    · intro h
      have h2 : (mid T n).length = (rgI n).length := by rw [h, rgI_len]
      have h3 := List.length_filter_eq_length_iff.mp h2
      refine ext_en V (opp_vd V) fun i j hi hj => ?_
      have := of_decide_eq_true (h3 i ((rgI_mem n i).mpr hi))
      unfold en
      rw [this]
    · intro h
      have h3 : (mid T n).length = (rgI n).length := List.length_filter_eq_length_iff.mpr fun i hi => decide_eq_true (by rw [← h])
      rw [h3, rgI_len]
  by_cases h : T = opp T n
  · rw [decide_eq_true h, decide_eq_true (h1.mpr h)]
  · rw [decide_eq_false h, decide_eq_false fun e => h (h1.mp e)]
theorem is_commutative_eq (V : Vd T n) (n2 : n ≤ 200) : F_is_commutative [.ow (.fr (tD T))] = some (.ret (.fr (.bl (decide (T = opp T n)))) [.no]) := by
  have e := opposite_eq V n2
  have q := eqD_tab T (opp T n)
  unfold F_is_commutative m_is_commutative
  simp [pu1, pu2, mo1, mo2, cst, var, bor, con, conAt, flD, puV, frM, frzM, ofP, mov, frzS, tupP, lpN, lpC, lstP, lxN, lxC, lstX, lvN, lvC, tupV, andV, orV, notV, andP, orP, notP, ifP, ifM, tb, tbM, quM, notQ, notY, andQ, orQ, andY, orY, seqS, ifS, retS, retN, nxS, setF, setS, dropS, agN, agV, agL, callM, toSl, back, noDup, lents, Sl.tr, Sl.put, O.fz, gN, gT, gsN, gsC, stb_at, stbS_no, stbS_ow, frOk, wipeR, unw, itS, itR1, itR2, itE, asgS, par2, par3, raiS, chn, yes, moL, moLv, lent, runF, forS, onI0, onI, ltD, leD, gtD, geD, subD, negD, isND, notND, mkL_map, sizeLine_eq, D.isN, D.sq, D.lsq, e, q]
/-- the filter of equal rows, slot j the shares' number -/
theorem mid_lc {ρ : Rho} {i1 i2 i3 : Nat} {it : Mo (List D)} (V : Vd T n) (hi : it ρ = some (.ok ((rgI n).map .int) ρ)) (h1 : var i1 ρ = some (tD T)) (h2 : var i2 ρ = some (tD (opp T n))) (h3 : ρ[i3]? = some .no) (n1 : i1 ≠ i3) (n2 : i2 ≠ i3) :
    lcM it (gN i3) (quM (tb (pu2 eqD (pu2 ixD (var i1) (var i3)) (pu2 ixD (var i2) (var i3))))) (ofP (var i3)) [i3] ρ = some (.ok (.fl ((mid T n).map .int)) ρ) := by
  have hlt : i3 < ρ.length := (List.getElem?_eq_some_iff.mp h3).1
  have hw : ρ.set i3 .no = ρ := by
    apply List.ext_getElem?
    intro k
    by_cases hk : i3 = k
    · subst hk; rw [List.getElem?_set_self hlt, h3]
    · rw [List.getElem?_set_ne hk]
  let f : D → Bool := fun d => match d with
    | .int s => decide (rowA T s = rowA (opp T n) s)
    | _ => false
  have hwipe : wipeR ρ [i3] = ρ := hw
  have l2 : lcL (gN i3) (quM (tb (pu2 eqD (pu2 ixD (var i1) (var i3)) (pu2 ixD (var i2) (var i3))))) (ofP (var i3)) [i3] ((rgI n).map D.int) ρ = some ((((rgI n).map D.int).filter f).map O.fr, ρ) :=
    lcL_filter fun d m => by
      obtain ⟨s, hs, rfl⟩ := List.mem_map.mp m
      have hs' := (rgI_mem n s).mp hs
      have a1 : var i1 (ρ.set i3 (.ow (.fr (.int s)))) = some (tD T) := by
        unfold var at h1 ⊢
        rw [List.getElem?_set_ne (Ne.symm n1)]; exact h1
      have a2 : var i2 (ρ.set i3 (.ow (.fr (.int s)))) = some (tD (opp T n)) := by
        unfold var at h2 ⊢
        rw [List.getElem?_set_ne (Ne.symm n2)]; exact h2
      have a3 : var i3 (ρ.set i3 (.ow (.fr (.int s)))) = some (.int s) := by
        unfold var
        rw [List.getElem?_set_self hlt]
      have b1 := ix_row V s hs'.1 hs'.2
      have b2 := ix_row (opp_vd V) s hs'.1 hs'.2
      have b3 := eqD_row (rowA T s) (rowA (opp T n) s)
      have back : wipeR (ρ.set i3 (.ow (.fr (.int s)))) [i3] = ρ := by
        show (ρ.set i3 _).set i3 .no = ρ
        rw [List.set_set, hw]
      refine ⟨ρ.set i3 (.ow (.fr (.int s))), ?_, ?_, back, fun _ => ⟨ρ.set i3 (.ow (.fr (.int s))), ?_, back⟩⟩
      · unfold gN stb
        rw [h3]; rfl
      · simp only [quM, tb, pu2, a1, a2, a3, b1, b2, b3]
        rfl
      · simp only [ofP, a3]
  have hfr : frOk ρ [i3] = true := by
    unfold frOk
    simp [h3]
  have i3' := lcM_ok hi hfr (by rw [hwipe]; exact l2)
  rw [mkL_fr] at i3'
  have e : ((rgI n).map D.int).filter f = (mid T n).map .int := by
    unfold mid
    rw [List.filter_map]; rfl
  rw [e] at i3'
  have hun : unw ρ ρ [i3] = ρ := by
    unfold unw unw
    rw [h3]
    exact hw
  rw [hun] at i3'
  exact i3'
theorem centre_eq (V : Vd T n) (n2 : n ≤ 200) : F_centre [.ow (.fr (tD T))] = some (.ret (.fr (rowD (mid T n))) [.no]) := by
  have e := opposite_eq V n2
  have s1 : setF 1 (callM 1 F_opposite (agV (puV (var 0)) agN)) [.ow (.fr (tD T)), .no, .no] = some (.nx [.ow (.fr (tD T)), .ow (.fr (tD (opp T n))), .no]) := set_of (i := 1) (call_v (F := F_opposite) (f := puV (var 0)) (ρ := [.ow (.fr (tD T)), .no, .no]) rfl e) ⟨.no, rfl, rfl⟩
  have l := mid_lc (ρ := [.ow (.fr (tD T)), .ow (.fr (tD (opp T n))), .no]) (i1 := 0) (i2 := 1) (i3 := 2) V (rng_len V (by omega) (i := 0) rfl) rfl rfl rfl (by decide) (by decide)
  unfold F_centre m_centre runF
  show (match seqS (setF 1 (callM 1 F_opposite (agV (puV (var 0)) agN))) (retS (frM (mo1 tupD (frzM (lcM (itR1 (puV (pu1 lenD (var 0)))) (gN 2) (quM (tb (pu2 eqD (pu2 ixD (var 0) (var 2)) (pu2 ixD (var 1) (var 2))))) (ofP (var 2)) [2]))))) [.ow (.fr (tD T)), .no, .no] with | some (.rt o ρ) => _ | some (.nx ρ) => _ | some (.ex c fs ρ) => _ | _ => _) = _
  rw [seq_nx s1]
  simp only [retS, frM, mo1, frzM, l, O.fz]
  rfl
end
end K37
set_option maxHeartbeats 4000000
namespace K37
open PySem PySem.Spec L2 Tr
section
variable {T : List (List Int)} {n : Nat}
def kv (F : List Int) : List (Key × D) := F.map fun x => ((.inl x : Key), D.bl true)
theorem kv_any (F : List Int) (x : Int) : ((kv F).any fun p => decide (p.1 = (.inl x : Key))) = decide (x ∈ F) := by
  unfold kv
  rw [List.any_map]
  induction F with
  | nil => simp
  | cons y F ih =>
    rw [List.any_cons, ih]
    by_cases h : y = x
    · subst h; simp
    · have h' : ¬ x = y := fun e => h e.symm
      simp [h, h']
theorem inK_kv (neg : Bool) (F : List Int) (x : Int) : inK neg (.int x) (.dic (kv F)) = some (.bl (if neg then !decide (x ∈ F) else decide (x ∈ F))) := by
  show some (D.bl (if neg then !((kv F).any fun p => decide (p.1 = (.inl x : Key))) else (kv F).any fun p => decide (p.1 = (.inl x : Key)))) = _
  rw [kv_any]
theorem put_kv {F : List Int} {x : Int} (h : x ∉ F) : putD (kv F) (.inl x) (.bl true) = kv (F ++ [x]) := by
  unfold putD
  rw [kv_any, decide_eq_false h, if_neg Bool.false_ne_true]
  unfold kv
  rw [List.map_append]; rfl
/-- the state of generated -/
def gR (T : List (List Int)) (ss : List Int) (F : List Int) (a : Nat) (s2 s6 : Sl) : Rho := [.ow (.fr (tD T)), .ow (.fr (rowD ss)), s2, .ow (.od (kv F)), .ow (.fl (F.map .int)), .ow (.fr (.int (Nat.cast a))), s6]
def gB1 : MS := (ifS (quM (tb (pu2 (inK true) (pu2 ixD (var 6) (var 2)) (con 3)))) (seqS (stoD 3 (puV (cst (.bl true))) (pu2 ixD (var 6) (var 2))) (dropS (appX 4 (puV (pu2 ixD (var 6) (var 2)))))) nxS)
def gB : MS := (seqS (setF 6 (ofP (pu2 ixD (var 0) (flD (conAt 4 (var 5)))))) (seqS (forS (itS (puV (var 1))) (gN 2) gB1) (augS 5 (fun i j => i + j) (puV (cst (.int 1))))))
def gC : Mo Bool := (quM (tb (pu2 ltD (var 5) (pu1 lenD (con 4)))))
theorem gB1_eq (G : Gp T n) {ss F : List Int} {a : Nat} {x s : Int} (hx : Ir n x) (hs : Ir n s) (hF : F.length ≤ 300) :
    gB1 (gR T ss F a (.ow (.fr (.int s))) (.ow (.fr (rowD (rowA T x))))) = some (.nx (gR T ss (if en T x s ∈ F then F else F ++ [en T x s]) a (.ow (.fr (.int s))) (.ow (.fr (rowD (rowA T x)))))) := by
  have i1 := ix_en G.v hx.1 hx.2 hs.1 hs.2
  have k1 : inK true (.int (en T x s)) (.dic (kv F)) = some (.bl (!decide (en T x s ∈ F))) := inK_kv true F (en T x s)
  by_cases h : en T x s ∈ F
  · rw [if_pos h]
    simp [gB1, gR, pu1, pu2, mo1, mo2, cst, var, bor, con, conAt, flD, puV, frM, frzM, ofP, mov, frzS, tupP, lpN, lpC, lstP, lxN, lxC, lstX, lvN, lvC, tupV, andV, orV, notV, andP, orP, notP, ifP, ifM, tb, tbM, quM, notQ, notY, andQ, orQ, andY, orY, seqS, ifS, retS, retN, nxS, setF, setS, dropS, agN, agV, agL, callM, toSl, back, noDup, lents, Sl.tr, Sl.put, O.fz, gN, gT, gsN, gsC, stb_at, stbS_no, stbS_ow, frOk, wipeR, unw, itS, itR1, itR2, itE, asgS, par2, par3, raiS, chn, yes, moL, moLv, lent, runF, forS, onI0, onI, ltD, leD, gtD, geD, subD, negD, isND, notND, mkL_map, sizeLine_eq, D.isN, D.sq, D.lsq, O.cont, i1, k1, h]
  · rw [if_neg h]
    have p := put_kv h
    have z1 : (kv F).length < sizeLine := by unfold kv; rw [List.length_map, sizeLine_eq]; omega
    have z2 : (F.map D.int).length < sizeLine := by rw [List.length_map, sizeLine_eq]; omega
    have c : quM (tb (pu2 (inK true) (pu2 ixD (var 6) (var 2)) (con 3))) (gR T ss F a (.ow (.fr (.int s))) (.ow (.fr (rowD (rowA T x))))) = some (.ok true (gR T ss F a (.ow (.fr (.int s))) (.ow (.fr (rowD (rowA T x)))))) := by
      simp [gR, pu1, pu2, mo1, mo2, cst, var, bor, con, conAt, flD, puV, frM, frzM, ofP, mov, frzS, tupP, lpN, lpC, lstP, lxN, lxC, lstX, lvN, lvC, tupV, andV, orV, notV, andP, orP, notP, ifP, ifM, tb, tbM, quM, notQ, notY, andQ, orQ, andY, orY, seqS, ifS, retS, retN, nxS, setF, setS, dropS, agN, agV, agL, callM, toSl, back, noDup, lents, Sl.tr, Sl.put, O.fz, gN, gT, gsN, gsC, stb_at, stbS_no, stbS_ow, frOk, wipeR, unw, itS, itR1, itR2, itE, asgS, par2, par3, raiS, chn, yes, moL, moLv, lent, runF, forS, onI0, onI, ltD, leD, gtD, geD, subD, negD, isND, notND, mkL_map, sizeLine_eq, D.isN, D.sq, D.lsq, O.cont, i1, k1, h]
    have v : ∀ K, pu2 ixD (var 6) (var 2) [.ow (.fr (tD T)), .ow (.fr (rowD ss)), .ow (.fr (.int s)), .ow (.od K), .ow (.fl (F.map .int)), .ow (.fr (.int (Nat.cast a))), .ow (.fr (rowD (rowA T x)))] = some (.int (en T x s)) := fun K => by simp [pu1, pu2, mo1, mo2, cst, var, bor, con, conAt, flD, puV, frM, frzM, ofP, mov, frzS, tupP, lpN, lpC, lstP, lxN, lxC, lstX, lvN, lvC, tupV, andV, orV, notV, andP, orP, notP, ifP, ifM, tb, tbM, quM, notQ, notY, andQ, orQ, andY, orY, seqS, ifS, retS, retN, nxS, setF, setS, dropS, agN, agV, agL, callM, toSl, back, noDup, lents, Sl.tr, Sl.put, O.fz, gN, gT, gsN, gsC, stb_at, stbS_no, stbS_ow, frOk, wipeR, unw, itS, itR1, itR2, itE, asgS, par2, par3, raiS, chn, yes, moL, moLv, lent, runF, forS, onI0, onI, ltD, leD, gtD, geD, subD, negD, isND, notND, mkL_map, sizeLine_eq, D.isN, D.sq, D.lsq, i1]
    have st : stoD 3 (puV (cst (.bl true))) (pu2 ixD (var 6) (var 2)) (gR T ss F a (.ow (.fr (.int s))) (.ow (.fr (rowD (rowA T x))))) = some (.nx [.ow (.fr (tD T)), .ow (.fr (rowD ss)), .ow (.fr (.int s)), .ow (.od (kv (F ++ [en T x s]))), .ow (.fl (F.map .int)), .ow (.fr (.int (Nat.cast a))), .ow (.fr (rowD (rowA T x)))]) := by
      unfold stoD gR
      simp only [puV, cst, List.getElem?_cons_zero, List.getElem?_cons_succ, v]
      simp only [Sl.tr, keyD, if_pos z1, p, Sl.put, List.set_cons_zero, List.set_cons_succ]
    have ap : dropS (appX 4 (puV (pu2 ixD (var 6) (var 2)))) [.ow (.fr (tD T)), .ow (.fr (rowD ss)), .ow (.fr (.int s)), .ow (.od (kv (F ++ [en T x s]))), .ow (.fl (F.map .int)), .ow (.fr (.int (Nat.cast a))), .ow (.fr (rowD (rowA T x)))] = some (.nx (gR T ss (F ++ [en T x s]) a (.ow (.fr (.int s))) (.ow (.fr (rowD (rowA T x)))))) := by
      unfold dropS appX puV gR
      simp only [List.getElem?_cons_zero, List.getElem?_cons_succ, Option.bind_some, Sl.tr, v, if_pos z2, Sl.put, List.set_cons_zero, List.set_cons_succ, List.map_append]
      rfl
    unfold gB1 ifS
    rw [c]
    dsimp only
    rw [seq_nx st, ap]
/-- what is kept while shares are found -/
structure GI (T : List (List Int)) (n : Nat) (ss F : List Int) : Prop where
  nd : F.Nodup
  cl : ∀ x ∈ F, Cl T ss x
  z : 0 ∈ F
theorem GI.len {ss F : List Int} (G : Gp T n) (hs : ∀ s ∈ ss, Ir n s) (h : GI T n ss F) : F.length ≤ n := by
  have := nodup_sub_len (m := rgI n) h.nd fun x hx => (rgI_mem n x).mpr (G.cl_ir hs (h.cl x hx))
  rw [rgI_len] at this
  exact this
theorem gB_eq (G : Gp T n) {ss : List Int} (hs : ∀ s ∈ ss, Ir n s) {F : List Int} (hF : GI T n ss F) {a : Nat} (ha : a < F.length) (s2 s6 : Sl) (h2 : frS s2) (h6 : frS s6) :
    ∃ F' s2' s6', GI T n ss F' ∧ (∃ E, F' = F ++ E) ∧ (∀ s ∈ ss, en T F[a] s ∈ F') ∧ frS s2' ∧ frS s6' ∧ gB (gR T ss F a s2 s6) = some (.nx (gR T ss F' (a + 1) s2' s6')) := by
  have hn := G.n2
  have hx : Ir n F[a] := G.cl_ir hs (hF.cl _ (List.getElem_mem ha))
  have hb2 := frS_stb h2
  have hb6 := frS_stb h6
  have at1 : atI (F.map D.int) (Nat.cast a) = some (.int F[a]) := atI_nat' (by rw [List.getElem?_map, List.getElem?_eq_getElem ha]; rfl)
  have i1 := ix_row G.v F[a] hx.1 hx.2
  have s1 : setF 6 (ofP (pu2 ixD (var 0) (flD (conAt 4 (var 5))))) (gR T ss F a s2 s6) = some (.nx (gR T ss F a s2 (.ow (.fr (rowD (rowA T F[a])))))) := by
    simp [gR, pu1, pu2, mo1, mo2, cst, var, bor, con, conAt, flD, puV, frM, frzM, ofP, mov, frzS, tupP, lpN, lpC, lstP, lxN, lxC, lstX, lvN, lvC, tupV, andV, orV, notV, andP, orP, notP, ifP, ifM, tb, tbM, quM, notQ, notY, andQ, orQ, andY, orY, seqS, ifS, retS, retN, nxS, setF, setS, dropS, agN, agV, agL, callM, toSl, back, noDup, lents, Sl.tr, Sl.put, O.fz, gN, gT, gsN, gsC, stb_at, stbS_no, stbS_ow, frOk, wipeR, unw, itS, itR1, itR2, itE, asgS, par2, par3, raiS, chn, yes, moL, moLv, lent, runF, forS, onI0, onI, ltD, leD, gtD, geD, subD, negD, isND, notND, mkL_map, sizeLine_eq, D.isN, D.sq, D.lsq, at1, i1, hb6]
  have hl := forL_inv (α := Int) (t := gN 2) (b := gB1) (f := D.int)
    (St := fun l ρ => ∃ F' s2', GI T n ss F' ∧ (∃ E, F' = F ++ E) ∧ (∀ s ∈ l, en T F[a] s ∈ F') ∧ frS s2' ∧ ρ = gR T ss F' a s2' (.ow (.fr (rowD (rowA T F[a]))))) (bs := []) (as := ss) (fun s l r hl _ ρ ⟨F', s2', k1, ⟨E, k2⟩, k3, k4, e⟩ => by
      subst e
      have hsm : s ∈ ss := by rw [show ss = l ++ s :: r from hl]; simp
      have hlen := k1.len G hs
      have g := gB1_eq G (ss := ss) (F := F') (a := a) hx (hs s hsm) (by omega)
      have hb := frS_stb k4
      refine ⟨gR T ss F' a (.ow (.fr (.int s))) (.ow (.fr (rowD (rowA T F[a])))), _, by simp [gR, pu1, pu2, mo1, mo2, cst, var, bor, con, conAt, flD, puV, frM, frzM, ofP, mov, frzS, tupP, lpN, lpC, lstP, lxN, lxC, lstX, lvN, lvC, tupV, andV, orV, notV, andP, orP, notP, ifP, ifM, tb, tbM, quM, notQ, notY, andQ, orQ, andY, orY, seqS, ifS, retS, retN, nxS, setF, setS, dropS, agN, agV, agL, callM, toSl, back, noDup, lents, Sl.tr, Sl.put, O.fz, gN, gT, gsN, gsC, stb_at, stbS_no, stbS_ow, frOk, wipeR, unw, itS, itR1, itR2, itE, asgS, par2, par3, raiS, chn, yes, moL, moLv, lent, runF, forS, onI0, onI, ltD, leD, gtD, geD, subD, negD, isND, notND, mkL_map, sizeLine_eq, D.isN, D.sq, D.lsq, hb], .inl g, (if en T F[a] s ∈ F' then F' else F' ++ [en T F[a] s]), _, ?_, ?_, fun t ht => ?_, .inr ⟨_, rfl⟩, rfl⟩
      · by_cases h : en T F[a] s ∈ F'
        · rw [if_pos h]; exact k1
        · rw [if_neg h]
          refine ⟨?_, fun x hx' => ?_, by simp [k1.z]⟩
          · rw [List.nodup_append]
            refine ⟨k1.nd, by simp, fun x hx' y hy e => ?_⟩
            rw [List.mem_singleton] at hy
            subst hy e
            exact h hx'
          · rcases List.mem_append.mp hx' with hx' | hx'
            · exact k1.cl x hx'
            · rw [List.mem_singleton.mp hx']
              exact .s (hF.cl _ (List.getElem_mem ha)) hsm
      · by_cases h : en T F[a] s ∈ F'
        · rw [if_pos h]; exact ⟨E, k2⟩
        · rw [if_neg h, k2]; exact ⟨E ++ [en T F[a] s], by rw [← List.append_assoc, ← k2]⟩
      · have : en T F[a] t ∈ F' ∨ t = s := by
          rcases List.mem_append.mp ht with ht | ht
          · exact .inl (k3 t ht)
          · exact .inr (List.mem_singleton.mp ht)
        by_cases h : en T F[a] s ∈ F'
        · rw [if_pos h]
          rcases this with h' | rfl
          · exact h'
          · exact h
        · rw [if_neg h]
          rcases this with h' | rfl
          · exact List.mem_append.mpr (.inl h')
          · simp) (gR T ss F a s2 (.ow (.fr (rowD (rowA T F[a]))))) ⟨F, s2, hF, ⟨[], by simp⟩, fun s m => (nomatch m), h2, rfl⟩
  obtain ⟨ρ', e1, F', s2', k1, k2, k3, k4, e2⟩ := hl
  subst e2
  rw [List.nil_append] at k3
  have s2e : forS (itS (puV (var 1))) (gN 2) gB1 (gR T ss F a s2 (.ow (.fr (rowD (rowA T F[a]))))) = some (.nx (gR T ss F' a s2' (.ow (.fr (rowD (rowA T F[a])))))) := by
    unfold forS
    rw [show itS (puV (var 1)) (gR T ss F a s2 (.ow (.fr (rowD (rowA T F[a]))))) = some (.ok (ss.map .int) (gR T ss F a s2 (.ow (.fr (rowD (rowA T F[a])))))) from rfl]
    exact e1
  have s3 : augS 5 (fun i j => i + j) (puV (cst (.int 1))) (gR T ss F' a s2' (.ow (.fr (rowD (rowA T F[a]))))) = some (.nx (gR T ss F' (a + 1) s2' (.ow (.fr (rowD (rowA T F[a])))))) := by
    simp [augS, gR, pu1, pu2, mo1, mo2, cst, var, bor, con, conAt, flD, puV, frM, frzM, ofP, mov, frzS, tupP, lpN, lpC, lstP, lxN, lxC, lstX, lvN, lvC, tupV, andV, orV, notV, andP, orP, notP, ifP, ifM, tb, tbM, quM, notQ, notY, andQ, orQ, andY, orY, seqS, ifS, retS, retN, nxS, setF, setS, dropS, agN, agV, agL, callM, toSl, back, noDup, lents, Sl.tr, Sl.put, O.fz, gN, gT, gsN, gsC, stb_at, stbS_no, stbS_ow, frOk, wipeR, unw, itS, itR1, itR2, itE, asgS, par2, par3, raiS, chn, yes, moL, moLv, lent, runF, forS, onI0, onI, ltD, leD, gtD, geD, subD, negD, isND, notND, mkL_map, sizeLine_eq, D.isN, D.sq, D.lsq]
  refine ⟨F', s2', .ow (.fr (rowD (rowA T F[a]))), k1, k2, k3, k4, .inr ⟨_, rfl⟩, ?_⟩
  unfold gB
  rw [seq_nx s1, seq_nx s2e, s3]
theorem gen_loop (G : Gp T n) {ss : List Int} (hs : ∀ s ∈ ss, Ir n s) : ∀ (f : Nat) (F : List Int) (a : Nat) (s2 s6 : Sl), GI T n ss F → a ≤ F.length → (∀ i (h : i < F.length), i < a → ∀ s ∈ ss, en T F[i] s ∈ F) → frS s2 → frS s6 → n - a < f →
    ∃ F' s2' s6' a', GI T n ss F' ∧ (∀ x ∈ F', ∀ s ∈ ss, en T x s ∈ F') ∧ whS f gC gB (gR T ss F a s2 s6) = some (.nx (gR T ss F' a' s2' s6'))
  | 0, _, _, _, _, _, _, _, _, _, h => by omega
  | f + 1, F, a, s2, s6, hF, ha, hc, h2, h6, hf => by
    unfold whS
    have c : gC (gR T ss F a s2 s6) = some (.ok (decide (a < F.length)) (gR T ss F a s2 s6)) := by
      simp [gC, gR, pu1, pu2, mo1, mo2, cst, var, bor, con, conAt, flD, puV, frM, frzM, ofP, mov, frzS, tupP, lpN, lpC, lstP, lxN, lxC, lstX, lvN, lvC, tupV, andV, orV, notV, andP, orP, notP, ifP, ifM, tb, tbM, quM, notQ, notY, andQ, orQ, andY, orY, seqS, ifS, retS, retN, nxS, setF, setS, dropS, agN, agV, agL, callM, toSl, back, noDup, lents, Sl.tr, Sl.put, O.fz, gN, gT, gsN, gsC, stb_at, stbS_no, stbS_ow, frOk, wipeR, unw, itS, itR1, itR2, itE, asgS, par2, par3, raiS, chn, yes, moL, moLv, lent, runF, forS, onI0, onI, ltD, leD, gtD, geD, subD, negD, isND, notND, mkL_map, sizeLine_eq, D.isN, D.sq, D.lsq, O.cont, lenD, D.sq]
    rw [c]
    by_cases h : a < F.length
    · rw [decide_eq_true h]
      dsimp only
      obtain ⟨F', s2', s6', k1, ⟨E, k2⟩, k3, k4, k5, k6⟩ := gB_eq G hs hF h s2 s6 h2 h6
      rw [k6]
      dsimp only
      have hlen := hF.len G hs
      have hl' : F.length ≤ F'.length := by rw [k2, List.length_append]; omega
      refine gen_loop G hs f F' (a + 1) s2' s6' k1 (by omega) (fun i hi hia s hsm => ?_) k4 k5 (by omega)
      by_cases hia2 : i < a
      · have hi2 : i < F.length := by omega
        have := hc i hi2 hia2 s hsm
        have e : F'[i] = F[i] := by
          subst k2
          exact List.getElem_append_left hi2
        rw [e, k2]
        exact List.mem_append.mpr (.inl this)
      · have hia3 : i = a := by omega
        subst hia3
        have e : F'[i] = F[i] := by
          subst k2
          exact List.getElem_append_left h
        rw [e]
        exact k3 s hsm
    · rw [decide_eq_false h]
      dsimp only
      refine ⟨F, s2, s6, a, hF, fun x hx s hsm => ?_, rfl⟩
      obtain ⟨i, hi, rfl⟩ := List.getElem_of_mem hx
      exact hc i hi (by omega) s hsm
/-- a sorted list of what is generated -/
def IsGen (T : List (List Int)) (ss L : List Int) : Prop := L.Nodup ∧ L.Pairwise (· ≤ ·) ∧ ∀ x, x ∈ L ↔ Cl T ss x
theorem need_all (V : Vd T n) {ds : List D} (hp : D.arePy ds = true) (hb : ∀ d ∈ ds, below d n = true) (r : List Sl) :
    ∃ s2, frS s2 ∧ forS (itS (puV (var 1))) (gN 2) (dropS (callM 2 F_need_share (agV (puV (var 0)) (agV (puV (var 2)) agN)))) (.ow (.fr (tD T)) :: .ow (.fr (.tup ds)) :: .no :: r) = some (.nx (.ow (.fr (tD T)) :: .ow (.fr (.tup ds)) :: s2 :: r)) := by
  have h := forL_inv (α := D) (t := gN 2) (b := (dropS (callM 2 F_need_share (agV (puV (var 0)) (agV (puV (var 2)) agN))))) (f := fun d => d)
    (St := fun l ρ => ∃ s2, frS s2 ∧ ρ = .ow (.fr (tD T)) :: .ow (.fr (.tup ds)) :: s2 :: r) (bs := []) (as := ds) (fun d l r' hl _ ρ ⟨s2, h2, e⟩ => by
      subst e
      have hd : d ∈ ds := by rw [show ds = l ++ d :: r' from hl]; simp
      have e1 := need_ok V (arePy_mem hp d hd) (hb d hd)
      have hb2 := frS_stb h2
      refine ⟨.ow (.fr (tD T)) :: .ow (.fr (.tup ds)) :: .ow (.fr d) :: r, _, by simp [pu1, pu2, mo1, mo2, cst, var, bor, con, conAt, flD, puV, frM, frzM, ofP, mov, frzS, tupP, lpN, lpC, lstP, lxN, lxC, lstX, lvN, lvC, tupV, andV, orV, notV, andP, orP, notP, ifP, ifM, tb, tbM, quM, notQ, notY, andQ, orQ, andY, orY, seqS, ifS, retS, retN, nxS, setF, setS, dropS, agN, agV, agL, callM, toSl, back, noDup, lents, Sl.tr, Sl.put, O.fz, gN, gT, gsN, gsC, stb_at, stbS_no, stbS_ow, frOk, wipeR, unw, itS, itR1, itR2, itE, asgS, par2, par3, raiS, chn, yes, moL, moLv, lent, runF, forS, onI0, onI, ltD, leD, gtD, geD, subD, negD, isND, notND, mkL_map, sizeLine_eq, D.isN, D.sq, D.lsq, hb2], .inl (drop_of (call_vv (f := puV (var 0)) (g := puV (var 2)) (d1 := tD T) (d2 := d) rfl rfl e1)), .ow (.fr d), .inr ⟨_, rfl⟩, rfl⟩) (.ow (.fr (tD T)) :: .ow (.fr (.tup ds)) :: .no :: r) ⟨.no, .inl rfl, rfl⟩
  obtain ⟨ρ', e1, s2, h2, e2⟩ := h
  subst e2
  refine ⟨s2, h2, ?_⟩
  unfold forS
  rw [show itS (puV (var 1)) (.ow (.fr (tD T)) :: .ow (.fr (.tup ds)) :: .no :: r) = some (.ok ds (.ow (.fr (tD T)) :: .ow (.fr (.tup ds)) :: .no :: r)) from rfl]
  rw [List.map_id'] at e1
  exact e1
theorem generated_eq (G : Gp T n) {ss : List Int} (hs : ∀ s ∈ ss, Ir n s) : ∃ L, IsGen T ss L ∧ F_generated [.ow (.fr (tD T)), .ow (.fr (rowD ss))] = some (.ret (.fr (rowD L)) [.no, .no]) := by
  obtain ⟨s2, h2, s1⟩ := need_all G.v (ds := ss.map .int) (arePy_map ss) (fun d m => by
    obtain ⟨s, hm, rfl⟩ := List.mem_map.mp m
    exact below_ir (hs s hm)) [.no, .no, .no, .no]
  have p3 : par3 3 4 5 (lxC (dic1 (cst (.int 0)) (cst (.bl true))) (lxC (lstX (lxC (ofP (cst (.int 0))) lxN)) (lxC (frM (puV (cst (.int 0)))) lxN))) [.ow (.fr (tD T)), .ow (.fr (rowD ss)), s2, .no, .no, .no, .no] = some (.nx (gR T ss [0] 0 s2 .no)) := by
    simp [pu1, pu2, mo1, mo2, cst, var, bor, con, conAt, flD, puV, frM, frzM, ofP, mov, frzS, tupP, lpN, lpC, lstP, lxN, lxC, lstX, lvN, lvC, tupV, andV, orV, notV, andP, orP, notP, ifP, ifM, tb, tbM, quM, notQ, notY, andQ, orQ, andY, orY, seqS, ifS, retS, retN, nxS, setF, setS, dropS, agN, agV, agL, callM, toSl, back, noDup, lents, Sl.tr, Sl.put, O.fz, gN, gT, gsN, gsC, stb_at, stbS_no, stbS_ow, frOk, wipeR, unw, itS, itR1, itR2, itE, asgS, par2, par3, raiS, chn, yes, moL, moLv, lent, runF, forS, onI0, onI, ltD, leD, gtD, geD, subD, negD, isND, notND, mkL_map, sizeLine_eq, D.isN, D.sq, D.lsq, dic1, keyD, gR, kv, sizeLine_eq, mkL, frs?]
  obtain ⟨F', s2', s6', a', k1, k2, k3⟩ := gen_loop G hs 1000 [0] 0 s2 .no ⟨by simp, fun x m => by rw [List.mem_singleton.mp m]; exact .z, by simp⟩ (Nat.zero_le _) (fun i h1 h2 => by omega) h2 (.inl rfl) (by have := G.n2; omega)
  have hw : whF (fun _ => 1000) gC gB (gR T ss [0] 0 s2 .no) = some (.nx (gR T ss F' a' s2' s6')) := k3
  have hso : sortTD (.lst (F'.map .int)) = some ((sortI F').map .int) := by
    show (intsO (F'.map D.int)).map (fun ns => (sortI ns).map D.int) = _
    rw [ints_map]; rfl
  have hr : retS (ofP (pu1 tupD (pu1 (fun d => (sortTD d).map .lst) (con 4)))) (gR T ss F' a' s2' s6') = some (.rt (.fr (rowD (sortI F'))) (gR T ss F' a' s2' s6')) := by
    simp [retS, ofP, pu1, con, gR, O.cont, Sl.tr, hso, tupD, D.sq, rowD]
  refine ⟨sortI F', ⟨(sortI_perm F').nodup_iff.mpr k1.nd, sortI_pw F', fun x => ?_⟩, ?_⟩
  · rw [(sortI_perm F').mem_iff]
    refine ⟨k1.cl x, fun h => ?_⟩
    induction h with
    | z => exact k1.z
    | s _ m ih => exact k2 _ ih _ m
  · unfold F_generated m_generated runF
    show (match (seqS (forS (itS (puV (var 1))) (gN 2) (dropS (callM 2 F_need_share (agV (puV (var 0)) (agV (puV (var 2)) agN))))) (seqS (par3 3 4 5 (lxC (dic1 (cst (.int 0)) (cst (.bl true))) (lxC (lstX (lxC (ofP (cst (.int 0))) lxN)) (lxC (frM (puV (cst (.int 0)))) lxN)))) (seqS (whF (fun _ => 1000) gC gB) (retS (ofP (pu1 tupD (pu1 (fun d => (sortTD d).map .lst) (con 4)))))))) [.ow (.fr (tD T)), .ow (.fr (rowD ss)), .no, .no, .no, .no, .no] with | some (.rt o ρ) => _ | some (.nx ρ) => _ | some (.ex c fs ρ) => _ | _ => _) = _
    rw [seq_nx (show forS (itS (puV (var 1))) (gN 2) (dropS (callM 2 F_need_share (agV (puV (var 0)) (agV (puV (var 2)) agN)))) [.ow (.fr (tD T)), .ow (.fr (rowD ss)), .no, .no, .no, .no, .no] = some (.nx [.ow (.fr (tD T)), .ow (.fr (rowD ss)), s2, .no, .no, .no, .no]) from s1), seq_nx p3, seq_nx hw, hr]
    rfl
theorem generated_bad (V : Vd T n) {ds : List D} (hp : D.arePy ds = true) (hb : ∃ d ∈ ds, below d n = false) : F_generated [.ow (.fr (tD T)), .ow (.fr (.tup ds))] = bad [.no, .no] := by
  have h := forL_find (α := D) (t := gN 2) (b := (dropS (callM 2 F_need_share (agV (puV (var 0)) (agV (puV (var 2)) agN))))) (f := fun d => d) (St := fun ρ => ∃ s2, frS s2 ∧ ρ = [.ow (.fr (tD T)), .ow (.fr (.tup ds)), s2, .no, .no, .no, .no])
    (p := fun d => below d n) (Ex := fun _ r => ∃ ρ : Rho, 2 ≤ ρ.length ∧ (ρ.take 2).map lent = [.no, .no] ∧ r = .ex "InvalidNumber" [("word", .str "share")] ρ) (fun _ r ⟨ρ, _, _, e⟩ => .inr ⟨_, _, ρ, e⟩) (as := ds) (fun d hd ρ ⟨s2, h2, e⟩ => by
      subst e
      have hb2 := frS_stb h2
      refine ⟨[.ow (.fr (tD T)), .ow (.fr (.tup ds)), .ow (.fr d), .no, .no, .no, .no], by simp [pu1, pu2, mo1, mo2, cst, var, bor, con, conAt, flD, puV, frM, frzM, ofP, mov, frzS, tupP, lpN, lpC, lstP, lxN, lxC, lstX, lvN, lvC, tupV, andV, orV, notV, andP, orP, notP, ifP, ifM, tb, tbM, quM, notQ, notY, andQ, orQ, andY, orY, seqS, ifS, retS, retN, nxS, setF, setS, dropS, agN, agV, agL, callM, toSl, back, noDup, lents, Sl.tr, Sl.put, O.fz, gN, gT, gsN, gsC, stb_at, stbS_no, stbS_ow, frOk, wipeR, unw, itS, itR1, itR2, itE, asgS, par2, par3, raiS, chn, yes, moL, moLv, lent, runF, forS, onI0, onI, ltD, leD, gtD, geD, subD, negD, isND, notND, mkL_map, sizeLine_eq, D.isN, D.sq, D.lsq, hb2], fun h => ⟨_, drop_of (call_vv (f := puV (var 0)) (g := puV (var 2)) (d1 := tD T) (d2 := d) rfl rfl (need_ok V (arePy_mem hp d hd) h)), .ow (.fr d), .inr ⟨_, rfl⟩, rfl⟩, fun h => ⟨_, drop_ex (ex_vv (f := puV (var 0)) (g := puV (var 2)) (d1 := tD T) (d2 := d) rfl rfl (need_bad V (arePy_mem hp d hd) h)), _, by simp, by simp [lent], rfl⟩⟩) [.ow (.fr (tD T)), .ow (.fr (.tup ds)), .no, .no, .no, .no, .no] ⟨.no, .inl rfl, rfl⟩
  rw [List.map_id'] at h
  cases hf : ds.find? (fun d => !below d n) with
  | none =>
    obtain ⟨d, hd, hb⟩ := hb
    have := List.all_eq_true.mp (find_all.mp hf) d hd
    rw [hb] at this; cases this
  | some d =>
    obtain ⟨r, h1, ρ, h2, h3, h4⟩ := h.2 d hf
    subst h4
    have s1 : forS (itS (puV (var 1))) (gN 2) (dropS (callM 2 F_need_share (agV (puV (var 0)) (agV (puV (var 2)) agN)))) [.ow (.fr (tD T)), .ow (.fr (.tup ds)), .no, .no, .no, .no, .no] = some (.ex "InvalidNumber" [("word", .str "share")] ρ) := h1
    unfold F_generated m_generated runF
    show (match (seqS (forS (itS (puV (var 1))) (gN 2) (dropS (callM 2 F_need_share (agV (puV (var 0)) (agV (puV (var 2)) agN))))) _) [.ow (.fr (tD T)), .ow (.fr (.tup ds)), .no, .no, .no, .no, .no] with | some (.rt o ρ) => _ | some (.nx ρ) => _ | some (.ex c fs ρ) => _ | _ => _) = _
    rw [seq_ex s1]
    dsimp only
    have hl : (["table", "shares"] : List Str).length = 2 := rfl
    rw [if_pos (by rw [hl]; exact h2), hl, h3]
    rfl
end
end K37
set_option maxHeartbeats 4000000
namespace K37
open PySem PySem.Spec L2 Tr
def kl1 : List (Int × Int × Int × Int) := [(1, 1, 1, 0), (2, 1, 1, 0), (2, 1, 1, 0), (3, 1, 1, 0), (4, 1, 1, 0), (2, 2, 1, 0), (5, 1, 1, 0), (6, 1, 1, 0)]
def kinds : List (Int × Int × Int × Int) := [(1, 1, 1, 0), (2, 1, 1, 0), (2, 1, 1, 0), (3, 1, 1, 0), (4, 1, 1, 0), (2, 2, 1, 0), (5, 1, 1, 0), (6, 1, 1, 0), (3, 2, -1, 0), (3, 2, -1, 0), (3, 2, -1, 0), (3, 2, -1, 0), (4, 2, -1, 0), (4, 2, -1, 2), (4, 2, 1, 0), (7, 1, 1, 0)]
theorem tables_eq : ∀ k ∈ kinds, F__law_table [.ow (.fr (kD k))] = some (.ret (.fl (lD (gtab k))) [.no]) := by
  intro k hk
  simp only [kinds, List.mem_cons, List.mem_nil_iff, or_false] at hk
  rcases hk with rfl | rfl | rfl | rfl | rfl | rfl | rfl | rfl | rfl | rfl | rfl | rfl | rfl | rfl | rfl | rfl
  all_goals kernel_rfl
theorem tables_ok : ∀ k ∈ kinds, chk (tD (gtab k)) = none ∧ (gtab k).length = (k.1 * k.2.1).toNat ∧ 1 ≤ k.1 * k.2.1 ∧ k.1 * k.2.1 ≤ 8 := by
  intro k hk
  simp only [kinds, List.mem_cons, List.mem_nil_iff, or_false] at hk
  rcases hk with rfl | rfl | rfl | rfl | rfl | rfl | rfl | rfl | rfl | rfl | rfl | rfl | rfl | rfl | rfl | rfl
  all_goals exact ⟨by kernel_rfl, by kernel_rfl, by decide, by decide⟩
end K37
set_option maxHeartbeats 4000000
namespace K37
open PySem PySem.Spec L2 Tr
theorem kinds_b : ∀ k ∈ kinds, 1 ≤ k.1 ∧ k.1 ≤ 7 ∧ 1 ≤ k.2.1 ∧ k.2.1 ≤ 2 ∧ k.1 * k.2.1 ≤ 8 := by decide
def gp1 : Mo O := (lstX (lxC (ofP (tupP (lpC (cst (.int 1)) (lpC (cst (.int 1)) (lpC (cst (.int 1)) (lpC (cst (.int 0)) lpN)))))) (lxC (ofP (tupP (lpC (cst (.int 2)) (lpC (cst (.int 1)) (lpC (cst (.int 1)) (lpC (cst (.int 0)) lpN)))))) (lxC (ofP (tupP (lpC (cst (.int 2)) (lpC (cst (.int 1)) (lpC (cst (.int 1)) (lpC (cst (.int 0)) lpN)))))) (lxC (ofP (tupP (lpC (cst (.int 3)) (lpC (cst (.int 1)) (lpC (cst (.int 1)) (lpC (cst (.int 0)) lpN)))))) (lxC (ofP (tupP (lpC (cst (.int 4)) (lpC (cst (.int 1)) (lpC (cst (.int 1)) (lpC (cst (.int 0)) lpN)))))) (lxC (ofP (tupP (lpC (cst (.int 2)) (lpC (cst (.int 2)) (lpC (cst (.int 1)) (lpC (cst (.int 0)) lpN)))))) (lxC (ofP (tupP (lpC (cst (.int 5)) (lpC (cst (.int 1)) (lpC (cst (.int 1)) (lpC (cst (.int 0)) lpN)))))) (lxC (ofP (tupP (lpC (cst (.int 6)) (lpC (cst (.int 1)) (lpC (cst (.int 1)) (lpC (cst (.int 0)) lpN)))))) lxN)))))))))
def gp2 : Mo O := (ofP (pu2 addD (pu2 addD (var 2) (pu2 mulD (lstP (lpC (tupP (lpC (cst (.int 3)) (lpC (cst (.int 2)) (lpC (pu2 subD (cst (.int 0)) (cst (.int 1))) (lpC (cst (.int 0)) lpN))))) lpN)) (cst (.int 4)))) (lstP (lpC (tupP (lpC (cst (.int 4)) (lpC (cst (.int 2)) (lpC (pu2 subD (cst (.int 0)) (cst (.int 1))) (lpC (cst (.int 0)) lpN))))) (lpC (tupP (lpC (cst (.int 4)) (lpC (cst (.int 2)) (lpC (pu2 subD (cst (.int 0)) (cst (.int 1))) (lpC (cst (.int 2)) lpN))))) (lpC (tupP (lpC (cst (.int 4)) (lpC (cst (.int 2)) (lpC (cst (.int 1)) (lpC (cst (.int 0)) lpN))))) (lpC (tupP (lpC (cst (.int 7)) (lpC (cst (.int 1)) (lpC (cst (.int 1)) (lpC (cst (.int 0)) lpN))))) lpN)))))))
def gp3 : Mo D := (frzM (lcM (itS (puV (var 2))) (gN 6) (quM (tb (pu2 leD (pu2 mulD (pu2 ixD (var 6) (cst (.int 0))) (pu2 ixD (var 6) (cst (.int 1)))) (var 1)))) (ofP (var 6)) [6]))
def gp4 : Mo O := (frM (mo2 addD (puV (lstP (lpC (cst (.int 0)) lpN))) (frzM (lcM (itS (frzM (callM 2 F__law_order (agL 0 (agV (puV (pu2 subD (pu2 mulD (pu2 ixD (var 3) (cst (.int 0))) (pu2 ixD (var 3) (cst (.int 1)))) (cst (.int 1)))) agN))))) (gN 6) yes (ofP (pu2 addD (var 6) (cst (.int 1)))) [6]))))
def gp5 : Mo O := (ofP (pu2 addD (lstP (lpC (pu2 ixD (var 4) (pu2 modD (pu1 intD (cst (.int 1))) (pu2 ixD (var 3) (cst (.int 0))))) lpN)) (ifP (tb (pu2 eqD (pu2 ixD (var 3) (cst (.int 1))) (cst (.int 2)))) (lstP (lpC (pu2 ixD (var 4) (pu2 ixD (var 3) (cst (.int 0)))) lpN)) (lstP lpN))))
def gp6 : Mo O := (frM (tupV (lvC (frzM (callM 2 F__law_renamed (agV (frzM (callM 1 F__law_table (agV (puV (var 3)) agN))) (agV (puV (var 4)) agN)))) (lvC (puV (var 5)) lvN))))
theorem run_rt {N n : Nat} {m : MS} {args : List Sl} {ρ : Rho} {o : O} {outs : List Sl} (h : m (args ++ List.replicate (N - n) .no) = some (.rt o ρ)) (hl : n ≤ ρ.length) (ho : (ρ.take n).map lent = outs) : runF N n m args = some (.ret o outs) := by
  unfold runF
  rw [h]
  dsimp only
  rw [if_pos hl, ho]
theorem group_m : m__law_group = (seqS (setF 2 gp1) (seqS (setF 2 gp2) (seqS (setF 3 (callM 2 F__law_pick (agL 0 (agV gp3 agN)))) (seqS (setF 4 gp4) (seqS (setF 5 gp5) (retS gp6)))))) := by unfold m__law_group gp1 gp2 gp3 gp4 gp5 gp6; rfl
theorem group_eq (o : O) (ho : HP o) : ∃ M o' d5, chk (tD M) = none ∧ M.length ≤ 8 ∧ HP o' ∧ F__law_group [.le o, .ow (.fr (.int 8))] = some (.ret (.fr (.tup [tD M, d5])) [.le o', .no]) := by
  have a1 : gp1 [.le o, .ow (.fr (.int 8)), .no, .no, .no, .no, .no] = some (.ok (.fl (kl1.map kD)) [.le o, .ow (.fr (.int 8)), .no, .no, .no, .no, .no]) := by kernel_rfl
  have s1 : setF 2 gp1 [.le o, .ow (.fr (.int 8)), .no, .no, .no, .no, .no] = some (.nx [.le o, .ow (.fr (.int 8)), .ow (.fr (.lst (kl1.map kD))), .no, .no, .no, .no]) := by
    simp only [setF, setS, frM, frzM, a1, O.fz]
    rfl
  have a2 : gp2 [.le o, .ow (.fr (.int 8)), .ow (.fr (.lst (kl1.map kD))), .no, .no, .no, .no] = some (.ok (.fr (.lst (kinds.map kD))) [.le o, .ow (.fr (.int 8)), .ow (.fr (.lst (kl1.map kD))), .no, .no, .no, .no]) := by kernel_rfl
  have s2 : setF 2 gp2 [.le o, .ow (.fr (.int 8)), .ow (.fr (.lst (kl1.map kD))), .no, .no, .no, .no] = some (.nx [.le o, .ow (.fr (.int 8)), .ow (.fr (.lst (kinds.map kD))), .no, .no, .no, .no]) := set_of a2 ⟨.ow (.fr (.lst (kl1.map kD))), rfl, rfl⟩
  have a3 : gp3 [.le o, .ow (.fr (.int 8)), .ow (.fr (.lst (kinds.map kD))), .no, .no, .no, .no] = some (.ok (.lst (kinds.map kD)) [.le o, .ow (.fr (.int 8)), .ow (.fr (.lst (kinds.map kD))), .no, .no, .no, .no]) := by kernel_rfl
  obtain ⟨d, o2, hd, ho2, a4⟩ := call_pick (i := 0) (s0 := .le o) rfl rfl ho a3 (by decide) (by decide)
  obtain ⟨k, hk, rfl⟩ := List.mem_map.mp hd
  obtain ⟨t1, t2, t3, t4⟩ := tables_ok k hk
  obtain ⟨b1, b2, b3, b4, _⟩ := kinds_b k hk
  have t5 := tables_eq k hk
  have s3 : setF 3 (callM 2 F__law_pick (agL 0 (agV gp3 agN))) [.le o, .ow (.fr (.int 8)), .ow (.fr (.lst (kinds.map kD))), .no, .no, .no, .no] = some (.nx [.le o2, .ow (.fr (.int 8)), .ow (.fr (.lst (kinds.map kD))), .ow (.fr (kD k)), .no, .no, .no]) := set_of a4 ⟨.no, rfl, rfl⟩
  -- the names
  have ex0 : ixD (kD k) (.int 0) = some (.int k.1) := rfl
  have ex1 : ixD (kD k) (.int 1) = some (.int k.2.1) := rfl
  have hm : puV (pu2 subD (pu2 mulD (pu2 ixD (var 3) (cst (.int 0))) (pu2 ixD (var 3) (cst (.int 1)))) (cst (.int 1))) [.le o2, .ow (.fr (.int 8)), .ow (.fr (.lst (kinds.map kD))), .ow (.fr (kD k)), .no, .no, .no] = some (.ok (.int (k.1 * k.2.1 - 1)) [.le o2, .ow (.fr (.int 8)), .ow (.fr (.lst (kinds.map kD))), .ow (.fr (kD k)), .no, .no, .no]) := by
    have e3 : mulD (.int k.1) (.int k.2.1) = some (.int (k.1 * k.2.1)) := if_pos (.inl (by omega))
    simp only [puV, pu2, var, cst, List.getElem?_cons_zero, List.getElem?_cons_succ, ex0, ex1, e3, subD, onI0]
  obtain ⟨q, o3, hq, ho3, a5⟩ := call_order (i := 0) (s0 := .le o2) rfl rfl ho2 hm (by omega) (by omega)
  let ρ3 : Rho := [.le o3, .ow (.fr (.int 8)), .ow (.fr (.lst (kinds.map kD))), .ow (.fr (kD k)), .no, .no, .no]
  have a6 : gp4 [.le o2, .ow (.fr (.int 8)), .ow (.fr (.lst (kinds.map kD))), .ow (.fr (kD k)), .no, .no, .no] = some (.ok (.fr (.lst ((0 :: q.map (· + 1)).map .int))) ρ3) := by
    have i1 : itS (frzM (callM 2 F__law_order (agL 0 (agV (puV (pu2 subD (pu2 mulD (pu2 ixD (var 3) (cst (.int 0))) (pu2 ixD (var 3) (cst (.int 1)))) (cst (.int 1)))) agN)))) [.le o2, .ow (.fr (.int 8)), .ow (.fr (.lst (kinds.map kD))), .ow (.fr (kD k)), .no, .no, .no] = some (.ok (q.map .int) ρ3) := by
      simp only [itS, frzM, a5, O.fz, D.sq]
      rfl
    have i2 : lcL (gN 6) yes (ofP (pu2 addD (var 6) (cst (.int 1)))) [6] (q.map D.int) ρ3 = some ((q.map D.int).map (fun d => O.fr (match d with | .int i => .int (i + 1) | d => d)), ρ3) :=
      lcL_map fun d m => by
        obtain ⟨c, _, rfl⟩ := List.mem_map.mp m
        exact ⟨ρ3.set 6 (.ow (.fr (.int c))), ρ3.set 6 (.ow (.fr (.int c))), rfl, rfl, rfl, rfl, rfl⟩
    have i3 := lcM_ok i1 rfl i2
    rw [mkL_map] at i3
    have i4 : (q.map D.int).map (fun d => (match d with | .int i => D.int (i + 1) | d => d)) = (q.map (· + 1)).map .int := by
      rw [List.map_map, List.map_map]; rfl
    rw [i4] at i3
    have hq7 : q.length ≤ 8 := by rw [hq.length_eq, rgI_len]; omega
    have i5 : addD (.lst [.int 0]) (.lst ((q.map (· + 1)).map .int)) = some (.lst ((0 :: q.map (· + 1)).map .int)) := by
      show (if 1 + ((q.map (· + 1)).map D.int).length ≤ sizeLine then _ else _) = _
      rw [if_pos (by rw [List.length_map, List.length_map, sizeLine_eq]; omega)]; rfl
    have i6 : puV (lstP (lpC (cst (.int 0)) lpN)) [.le o2, .ow (.fr (.int 8)), .ow (.fr (.lst (kinds.map kD))), .ow (.fr (kD k)), .no, .no, .no] = some (.ok (.lst [.int 0]) [.le o2, .ow (.fr (.int 8)), .ow (.fr (.lst (kinds.map kD))), .ow (.fr (kD k)), .no, .no, .no]) := by simp [puV, lstP, lpC, lpN, cst, sizeLine_eq]
    unfold gp4 frM mo2
    rw [i6]
    dsimp only
    simp only [frzM, i3, O.fz, i5]
    rfl
  have s4 : setF 4 gp4 [.le o2, .ow (.fr (.int 8)), .ow (.fr (.lst (kinds.map kD))), .ow (.fr (kD k)), .no, .no, .no] = some (.nx (ρ3.set 4 (.ow (.fr (.lst ((0 :: q.map (· + 1)).map .int)))))) := set_of a6 ⟨.no, rfl, rfl⟩
  have hn : (k.1 * k.2.1 - 1).toNat + 1 = (gtab k).length := by rw [t2]; omega
  have hp := perm_up hq
  rw [hn] at hp
  have V := (chk_none t1).2.2.1
  have pl : (0 :: q.map (· + 1)).length = (k.1 * k.2.1).toNat := by rw [hp.length_eq, rgI_len, t2]
  generalize hP : (0 :: q.map (· + 1)) = P at *
  -- the shares
  have m1 : modD (.int 1) (.int k.1) = some (.int (1 % k.1)) := mod_eq 1 k.1 (by omega)
  have w0 : 0 ≤ (1 : Int) % k.1 := Int.emod_nonneg _ (by omega)
  have w1 : (1 : Int) % k.1 < k.1 := Int.emod_lt_of_pos _ (by omega)
  have w2 : k.1 ≤ k.1 * k.2.1 := by
    have := Int.mul_le_mul_of_nonneg_left (show (1 : Int) ≤ k.2.1 by omega) (show (0 : Int) ≤ k.1 by omega)
    omega
  have ix1 := ixL_int P (1 % k.1) w0 (by rw [pl]; omega)
  have e2 := eqD_int k.2.1 2
  have a7 : ∃ d5, gp5 (ρ3.set 4 (.ow (.fr (.lst (P.map .int))))) = some (.ok (.fr d5) (ρ3.set 4 (.ow (.fr (.lst (P.map .int)))))) := by
    by_cases hb : k.2.1 = 2
    · have w3 : k.1 * k.2.1 = k.1 * 2 := by rw [hb]
      have e22 : eqD (.int 2) (.int 2) = some (.bl true) := by rw [eqD_int]; rfl
      have ix2 := ixL_int P k.1 (by omega) (by rw [pl]; omega)
      refine ⟨.lst [.int (elA P (1 % k.1)), .int (elA P k.1)], ?_⟩
      simp [gp5, ofP, pu2, pu1, lstP, lpC, lpN, var, cst, intD, ρ3, ex0, ex1, m1, ix1, ix2, e22, hb, ifP, tb, sizeLine_eq, addD]
    · refine ⟨.lst [.int (elA P (1 % k.1))], ?_⟩
      simp [gp5, ofP, pu2, pu1, lstP, lpC, lpN, var, cst, intD, ρ3, ex0, ex1, m1, ix1, e2, hb, ifP, tb, sizeLine_eq, addD]
  obtain ⟨d5, a7⟩ := a7
  have s5 := set_of (i := 5) a7 ⟨.no, rfl, rfl⟩
  obtain ⟨M, VM, hM, a8⟩ := renamed_eq V (chk_none t1).1 (by rw [t2]; omega) hp
  have h0 : elA P 0 = 0 := by rw [← hP]; rfl
  refine ⟨M, o3, d5, transport t1 rfl hp h0 VM hM, by rw [VM.len, t2]; omega, ho3, ?_⟩
  let ρ5 : Rho := (ρ3.set 4 (.ow (.fr (.lst (P.map .int))))).set 5 (.ow (.fr d5))
  have a9 : frzM (callM 1 F__law_table (agV (puV (var 3)) agN)) ρ5 = some (.ok (.lst (lD (gtab k))) ρ5) := by
    have := call_v (F := F__law_table) (f := puV (var 3)) (ρ := ρ5) (ρ1 := ρ5) rfl t5
    unfold frzM
    rw [this]
    rfl
  have a10 : frzM (callM 2 F__law_renamed (agV (frzM (callM 1 F__law_table (agV (puV (var 3)) agN))) (agV (puV (var 4)) agN))) ρ5 = some (.ok (tD M) ρ5) := frz_x (call_vv a9 (rfl : puV (var 4) ρ5 = some (.ok (.lst (P.map .int)) ρ5)) a8)
  have a11 : gp6 ρ5 = some (.ok (.fr (.tup [tD M, d5])) ρ5) := by
    have v5 : puV (var 5) ρ5 = some (.ok d5 ρ5) := rfl
    simp only [gp6, frM, tupV, lvC, lvN, a10, v5]
    rfl
  have hrun : m__law_group [.le o, .ow (.fr (.int 8)), .no, .no, .no, .no, .no] = some (.rt (.fr (.tup [tD M, d5])) ρ5) := by
    rw [group_m, seq_nx s1, seq_nx s2, seq_nx s3, seq_nx s4, seq_nx s5]
    unfold retS
    rw [show gp6 ((ρ3.set 4 (.ow (.fr (.lst (P.map .int))))).set 5 (.ow (.fr d5))) = _ from a11]
  exact run_rt (N := 7) (n := 2) (args := [.le o, .ow (.fr (.int 8))]) hrun (Nat.le_add_left 2 5) rfl
end K37
set_option maxHeartbeats 4000000
namespace K37
open PySem PySem.Spec L2 Tr
/-! ### a loop that may break -/
theorem forL_brk {α : Type} {t : D → Rho → Option Rho} {b : MS} {f : α → D} {St : List α → Rho → Prop} {Q : Rho → Prop} : ∀ {bs as : List α}, (∀ a l r, bs ++ as = l ++ a :: r → bs.length ≤ l.length → ∀ ρ, St l ρ → ∃ ρ1, t (f a) ρ = some ρ1 ∧ ((∃ ρ2, b ρ1 = some (.nx ρ2) ∧ St (l ++ [a]) ρ2) ∨ (∃ ρ2, b ρ1 = some (.bk ρ2) ∧ Q ρ2))) → ∀ ρ, St bs ρ → ∃ ρ', forL t b (as.map f) ρ = some (.nx ρ') ∧ (St (bs ++ as) ρ' ∨ Q ρ')
  | bs, [], _, ρ, hs => ⟨ρ, rfl, .inl (by rw [List.append_nil]; exact hs)⟩
  | bs, a :: as, h, ρ, hs => by
    obtain ⟨ρ1, h1, h2⟩ := h a bs as rfl (Nat.le_refl _) ρ hs
    rw [List.map_cons]
    unfold forL
    rw [h1]
    dsimp only
    rcases h2 with ⟨ρ2, h2, h3⟩ | ⟨ρ2, h2, h3⟩
    · rw [h2]
      obtain ⟨ρ', e1, e2⟩ := forL_brk (bs := bs ++ [a]) (as := as) (t := t) (b := b) (f := f) (St := St) (Q := Q) (fun a' l r e hl => h a' l r (by rw [← e, List.append_assoc]; rfl) (by rw [List.length_append] at hl; simp at hl; omega)) ρ2 h3
      rw [List.append_assoc] at e2
      exact ⟨ρ', e1, e2⟩
    · rw [h2]
      exact ⟨ρ2, rfl, .inr h3⟩
def pwL (T : List (List Int)) (a : Int) (m : Nat) : List Int := (List.range m).map (pw T a)
theorem pwL_succ (T : List (List Int)) (a : Int) (m : Nat) : pwL T a (m + 1) = pwL T a m ++ [pw T a m] := by
  unfold pwL
  rw [List.range_succ, List.map_append]; rfl
theorem pwL_len (T : List (List Int)) (a : Int) (m : Nat) : (pwL T a m).length = m := by unfold pwL; rw [List.length_map, List.length_range]
theorem pwL_at (T : List (List Int)) (a : Int) {m k : Nat} (h : k < m) : elA (pwL T a m) (Nat.cast k) = pw T a k := by
  obtain ⟨h1, h2⟩ := elA_get (r := pwL T a m) (j := (Nat.cast k : Int)) (by omega) (by rw [pwL_len]; omega)
  rw [h2]
  simp [pwL]
section
variable {T : List (List Int)} {n : Nat}
def pwB : MS := (seqS (ifS (quM (tb (pu2 eqD (pu2 ixD (pu2 ixD (var 0) (var 1)) (flD (conAt 2 (pu2 subD (pu1 lenD (con 2)) (cst (.int 1)))))) (cst (.int 0))))) bkS nxS) (dropS (appX 2 (puV (pu2 ixD (pu2 ixD (var 0) (var 1)) (flD (conAt 2 (pu2 subD (pu1 lenD (con 2)) (cst (.int 1))))))))))
theorem powers_eq (G : Gp T n) {a : Int} (ha : Ir n a) {m : Nat} (m1 : 1 ≤ m) (m2 : m ≤ n) (m3 : pw T a m = 0) (m4 : ∀ k, 1 ≤ k → k < m → pw T a k ≠ 0) : F__law_powers [.ow (.fr (tD T)), .ow (.fr (.int a))] = some (.ret (.fl ((pwL T a m).map .int)) [.no, .no]) := by
  have hn := G.n2
  have hl := forL_brk (α := Int) (t := gN 3) (b := pwB) (f := D.int)
    (St := fun l ρ => l.length < m ∧ ∃ s3, frS s3 ∧ ρ = [.ow (.fr (tD T)), .ow (.fr (.int a)), .ow (.fl ((pwL T a (l.length + 1)).map .int)), s3])
    (Q := fun ρ => ∃ s3, ρ = [.ow (.fr (tD T)), .ow (.fr (.int a)), .ow (.fl ((pwL T a m).map .int)), s3]) (bs := []) (as := rgI n) (fun x l r _ _ ρ ⟨hlt, s3, h3, e⟩ => by
      subst e
      generalize hk : l.length = k at *
      have hb3 := frS_stb h3
      have hp := G.pw_ir ha k
      have hlen : lenD (.lst ((pwL T a (k + 1)).map .int)) = some (.int (Nat.cast (k + 1))) := by
        show some (D.int (((pwL T a (k + 1)).map D.int).length : Nat)) = _
        rw [List.length_map, pwL_len]
      have hat : atI ((pwL T a (k + 1)).map D.int) (Nat.cast k) = some (.int (pw T a k)) := by
        have := ix_int (pwL T a (k + 1)) (Nat.cast k) (by omega) (by rw [pwL_len]; omega)
        rw [pwL_at T a (by omega)] at this
        exact this
      have i1 := ix_row G.v a ha.1 ha.2
      have i2 := ix_en G.v ha.1 ha.2 hp.1 hp.2
      rw [G.pw_l ha k] at i2
      have sub1 : subD (.int (Nat.cast (k + 1))) (.int 1) = some (.int (Nat.cast k)) := by
        show some (D.int (((k + 1 : Nat) : Int) - 1)) = _
        rw [show ((k + 1 : Nat) : Int) - 1 = (k : Int) by omega]
      have lastv : flD (conAt 2 (pu2 subD (pu1 lenD (con 2)) (cst (.int 1)))) [.ow (.fr (tD T)), .ow (.fr (.int a)), .ow (.fl ((pwL T a (k + 1)).map .int)), .ow (.fr (.int x))] = some (.int (pw T a k)) := by
        simp only [flD, conAt, pu2, pu1, con, cst, List.getElem?_cons_zero, List.getElem?_cons_succ, Option.bind_some, Sl.tr, O.cont, hlen, sub1, hat]
      have nextv : pu2 ixD (pu2 ixD (var 0) (var 1)) (flD (conAt 2 (pu2 subD (pu1 lenD (con 2)) (cst (.int 1))))) [.ow (.fr (tD T)), .ow (.fr (.int a)), .ow (.fl ((pwL T a (k + 1)).map .int)), .ow (.fr (.int x))] = some (.int (pw T a (k + 1))) := by
        unfold pu2 at lastv ⊢
        simp only [lastv, var, List.getElem?_cons_zero, List.getElem?_cons_succ, i1, i2]
      have c : quM (tb (pu2 eqD (pu2 ixD (pu2 ixD (var 0) (var 1)) (flD (conAt 2 (pu2 subD (pu1 lenD (con 2)) (cst (.int 1)))))) (cst (.int 0)))) [.ow (.fr (tD T)), .ow (.fr (.int a)), .ow (.fl ((pwL T a (k + 1)).map .int)), .ow (.fr (.int x))] = some (.ok (decide (pw T a (k + 1) = 0)) [.ow (.fr (tD T)), .ow (.fr (.int a)), .ow (.fl ((pwL T a (k + 1)).map .int)), .ow (.fr (.int x))]) := by
        have e : pu2 eqD (pu2 ixD (pu2 ixD (var 0) (var 1)) (flD (conAt 2 (pu2 subD (pu1 lenD (con 2)) (cst (.int 1)))))) (cst (.int 0)) [.ow (.fr (tD T)), .ow (.fr (.int a)), .ow (.fl ((pwL T a (k + 1)).map .int)), .ow (.fr (.int x))] = some (.bl (decide (pw T a (k + 1) = 0))) := by
          rw [← eqD_int]
          show (match pu2 ixD (pu2 ixD (var 0) (var 1)) (flD (conAt 2 (pu2 subD (pu1 lenD (con 2)) (cst (.int 1))))) _, cst (.int 0) _ with | some x, some y => eqD x y | _, _ => none) = _
          rw [nextv]
          rfl
        unfold quM tb
        rw [e]
      refine ⟨[.ow (.fr (tD T)), .ow (.fr (.int a)), .ow (.fl ((pwL T a (k + 1)).map .int)), .ow (.fr (.int x))], by simp [pu1, pu2, mo1, mo2, cst, var, bor, con, conAt, flD, puV, frM, frzM, ofP, mov, frzS, tupP, lpN, lpC, lstP, lxN, lxC, lstX, lvN, lvC, tupV, andV, orV, notV, andP, orP, notP, ifP, ifM, tb, tbM, quM, notQ, notY, andQ, orQ, andY, orY, seqS, ifS, retS, retN, nxS, setF, setS, dropS, agN, agV, agL, callM, toSl, back, noDup, lents, Sl.tr, Sl.put, O.fz, gN, gT, gsN, gsC, stb_at, stbS_no, stbS_ow, frOk, wipeR, unw, itS, itR1, itR2, itE, asgS, par2, par3, raiS, chn, yes, moL, moLv, lent, runF, forS, onI0, onI, ltD, leD, gtD, geD, subD, negD, isND, notND, mkL_map, sizeLine_eq, D.isN, D.sq, D.lsq, hb3], ?_⟩
      by_cases h0 : pw T a (k + 1) = 0
      · right
        have hkm : k + 1 = m := by
          refine Classical.byContradiction fun hne => m4 (k + 1) (by omega) (by omega) h0
        refine ⟨[.ow (.fr (tD T)), .ow (.fr (.int a)), .ow (.fl ((pwL T a (k + 1)).map .int)), .ow (.fr (.int x))], ?_, .ow (.fr (.int x)), by rw [hkm]⟩
        unfold pwB seqS ifS
        rw [c, decide_eq_true h0]
        rfl
      · left
        have hkm : k + 1 < m := by
          refine Classical.byContradiction fun hne => h0 ?_
          rw [show k + 1 = m by omega]; exact m3
        have hz : ((pwL T a (k + 1)).map D.int).length < sizeLine := by rw [List.length_map, pwL_len, sizeLine_eq]; omega
        refine ⟨[.ow (.fr (tD T)), .ow (.fr (.int a)), .ow (.fl ((pwL T a (k + 1 + 1)).map .int)), .ow (.fr (.int x))], ?_, by simp [hk]; omega, .ow (.fr (.int x)), .inr ⟨_, rfl⟩, by simp [hk]⟩
        have q1 : ifS (quM (tb (pu2 eqD (pu2 ixD (pu2 ixD (var 0) (var 1)) (flD (conAt 2 (pu2 subD (pu1 lenD (con 2)) (cst (.int 1)))))) (cst (.int 0))))) bkS nxS [.ow (.fr (tD T)), .ow (.fr (.int a)), .ow (.fl ((pwL T a (k + 1)).map .int)), .ow (.fr (.int x))] = some (.nx [.ow (.fr (tD T)), .ow (.fr (.int a)), .ow (.fl ((pwL T a (k + 1)).map .int)), .ow (.fr (.int x))]) := by
          unfold ifS
          rw [c, decide_eq_false h0]
          rfl
        unfold pwB
        rw [seq_nx q1]
        unfold dropS appX puV
        rw [nextv]
        simp only [List.getElem?_cons_zero, List.getElem?_cons_succ, Option.bind_some, Sl.tr, if_pos hz, Sl.put, List.set_cons_zero, List.set_cons_succ]
        rw [pwL_succ T a (k + 1), List.map_append]; rfl) [.ow (.fr (tD T)), .ow (.fr (.int a)), .ow (.fl [.int 0]), .no] ⟨by simp; omega, .no, .inl rfl, rfl⟩
  obtain ⟨ρ', e1, e2⟩ := hl
  have e3 : ∃ s3, ρ' = [.ow (.fr (tD T)), .ow (.fr (.int a)), .ow (.fl ((pwL T a m).map .int)), s3] := by
    rcases e2 with ⟨h, _⟩ | h
    · rw [List.nil_append, rgI_len] at h; omega
    · exact h
  obtain ⟨s3, rfl⟩ := e3
  have s1 : setS 2 (lstX (lxC (ofP (cst (.int 0))) lxN)) [.ow (.fr (tD T)), .ow (.fr (.int a)), .no, .no] = some (.nx [.ow (.fr (tD T)), .ow (.fr (.int a)), .ow (.fl [.int 0]), .no]) := by
    simp [pu1, pu2, mo1, mo2, cst, var, bor, con, conAt, flD, puV, frM, frzM, ofP, mov, frzS, tupP, lpN, lpC, lstP, lxN, lxC, lstX, lvN, lvC, tupV, andV, orV, notV, andP, orP, notP, ifP, ifM, tb, tbM, quM, notQ, notY, andQ, orQ, andY, orY, seqS, ifS, retS, retN, nxS, setF, setS, dropS, agN, agV, agL, callM, toSl, back, noDup, lents, Sl.tr, Sl.put, O.fz, gN, gT, gsN, gsC, stb_at, stbS_no, stbS_ow, frOk, wipeR, unw, itS, itR1, itR2, itE, asgS, par2, par3, raiS, chn, yes, moL, moLv, lent, runF, forS, onI0, onI, ltD, leD, gtD, geD, subD, negD, isND, notND, mkL_map, sizeLine_eq, D.isN, D.sq, D.lsq, sizeLine_eq, mkL, frs?]
  have s2 : forS (itR1 (puV (pu1 lenD (var 0)))) (gN 3) pwB [.ow (.fr (tD T)), .ow (.fr (.int a)), .ow (.fl [.int 0]), .no] = some (.nx [.ow (.fr (tD T)), .ow (.fr (.int a)), .ow (.fl ((pwL T a m).map .int)), s3]) := by
    unfold forS
    rw [rng_len G.v (by omega) (i := 0) (ρ := [.ow (.fr (tD T)), .ow (.fr (.int a)), .ow (.fl [.int 0]), .no]) rfl]
    exact e1
  unfold F__law_powers m__law_powers runF
  show (match (seqS (setS 2 (lstX (lxC (ofP (cst (.int 0))) lxN))) (seqS (forS (itR1 (puV (pu1 lenD (var 0)))) (gN 3) pwB) (retS (mov 2)))) [.ow (.fr (tD T)), .ow (.fr (.int a)), .no, .no] with | some (.rt o ρ) => _ | some (.nx ρ) => _ | some (.ex c fs ρ) => _ | _ => _) = _
  rw [seq_nx s1, seq_nx s2]
  rfl
end
end K37
set_option maxHeartbeats 4000000
namespace K37
open PySem PySem.Spec L2 Tr
section
variable {T : List (List Int)} {n : Nat}
theorem eqF_int (a b : Int) : eqF (.int a) (.int b) = decide (a = b) := by
  show (a == b) = decide (a = b)
  by_cases h : a = b <;> simp [h]
theorem flat_map (l : List Int) : (l.map D.int).all flatD = true := by
  rw [List.all_map]
  exact List.all_eq_true.mpr fun _ _ => rfl
theorem any_map (l : List Int) (x : Int) : (l.map D.int).any (fun y => eqF y (.int x)) = decide (x ∈ l) := by
  rw [List.any_map]
  induction l with
  | nil => simp
  | cons y l ih =>
    rw [List.any_cons, ih]
    show (eqF (.int y) (.int x) || decide (x ∈ l)) = decide (x ∈ y :: l)
    rw [eqF_int]
    by_cases h : y = x
    · subst h; simp
    · have h' : ¬ x = y := fun e => h e.symm
      simp [h, h']
theorem inD_lst (neg : Bool) (l : List Int) (x : Int) : inD neg (.int x) (.lst (l.map .int)) = some (.bl (if neg then !decide (x ∈ l) else decide (x ∈ l))) := by
  show (if flatD (.int x) = true ∧ (l.map D.int).all flatD = true then some (D.bl (if neg then !(l.map D.int).any (fun y => eqF y (.int x)) else (l.map D.int).any (fun y => eqF y (.int x)))) else none) = _
  rw [if_pos ⟨rfl, flat_map l⟩, any_map]
/-- the shares of a list, in order -/
def srt (n : Nat) (l : List Int) : List Int := (rgI n).filter fun x => decide (x ∈ l)
theorem srt_mem {l : List Int} {x : Int} : x ∈ srt n l ↔ Ir n x ∧ x ∈ l := by
  unfold srt
  rw [List.mem_filter, rgI_mem]
  exact ⟨fun h => ⟨h.1, of_decide_eq_true h.2⟩, fun h => ⟨h.1, decide_eq_true h.2⟩⟩
theorem srt_srt (l : List Int) : srt n (srt n l) = srt n l := by
  unfold srt
  apply List.filter_congr
  intro x hx
  have hx' := (rgI_mem n x).mp hx
  have : x ∈ (rgI n).filter (fun x => decide (x ∈ l)) ↔ x ∈ l := by
    rw [List.mem_filter]
    exact ⟨fun h => of_decide_eq_true h.2, fun h => ⟨hx, decide_eq_true h⟩⟩
  by_cases h : x ∈ l
  · rw [decide_eq_true h, decide_eq_true (this.mpr h)]
  · rw [decide_eq_false h, decide_eq_false fun z => h (this.mp z)]
theorem srt_nodup (l : List Int) : (srt n l).Nodup := (rgI_nodup n).filter _
theorem srt_sorted (l : List Int) : (srt n l).Pairwise (· ≤ ·) := (rgI_sorted n).filter _
theorem srt_sub {l m : List Int} (h : ∀ x, x ∈ l → x ∈ m) (e : (srt n m).length ≤ (srt n l).length) : srt n l = srt n m := by
  have h1 : srt n l = (srt n m).filter fun x => decide (x ∈ l) := by
    unfold srt
    rw [List.filter_filter]
    apply List.filter_congr
    intro x _
    by_cases hx : x ∈ l
    · simp [hx, h x hx]
    · simp [hx]
  have h2 := List.length_filter_le (fun x => decide (x ∈ l)) (srt n m)
  rw [← h1] at h2
  have h3 : ((srt n m).filter fun x => decide (x ∈ l)).length = (srt n m).length := by rw [← h1]; omega
  have h4 := List.filter_eq_self.mpr (List.length_filter_eq_length_iff.mp h3)
  rw [h1, h4]
/-- the state of closed -/
def cR (T : List (List Int)) (ss F : List Int) (s3 s4 s5 : Sl) : Rho := [.ow (.fr (tD T)), .ow (.fr (rowD ss)), .ow (.fr (.lst (F.map .int))), s3, s4, s5, .no, .no]
def cB2 : MS := (setF 4 (frM (mo2 addD (puV (var 4)) (frzM (lcM (itS (puV (var 2))) (gN 6) yes (ofP (pu2 ixD (pu2 ixD (var 0) (var 5)) (var 6))) [6])))))
theorem cB2_eq (V : Vd T n) {ss F E : List Int} (hF : ∀ x ∈ F, Ir n x) (hl : F.length ≤ 1000) (hE : E.length ≤ 10000000) {x : Int} (hx : Ir n x) (s3 : Sl) :
    cB2 (cR T ss F s3 (.ow (.fr (.lst (E.map .int)))) (.ow (.fr (.int x)))) = some (.nx (cR T ss F s3 (.ow (.fr (.lst ((E ++ F.map (en T x)).map .int)))) (.ow (.fr (.int x))))) := by
  have i1 : itS (puV (var 2)) (cR T ss F s3 (.ow (.fr (.lst (E.map .int)))) (.ow (.fr (.int x)))) = some (.ok (F.map .int) (cR T ss F s3 (.ow (.fr (.lst (E.map .int)))) (.ow (.fr (.int x))))) := rfl
  have r1 := ix_row V x hx.1 hx.2
  have i2 : lcL (gN 6) yes (ofP (pu2 ixD (pu2 ixD (var 0) (var 5)) (var 6))) [6] (F.map D.int) (cR T ss F s3 (.ow (.fr (.lst (E.map .int)))) (.ow (.fr (.int x)))) = some ((F.map D.int).map (fun d => O.fr (match d with | .int i => .int (en T x i) | d => d)), cR T ss F s3 (.ow (.fr (.lst (E.map .int)))) (.ow (.fr (.int x)))) :=
    lcL_map fun d m => by
      obtain ⟨y, hy, rfl⟩ := List.mem_map.mp m
      have h := ix_en V hx.1 hx.2 (hF y hy).1 (hF y hy).2
      refine ⟨(cR T ss F s3 (.ow (.fr (.lst (E.map .int)))) (.ow (.fr (.int x)))).set 6 (.ow (.fr (.int y))), (cR T ss F s3 (.ow (.fr (.lst (E.map .int)))) (.ow (.fr (.int x)))).set 6 (.ow (.fr (.int y))), rfl, rfl, rfl, ?_, rfl⟩
      simp only [ofP, pu2, var, cR, List.set, List.getElem?_cons_zero, List.getElem?_cons_succ, r1, h]
  have i3 := lcM_ok i1 rfl i2
  rw [mkL_map] at i3
  have i4 : (F.map D.int).map (fun d => (match d with | .int i => D.int (en T x i) | d => d)) = (F.map (en T x)).map .int := by
    rw [List.map_map, List.map_map]; rfl
  rw [i4] at i3
  rw [show unw (cR T ss F s3 (.ow (.fr (.lst (E.map .int)))) (.ow (.fr (.int x)))) (cR T ss F s3 (.ow (.fr (.lst (E.map .int)))) (.ow (.fr (.int x)))) [6] = cR T ss F s3 (.ow (.fr (.lst (E.map .int)))) (.ow (.fr (.int x))) from rfl] at i3
  have ha : addD (.lst (E.map .int)) (.lst ((F.map (en T x)).map .int)) = some (.lst ((E ++ F.map (en T x)).map .int)) := by
    show (if (E.map D.int).length + ((F.map (en T x)).map D.int).length ≤ sizeLine then some (D.lst (E.map D.int ++ (F.map (en T x)).map D.int)) else none) = _
    rw [if_pos (by rw [List.length_map, List.length_map, List.length_map, sizeLine_eq]; omega), List.map_append]
  have v4 : puV (var 4) (cR T ss F s3 (.ow (.fr (.lst (E.map .int)))) (.ow (.fr (.int x)))) = some (.ok (.lst (E.map .int)) (cR T ss F s3 (.ow (.fr (.lst (E.map .int)))) (.ow (.fr (.int x))))) := rfl
  have k : frM (mo2 addD (puV (var 4)) (frzM (lcM (itS (puV (var 2))) (gN 6) yes (ofP (pu2 ixD (pu2 ixD (var 0) (var 5)) (var 6))) [6]))) (cR T ss F s3 (.ow (.fr (.lst (E.map .int)))) (.ow (.fr (.int x)))) = some (.ok (.fr (.lst ((E ++ F.map (en T x)).map .int))) (cR T ss F s3 (.ow (.fr (.lst (E.map .int)))) (.ow (.fr (.int x))))) := by
    unfold frM mo2
    rw [v4]
    dsimp only
    simp only [frzM, i3, O.fz, ha]
  unfold cB2
  rw [set_of k ⟨.ow (.fr (.lst (E.map .int))), rfl, rfl⟩]
  rfl
/-- all products -/
def prods (T : List (List Int)) (F G : List Int) : List Int := (G.map fun x => F.map (en T x)).flatten
theorem prods_mem {F G : List Int} {y : Int} : y ∈ prods T F G ↔ ∃ x ∈ G, ∃ z ∈ F, en T x z = y := by
  unfold prods
  rw [List.mem_flatten]
  constructor
  · rintro ⟨l, hl, hy⟩
    obtain ⟨x, hx, rfl⟩ := List.mem_map.mp hl
    obtain ⟨z, hz, e⟩ := List.mem_map.mp hy
    exact ⟨x, hx, z, hz, e⟩
  · rintro ⟨x, hx, z, hz, e⟩
    exact ⟨_, List.mem_map.mpr ⟨x, hx, rfl⟩, List.mem_map.mpr ⟨z, hz, e⟩⟩
theorem prods_len (F : List Int) : ∀ G : List Int, (prods T F G).length = G.length * F.length
  | [] => by simp [prods]
  | x :: G => by
    have ih := prods_len F G
    unfold prods at ih ⊢
    rw [List.map_cons, List.flatten_cons, List.length_append, ih, List.length_map, List.length_cons, Nat.succ_mul, Nat.add_comm]
theorem cL_eq (V : Vd T n) {ss F : List Int} (hF : ∀ x ∈ F, Ir n x) (hl : F.length ≤ 1000) (s3 s5 : Sl) (h5 : frS s5) :
    ∃ s5', frS s5' ∧ forS (itS (puV (var 2))) (gN 5) cB2 (cR T ss F s3 (.ow (.fr (.lst (F.map .int)))) s5) = some (.nx (cR T ss F s3 (.ow (.fr (.lst ((F ++ prods T F F).map .int)))) s5')) := by
  have h := forL_inv (α := Int) (t := gN 5) (b := cB2) (f := D.int)
    (St := fun l ρ => ∃ s5', frS s5' ∧ ρ = cR T ss F s3 (.ow (.fr (.lst ((F ++ prods T F l).map .int)))) s5') (bs := []) (as := F) (fun x l r hlr _ ρ ⟨s5', k5, e⟩ => by
      subst e
      have hx : x ∈ F := by rw [show F = l ++ x :: r from hlr]; simp
      have hll : l.length ≤ F.length := by
        have := congrArg List.length hlr
        simp at this
        omega
      have hb := frS_stb k5
      have hsz : (F ++ prods T F l).length ≤ 10000000 := by
        rw [List.length_append, prods_len]
        have : l.length * F.length ≤ 1000 * 1000 := Nat.mul_le_mul (by omega) hl
        omega
      have g := cB2_eq V (ss := ss) hF hl hsz (hF x hx) s3
      refine ⟨cR T ss F s3 (.ow (.fr (.lst ((F ++ prods T F l).map .int)))) (.ow (.fr (.int x))), _, by simp [cR, pu1, pu2, mo1, mo2, cst, var, bor, con, conAt, flD, puV, frM, frzM, ofP, mov, frzS, tupP, lpN, lpC, lstP, lxN, lxC, lstX, lvN, lvC, tupV, andV, orV, notV, andP, orP, notP, ifP, ifM, tb, tbM, quM, notQ, notY, andQ, orQ, andY, orY, seqS, ifS, retS, retN, nxS, setF, setS, dropS, agN, agV, agL, callM, toSl, back, noDup, lents, Sl.tr, Sl.put, O.fz, gN, gT, gsN, gsC, stb_at, stbS_no, stbS_ow, frOk, wipeR, unw, itS, itR1, itR2, itE, asgS, par2, par3, raiS, chn, yes, moL, moLv, lent, runF, forS, onI0, onI, ltD, leD, gtD, geD, subD, negD, isND, notND, mkL_map, sizeLine_eq, D.isN, D.sq, D.lsq, hb], .inl g, .ow (.fr (.int x)), .inr ⟨_, rfl⟩, ?_⟩
      have : F ++ prods T F l ++ F.map (en T x) = F ++ prods T F (l ++ [x]) := by
        unfold prods
        rw [List.map_append, List.flatten_append, List.append_assoc]
        simp
      rw [this]) (cR T ss F s3 (.ow (.fr (.lst (F.map .int)))) s5) ⟨s5, h5, by simp [prods]⟩
  obtain ⟨ρ', e1, s5', k5, e2⟩ := h
  subst e2
  refine ⟨s5', k5, ?_⟩
  unfold forS
  rw [show itS (puV (var 2)) (cR T ss F s3 (.ow (.fr (.lst (F.map .int)))) s5) = some (.ok (F.map .int) (cR T ss F s3 (.ow (.fr (.lst (F.map .int)))) s5)) from rfl]
  exact e1
def cB3 : MS := (setF 4 (lcM (itR1 (puV (pu1 lenD (var 0)))) (gN 7) (quM (tb (pu2 (inD false) (var 7) (var 4)))) (ofP (var 7)) [7]))
theorem cB3_eq (V : Vd T n) (n2 : n ≤ 200) {ss F E : List Int} (s3 s5 : Sl) : cB3 (cR T ss F s3 (.ow (.fr (.lst (E.map .int)))) s5) = some (.nx (cR T ss F s3 (.ow (.fr (.lst ((srt n E).map .int)))) s5)) := by
  have i1 := rng_len V (by omega) (i := 0) (ρ := cR T ss F s3 (.ow (.fr (.lst (E.map .int)))) s5) rfl
  let f : D → Bool := fun d => match d with
    | .int x => decide (x ∈ E)
    | _ => false
  have l2 : lcL (gN 7) (quM (tb (pu2 (inD false) (var 7) (var 4)))) (ofP (var 7)) [7] ((rgI n).map D.int) (cR T ss F s3 (.ow (.fr (.lst (E.map .int)))) s5) = some ((((rgI n).map D.int).filter f).map O.fr, cR T ss F s3 (.ow (.fr (.lst (E.map .int)))) s5) :=
    lcL_filter fun d m => by
      obtain ⟨x, _, rfl⟩ := List.mem_map.mp m
      refine ⟨(cR T ss F s3 (.ow (.fr (.lst (E.map .int)))) s5).set 7 (.ow (.fr (.int x))), rfl, ?_, rfl, fun _ => ⟨_, rfl, rfl⟩⟩
      have h : inD false (.int x) (.lst (E.map .int)) = some (.bl (decide (x ∈ E))) := inD_lst false E x
      simp only [quM, tb, pu2, var, cR, List.set, List.getElem?_cons_zero, List.getElem?_cons_succ, h]
      rfl
  have i3 := lcM_ok i1 rfl l2
  rw [mkL_fr] at i3
  have e : ((rgI n).map D.int).filter f = (srt n E).map .int := by
    unfold srt
    rw [List.filter_map]; rfl
  rw [e, show unw (cR T ss F s3 (.ow (.fr (.lst (E.map .int)))) s5) (cR T ss F s3 (.ow (.fr (.lst (E.map .int)))) s5) [7] = cR T ss F s3 (.ow (.fr (.lst (E.map .int)))) s5 from rfl] at i3
  have k : lcM (itR1 (puV (pu1 lenD (var 0)))) (gN 7) (quM (tb (pu2 (inD false) (var 7) (var 4)))) (ofP (var 7)) [7] (cR T ss F s3 (.ow (.fr (.lst (E.map .int)))) s5) = some (.ok (.fl ((srt n E).map .int)) (cR T ss F s3 (.ow (.fr (.lst (E.map .int)))) s5)) := i3
  unfold cB3 setF setS frM frzM
  rw [k]
  rfl
def cB : MS := (seqS (setF 4 (moL D.sq (var 2))) (seqS (forS (itS (puV (var 2))) (gN 5) cB2) (seqS cB3 (seqS (ifS (quM (tb (pu2 eqD (var 4) (var 2)))) bkS nxS) (setF 2 (ofP (var 4)))))))
theorem cB_eq (V : Vd T n) (n2 : n ≤ 200) {ss F : List Int} (hF : ∀ x ∈ F, Ir n x) (hl : F.length ≤ 1000) (s3 s4 s5 : Sl) (h4 : frS s4) (h5 : frS s5) :
    ∃ s4' s5', frS s4' ∧ frS s5' ∧ cB (cR T ss F s3 s4 s5) = (if srt n (F ++ prods T F F) = F then some (.bk (cR T ss F s3 s4' s5')) else some (.nx (cR T ss (srt n (F ++ prods T F F)) s3 s4' s5'))) := by
  have hb4 := frS_stb h4
  have s1 : setF 4 (moL D.sq (var 2)) (cR T ss F s3 s4 s5) = some (.nx (cR T ss F s3 (.ow (.fr (.lst (F.map .int)))) s5)) := by
    simp [setF, setS, frM, frzM, moL, var, cR, D.sq, O.fz, stb_at, hb4]
  obtain ⟨s5', k5, s2⟩ := cL_eq V (ss := ss) hF hl s3 s5 h5
  have s3' := cB3_eq V n2 (ss := ss) (F := F) (E := F ++ prods T F F) s3 s5'
  have he := eqD_lst (srt n (F ++ prods T F F)) F
  refine ⟨.ow (.fr (.lst ((srt n (F ++ prods T F F)).map .int))), s5', .inr ⟨_, rfl⟩, k5, ?_⟩
  unfold cB
  rw [seq_nx s1, seq_nx s2, seq_nx s3']
  have c : quM (tb (pu2 eqD (var 4) (var 2))) (cR T ss F s3 (.ow (.fr (.lst ((srt n (F ++ prods T F F)).map .int)))) s5') = some (.ok (decide (srt n (F ++ prods T F F) = F)) (cR T ss F s3 (.ow (.fr (.lst ((srt n (F ++ prods T F F)).map .int)))) s5')) := by
    simp only [quM, tb, pu2, var, cR, List.getElem?_cons_zero, List.getElem?_cons_succ, he]
  by_cases h : srt n (F ++ prods T F F) = F
  · rw [if_pos h]
    unfold seqS ifS
    rw [c, decide_eq_true h]
    rfl
  · rw [if_neg h]
    have q : ifS (quM (tb (pu2 eqD (var 4) (var 2)))) bkS nxS (cR T ss F s3 (.ow (.fr (.lst ((srt n (F ++ prods T F F)).map .int)))) s5') = some (.nx (cR T ss F s3 (.ow (.fr (.lst ((srt n (F ++ prods T F F)).map .int)))) s5')) := by
      unfold ifS
      rw [c, decide_eq_false h]
      rfl
    rw [seq_nx q]
    rfl
/-- what closed keeps -/
structure CI (T : List (List Int)) (n : Nat) (ss F : List Int) : Prop where
  cm : ∀ x ∈ F, Cm T ss x
  z : 0 ∈ F
  g : ∀ s ∈ ss, s ∈ F
  len : F.length ≤ 300
theorem closed_eq (G : Gp T n) {ss : List Int} (hs : ∀ s ∈ ss, Ir n s) (hss : ss.length ≤ 250) : ∃ L, IsGen T ss L ∧ F__law_closed [.ow (.fr (tD T)), .ow (.fr (rowD ss))] = some (.ret (.fr (rowD L)) [.no, .no]) := by
  have hn := G.n2
  have ir : ∀ {F : List Int}, CI T n ss F → ∀ x ∈ F, Ir n x := fun h x hx => G.cm_ir hs (h.cm x hx)
  have step : ∀ {F : List Int}, CI T n ss F → CI T n ss (srt n (F ++ prods T F F)) := fun {F} h => by
    refine ⟨fun x hx => ?_, srt_mem.mpr ⟨G.z, List.mem_append.mpr (.inl h.z)⟩, fun s hsm => srt_mem.mpr ⟨hs s hsm, List.mem_append.mpr (.inl (h.g s hsm))⟩, ?_⟩
    · rcases List.mem_append.mp (srt_mem.mp hx).2 with hx | hx
      · exact h.cm x hx
      · obtain ⟨a, ha, b, hb, rfl⟩ := prods_mem.mp hx
        exact .m (h.cm a ha) (h.cm b hb)
    · have := List.length_filter_le (fun x => decide (x ∈ F ++ prods T F F)) (rgI n)
      rw [rgI_len] at this
      exact Nat.le_trans this (by omega)
  have done : ∀ {F : List Int}, CI T n ss F → srt n F = F → (∀ x ∈ F, ∀ y ∈ F, en T x y ∈ F) → IsGen T ss F := fun {F} h e hm => by
    refine ⟨by rw [← e]; exact srt_nodup F, by rw [← e]; exact srt_sorted F, fun x => ?_⟩
    rw [G.cl_cm hs]
    refine ⟨h.cm x, fun hx => ?_⟩
    induction hx with
    | z => exact h.z
    | g m => exact h.g _ m
    | m _ _ i1 i2 => exact hm _ i1 _ i2
  have hl := forL_brk (α := Int) (t := gN 3) (b := cB) (f := D.int)
    (St := fun l ρ => ∃ F s3 s4 s5, frS s3 ∧ frS s4 ∧ frS s5 ∧ CI T n ss F ∧ (1 ≤ l.length → srt n F = F ∧ l.length ≤ F.length) ∧ ρ = cR T ss F s3 s4 s5)
    (Q := fun ρ => ∃ F s3 s4 s5, IsGen T ss F ∧ ρ = cR T ss F s3 s4 s5) (bs := []) (as := rgI n) (fun x l r _ _ ρ ⟨F, s3, s4, s5, h3, h4, h5, hF, hk, e⟩ => by
      subst e
      have hb3 := frS_stb h3
      have hFl := hF.len
      obtain ⟨s4', s5', k4, k5, k⟩ := cB_eq G.v hn (ss := ss) (ir hF) (by omega) (.ow (.fr (.int x))) s4 s5 h4 h5
      refine ⟨cR T ss F (.ow (.fr (.int x))) s4 s5, by simp [cR, pu1, pu2, mo1, mo2, cst, var, bor, con, conAt, flD, puV, frM, frzM, ofP, mov, frzS, tupP, lpN, lpC, lstP, lxN, lxC, lstX, lvN, lvC, tupV, andV, orV, notV, andP, orP, notP, ifP, ifM, tb, tbM, quM, notQ, notY, andQ, orQ, andY, orY, seqS, ifS, retS, retN, nxS, setF, setS, dropS, agN, agV, agL, callM, toSl, back, noDup, lents, Sl.tr, Sl.put, O.fz, gN, gT, gsN, gsC, stb_at, stbS_no, stbS_ow, frOk, wipeR, unw, itS, itR1, itR2, itE, asgS, par2, par3, raiS, chn, yes, moL, moLv, lent, runF, forS, onI0, onI, ltD, leD, gtD, geD, subD, negD, isND, notND, mkL_map, sizeLine_eq, D.isN, D.sq, D.lsq, hb3], ?_⟩
      by_cases he : srt n (F ++ prods T F F) = F
      · right
        rw [if_pos he] at k
        refine ⟨_, k, F, _, s4', s5', done hF ?_ (fun a ha b hb => ?_), rfl⟩
        · have := srt_srt (n := n) (F ++ prods T F F)
          rw [he] at this
          exact this
        · rw [← he]
          exact srt_mem.mpr ⟨G.ir (ir hF a ha) (ir hF b hb), List.mem_append.mpr (.inr (prods_mem.mpr ⟨a, ha, b, hb, rfl⟩))⟩
      · left
        rw [if_neg he] at k
        have hF' := step hF
        refine ⟨_, k, srt n (F ++ prods T F F), .ow (.fr (.int x)), s4', s5', .inr ⟨_, rfl⟩, k4, k5, hF', fun _ => ⟨srt_srt _, ?_⟩, rfl⟩
        rw [List.length_append, List.length_singleton]
        by_cases h0 : l.length = 0
        · have := List.length_pos_of_mem hF'.z
          omega
        · obtain ⟨g1, g2⟩ := hk (by omega)
          refine Classical.byContradiction fun hc => he ?_
          have := srt_sub (n := n) (l := F) (m := F ++ prods T F F) (fun y hy => List.mem_append.mpr (.inl hy)) (by rw [g1]; omega)
          rw [← this, g1]) (cR T ss (0 :: ss) .no .no .no) ⟨0 :: ss, .no, .no, .no, .inl rfl, .inl rfl, .inl rfl, ⟨fun x hx => by
            rcases List.mem_cons.mp hx with rfl | hx
            · exact .z
            · exact .g hx, List.mem_cons_self .., fun s hsm => List.mem_cons_of_mem _ hsm, by rw [List.length_cons]; omega⟩, fun h => by simp at h, rfl⟩
  obtain ⟨ρ', e1, e2⟩ := hl
  have e3 : ∃ F s3 s4 s5, IsGen T ss F ∧ ρ' = cR T ss F s3 s4 s5 := by
    rcases e2 with ⟨F, s3, s4, s5, _, _, _, hF, hk, e⟩ | h
    · rw [List.nil_append, rgI_len] at hk
      obtain ⟨g1, g2⟩ := hk G.n1
      have all : srt n F = rgI n := by
        have : (srt n F).length = (rgI n).length := by
          have := List.length_filter_le (fun x => decide (x ∈ F)) (rgI n)
          have h2 : (srt n F).length = F.length := by rw [g1]
          unfold srt at h2 ⊢
          rw [rgI_len] at this ⊢
          omega
        exact List.filter_eq_self.mpr (List.length_filter_eq_length_iff.mp this)
      refine ⟨F, s3, s4, s5, done hF g1 (fun a ha b hb => ?_), e⟩
      rw [← g1, all]
      exact (rgI_mem n _).mpr (G.ir (ir hF a ha) (ir hF b hb))
    · exact h
  obtain ⟨L, s3, s4, s5, hL, rfl⟩ := e3
  refine ⟨L, hL, ?_⟩
  have s1 : setF 2 (ofP (pu2 addD (lstP (lpC (cst (.int 0)) lpN)) (pu1 (fun d => (D.sq d).map .lst) (var 1)))) [.ow (.fr (tD T)), .ow (.fr (rowD ss)), .no, .no, .no, .no, .no, .no] = some (.nx (cR T ss (0 :: ss) .no .no .no)) := by
    have ha : addD (.lst [.int 0]) (.lst (ss.map .int)) = some (.lst ((0 :: ss).map .int)) := by
      show (if 1 + (ss.map D.int).length ≤ sizeLine then some (D.lst ([D.int 0] ++ ss.map D.int)) else none) = _
      rw [if_pos (by rw [List.length_map, sizeLine_eq]; omega)]; rfl
    have v : pu2 addD (lstP (lpC (cst (.int 0)) lpN)) (pu1 (fun d => (D.sq d).map .lst) (var 1)) [.ow (.fr (tD T)), .ow (.fr (rowD ss)), .no, .no, .no, .no, .no, .no] = some (.lst ((0 :: ss).map .int)) := by
      have v1 : lstP (lpC (cst (.int 0)) lpN) [.ow (.fr (tD T)), .ow (.fr (rowD ss)), .no, .no, .no, .no, .no, .no] = some (.lst [.int 0]) := by simp [lstP, lpC, lpN, cst, sizeLine_eq]
      have v2 : pu1 (fun d => (D.sq d).map .lst) (var 1) [.ow (.fr (tD T)), .ow (.fr (rowD ss)), .no, .no, .no, .no, .no, .no] = some (.lst (ss.map .int)) := rfl
      unfold pu2
      rw [v1, v2]
      exact ha
    have v3 : ofP (pu2 addD (lstP (lpC (cst (.int 0)) lpN)) (pu1 (fun d => (D.sq d).map .lst) (var 1))) [.ow (.fr (tD T)), .ow (.fr (rowD ss)), .no, .no, .no, .no, .no, .no] = some (.ok (.fr (.lst ((0 :: ss).map .int))) [.ow (.fr (tD T)), .ow (.fr (rowD ss)), .no, .no, .no, .no, .no, .no]) := by
      unfold ofP; rw [v]
    exact set_of v3 ⟨.no, rfl, rfl⟩
  have s2 : forS (itR1 (puV (pu1 lenD (var 0)))) (gN 3) cB (cR T ss (0 :: ss) .no .no .no) = some (.nx (cR T ss L s3 s4 s5)) := by
    unfold forS
    rw [rng_len G.v (by omega) (i := 0) (ρ := cR T ss (0 :: ss) .no .no .no) rfl]
    exact e1
  have s3' : retS (ofP (pu1 tupD (var 2))) (cR T ss L s3 s4 s5) = some (.rt (.fr (rowD L)) (cR T ss L s3 s4 s5)) := rfl
  have hrun : m__law_closed [.ow (.fr (tD T)), .ow (.fr (rowD ss)), .no, .no, .no, .no, .no, .no] = some (.rt (.fr (rowD L)) (cR T ss L s3 s4 s5)) := by
    have hm : m__law_closed = (seqS (setF 2 (ofP (pu2 addD (lstP (lpC (cst (.int 0)) lpN)) (pu1 (fun d => (D.sq d).map .lst) (var 1))))) (seqS (forS (itR1 (puV (pu1 lenD (var 0)))) (gN 3) cB) (retS (ofP (pu1 tupD (var 2)))))) := by unfold m__law_closed cB cB2 cB3; rfl
    rw [hm, seq_nx s1, seq_nx s2, s3']
  exact run_rt (N := 8) (n := 2) (args := [.ow (.fr (tD T)), .ow (.fr (rowD ss))]) hrun (Nat.le_add_left 2 6) rfl
theorem gen_uniq {ss L M : List Int} (h : IsGen T ss L) (k : IsGen T ss M) : L = M := by
  refine sorted_uniq ((List.perm_ext_iff_of_nodup h.1 k.1).mpr fun x => ?_) h.2.1 k.2.1
  rw [h.2.2, k.2.2]
end
end K37
set_option maxHeartbeats 4000000
namespace K37
open PySem PySem.Spec L2 Tr
section
variable {T : List (List Int)} {n : Nat}
def rR (T : List (List Int)) (d1 d2 d3 d4 : D) (F : List D) (s6 : Sl) : Rho := [.ow (.fr (tD T)), .ow (.fr d1), .ow (.fr d2), .ow (.fr d3), .ow (.fr d4), .ow (.fl F), s6, .no]
def rA0 : MS := (dropS (callM 3 F_times (agV (puV (var 0)) (agV (puV (var 1)) (agV (puV (var 2)) agN)))))
def rA1 : MS := (dropS (callM 3 F_times (agV (puV (var 0)) (agV (puV (var 2)) (agV (puV (var 1)) agN)))))
def rA2 : MS := (dropS (callM 2 F_inverse (agV (puV (var 0)) (agV (puV (var 1)) agN))))
def rA3 : MS := (dropS (callM 3 F_power (agV (puV (var 0)) (agV (puV (var 1)) (agV (puV (var 3)) agN)))))
def rA4 : MS := (dropS (callM 2 F_order_of (agV (puV (var 0)) (agV (puV (var 1)) agN))))
def rA5 : MS := (dropS (callM 2 F_generated (agV (puV (var 0)) (agV (puV (var 4)) agN))))
def rA : Nat → MS
  | 0 => rA0
  | 1 => rA1
  | 2 => rA2
  | 3 => rA3
  | 4 => rA4
  | _ => rA5
def rC : MS := (ifS (quM (tb (pu2 eqD (var 6) (cst (.int 0))))) rA0 (ifS (quM (tb (pu2 eqD (var 6) (cst (.int 1))))) rA1 (ifS (quM (tb (pu2 eqD (var 6) (cst (.int 2))))) rA2 (ifS (quM (tb (pu2 eqD (var 6) (cst (.int 3))))) rA3 (ifS (quM (tb (pu2 eqD (var 6) (cst (.int 4))))) rA4 rA5)))))
def rM : MS := (seqS rC (dropS (appX 5 (puV (cst .non)))))
noncomputable def rB (A : Addr) : MS := (tryS (mt1 "InvalidNumber" A) 7 rM (fun a C dd => (dropS (appX 5 (puV (xfF a C dd A "word" 7))))))
theorem if_t {q : Mo Bool} {a b : MS} {ρ ρ' : Rho} (h : q ρ = some (.ok true ρ')) : ifS q a b ρ = a ρ' := by unfold ifS; rw [h]
theorem if_f {q : Mo Bool} {a b : MS} {ρ ρ' : Rho} (h : q ρ = some (.ok false ρ')) : ifS q a b ρ = b ρ' := by unfold ifS; rw [h]
theorem rC_at {d1 d2 d3 d4 : D} {F : List D} : ∀ i : Nat, i < 6 → rC (rR T d1 d2 d3 d4 F (.ow (.fr (.int (Nat.cast i))))) = rA i (rR T d1 d2 d3 d4 F (.ow (.fr (.int (Nat.cast i))))) := by
  have c : ∀ (i : Nat) (j : Int) (v : Bool), decide ((Nat.cast i : Int) = j) = v → quM (tb (pu2 eqD (var 6) (cst (.int j)))) (rR T d1 d2 d3 d4 F (.ow (.fr (.int (Nat.cast i))))) = some (.ok v (rR T d1 d2 d3 d4 F (.ow (.fr (.int (Nat.cast i)))))) := fun i j v hv => by
    subst hv
    simp only [quM, tb, pu2, var, cst, rR, List.getElem?_cons_zero, List.getElem?_cons_succ]
    rfl
  intro i hi
  match i, hi with
  | 0, _ => exact if_t (c 0 0 true rfl)
  | 1, _ => exact (if_f (c 1 0 false rfl)).trans (if_t (c 1 1 true rfl))
  | 2, _ => exact (if_f (c 2 0 false rfl)).trans ((if_f (c 2 1 false rfl)).trans (if_t (c 2 2 true rfl)))
  | 3, _ => exact (if_f (c 3 0 false rfl)).trans ((if_f (c 3 1 false rfl)).trans ((if_f (c 3 2 false rfl)).trans (if_t (c 3 3 true rfl))))
  | 4, _ => exact (if_f (c 4 0 false rfl)).trans ((if_f (c 4 1 false rfl)).trans ((if_f (c 4 2 false rfl)).trans ((if_f (c 4 3 false rfl)).trans (if_t (c 4 4 true rfl)))))
  | 5, _ => exact (if_f (c 5 0 false rfl)).trans ((if_f (c 5 1 false rfl)).trans ((if_f (c 5 2 false rfl)).trans ((if_f (c 5 3 false rfl)).trans (if_f (c 5 4 false rfl)))))
def Res (r : Option So) (ρ : Rho) (o : D) : Prop := (r = some (.nx ρ) ∧ o = .non) ∨ ∃ w, r = some (.ex "InvalidNumber" [("word", .str w)] ρ) ∧ o = .str w
theorem rB_eq (A : Addr) {d1 d2 d3 d4 : D} {F : List D} (hF : F.length ≤ 100) {i : Nat} (hi : i < 6) {o : D} (h : Res (rA i (rR T d1 d2 d3 d4 F (.ow (.fr (.int (Nat.cast i)))))) (rR T d1 d2 d3 d4 F (.ow (.fr (.int (Nat.cast i))))) o) :
    rB A (rR T d1 d2 d3 d4 F (.ow (.fr (.int (Nat.cast i))))) = some (.nx (rR T d1 d2 d3 d4 (F ++ [o]) (.ow (.fr (.int (Nat.cast i)))))) := by
  have hc := rC_at (T := T) (d1 := d1) (d2 := d2) (d3 := d3) (d4 := d4) (F := F) i hi
  have hz : F.length < sizeLine := by rw [sizeLine_eq]; omega
  rcases h with ⟨h, rfl⟩ | ⟨w, h, rfl⟩
  · rw [h] at hc
    have hm : rM (rR T d1 d2 d3 d4 F (.ow (.fr (.int (Nat.cast i))))) = some (.nx (rR T d1 d2 d3 d4 (F ++ [.non]) (.ow (.fr (.int (Nat.cast i)))))) := by
      unfold rM
      rw [seq_nx hc]
      simp [dropS, appX, puV, cst, rR, Sl.tr, Sl.put, hz]
    unfold rB tryS
    rw [hm]
  · rw [h] at hc
    have hm : rM (rR T d1 d2 d3 d4 F (.ow (.fr (.int (Nat.cast i))))) = some (.ex "InvalidNumber" [("word", .str w)] (rR T d1 d2 d3 d4 F (.ow (.fr (.int (Nat.cast i)))))) := by
      unfold rM
      rw [seq_ex hc]
    have hmt : Tr.mt1 "InvalidNumber" A "InvalidNumber" = some (some A) := if_pos rfl
    have hu : (uni fun a dd => clrO 7 ((dropS (appX 5 (puV (xfF a A dd A "word" 7)))) ((rR T d1 d2 d3 d4 F (.ow (.fr (.int (Nat.cast i))))).set 7 (.ow (.fr (.er a A dd [("word", .str w)])))))) = some (.nx (rR T d1 d2 d3 d4 (F ++ [.str w]) (.ow (.fr (.int (Nat.cast i)))))) := by
      refine uni_eq fun a0 dd => ?_
      simp [dropS, appX, puV, xfF, var, rR, clrO, So.clr, List.lookup, Sl.tr, Sl.put, hz]
    unfold rB tryS
    rw [hm]
    dsimp only
    rw [hmt]
    dsimp only
    rw [if_pos (show stb 7 (rR T d1 d2 d3 d4 F (.ow (.fr (.int (Nat.cast i))))) = true from rfl), hu]
theorem refused_eq (A : Addr) {d1 d2 d3 d4 : D} {outs : List D} (ho : outs.length = 6) (h : ∀ i : Nat, i < 6 → ∀ F, Res (rA i (rR T d1 d2 d3 d4 F (.ow (.fr (.int (Nat.cast i)))))) (rR T d1 d2 d3 d4 F (.ow (.fr (.int (Nat.cast i))))) (outs.getD i .non)) :
    F__law_refused A [.ow (.fr (tD T)), .ow (.fr d1), .ow (.fr d2), .ow (.fr d3), .ow (.fr d4)] = some (.ret (.fl outs) [.no, .no, .no, .no, .no]) := by
  have hl := forL_inv (α := Nat) (t := gN 6) (b := rB A) (f := fun i => D.int (Nat.cast i))
    (St := fun l ρ => ∃ s6, frS s6 ∧ ρ = rR T d1 d2 d3 d4 (outs.take l.length) s6) (bs := []) (as := List.range 6) (fun i l r hl hb ρ ⟨s6, h6, e⟩ => by
      subst e
      have hil : i = l.length := by
        have := congrArg (fun x : List Nat => x[l.length]?) hl
        simp only [List.nil_append] at this
        rw [List.getElem?_append_right (Nat.le_refl _), Nat.sub_self] at this
        have hlt : l.length < 6 := by
          have := congrArg List.length hl
          simp at this
          omega
        rw [List.getElem?_range hlt] at this
        simpa using this.symm
      have hlt : l.length < 6 := by
        have := congrArg List.length hl
        simp at this
        omega
      subst hil
      have h6' := frS_stb h6
      have hb := rB_eq (T := T) A (d1 := d1) (d2 := d2) (d3 := d3) (d4 := d4) (F := outs.take l.length) (by rw [List.length_take]; omega) hlt (h l.length hlt _)
      have e : outs.take l.length ++ [outs.getD l.length .non] = outs.take (l ++ [l.length]).length := by
        rw [List.length_append, List.length_singleton, List.take_succ, List.getD_eq_getElem?_getD, List.getElem?_eq_getElem (by omega)]
        rfl
      rw [e] at hb
      exact ⟨rR T d1 d2 d3 d4 (outs.take l.length) (.ow (.fr (.int (Nat.cast l.length)))), _, by simp [gN, rR, stb_at, h6'], .inl hb, _, .inr ⟨_, rfl⟩, rfl⟩) (rR T d1 d2 d3 d4 [] .no) ⟨.no, .inl rfl, rfl⟩
  obtain ⟨ρ', l1, s6, _, l2⟩ := hl
  subst l2
  have e6 : outs.take ([] ++ List.range 6).length = outs := by
    rw [List.nil_append, List.length_range, ← ho, List.take_length]
  rw [e6] at l1
  have hm : m__law_refused A = seqS (setS 5 (lstX lxN)) (seqS (forS (itR1 (puV (cst (.int 6)))) (gN 6) (rB A)) (retS (mov 5))) := by
    unfold m__law_refused rB rM rC rA0 rA1 rA2 rA3 rA4 rA5; rfl
  unfold F__law_refused
  refine run_rt (ρ := (rR T d1 d2 d3 d4 outs s6).set 5 .no) ?_ (by simp [rR]) (by simp [rR, lent])
  rw [hm]
  have s1 : setS 5 (lstX lxN) ([.ow (.fr (tD T)), .ow (.fr d1), .ow (.fr d2), .ow (.fr d3), .ow (.fr d4)] ++ List.replicate (N__law_refused.length - (["_law_table_here", "_law_one", "_law_two", "_law_many", "_law_shares"] : List Str).length) .no) = some (.nx (rR T d1 d2 d3 d4 [] .no)) := rfl
  rw [seq_nx s1]
  have s2 : forS (itR1 (puV (cst (.int 6)))) (gN 6) (rB A) (rR T d1 d2 d3 d4 [] .no) = some (.nx (rR T d1 d2 d3 d4 outs s6)) := by
    unfold forS
    rw [show itR1 (puV (cst (.int 6))) (rR T d1 d2 d3 d4 [] .no) = some (.ok ((List.range 6).map fun i => D.int (Nat.cast i)) (rR T d1 d2 d3 d4 [] .no)) from rfl]
    exact l1
  rw [seq_nx s2]
  rfl
theorem refused_bad (A : Addr) (V : Vd T n) (n1 : 1 ≤ n) {d d3 : D} {b : Int} {ds : List D} (hb : Ir n b) (hd : d.isPy = true) (hw : below d n = false) (hp : D.arePy ds = true) (hx : d ∈ ds) :
    F__law_refused A [.ow (.fr (tD T)), .ow (.fr d), .ow (.fr (.int b)), .ow (.fr d3), .ow (.fr (.tup ds))] = some (.ret (.fl (List.replicate 6 (.str "share"))) [.no, .no, .no, .no, .no]) := by
  refine refused_eq A rfl fun i hi F => .inr ⟨"share", ?_, ?_⟩
  · match i, hi with
    | 0, _ => exact drop_ex (ex_vvv (d1 := tD T) (d2 := d) (d3 := .int b) rfl rfl rfl (times_bad1 V hd hw))
    | 1, _ => exact drop_ex (ex_vvv (d1 := tD T) (d2 := .int b) (d3 := d) rfl rfl rfl (times_bad2 V hb hd hw))
    | 2, _ => exact drop_ex (ex_vv (d1 := tD T) (d2 := d) rfl rfl (inverse_bad V hd hw))
    | 3, _ => exact drop_ex (ex_vvv (d1 := tD T) (d2 := d) (d3 := d3) rfl rfl rfl (power_bad V hd hw))
    | 4, _ => exact drop_ex (ex_vv (d1 := tD T) (d2 := d) rfl rfl (order_bad V hd hw))
    | 5, _ => exact drop_ex (ex_vv (d1 := tD T) (d2 := .tup ds) rfl rfl (generated_bad V hp ⟨d, hx, hw⟩))
  · match i, hi with
    | 0, _ => rfl
    | 1, _ => rfl
    | 2, _ => rfl
    | 3, _ => rfl
    | 4, _ => rfl
    | 5, _ => rfl
theorem refused_good (A : Addr) (G : Gp T n) {a b : Int} {d3 : D} {ss : List Int} (ha : Ir n a) (hb : Ir n b) (h3 : d3.isPy = true) (hw : isI d3 = false) (hs : ∀ s ∈ ss, Ir n s) :
    F__law_refused A [.ow (.fr (tD T)), .ow (.fr (.int a)), .ow (.fr (.int b)), .ow (.fr d3), .ow (.fr (rowD ss))] = some (.ret (.fl [.non, .non, .non, .str "many", .non, .non]) [.no, .no, .no, .no, .no]) := by
  refine refused_eq A rfl fun i hi F => ?_
  match i, hi with
  | 0, _ => exact .inl ⟨drop_of (call_vvv (d1 := tD T) (d2 := .int a) (d3 := .int b) rfl rfl rfl (times_eq G.v ha hb)), rfl⟩
  | 1, _ => exact .inl ⟨drop_of (call_vvv (d1 := tD T) (d2 := .int b) (d3 := .int a) rfl rfl rfl (times_eq G.v hb ha)), rfl⟩
  | 2, _ => exact .inl ⟨drop_of (call_vv (d1 := tD T) (d2 := .int a) rfl rfl (inverse_eq G ha)), rfl⟩
  | 3, _ => exact .inr ⟨"many", drop_ex (ex_vvv (d1 := tD T) (d2 := .int a) (d3 := d3) rfl rfl rfl (power_wild G.v ha h3 hw)), rfl⟩
  | 4, _ =>
    obtain ⟨m, _, _, _, _, e⟩ := order_eq0 G ha
    exact .inl ⟨drop_of (call_vv (d1 := tD T) (d2 := .int a) rfl rfl e), rfl⟩
  | 5, _ =>
    obtain ⟨L, _, e⟩ := generated_eq G hs
    exact .inl ⟨drop_of (call_vv (d1 := tD T) (d2 := rowD ss) rfl rfl e), rfl⟩
end
end K37
set_option maxHeartbeats 4000000
namespace K37
open PySem PySem.Spec L2 Tr
section
variable {T : List (List Int)} {n : Nat}
theorem sm_int {x : Int} (h0 : 0 ≤ x) (h1 : x ≤ 1000) : (PyData.int x).showable = true ∧ (PyData.int x).leavesShort 13 = true ∧ (PyData.int x).weight ≤ 10 := by
  have hl : x.natAbs ≠ 0 → x.natAbs.log2 < 10 := fun h => (Nat.log2_lt h).mpr (by omega)
  refine ⟨?_, ?_, ?_⟩
  · rw [PyData.showable]
    by_cases h : x.natAbs = 0
    · rw [h]; decide
    · exact decide_eq_true (by have := hl h; omega)
  · rw [PyData.leavesShort]
    exact decide_eq_true (PyData.shown_int_le2 (by omega) (by omega))
  · rw [PyData.weight]
    by_cases h : x.natAbs = 0
    · have : x = 0 := by omega
      subst this; decide
    · have := hl h
      split <;> omega
theorem sm_row : ∀ {r : List Int}, (∀ x ∈ r, 0 ≤ x ∧ x ≤ 1000) → PyData.showableAll (r.map PyData.int) = true ∧ PyData.leavesShortAll 13 (r.map PyData.int) = true ∧ PyData.weightAll (r.map PyData.int) ≤ 11 * r.length
  | [], _ => by simp [PyData.showableAll, PyData.leavesShortAll, PyData.weightAll]
  | x :: r, h => by
    obtain ⟨a, b, c⟩ := sm_int (h x (by simp)).1 (h x (by simp)).2
    obtain ⟨a', b', c'⟩ := sm_row (r := r) (fun y m => h y (by simp [m]))
    rw [List.map_cons, PyData.showableAll, PyData.leavesShortAll, PyData.weightAll, a, b, a', b', List.length_cons]
    exact ⟨rfl, rfl, by omega⟩
theorem sm_tab : ∀ {M : List (List Int)}, (∀ r ∈ M, r.length ≤ 200 ∧ ∀ x ∈ r, 0 ≤ x ∧ x ≤ 1000) → PyData.showableAll (D.pys (M.map rowD)) = true ∧ PyData.leavesShortAll 13 (D.pys (M.map rowD)) = true ∧ PyData.weightAll (D.pys (M.map rowD)) ≤ 2201 * M.length
  | [], _ => by simp [PyData.showableAll, PyData.leavesShortAll, PyData.weightAll, D.pys]
  | r :: M, h => by
    obtain ⟨a, b, c⟩ := sm_row (h r (by simp)).2
    obtain ⟨a', b', c'⟩ := sm_tab (M := M) (fun y m => h y (by simp [m]))
    have hl := (h r (by simp)).1
    rw [List.map_cons, D.pys]
    unfold rowD at a' b' c' ⊢
    rw [D.py, pys_map, PyData.showableAll, PyData.leavesShortAll, PyData.weightAll, PyData.showable, PyData.leavesShort, PyData.weight, a, b, a', b', List.length_cons]
    exact ⟨rfl, rfl, by omega⟩
theorem rep_of {d : D} (h1 : okPy d = true) (h2 : d.py.showable = true) (h3 : d.py.leavesShort 13 = true) (h4 : d.py.weight ≤ 2 ^ 20) : reprD d = some (.str d.py.shown) := by
  unfold reprD reprOk
  rw [h1, h2, decide_eq_true (PyData.shown_fits (by omega) (by omega) h3 h4)]; rfl
theorem rep_int {x : Int} (h0 : 0 ≤ x) (h1 : x ≤ 1000) : reprD (.int x) = some (.str (D.int x).py.shown) := by
  obtain ⟨a, b, c⟩ := sm_int h0 h1
  refine rep_of rfl ?_ ?_ ?_
  · rw [D.py]; exact a
  · rw [D.py]; exact b
  · rw [D.py]; have : (2 : Nat) ^ 20 = 1048576 := by decide
    omega
theorem rep_bl (b : Bool) : reprD (.bl b) = some (.str (D.bl b).py.shown) := by
  refine rep_of rfl ?_ ?_ ?_ <;> rw [D.py] <;> first | (rw [PyData.showable]; done) | (rw [PyData.leavesShort]; done) | (rw [PyData.weight]; exact Nat.zero_le _)
theorem rowD_ok (r : List Int) : okPy (rowD r) = true := by
  unfold okPy SeqAt.shaped
  rw [rowD_py]
  unfold rowD
  rw [D.py, pys_map, PyData.canLay0, PyData.depth, (lay_map r).1, (lay_map r).2]; rfl
theorem rep_row {r : List Int} (hl : r.length ≤ 1000) (h : ∀ x ∈ r, 0 ≤ x ∧ x ≤ 1000) : reprD (rowD r) = some (.str (rowD r).py.shown) := by
  obtain ⟨a, b, c⟩ := sm_row h
  refine rep_of (rowD_ok r) ?_ ?_ ?_ <;> unfold rowD <;> rw [D.py, pys_map]
  · rw [PyData.showable]; exact a
  · rw [PyData.leavesShort]; exact b
  · rw [PyData.weight]; have : (2 : Nat) ^ 20 = 1048576 := by decide
    omega
theorem rep_tab (V : Vd T n) (n2 : n ≤ 200) : reprD (tD T) = some (.str (tD T).py.shown) := by
  obtain ⟨a, b, c⟩ := sm_tab (M := T) (fun r m => ⟨by have := (V.2 r m).1; omega, fun x hx => by have := (V.2 r m).2 x hx; omega⟩)
  have := V.1
  refine rep_of (tD_ok T) ?_ ?_ ?_ <;> unfold tD <;> rw [D.py]
  · rw [PyData.showable]; exact a
  · rw [PyData.leavesShort]; exact b
  · rw [PyData.weight]; have : (2 : Nat) ^ 20 = 1048576 := by decide
    omega
theorem neS_self (s : Str) : neS (.str s) (.str s) = some (.bl false) := by unfold neS; simp
/-- both sides show the same text -/
theorem ne_rep {f g : Mo D} {ρ ρ1 ρ2 : Rho} {s : Str} (hf : f ρ = some (.ok (.str s) ρ1)) (hg : g ρ1 = some (.ok (.str s) ρ2)) : tbM (mo2 neS f g) ρ = some (.ok false ρ2) := by
  unfold tbM mo2
  rw [hf]; dsimp only; rw [hg]; dsimp only; rw [neS_self]
theorem ne_eqD {f g : Mo D} {ρ ρ1 ρ2 : Rho} {d : D} (hd : okPy d = true) (hf : f ρ = some (.ok d ρ1)) (hg : g ρ1 = some (.ok d ρ2)) : tbM (mo2 neD f g) ρ = some (.ok false ρ2) := by
  unfold tbM mo2
  rw [hf]; dsimp only; rw [hg]; dsimp only; rw [neD_refl hd]
theorem or_ff {f g : Mo Bool} {ρ ρ1 ρ2 : Rho} (hf : f ρ = some (.ok false ρ1)) (hg : g ρ1 = some (.ok false ρ2)) : orY f g ρ = some (.ok false ρ2) := by
  unfold orY
  rw [hf]; dsimp only; rw [hg]
theorem mo1_of {g : D → Option D} {f : Mo D} {ρ ρ1 : Rho} {d e : D} (hf : f ρ = some (.ok d ρ1)) (hg : g d = some e) : mo1 g f ρ = some (.ok e ρ1) := by
  unfold mo1
  rw [hf]; dsimp only; rw [hg]
theorem mo2_of {g : D → D → Option D} {f h : Mo D} {ρ ρ1 ρ2 : Rho} {d e r : D} (hf : f ρ = some (.ok d ρ1)) (hh : h ρ1 = some (.ok e ρ2)) (hg : g d e = some r) : mo2 g f h ρ = some (.ok r ρ2) := by
  unfold mo2
  rw [hf]; dsimp only; rw [hh]; dsimp only; rw [hg]
theorem pu_of {f : Pu D} {ρ : Rho} {d : D} (h : f ρ = some d) : puV f ρ = some (.ok d ρ) := by unfold puV; rw [h]
theorem pu1_of {g : D → Option D} {f : Pu D} {ρ : Rho} {d e : D} (h : f ρ = some d) (hg : g d = some e) : pu1 g f ρ = some e := by unfold pu1; rw [h]; exact hg
theorem pu2_of {g : D → D → Option D} {f k : Pu D} {ρ : Rho} {d e r : D} (h : f ρ = some d) (hk : k ρ = some e) (hg : g d e = some r) : pu2 g f k ρ = some r := by unfold pu2; rw [h, hk]; exact hg
/-- a call all of whose arguments are named -/
theorem per_2 {F : FS} {x y : Pu D} {ρ : Rho} {d1 d2 : D} {r : O} (hx : x ρ = some d2) (hy : y ρ = some d1) (h : F [.ow (.fr d1), .ow (.fr d2)] = some (.ret r [.no, .no])) : callM 2 F (perG [1, 0] (lpC x (lpC y lpN))) ρ = some (.ok r ρ) := by
  simp [callM, perG, lpC, lpN, hx, hy, toSl, noDup, lents, back, h]
theorem per_1 {F : FS} {x : Pu D} {ρ : Rho} {d1 : D} {r : O} (hx : x ρ = some d1) (h : F [.ow (.fr d1)] = some (.ret r [.no])) : callM 1 F (perG [0] (lpC x lpN)) ρ = some (.ok r ρ) := by
  simp [callM, perG, lpC, lpN, hx, toSl, noDup, lents, back, h]
theorem per_3 {F : FS} {x y z : Pu D} {ρ : Rho} {d1 d2 d3 : D} {r : O} (hx : x ρ = some d3) (hy : y ρ = some d2) (hz : z ρ = some d1) (h : F [.ow (.fr d1), .ow (.fr d2), .ow (.fr d3)] = some (.ret r [.no, .no, .no])) : callM 3 F (perG [2, 1, 0] (lpC x (lpC y (lpC z lpN)))) ρ = some (.ok r ρ) := by
  simp [callM, perG, lpC, lpN, hx, hy, hz, toSl, noDup, lents, back, h]
end
end K37
set_option maxHeartbeats 4000000
namespace K37
open PySem PySem.Spec L2 Tr
def l1 : MS := (setS 1 (callM 2 F__law_heap (agV (puV (var 0)) (agV (puV (cst (.int 0))) agN))))
def l2 : MS := (setF 2 (frM (mo2 ixD (frzM (callM 2 F__law_group (agL 1 (agV (puV (cst (.int 8))) agN)))) (puV (cst (.int 0))))))
def l3 : MS := (setF 3 (ofP (pu1 lenD (var 2))))
def l4 : MS := (asgS (tupV (lvC (frzM (callM 2 F__law_draw (agL 1 (agV (puV (var 3)) agN)))) (lvC (frzM (callM 2 F__law_draw (agL 1 (agV (puV (var 3)) agN)))) lvN))) (gT 2 (gsC (gN 4) (gsC (gN 5) gsN))))
def l5 : MS := (ifS (orY (tbM (mo2 neS (mo1 reprD (frzM (callM 3 F_times (agV (puV (var 2)) (agV (puV (var 4)) (agV (puV (var 5)) agN)))))) (puV (pu1 reprD (pu2 ixD (pu2 ixD (var 2) (var 4)) (var 5)))))) (tbM (mo2 neD (frzM (callM 3 F_times (perG [2, 1, 0] (lpC (var 4) (lpC (var 5) (lpC (var 2) lpN)))))) (puV (pu2 ixD (pu2 ixD (var 2) (var 5)) (var 4)))))) (retS (ofP (cst (.bl false)))) nxS)
def l6 : MS := (setF 6 (callM 2 F_inverse (agV (puV (var 2)) (agV (puV (var 4)) agN))))
def l7 : MS := (ifS (orY (tbM (mo2 neS (puV (pu1 reprD (var 6))) (mo1 reprD (mo2 ixD (frzM (lcM (itR1 (puV (var 3))) (gN 18) (quM (tb (pu2 eqD (pu2 ixD (pu2 ixD (var 2) (var 18)) (var 4)) (cst (.int 0))))) (ofP (var 18)) [18])) (puV (cst (.int 0))))))) (tbM (mo2 neD (frzM (callM 2 F_inverse (perG [1, 0] (lpC (var 6) (lpC (var 2) lpN))))) (puV (var 4))))) (retS (ofP (cst (.bl false)))) nxS)
def l8 : MS := (asgS (tupV (lvC (frzM (callM 2 F__law_powers (agV (puV (var 2)) (agV (puV (var 4)) agN)))) (lvC (mo1 tupD (frzM (lcM (itR1 (puV (var 3))) (gN 16) yes (frM (mo1 tupD (frzM (lcM (itS (puV (var 2))) (gN 17) yes (ofP (pu2 ixD (var 17) (var 16))) [17])))) [16]))) lvN))) (gT 2 (gsC (gN 7) (gsC (gN 8) gsN))))
def l9 : MS := (ifS (orY (tbM (mo2 neS (mo1 reprD (frzM (callM 2 F_order_of (agV (puV (var 2)) (agV (puV (var 4)) agN))))) (puV (pu1 reprD (pu1 lenD (var 7)))))) (tbM (mo2 neD (frzM (callM 2 F_order_of (perG [1, 0] (lpC (var 5) (lpC (var 2) lpN))))) (mo1 lenD (frzM (callM 2 F__law_powers (agV (puV (var 2)) (agV (puV (var 5)) agN)))))))) (retS (ofP (cst (.bl false)))) nxS)
def l10 : MS := (setF 9 (callM 2 F__law_pick (agL 1 (agV (frzM (lstX (lxC (ofP (cst (.int 0))) (lxC (ofP (cst (.int 1))) (lxC (ofP (cst (.int 2))) (lxC (ofP (cst (.int 3))) (lxC (ofP (var 3)) (lxC (ofP (pu2 addD (var 3) (cst (.int 1)))) (lxC (ofP (pu2 powD (cst (.int 10)) (cst (.int 18)))) (lxC (callM 2 F__law_draw (agL 1 (agV (puV (pu2 powD (cst (.int 10)) (cst (.int 18)))) agN))) lxN)))))))))) agN))))
def l11 : MS := (forS (itS (puV (lstP (lpC (var 9) (lpC (pu2 subD (cst (.int 0)) (var 9)) (lpC (pu2 subD (cst (.int 0)) (cst (.int 1))) (lpC (pu2 addD (var 9) (pu1 lenD (var 7))) lpN))))))) (gN 10) (ifS (tbM (mo2 neS (mo1 reprD (frzM (callM 3 F_power (agV (puV (var 2)) (agV (puV (var 4)) (agV (puV (var 10)) agN)))))) (puV (pu1 reprD (pu2 ixD (var 7) (pu2 modD (pu1 intD (var 10)) (pu1 lenD (var 7)))))))) (retS (ofP (cst (.bl false)))) nxS))
def l12 : MS := (ifS (tbM (mo2 neD (frzM (callM 3 F_power (perG [2, 1, 0] (lpC (var 9) (lpC (var 5) (lpC (var 2) lpN)))))) (mo2 ixD (frzM (callM 2 F__law_powers (agV (puV (var 2)) (agV (puV (var 5)) agN)))) (mo2 modD (puV (pu1 intD (var 9))) (mo1 lenD (frzM (callM 2 F__law_powers (agV (puV (var 2)) (agV (puV (var 5)) agN))))))))) (retS (ofP (cst (.bl false)))) nxS)
def l13 : MS := (setF 11 (frM (mo1 tupD (frzM (lcM (itR1 (frzM (callM 2 F__law_draw (agL 1 (agV (puV (cst (.int 4))) agN))))) (gN 19) yes (callM 2 F__law_draw (agL 1 (agV (puV (var 3)) agN))) [19])))))
def l14 : MS := (forS (itS (puV (lstP (lpC (var 11) (lpC (tupP (lpC (var 4) lpN)) (lpC (tupP (lpC (var 4) (lpC (var 5) lpN))) (lpC (tupP (lpC (var 5) (lpC (var 4) (lpC (var 5) (lpC (cst (.int 0)) lpN))))) (lpC (tupP lpN) lpN)))))))) (gN 12) (ifS (tbM (mo2 neS (mo1 reprD (frzM (callM 2 F_generated (agV (puV (var 2)) (agV (puV (var 12)) agN))))) (mo1 reprD (frzM (callM 2 F__law_closed (agV (puV (var 2)) (agV (puV (var 12)) agN))))))) (retS (ofP (cst (.bl false)))) nxS))
def l15 : MS := (setF 13 (frM (mo1 tupD (frzM (lcM (itR1 (puV (var 3))) (gN 18) (quM (tb (pu2 eqD (pu2 ixD (var 2) (var 18)) (pu2 ixD (var 8) (var 18))))) (ofP (var 18)) [18])))))
def l16 : MS := (ifS (orY (tbM (mo2 neS (mo1 reprD (frzM (callM 1 F_centre (agV (puV (var 2)) agN)))) (puV (pu1 reprD (var 13))))) (tbM (mo2 neS (mo1 reprD (frzM (callM 1 F_is_commutative (agV (puV (var 2)) agN)))) (puV (pu1 reprD (pu2 eqD (pu1 lenD (var 13)) (var 3))))))) (retS (ofP (cst (.bl false)))) nxS)
def l17 : MS := (ifS (orY (tbM (mo2 neS (mo1 reprD (frzM (callM 1 F_opposite (perG [0] (lpC (var 2) lpN))))) (puV (pu1 reprD (var 8))))) (orY (tbM (mo2 neD (frzM (callM 1 F_centre (perG [0] (lpC (var 8) lpN)))) (puV (var 13)))) (tbM (mo2 neD (frzM (callM 2 F_generated (perG [1, 0] (lpC (var 11) (lpC (var 8) lpN))))) (frzM (callM 2 F__law_closed (agV (puV (var 2)) (agV (puV (var 11)) agN)))))))) (retS (ofP (cst (.bl false)))) nxS)
def l18 : MS := (setF 14 (callM 2 F__law_pick (agL 1 (agV (puV (lstP (lpC (var 3) (lpC (pu2 addD (var 3) (cst (.int 1))) (lpC (pu2 subD (cst (.int 0)) (cst (.int 1))) (lpC (cst .non) (lpC (pu2 eqD (var 4) (var 4)) (lpC (pu1 strD (var 4)) (lpC (lstP (lpC (var 4) lpN)) (lpC (tupP (lpC (var 4) lpN)) (lpC (pu2 powD (cst (.int 10)) (cst (.int 30))) lpN))))))))))) agN))))
def l19 : MS := (setF 15 (callM 2 F__law_pick (agL 1 (agV (puV (lstP (lpC (cst .non) (lpC (cst (.str "1")) (lpC (pu2 eqD (var 4) (var 4)) (lpC (lstP (lpC (cst (.int 1)) lpN)) (lpC (tupP (lpC (cst (.int 0)) lpN)) lpN))))))) agN))))
def l20 : MS := (setF 16 (callM 2 F__law_draw (agL 1 (agV (puV (pu2 addD (pu1 lenD (var 11)) (cst (.int 1)))) agN))))
def l21 : MS := (setF 17 (ofP (pu2 addD (pu2 addD (slP (var 11) poN (poS (var 16))) (tupP (lpC (var 14) lpN))) (slP (var 11) (poS (var 16)) poN))))
noncomputable def l22 (A_InvalidNumber : Addr) : MS := (ifS (orY (tbM (mo2 neD (frzM (callM 5 (F__law_refused A_InvalidNumber) (agV (puV (var 2)) (agV (puV (var 14)) (agV (puV (var 5)) (agV (puV (var 15)) (agV (puV (var 17)) agN))))))) (puV (pu2 mulD (lstP (lpC (cst (.str "share")) lpN)) (cst (.int 6)))))) (tbM (mo2 neD (frzM (callM 1 F_is_commutative (perG [0] (lpC (var 8) lpN)))) (puV (pu2 eqD (pu1 lenD (var 13)) (var 3)))))) (retS (ofP (cst (.bl false)))) nxS)
noncomputable def l23 (A_InvalidNumber : Addr) : MS := (retS (frM (mo2 eqD (frzM (callM 5 (F__law_refused A_InvalidNumber) (agV (puV (var 2)) (agV (puV (var 4)) (agV (puV (var 5)) (agV (puV (var 15)) (agV (puV (var 11)) agN))))))) (puV (lstP (lpC (cst .non) (lpC (cst .non) (lpC (cst .non) (lpC (cst (.str "many")) (lpC (cst .non) (lpC (cst .non) lpN)))))))))))
theorem law_m (A : Addr) : m_law A = seqS l1 (seqS l2 (seqS l3 (seqS l4 (seqS l5 (seqS l6 (seqS l7 (seqS l8 (seqS l9 (seqS l10 (seqS l11 (seqS l12 (seqS l13 (seqS l14 (seqS l15 (seqS l16 (seqS l17 (seqS l18 (seqS l19 (seqS l20 (seqS l21 (seqS (l22 A) (l23 A)))))))))))))))))))))) := by
  unfold m_law l1 l2 l3 l4 l5 l6 l7 l8 l9 l10 l11 l12 l13 l14 l15 l16 l17 l18 l19 l20 l21 l22 l23
  rfl
def Q (ns : List Int) (o : O) (T : List (List Int)) (n : Nat) (a b : Int) (s6 s7 s8 s9 s10 s11 s12 s13 s14 s15 s16 s17 : Sl) : Rho := [.ow (.fr (.scr ns)), .ow o, .ow (.fr (tD T)), .ow (.fr (.int (Nat.cast n))), .ow (.fr (.int a)), .ow (.fr (.int b)), s6, s7, s8, s9, s10, s11, s12, s13, s14, s15, s16, s17, .no, .no]
abbrev fr (d : D) : Sl := .ow (.fr d)
theorem ir_sm {n : Nat} (h : n ≤ 200) {x : Int} (hx : Ir n x) : 0 ≤ x ∧ x ≤ 1000 := ⟨hx.1, by have := hx.2; omega⟩
/-- a loop that a list of known length walks -/
theorem int_ok (x : Int) : okPy (.int x) = true := by rfl
end K37
set_option maxHeartbeats 4000000
namespace K37
open PySem PySem.Spec L2 Tr
section
variable {ns : List Int} {o : O} {T : List (List Int)} {n : Nat} {a b : Int} {s6 s7 s8 s9 s10 s11 s12 s13 s14 s15 s16 s17 : Sl}
theorem rng_n {ρ : Rho} {i : Nat} (n2 : n ≤ 4000) (h : var i ρ = some (.int (Nat.cast n))) : itR1 (puV (var i)) ρ = some (.ok ((rgI n).map .int) ρ) := by
  unfold itR1 puV
  rw [h]
  dsimp only
  rw [if_pos (by omega), Int.toNat_natCast, rngD_rgI]
theorem l5_eq (G : Gp T n) (ha : Ir n a) (hb : Ir n b) : l5 (Q ns o T n a b s6 s7 s8 s9 s10 s11 s12 s13 s14 s15 s16 s17) = some (.nx (Q ns o T n a b s6 s7 s8 s9 s10 s11 s12 s13 s14 s15 s16 s17)) := by
  obtain ⟨e0, e1⟩ := ir_sm G.n2 (G.ir ha hb)
  unfold l5
  refine (if_f (ρ' := Q ns o T n a b s6 s7 s8 s9 s10 s11 s12 s13 s14 s15 s16 s17) ?_).trans rfl
  refine or_ff (ρ1 := Q ns o T n a b s6 s7 s8 s9 s10 s11 s12 s13 s14 s15 s16 s17) ?_ ?_
  · exact ne_rep (mo1_of (frz_x (call_vvv (d1 := tD T) (d2 := .int a) (d3 := .int b) rfl rfl rfl (times_eq G.v ha hb))) (rep_int e0 e1)) (pu_of (pu1_of (pu2_of (pu2_of rfl rfl (ix_row G.v a ha.1 ha.2)) rfl (ix_en G.v ha.1 ha.2 hb.1 hb.2)) (rep_int e0 e1)))
  · exact ne_eqD (int_ok _) (frz_x (per_3 (d1 := tD T) (d2 := .int b) (d3 := .int a) rfl rfl rfl (times_eq G.v hb ha))) (pu_of (pu2_of (pu2_of rfl rfl (ix_row G.v b hb.1 hb.2)) rfl (ix_en G.v hb.1 hb.2 ha.1 ha.2)))
theorem l6_eq (G : Gp T n) (ha : Ir n a) : l6 (Q ns o T n a b .no s7 s8 s9 s10 s11 s12 s13 s14 s15 s16 s17) = some (.nx (Q ns o T n a b (fr (.int (inv T a))) s7 s8 s9 s10 s11 s12 s13 s14 s15 s16 s17)) :=
  (set_of (i := 6) (ρ' := Q ns o T n a b .no s7 s8 s9 s10 s11 s12 s13 s14 s15 s16 s17) (call_vv (d1 := tD T) (d2 := .int a) (f := puV (var 2)) (g := puV (var 4)) rfl rfl (inverse_eq G ha)) ⟨.no, rfl, rfl⟩).trans rfl
theorem l7_eq (G : Gp T n) (ha : Ir n a) : l7 (Q ns o T n a b (fr (.int (inv T a))) s7 s8 s9 s10 s11 s12 s13 s14 s15 s16 s17) = some (.nx (Q ns o T n a b (fr (.int (inv T a))) s7 s8 s9 s10 s11 s12 s13 s14 s15 s16 s17)) := by
  have hi := (G.inv_ok ha).1
  obtain ⟨e0, e1⟩ := ir_sm G.n2 hi
  unfold l7
  generalize hq : Q ns o T n a b (fr (.int (inv T a))) s7 s8 s9 s10 s11 s12 s13 s14 s15 s16 s17 = q
  have v2 : var 2 q = some (tD T) := by rw [← hq]; rfl
  have v3 : var 3 q = some (.int (Nat.cast n)) := by rw [← hq]; rfl
  have v4 : var 4 q = some (.int a) := by rw [← hq]; rfl
  have v6 : var 6 q = some (.int (inv T a)) := by rw [← hq]; rfl
  have h18 : q[18]? = some .no := by rw [← hq]; rfl
  have hw : q.set 18 .no = q := by rw [← hq]; rfl
  have hf : frOk q [18] = true := by rw [← hq]; rfl
  refine (if_f (ρ' := q) ?_).trans rfl
  refine or_ff (ρ1 := q) ?_ ?_
  · have it : itR1 (puV (var 3)) q = some (.ok ((rgI n).map .int) q) := rng_n (by have := G.n2; omega) v3
    let f : D → Bool := fun d => match d with
      | .int s => decide (en T s a = 0)
      | _ => false
    have l2 : lcL (gN 18) (quM (tb (pu2 eqD (pu2 ixD (pu2 ixD (var 2) (var 18)) (var 4)) (cst (.int 0))))) (ofP (var 18)) [18] ((rgI n).map D.int) q = some ((((rgI n).map D.int).filter f).map O.fr, q) :=
      lcL_filter fun d m => by
        obtain ⟨s, hs, rfl⟩ := List.mem_map.mp m
        have hs := (rgI_mem n s).mp hs
        have i1 := ix_row G.v s hs.1 hs.2
        have i2 := ix_en G.v hs.1 hs.2 ha.1 ha.2
        refine ⟨q.set 18 (.ow (.fr (.int s))), ?_, ?_, ?_, fun _ => ⟨q.set 18 (.ow (.fr (.int s))), ?_, ?_⟩⟩
        · rw [← hq]; rfl
        · have w2 : var 2 (q.set 18 (.ow (.fr (.int s)))) = some (tD T) := by rw [← hq]; rfl
          have w4 : var 4 (q.set 18 (.ow (.fr (.int s)))) = some (.int a) := by rw [← hq]; rfl
          have w18 : var 18 (q.set 18 (.ow (.fr (.int s)))) = some (.int s) := by rw [← hq]; rfl
          have := pu2_of (g := eqD) (pu2_of (pu2_of w2 w18 i1) w4 i2) (rfl : cst (.int 0) (q.set 18 (.ow (.fr (.int s)))) = _) (eqD_int _ 0)
          unfold quM tb
          rw [this]
        · rw [← hq]; rfl
        · rw [← hq]; rfl
        · rw [← hq]; rfl
    have l3 := lcM_ok it hf (by rw [show wipeR q [18] = q from hw]; exact l2)
    have e : ((rgI n).map D.int).filter f = [.int (inv T a)] := by
      rw [List.filter_map]
      rw [show (f ∘ D.int) = fun s => decide (en T s a = 0) from rfl]
      rw [G.inv_list ha]; rfl
    rw [e, mkL_fr, show unw q q [18] = q by rw [← hq]; rfl] at l3
    exact ne_rep (pu_of (pu1_of v6 (rep_int e0 e1))) (mo1_of (mo2_of (d := .lst [.int (inv T a)]) (by unfold frzM; rw [l3]; rfl) rfl rfl) (rep_int e0 e1))
  · refine ne_eqD (int_ok a) (frz_x (per_2 (d1 := tD T) (d2 := .int (inv T a)) v6 v2 (by rw [inverse_eq G hi, G.inv_inv ha]))) (pu_of v4)
theorem l9_eq (G : Gp T n) (ha : Ir n a) (hb : Ir n b) {m m' : Nat} (m2 : m ≤ n)
    (ho : F_order_of [.ow (.fr (tD T)), .ow (.fr (.int a))] = some (.ret (.fr (.int (Nat.cast m))) [.no, .no]))
    (ho' : F_order_of [.ow (.fr (tD T)), .ow (.fr (.int b))] = some (.ret (.fr (.int (Nat.cast m'))) [.no, .no]))
    (hp' : F__law_powers [.ow (.fr (tD T)), .ow (.fr (.int b))] = some (.ret (.fl ((pwL T b m').map .int)) [.no, .no])) :
    l9 (Q ns o T n a b s6 (fr (.lst ((pwL T a m).map .int))) s8 s9 s10 s11 s12 s13 s14 s15 s16 s17) = some (.nx (Q ns o T n a b s6 (fr (.lst ((pwL T a m).map .int))) s8 s9 s10 s11 s12 s13 s14 s15 s16 s17)) := by
  have hn := G.n2
  have ln : ∀ (c : Int) (k : Nat), lenD (.lst ((pwL T c k).map .int)) = some (.int (Nat.cast k)) := fun c k => by
    show some (D.int (Nat.cast (List.length _))) = _
    rw [List.length_map, pwL_len]
  unfold l9
  refine (if_f (ρ' := Q ns o T n a b s6 (fr (.lst ((pwL T a m).map .int))) s8 s9 s10 s11 s12 s13 s14 s15 s16 s17) ?_).trans rfl
  refine or_ff (ρ1 := Q ns o T n a b s6 (fr (.lst ((pwL T a m).map .int))) s8 s9 s10 s11 s12 s13 s14 s15 s16 s17) ?_ ?_
  · exact ne_rep (mo1_of (frz_x (call_vv (d1 := tD T) (d2 := .int a) rfl rfl ho)) (rep_int (by omega) (by omega))) (pu_of (pu1_of (pu1_of rfl (ln a m)) (rep_int (by omega) (by omega))))
  · have h := call_vv (F := F__law_powers) (f := puV (var 2)) (g := puV (var 5)) (ρ := Q ns o T n a b s6 (fr (.lst ((pwL T a m).map .int))) s8 s9 s10 s11 s12 s13 s14 s15 s16 s17) (d1 := tD T) (d2 := .int b) rfl rfl hp'
    exact ne_eqD (int_ok _) (frz_x (per_2 (d1 := tD T) (d2 := .int b) rfl rfl ho')) (mo1_of (d := .lst ((pwL T b m').map .int)) (by unfold frzM; rw [h]; rfl) (ln b m'))
theorem l12_eq (G : Gp T n) (hb : Ir n b) {m' : Nat} (m1 : 1 ≤ m') (m2 : m' ≤ n) {k : Int}
    (ho' : F_order_of [.ow (.fr (tD T)), .ow (.fr (.int b))] = some (.ret (.fr (.int (Nat.cast m'))) [.no, .no]))
    (hp' : F__law_powers [.ow (.fr (tD T)), .ow (.fr (.int b))] = some (.ret (.fl ((pwL T b m').map .int)) [.no, .no])) :
    l12 (Q ns o T n a b s6 s7 s8 (fr (.int k)) s10 s11 s12 s13 s14 s15 s16 s17) = some (.nx (Q ns o T n a b s6 s7 s8 (fr (.int k)) s10 s11 s12 s13 s14 s15 s16 s17)) := by
  have hn := G.n2
  have q1 : 0 ≤ k % m' := Int.emod_nonneg _ (by omega)
  have q2 : k % m' < m' := Int.emod_lt_of_pos _ (by omega)
  have ln : lenD (.lst ((pwL T b m').map .int)) = some (.int (Nat.cast m')) := by
    show some (D.int (Nat.cast (List.length _))) = _
    rw [List.length_map, pwL_len]
  unfold l12
  refine (if_f (ρ' := Q ns o T n a b s6 s7 s8 (fr (.int k)) s10 s11 s12 s13 s14 s15 s16 s17) ?_).trans rfl
  have h := call_vv (F := F__law_powers) (f := puV (var 2)) (g := puV (var 5)) (ρ := Q ns o T n a b s6 s7 s8 (fr (.int k)) s10 s11 s12 s13 s14 s15 s16 s17) (d1 := tD T) (d2 := .int b) rfl rfl hp'
  have h' : frzM (callM 2 F__law_powers (agV (puV (var 2)) (agV (puV (var 5)) agN))) (Q ns o T n a b s6 s7 s8 (fr (.int k)) s10 s11 s12 s13 s14 s15 s16 s17) = some (.ok (.lst ((pwL T b m').map .int)) (Q ns o T n a b s6 s7 s8 (fr (.int k)) s10 s11 s12 s13 s14 s15 s16 s17)) := by unfold frzM; rw [h]; rfl
  have ix : ixD (.lst ((pwL T b m').map .int)) (.int (k % m')) = some (.int (pw T b (k % m').toNat)) := by
    rw [ixL_int _ _ q1 (by rw [pwL_len]; exact q2)]
    have := pwL_at T b (m := m') (k := (k % m').toNat) (by omega)
    rw [toNat_cast _ q1] at this
    rw [this]
  exact ne_eqD (int_ok _) (frz_x (per_3 (d1 := tD T) (d2 := .int b) (d3 := .int k) rfl rfl rfl (power_eq G hb m1 m2 ho' k))) (mo2_of h' (mo2_of (pu_of (pu1_of rfl rfl)) (mo1_of h' ln) (mod_eq k m' (by omega))) ix)
theorem l15_eq (G : Gp T n) : l15 (Q ns o T n a b s6 s7 (fr (tD (opp T n))) s9 s10 s11 s12 .no s14 s15 s16 s17) = some (.nx (Q ns o T n a b s6 s7 (fr (tD (opp T n))) s9 s10 s11 s12 (fr (rowD (mid T n))) s14 s15 s16 s17)) := by
  have it : itR1 (puV (var 3)) (Q ns o T n a b s6 s7 (fr (tD (opp T n))) s9 s10 s11 s12 .no s14 s15 s16 s17) = some (.ok ((rgI n).map .int) (Q ns o T n a b s6 s7 (fr (tD (opp T n))) s9 s10 s11 s12 .no s14 s15 s16 s17)) := by
    exact rng_n (by have := G.n2; omega) rfl
  have h := mid_lc (i1 := 2) (i2 := 8) (i3 := 18) G.v it rfl rfl rfl (by decide) (by decide)
  unfold l15
  refine (set_of (i := 13) (ρ' := Q ns o T n a b s6 s7 (fr (tD (opp T n))) s9 s10 s11 s12 .no s14 s15 s16 s17) (d := rowD (mid T n)) ?_ ⟨.no, rfl, rfl⟩).trans rfl
  unfold frM mo1 frzM
  rw [h]
  rfl
theorem l16_eq (G : Gp T n) : l16 (Q ns o T n a b s6 s7 s8 s9 s10 s11 s12 (fr (rowD (mid T n))) s14 s15 s16 s17) = some (.nx (Q ns o T n a b s6 s7 s8 s9 s10 s11 s12 (fr (rowD (mid T n))) s14 s15 s16 s17)) := by
  have hn := G.n2
  have hm : ∀ x ∈ mid T n, 0 ≤ x ∧ x ≤ 1000 := fun x h => by
    have := (rgI_mem n x).mp (List.mem_filter.mp h).1
    exact ir_sm hn this
  have hl : (mid T n).length ≤ 1000 := by
    have := List.length_filter_le (fun s => decide (rowA T s = rowA (opp T n) s)) (rgI n)
    rw [rgI_len] at this
    unfold mid; omega
  have r := rep_row hl hm
  unfold l16
  refine (if_f (ρ' := Q ns o T n a b s6 s7 s8 s9 s10 s11 s12 (fr (rowD (mid T n))) s14 s15 s16 s17) ?_).trans rfl
  refine or_ff (ρ1 := Q ns o T n a b s6 s7 s8 s9 s10 s11 s12 (fr (rowD (mid T n))) s14 s15 s16 s17) ?_ ?_
  · exact ne_rep (mo1_of (frz_x (call_v (d1 := tD T) rfl (centre_eq G.v hn))) r) (pu_of (pu1_of rfl r))
  · have e : eqD (.int (Nat.cast (mid T n).length)) (.int (Nat.cast n)) = some (.bl (decide (T = opp T n))) := by
      rw [eqD_int, ← mid_all G.v]
      congr 2
      exact decide_eq_decide.mpr (by omega)
    exact ne_rep (mo1_of (frz_x (call_v (d1 := tD T) rfl (is_commutative_eq G.v hn))) (rep_bl _)) (pu_of (pu1_of (pu2_of (pu1_of rfl (lenD_row _)) rfl e) (rep_bl _)))
end
end K37
set_option maxHeartbeats 4000000
namespace K37
open PySem PySem.Spec L2 Tr
section
variable {ns : List Int} {o : O} {T : List (List Int)} {n : Nat} {a b : Int} {s6 s7 s8 s9 s10 s11 s12 s13 s14 s15 s16 s17 : Sl}
theorem frz_fl {f : Mo O} {ρ ρ1 : Rho} {ds : List D} (h : f ρ = some (.ok (.fl ds) ρ1)) : frzM f ρ = some (.ok (.lst ds) ρ1) := by unfold frzM; rw [h]; rfl
theorem rng_n' {ρ : Rho} {i : Nat} (n2 : n ≤ 4000) (h : var i ρ = some (.int (Nat.cast n))) : itR1 (puV (var i)) ρ = some (.ok ((rgI n).map .int) ρ) := by
  unfold itR1 puV
  rw [h]
  dsimp only
  rw [if_pos (by omega), Int.toNat_natCast, rngD_rgI]
theorem l8_eq (G : Gp T n) {m : Nat} (hp : F__law_powers [.ow (.fr (tD T)), .ow (.fr (.int a))] = some (.ret (.fl ((pwL T a m).map .int)) [.no, .no])) :
    l8 (Q ns o T n a b s6 .no .no s9 s10 s11 s12 s13 s14 s15 .no .no) = some (.nx (Q ns o T n a b s6 (fr (.lst ((pwL T a m).map .int))) (fr (tD (opp T n))) s9 s10 s11 s12 s13 s14 s15 .no .no)) := by
  have V := G.v
  generalize hq : Q ns o T n a b s6 .no .no s9 s10 s11 s12 s13 s14 s15 .no .no = q
  have i1 : itR1 (puV (var 3)) q = some (.ok ((rgI n).map .int) q) := rng_n' (by have := G.n2; omega) (by rw [← hq]; rfl)
  have inner : ∀ j : Int, Ir n j → frM (mo1 tupD (frzM (lcM (itS (puV (var 2))) (gN 17) yes (ofP (pu2 ixD (var 17) (var 16))) [17]))) (q.set 16 (fr (.int j))) = some (.ok (.fr (rowD (T.map fun r => elA r j))) (q.set 16 (fr (.int j)))) := fun j hj => by
    have k1 : itS (puV (var 2)) (q.set 16 (fr (.int j))) = some (.ok (T.map rowD) (q.set 16 (fr (.int j)))) := by rw [← hq]; rfl
    have k2 : lcL (gN 17) yes (ofP (pu2 ixD (var 17) (var 16))) [17] (T.map rowD) (q.set 16 (fr (.int j))) = some ((T.map rowD).map (fun d => O.fr (match d with | .tup ds => (ds.getD j.toNat .non) | d => d)), (q.set 16 (fr (.int j)))) :=
      lcL_map fun d m => by
        obtain ⟨r, hr, rfl⟩ := List.mem_map.mp m
        have hl := (V.row r hr).1
        have h := ix_int r j hj.1 (by rw [hl]; exact hj.2)
        refine ⟨(q.set 16 (fr (.int j))).set 17 (fr (rowD r)), (q.set 16 (fr (.int j))).set 17 (fr (rowD r)), by rw [← hq]; rfl, rfl, by rw [← hq]; rfl, ?_, by rw [← hq]; rfl⟩
        obtain ⟨h1, h2⟩ := elA_get (r := r) hj.1 (by rw [hl]; exact hj.2)
        have e : (r.map D.int).getD j.toNat .non = .int (elA r j) := by
          rw [List.getD_eq_getElem?_getD, List.getElem?_map, List.getElem?_eq_getElem h1, h2]; rfl
        have := pu2_of (g := ixD) (f := var 17) (k := var 16) (ρ := (q.set 16 (fr (.int j))).set 17 (fr (rowD r))) (by rw [← hq]; rfl) (by rw [← hq]; rfl) h
        unfold ofP
        rw [this]
        unfold rowD
        dsimp only
        rw [e]
    have k3 := lcM_ok (vs := [17]) k1 (by rw [← hq]; rfl) (by rw [show wipeR (q.set 16 (fr (.int j))) [17] = q.set 16 (fr (.int j)) by rw [← hq]; rfl]; exact k2)
    rw [mkL_map, show unw (q.set 16 (fr (.int j))) (q.set 16 (fr (.int j))) [17] = q.set 16 (fr (.int j)) by rw [← hq]; rfl] at k3
    have k4 : (T.map rowD).map (fun d => (match d with | .tup ds => (ds.getD j.toNat .non) | d => d)) = (T.map fun r => elA r j).map .int := by
      rw [List.map_map, List.map_map]
      apply List.map_congr_left
      intro r hr
      have hl := (V.row r hr).1
      obtain ⟨h1, h2⟩ := elA_get (r := r) hj.1 (by rw [hl]; exact hj.2)
      show (r.map D.int).getD j.toNat .non = .int (elA r j)
      rw [List.getD_eq_getElem?_getD, List.getElem?_map, List.getElem?_eq_getElem h1, h2]; rfl
    rw [k4] at k3
    simp only [frM, mo1, frzM, k3, O.fz]
    rfl
  have l1 : lcL (gN 16) yes (frM (mo1 tupD (frzM (lcM (itS (puV (var 2))) (gN 17) yes (ofP (pu2 ixD (var 17) (var 16))) [17])))) [16] ((rgI n).map D.int) q = some (((rgI n).map D.int).map (fun d => O.fr (match d with | .int j => rowD (T.map fun r => elA r j) | d => d)), q) :=
    lcL_map fun d m => by
      obtain ⟨j, hj, rfl⟩ := List.mem_map.mp m
      exact ⟨q.set 16 (fr (.int j)), q.set 16 (fr (.int j)), by rw [← hq]; rfl, rfl, by rw [← hq]; rfl, inner j ((rgI_mem n j).mp hj), by rw [← hq]; rfl⟩
  have l2 := lcM_ok (vs := [16]) i1 (by rw [← hq]; rfl) (by rw [show wipeR q [16] = q by rw [← hq]; rfl]; exact l1)
  rw [mkL_map, show unw q q [16] = q by rw [← hq]; rfl] at l2
  have l3 : ((rgI n).map D.int).map (fun d => (match d with | .int j => rowD (T.map fun r => elA r j) | d => d)) = (opp T n).map rowD := by
    unfold opp rgI
    rw [List.map_map, List.map_map, List.map_map]; rfl
  rw [l3] at l2
  have p1 := call_vv (F := F__law_powers) (f := puV (var 2)) (g := puV (var 4)) (ρ := q) (ρ1 := q) (ρ2 := q) (d1 := tD T) (d2 := .int a) (by rw [← hq]; rfl) (by rw [← hq]; rfl) hp
  have p2 : frzM (callM 2 F__law_powers (agV (puV (var 2)) (agV (puV (var 4)) agN))) q = some (.ok (.lst ((pwL T a m).map .int)) q) := by unfold frzM; rw [p1]; rfl
  have p3 : mo1 tupD (frzM (lcM (itR1 (puV (var 3))) (gN 16) yes (frM (mo1 tupD (frzM (lcM (itS (puV (var 2))) (gN 17) yes (ofP (pu2 ixD (var 17) (var 16))) [17])))) [16])) q = some (.ok (tD (opp T n)) q) :=
    mo1_of (d := .lst ((opp T n).map rowD)) (frz_fl l2) rfl
  unfold l8 asgS tupV lvC
  rw [p2]
  dsimp only
  rw [p3]
  rw [← hq]
  rfl
/-- a draw in a call's list -/
theorem call_pick' {i : Nat} {ρ ρ1 : Rho} {s0 s1 : Sl} {o0 o : O} {ds : List D} {f : Mo D} (e0 : ρ[i]? = some s0) (et0 : s0.tr = some o0) (hf : f ρ = some (.ok (.lst ds) ρ1)) (e : ρ1[i]? = some s1) (et : s1.tr = some o) (ho : HP o) (h1 : 1 ≤ ds.length) (h2 : ds.length < 1000) :
    ∃ d o', d ∈ ds ∧ HP o' ∧ callM 2 F__law_pick (agL i (agV f agN)) ρ = some (.ok (.fr d) (ρ1.set i (s1.put o'))) := by
  obtain ⟨d, o', q1, q2, q3⟩ := pick_eq o ho ds h1 h2
  refine ⟨d, o', q1, q2, ?_⟩
  simp [callM, agL, agV, agN, e0, et0, e, et, hf, toSl, noDup, lents, back, q3]
theorem pow_eq (k : Nat) (hk : k ≤ 1000) : powD (.int 10) (.int (Nat.cast k)) = some (.int (10 ^ k)) := by
  show (if 0 ≤ (Nat.cast k : Int) ∧ (Nat.cast k : Int) ≤ 1000000 ∧ (10 : Int).natAbs < 2 ^ 64 then some (D.int (10 ^ (Nat.cast k : Int).toNat)) else none) = _
  rw [if_pos ⟨by omega, by omega, by decide⟩, Int.toNat_natCast]
theorem l10_eq (ho : HP o) (hn : n ≤ 200) : ∃ (k : Int) (o' : O), HP o' ∧ l10 (Q ns o T n a b s6 s7 s8 .no s10 s11 s12 s13 s14 s15 s16 s17) = some (.nx (Q ns o' T n a b s6 s7 s8 (fr (.int k)) s10 s11 s12 s13 s14 s15 s16 s17)) := by
  have hp : powD (.int 10) (.int 18) = some (.int (10 ^ 18)) := pow_eq 18 (by decide)
  have hf : puV (pu2 powD (cst (.int 10)) (cst (.int 18))) (Q ns o T n a b s6 s7 s8 .no s10 s11 s12 s13 s14 s15 s16 s17) = some (.ok (.int (10 ^ 18)) (Q ns o T n a b s6 s7 s8 .no s10 s11 s12 s13 s14 s15 s16 s17)) := pu_of (pu2_of rfl rfl hp)
  have hf' : ofP (pu2 powD (cst (.int 10)) (cst (.int 18))) (Q ns o T n a b s6 s7 s8 .no s10 s11 s12 s13 s14 s15 s16 s17) = some (.ok (.fr (.int (10 ^ 18))) (Q ns o T n a b s6 s7 s8 .no s10 s11 s12 s13 s14 s15 s16 s17)) := by
    unfold ofP; rw [pu2_of (g := powD) (ρ := (Q ns o T n a b s6 s7 s8 .no s10 s11 s12 s13 s14 s15 s16 s17)) rfl rfl hp]
  obtain ⟨r, o1, _, _, ho1, hd⟩ := call_draw (i := 1) (s0 := .ow o) (m := 10 ^ 18) rfl rfl ho hf (by decide) (by decide)
  have v3 : ofP (var 3) (Q ns o T n a b s6 s7 s8 .no s10 s11 s12 s13 s14 s15 s16 s17) = some (.ok (.fr (.int (Nat.cast n))) (Q ns o T n a b s6 s7 s8 .no s10 s11 s12 s13 s14 s15 s16 s17)) := rfl
  have v4 : ofP (pu2 addD (var 3) (cst (.int 1))) (Q ns o T n a b s6 s7 s8 .no s10 s11 s12 s13 s14 s15 s16 s17) = some (.ok (.fr (.int (Nat.cast n + 1))) (Q ns o T n a b s6 s7 s8 .no s10 s11 s12 s13 s14 s15 s16 s17)) := rfl
  have hl : frzM (lstX (lxC (ofP (cst (.int 0))) (lxC (ofP (cst (.int 1))) (lxC (ofP (cst (.int 2))) (lxC (ofP (cst (.int 3))) (lxC (ofP (var 3)) (lxC (ofP (pu2 addD (var 3) (cst (.int 1)))) (lxC (ofP (pu2 powD (cst (.int 10)) (cst (.int 18)))) (lxC (callM 2 F__law_draw (agL 1 (agV (puV (pu2 powD (cst (.int 10)) (cst (.int 18)))) agN))) lxN))))))))) (Q ns o T n a b s6 s7 s8 .no s10 s11 s12 s13 s14 s15 s16 s17) = some (.ok (.lst ([0, 1, 2, 3, Nat.cast n, Nat.cast n + 1, 10 ^ 18, r].map .int)) (Q ns o1 T n a b s6 s7 s8 .no s10 s11 s12 s13 s14 s15 s16 s17)) := by
    have hc : ∀ c, ofP (cst (.int c)) (Q ns o T n a b s6 s7 s8 .no s10 s11 s12 s13 s14 s15 s16 s17) = some (.ok (.fr (.int c)) (Q ns o T n a b s6 s7 s8 .no s10 s11 s12 s13 s14 s15 s16 s17)) := fun c => rfl
    simp only [frzM, lstX, lxC, hc, v3, v4, hf', hd, lxN]
    rw [if_pos (by show 8 ≤ sizeLine; decide)]
    rfl
  obtain ⟨d, o2, hm, ho2, hk⟩ := call_pick' (i := 1) (s0 := .ow o) (s1 := .ow o1) rfl rfl hl rfl rfl ho1 (by simp) (by simp)
  obtain ⟨k, _, rfl⟩ := List.mem_map.mp hm
  exact ⟨k, o2, ho2, (set_of (i := 9) hk ⟨.no, rfl, rfl⟩).trans rfl⟩
theorem l11_eq (G : Gp T n) (ha : Ir n a) {m : Nat} (m1 : 1 ≤ m) (m2 : m ≤ n) {k : Int}
    (ho : F_order_of [.ow (.fr (tD T)), .ow (.fr (.int a))] = some (.ret (.fr (.int (Nat.cast m))) [.no, .no])) :
    ∃ s10', frS s10' ∧ l11 (Q ns o T n a b s6 (fr (.lst ((pwL T a m).map .int))) s8 (fr (.int k)) .no s11 s12 s13 s14 s15 s16 s17) = some (.nx (Q ns o T n a b s6 (fr (.lst ((pwL T a m).map .int))) s8 (fr (.int k)) s10' s11 s12 s13 s14 s15 s16 s17)) := by
  have ln : lenD (.lst ((pwL T a m).map .int)) = some (.int (Nat.cast m)) := by
    show some (D.int (Nat.cast (List.length _))) = _
    rw [List.length_map, pwL_len]
  have h := forL_inv (α := Int) (t := gN 10) (b := (ifS (tbM (mo2 neS (mo1 reprD (frzM (callM 3 F_power (agV (puV (var 2)) (agV (puV (var 4)) (agV (puV (var 10)) agN)))))) (puV (pu1 reprD (pu2 ixD (var 7) (pu2 modD (pu1 intD (var 10)) (pu1 lenD (var 7)))))))) (retS (ofP (cst (.bl false)))) nxS)) (f := D.int)
    (St := fun _ ρ => ∃ s10, frS s10 ∧ ρ = Q ns o T n a b s6 (fr (.lst ((pwL T a m).map .int))) s8 (fr (.int k)) s10 s11 s12 s13 s14 s15 s16 s17) (bs := []) (as := [k, 0 - k, 0 - 1, k + Nat.cast m]) (fun x _ _ _ _ ρ ⟨s, hs, e⟩ => by
      subst e
      have hs' := frS_stb hs
      have q1 : 0 ≤ x % m := Int.emod_nonneg _ (by omega)
      have q2 : x % m < m := Int.emod_lt_of_pos _ (by omega)
      have ix : ixD (.lst ((pwL T a m).map .int)) (.int (x % m)) = some (.int (pw T a (x % m).toNat)) := by
        rw [ixL_int _ _ q1 (by rw [pwL_len]; exact q2)]
        have := pwL_at T a (m := m) (k := (x % m).toNat) (by omega)
        rw [toNat_cast _ q1] at this
        rw [this]
      obtain ⟨e0, e1⟩ := ir_sm G.n2 (G.pw_ir ha (x % m).toNat)
      refine ⟨Q ns o T n a b s6 (fr (.lst ((pwL T a m).map .int))) s8 (fr (.int k)) (fr (.int x)) s11 s12 s13 s14 s15 s16 s17, _, ?_, .inl ((if_f (ρ' := Q ns o T n a b s6 (fr (.lst ((pwL T a m).map .int))) s8 (fr (.int k)) (fr (.int x)) s11 s12 s13 s14 s15 s16 s17) ?_).trans rfl), _, .inr ⟨_, rfl⟩, rfl⟩
      · simp [gN, Q, stb_at, hs']
      · exact ne_rep (mo1_of (frz_x (call_vvv (d1 := tD T) (d2 := .int a) (d3 := .int x) rfl rfl rfl (power_eq G ha m1 m2 ho x))) (rep_int e0 e1)) (pu_of (pu1_of (pu2_of rfl (pu2_of (pu1_of rfl rfl) (pu1_of rfl ln) (mod_eq x m (by omega))) ix) (rep_int e0 e1)))) (Q ns o T n a b s6 (fr (.lst ((pwL T a m).map .int))) s8 (fr (.int k)) .no s11 s12 s13 s14 s15 s16 s17) ⟨.no, .inl rfl, rfl⟩
  obtain ⟨ρ', h1, s, hs, e⟩ := h
  subst e
  refine ⟨s, hs, ?_⟩
  unfold l11 forS
  have it : itS (puV (lstP (lpC (var 9) (lpC (pu2 subD (cst (.int 0)) (var 9)) (lpC (pu2 subD (cst (.int 0)) (cst (.int 1))) (lpC (pu2 addD (var 9) (pu1 lenD (var 7))) lpN)))))) (Q ns o T n a b s6 (fr (.lst ((pwL T a m).map .int))) s8 (fr (.int k)) .no s11 s12 s13 s14 s15 s16 s17) = some (.ok ([k, 0 - k, 0 - 1, k + Nat.cast m].map D.int) (Q ns o T n a b s6 (fr (.lst ((pwL T a m).map .int))) s8 (fr (.int k)) .no s11 s12 s13 s14 s15 s16 s17)) := by
    have v7 : pu1 lenD (var 7) (Q ns o T n a b s6 (fr (.lst ((pwL T a m).map .int))) s8 (fr (.int k)) .no s11 s12 s13 s14 s15 s16 s17) = some (.int (Nat.cast m)) := pu1_of rfl ln
    have v9 : var 9 (Q ns o T n a b s6 (fr (.lst ((pwL T a m).map .int))) s8 (fr (.int k)) .no s11 s12 s13 s14 s15 s16 s17) = some (.int k) := rfl
    simp only [itS, puV, lstP, lpC, lpN, pu2, v7, v9, cst, subD, onI0, addD]
    rw [if_pos (by show 4 ≤ sizeLine; decide)]
    rfl
  rw [it]
  exact h1
theorem draws_eq (G : Gp T n) : ∀ (ds : List D) (o : O), HP o → ∃ (ss : List Int) (o' : O), HP o' ∧ ss.length = ds.length ∧ (∀ s ∈ ss, Ir n s) ∧ lcL (gN 19) yes (callM 2 F__law_draw (agL 1 (agV (puV (var 3)) agN))) [19] ds (Q ns o T n a b s6 s7 s8 s9 s10 s11 s12 s13 s14 s15 s16 s17) = some ((ss.map D.int).map O.fr, Q ns o' T n a b s6 s7 s8 s9 s10 s11 s12 s13 s14 s15 s16 s17)
  | [], o, ho => ⟨[], o, ho, rfl, by simp, rfl⟩
  | d :: ds, o, ho => by
    have n1 := G.n1
    have n2 := G.n2
    obtain ⟨r, o1, r0, r1, ho1, hd⟩ := call_draw (i := 1) (s0 := .ow o) (ρ := (Q ns o T n a b s6 s7 s8 s9 s10 s11 s12 s13 s14 s15 s16 s17).set 19 (fr d)) (f := puV (var 3)) (m := Nat.cast n) rfl rfl ho rfl (by omega) (by omega)
    obtain ⟨ss, o2, ho2, hl, hs, hr⟩ := draws_eq G ds o1 ho1
    refine ⟨r :: ss, o2, ho2, by rw [List.length_cons, List.length_cons, hl], fun s m => ?_, ?_⟩
    · rcases List.mem_cons.mp m with rfl | m
      · exact ⟨r0, r1⟩
      · exact hs s m
    · unfold lcL
      rw [show gN 19 d (Q ns o T n a b s6 s7 s8 s9 s10 s11 s12 s13 s14 s15 s16 s17) = some ((Q ns o T n a b s6 s7 s8 s9 s10 s11 s12 s13 s14 s15 s16 s17).set 19 (fr d)) from rfl]
      dsimp only
      rw [show yes ((Q ns o T n a b s6 s7 s8 s9 s10 s11 s12 s13 s14 s15 s16 s17).set 19 (fr d)) = some (.ok true ((Q ns o T n a b s6 s7 s8 s9 s10 s11 s12 s13 s14 s15 s16 s17).set 19 (fr d))) from rfl]
      dsimp only
      rw [hd]
      dsimp only
      rw [show wipeR (((Q ns o T n a b s6 s7 s8 s9 s10 s11 s12 s13 s14 s15 s16 s17).set 19 (fr d)).set 1 ((Sl.ow o).put o1)) [19] = Q ns o1 T n a b s6 s7 s8 s9 s10 s11 s12 s13 s14 s15 s16 s17 from rfl, hr]
      rfl
theorem l13_eq (G : Gp T n) (ho : HP o) : ∃ (ss : List Int) (o' : O), HP o' ∧ ss.length ≤ 4 ∧ (∀ s ∈ ss, Ir n s) ∧ l13 (Q ns o T n a b s6 s7 s8 s9 s10 .no s12 s13 s14 s15 s16 s17) = some (.nx (Q ns o' T n a b s6 s7 s8 s9 s10 (fr (rowD ss)) s12 s13 s14 s15 s16 s17)) := by
  obtain ⟨r, o1, r0, r1, ho1, hd⟩ := call_draw (i := 1) (s0 := .ow o) (ρ := Q ns o T n a b s6 s7 s8 s9 s10 .no s12 s13 s14 s15 s16 s17) (f := puV (cst (.int 4))) (m := 4) rfl rfl ho rfl (by omega) (by omega)
  obtain ⟨ss, o2, ho2, hl, hs, hr⟩ := draws_eq (ns := ns) (a := a) (b := b) (s6 := s6) (s7 := s7) (s8 := s8) (s9 := s9) (s10 := s10) (s11 := .no) (s12 := s12) (s13 := s13) (s14 := s14) (s15 := s15) (s16 := s16) (s17 := s17) G (rngD 0 r.toNat) o1 ho1
  have it : itR1 (frzM (callM 2 F__law_draw (agL 1 (agV (puV (cst (.int 4))) agN)))) (Q ns o T n a b s6 s7 s8 s9 s10 .no s12 s13 s14 s15 s16 s17) = some (.ok (rngD 0 r.toNat) (Q ns o1 T n a b s6 s7 s8 s9 s10 .no s12 s13 s14 s15 s16 s17)) := by
    have hd' := frz_x hd
    unfold itR1
    rw [hd']
    dsimp only
    rw [if_pos (by omega)]
    rfl
  have h := lcM_ok it (rfl : frOk (Q ns o1 T n a b s6 s7 s8 s9 s10 .no s12 s13 s14 s15 s16 s17) [19] = true) (by rw [show wipeR (Q ns o1 T n a b s6 s7 s8 s9 s10 .no s12 s13 s14 s15 s16 s17) [19] = Q ns o1 T n a b s6 s7 s8 s9 s10 .no s12 s13 s14 s15 s16 s17 from rfl]; exact hr)
  rw [mkL_fr] at h
  have hrl : (rngD 0 r.toNat).length ≤ 4 := by
    rw [rngD_rgI, List.length_map, rgI_len]; omega
  refine ⟨ss, o2, ho2, by omega, hs, ?_⟩
  unfold l13
  refine (set_of (i := 11) (ρ' := Q ns o2 T n a b s6 s7 s8 s9 s10 .no s12 s13 s14 s15 s16 s17) (d := rowD ss) ?_ ⟨.no, rfl, rfl⟩).trans rfl
  have hm : mo1 tupD (frzM (lcM (itR1 (frzM (callM 2 F__law_draw (agL 1 (agV (puV (cst (.int 4))) agN))))) (gN 19) yes (callM 2 F__law_draw (agL 1 (agV (puV (var 3)) agN))) [19])) (Q ns o T n a b s6 s7 s8 s9 s10 .no s12 s13 s14 s15 s16 s17) = some (.ok (rowD ss) (Q ns o2 T n a b s6 s7 s8 s9 s10 .no s12 s13 s14 s15 s16 s17)) :=
    mo1_of (d := .lst (ss.map .int)) (frz_fl h) rfl
  unfold frM
  rw [hm]
theorem gen_len {ss L : List Int} (G : Gp T n) (hs : ∀ s ∈ ss, Ir n s) (h : IsGen T ss L) : L.length ≤ 1000 ∧ ∀ x ∈ L, 0 ≤ x ∧ x ≤ 1000 := by
  have hi : ∀ x ∈ L, Ir n x := fun x m => G.cl_ir hs ((h.2.2 x).mp m)
  have hn := G.n2
  refine ⟨?_, fun x m => ir_sm hn (hi x m)⟩
  have := nodup_sub_len (m := rgI n) h.1 fun x m => (rgI_mem n x).mpr (hi x m)
  rw [rgI_len] at this
  omega
theorem l14_eq (G : Gp T n) (ha : Ir n a) (hb : Ir n b) {ss : List Int} (hs : ∀ s ∈ ss, Ir n s) (hl : ss.length ≤ 4) :
    ∃ s12', frS s12' ∧ l14 (Q ns o T n a b s6 s7 s8 s9 s10 (fr (rowD ss)) .no s13 s14 s15 s16 s17) = some (.nx (Q ns o T n a b s6 s7 s8 s9 s10 (fr (rowD ss)) s12' s13 s14 s15 s16 s17)) := by
  have h := forL_inv (α := List Int) (t := gN 12) (b := (ifS (tbM (mo2 neS (mo1 reprD (frzM (callM 2 F_generated (agV (puV (var 2)) (agV (puV (var 12)) agN))))) (mo1 reprD (frzM (callM 2 F__law_closed (agV (puV (var 2)) (agV (puV (var 12)) agN))))))) (retS (ofP (cst (.bl false)))) nxS)) (f := rowD)
    (St := fun _ ρ => ∃ s12, frS s12 ∧ ρ = Q ns o T n a b s6 s7 s8 s9 s10 (fr (rowD ss)) s12 s13 s14 s15 s16 s17) (bs := []) (as := [ss, [a], [a, b], [b, a, b, 0], []]) (fun x l r hx _ ρ ⟨s, hs0, e⟩ => by
      subst e
      have hs' := frS_stb hs0
      have z := G.z
      have hm : x ∈ [ss, [a], [a, b], [b, a, b, 0], []] := by rw [show [ss, [a], [a, b], [b, a, b, 0], []] = l ++ x :: r from hx]; simp
      have hxs : x.length ≤ 4 ∧ ∀ s ∈ x, Ir n s := by
        simp only [List.mem_cons, List.not_mem_nil, or_false] at hm
        rcases hm with rfl | rfl | rfl | rfl | rfl
        · exact ⟨hl, hs⟩
        · exact ⟨by simp, fun s m => by simp at m; rw [m]; exact ha⟩
        · exact ⟨by simp, fun s m => by simp at m; rcases m with rfl | rfl <;> assumption⟩
        · exact ⟨by simp, fun s m => by simp at m; rcases m with rfl | rfl | rfl | rfl <;> assumption⟩
        · exact ⟨by simp, fun s m => by simp at m⟩
      obtain ⟨L, k1, k2⟩ := generated_eq G hxs.2
      obtain ⟨L', k3, k4⟩ := closed_eq G hxs.2 (by omega)
      have e := gen_uniq k1 k3
      subst e
      obtain ⟨w1, w2⟩ := gen_len G hxs.2 k1
      refine ⟨Q ns o T n a b s6 s7 s8 s9 s10 (fr (rowD ss)) (fr (rowD x)) s13 s14 s15 s16 s17, _, ?_, .inl ((if_f (ρ' := Q ns o T n a b s6 s7 s8 s9 s10 (fr (rowD ss)) (fr (rowD x)) s13 s14 s15 s16 s17) ?_).trans rfl), _, .inr ⟨_, rfl⟩, rfl⟩
      · simp [gN, Q, stb_at, hs']
      · exact ne_rep (mo1_of (frz_x (call_vv (d1 := tD T) (d2 := rowD x) rfl rfl k2)) (rep_row w1 w2)) (mo1_of (frz_x (call_vv (d1 := tD T) (d2 := rowD x) rfl rfl k4)) (rep_row w1 w2))) (Q ns o T n a b s6 s7 s8 s9 s10 (fr (rowD ss)) .no s13 s14 s15 s16 s17) ⟨.no, .inl rfl, rfl⟩
  obtain ⟨ρ', h1, s, hs, e⟩ := h
  subst e
  refine ⟨s, hs, ?_⟩
  unfold l14 forS
  have it : itS (puV (lstP (lpC (var 11) (lpC (tupP (lpC (var 4) lpN)) (lpC (tupP (lpC (var 4) (lpC (var 5) lpN))) (lpC (tupP (lpC (var 5) (lpC (var 4) (lpC (var 5) (lpC (cst (.int 0)) lpN))))) (lpC (tupP lpN) lpN))))))) (Q ns o T n a b s6 s7 s8 s9 s10 (fr (rowD ss)) .no s13 s14 s15 s16 s17) = some (.ok ([ss, [a], [a, b], [b, a, b, 0], []].map rowD) (Q ns o T n a b s6 s7 s8 s9 s10 (fr (rowD ss)) .no s13 s14 s15 s16 s17)) := by
    simp [itS, puV, lstP, tupP, lpC, lpN, var, cst, Q, sizeLine_eq, rowD, D.sq]
  rw [it]
  exact h1
theorem l17_eq (G : Gp T n) {ss : List Int} (hs : ∀ s ∈ ss, Ir n s) (hl : ss.length ≤ 4) :
    l17 (Q ns o T n a b s6 s7 (fr (tD (opp T n))) s9 s10 (fr (rowD ss)) s12 (fr (rowD (mid T n))) s14 s15 s16 s17) = some (.nx (Q ns o T n a b s6 s7 (fr (tD (opp T n))) s9 s10 (fr (rowD ss)) s12 (fr (rowD (mid T n))) s14 s15 s16 s17)) := by
  have hn := G.n2
  have r := rep_tab (opp_vd G.v) hn
  obtain ⟨L, k1, k2⟩ := generated_eq G.opp hs
  obtain ⟨L', k3, k4⟩ := closed_eq G hs (by omega)
  have k5 : IsGen T ss L := ⟨k1.1, k1.2.1, fun x => by rw [k1.2.2 x, G.opp.cl_cm hs x, G.cm_opp hs x, G.cl_cm hs x]⟩
  have e := gen_uniq k5 k3
  subst e
  have hc := centre_eq (opp_vd G.v) hn
  rw [mid_opp G.v] at hc
  unfold l17
  refine (if_f (ρ' := Q ns o T n a b s6 s7 (fr (tD (opp T n))) s9 s10 (fr (rowD ss)) s12 (fr (rowD (mid T n))) s14 s15 s16 s17) ?_).trans rfl
  refine or_ff (ρ1 := Q ns o T n a b s6 s7 (fr (tD (opp T n))) s9 s10 (fr (rowD ss)) s12 (fr (rowD (mid T n))) s14 s15 s16 s17) ?_ (or_ff (ρ1 := Q ns o T n a b s6 s7 (fr (tD (opp T n))) s9 s10 (fr (rowD ss)) s12 (fr (rowD (mid T n))) s14 s15 s16 s17) ?_ ?_)
  · exact ne_rep (mo1_of (frz_x (per_1 (d1 := tD T) rfl (opposite_eq G.v hn))) r) (pu_of (pu1_of rfl r))
  · exact ne_eqD (rowD_ok _) (frz_x (per_1 (d1 := tD (opp T n)) rfl hc)) (pu_of rfl)
  · exact ne_eqD (rowD_ok _) (frz_x (per_2 (d1 := tD (opp T n)) (d2 := rowD ss) rfl rfl k2)) (frz_x (call_vv (d1 := tD T) (d2 := rowD ss) rfl rfl k4))
end
end K37
set_option maxHeartbeats 4000000
namespace K37
open PySem PySem.Spec L2 Tr
section
variable {ns : List Int} {o : O} {T : List (List Int)} {n : Nat} {a b : Int} {s6 s7 s8 s9 s10 s11 s12 s13 s14 s15 s16 s17 : Sl}
theorem l18_eq (G : Gp T n) (ha : Ir n a) (ho : HP o) : ∃ (d : D) (o' : O), HP o' ∧ d.isPy = true ∧ below d n = false ∧ l18 (Q ns o T n a b s6 s7 s8 s9 s10 s11 s12 s13 .no s15 s16 s17) = some (.nx (Q ns o' T n a b s6 s7 s8 s9 s10 s11 s12 s13 (fr d) s15 s16 s17)) := by
  have hn := G.n2
  have hp : powD (.int 10) (.int 30) = some (.int (10 ^ 30)) := pow_eq 30 (by decide)
  have hs : strD (.int a) = some (.str (toString a)) := by
    refine if_pos ?_
    by_cases h : a.natAbs = 0
    · rw [h]; decide
    · have h2 : a.natAbs.log2 < 10 := (Nat.log2_lt h).mpr (by have := ha.1; have := ha.2; omega)
      omega
  have he : eqD (.int a) (.int a) = some (.bl true) := by rw [eqD_int, decide_eq_true rfl]
  have hf : puV (lstP (lpC (var 3) (lpC (pu2 addD (var 3) (cst (.int 1))) (lpC (pu2 subD (cst (.int 0)) (cst (.int 1))) (lpC (cst .non) (lpC (pu2 eqD (var 4) (var 4)) (lpC (pu1 strD (var 4)) (lpC (lstP (lpC (var 4) lpN)) (lpC (tupP (lpC (var 4) lpN)) (lpC (pu2 powD (cst (.int 10)) (cst (.int 30))) lpN)))))))))) (Q ns o T n a b s6 s7 s8 s9 s10 s11 s12 s13 .no s15 s16 s17) = some (.ok (.lst [.int (Nat.cast n), .int (Nat.cast n + 1), .int (0 - 1), .non, .bl true, .str (toString a), .lst [.int a], .tup [.int a], .int (10 ^ 30)]) (Q ns o T n a b s6 s7 s8 s9 s10 s11 s12 s13 .no s15 s16 s17)) := by
    have v3 : var 3 (Q ns o T n a b s6 s7 s8 s9 s10 s11 s12 s13 .no s15 s16 s17) = some (.int (Nat.cast n)) := rfl
    have v4 : var 4 (Q ns o T n a b s6 s7 s8 s9 s10 s11 s12 s13 .no s15 s16 s17) = some (.int a) := rfl
    have v5 : lstP (lpC (var 4) lpN) (Q ns o T n a b s6 s7 s8 s9 s10 s11 s12 s13 .no s15 s16 s17) = some (.lst [.int a]) := by simp [lstP, lpC, lpN, v4, sizeLine_eq]
    have v6 : tupP (lpC (var 4) lpN) (Q ns o T n a b s6 s7 s8 s9 s10 s11 s12 s13 .no s15 s16 s17) = some (.tup [.int a]) := by simp [tupP, lpC, lpN, v4, sizeLine_eq]
    have v7 := pu2_of (g := powD) (f := cst (.int 10)) (k := cst (.int 30)) (ρ := Q ns o T n a b s6 s7 s8 s9 s10 s11 s12 s13 .no s15 s16 s17) rfl rfl hp
    have v8 := pu1_of (g := strD) v4 hs
    have v9 := pu2_of (g := eqD) v4 v4 he
    have v10 := pu2_of (g := addD) (k := cst (.int 1)) v3 rfl (rfl : addD (.int (Nat.cast n)) (.int 1) = some (.int (Nat.cast n + 1)))
    have v11 := pu2_of (g := subD) (f := cst (.int 0)) (k := cst (.int 1)) (ρ := Q ns o T n a b s6 s7 s8 s9 s10 s11 s12 s13 .no s15 s16 s17) rfl rfl (rfl : subD (.int 0) (.int 1) = some (.int (0 - 1)))
    refine pu_of ?_
    rw [lstP.eq_def]
    simp only [lpC.eq_def, v3, v5, v6, v7, v8, v9, v10, v11, lpN.eq_def, cst.eq_def]
    rw [if_pos (by show 9 ≤ sizeLine; decide)]
  obtain ⟨d, o', hm, ho', hk⟩ := call_pick (i := 1) (s0 := .ow o) rfl rfl ho hf (by simp) (by simp)
  refine ⟨d, o', ho', ?_, ?_, (set_of (i := 14) hk ⟨.no, rfl, rfl⟩).trans rfl⟩
  · simp only [List.mem_cons, List.not_mem_nil, or_false] at hm
    rcases hm with rfl | rfl | rfl | rfl | rfl | rfl | rfl | rfl | rfl <;> simp [D.isPy, D.arePy]
  · simp only [List.mem_cons, List.not_mem_nil, or_false] at hm
    rcases hm with rfl | rfl | rfl | rfl | rfl | rfl | rfl | rfl | rfl <;> simp [below] <;> omega
theorem l19_eq (ho : HP o) : ∃ (d : D) (o' : O), HP o' ∧ d.isPy = true ∧ isI d = false ∧ l19 (Q ns o T n a b s6 s7 s8 s9 s10 s11 s12 s13 s14 .no s16 s17) = some (.nx (Q ns o' T n a b s6 s7 s8 s9 s10 s11 s12 s13 s14 (fr d) s16 s17)) := by
  have he : eqD (.int a) (.int a) = some (.bl true) := by rw [eqD_int, decide_eq_true rfl]
  have hf : puV (lstP (lpC (cst .non) (lpC (cst (.str "1")) (lpC (pu2 eqD (var 4) (var 4)) (lpC (lstP (lpC (cst (.int 1)) lpN)) (lpC (tupP (lpC (cst (.int 0)) lpN)) lpN)))))) (Q ns o T n a b s6 s7 s8 s9 s10 s11 s12 s13 s14 .no s16 s17) = some (.ok (.lst [.non, .str "1", .bl true, .lst [.int 1], .tup [.int 0]]) (Q ns o T n a b s6 s7 s8 s9 s10 s11 s12 s13 s14 .no s16 s17)) := by
    have v4 : var 4 (Q ns o T n a b s6 s7 s8 s9 s10 s11 s12 s13 s14 .no s16 s17) = some (.int a) := rfl
    have v5 : lstP (lpC (cst (.int 1)) lpN) (Q ns o T n a b s6 s7 s8 s9 s10 s11 s12 s13 s14 .no s16 s17) = some (.lst [.int 1]) := by simp [lstP, lpC, lpN, cst, sizeLine_eq]
    have v6 : tupP (lpC (cst (.int 0)) lpN) (Q ns o T n a b s6 s7 s8 s9 s10 s11 s12 s13 s14 .no s16 s17) = some (.tup [.int 0]) := by simp [tupP, lpC, lpN, cst, sizeLine_eq]
    have v9 := pu2_of (g := eqD) v4 v4 he
    refine pu_of ?_
    rw [lstP.eq_def]
    simp only [lpC.eq_def, v5, v6, v9, lpN.eq_def, cst.eq_def]
    rw [if_pos (by show 5 ≤ sizeLine; decide)]
  obtain ⟨d, o', hm, ho', hk⟩ := call_pick (i := 1) (s0 := .ow o) rfl rfl ho hf (by simp) (by simp)
  refine ⟨d, o', ho', ?_, ?_, (set_of (i := 15) hk ⟨.no, rfl, rfl⟩).trans rfl⟩
  · simp only [List.mem_cons, List.not_mem_nil, or_false] at hm
    rcases hm with rfl | rfl | rfl | rfl | rfl <;> simp [D.isPy, D.arePy]
  · simp only [List.mem_cons, List.not_mem_nil, or_false] at hm
    rcases hm with rfl | rfl | rfl | rfl | rfl <;> rfl
theorem l20_eq (ho : HP o) {ss : List Int} (hl : ss.length ≤ 4) : ∃ (k : Int) (o' : O), HP o' ∧ 0 ≤ k ∧ k ≤ ss.length ∧ l20 (Q ns o T n a b s6 s7 s8 s9 s10 (fr (rowD ss)) s12 s13 s14 s15 .no s17) = some (.nx (Q ns o' T n a b s6 s7 s8 s9 s10 (fr (rowD ss)) s12 s13 s14 s15 (fr (.int k)) s17)) := by
  have hf : puV (pu2 addD (pu1 lenD (var 11)) (cst (.int 1))) (Q ns o T n a b s6 s7 s8 s9 s10 (fr (rowD ss)) s12 s13 s14 s15 .no s17) = some (.ok (.int (Nat.cast ss.length + 1)) (Q ns o T n a b s6 s7 s8 s9 s10 (fr (rowD ss)) s12 s13 s14 s15 .no s17)) :=
    pu_of (pu2_of (pu1_of rfl (lenD_row ss)) rfl rfl)
  obtain ⟨k, o', k0, k1, ho', hk⟩ := call_draw (i := 1) (s0 := .ow o) rfl rfl ho hf (by omega) (by omega)
  exact ⟨k, o', ho', k0, by omega, (set_of (i := 16) hk ⟨.no, rfl, rfl⟩).trans rfl⟩
theorem l21_eq {ss : List Int} (hl : ss.length ≤ 4) {d : D} (hd : d.isPy = true) {k : Int} (k0 : 0 ≤ k) (k1 : k ≤ ss.length) : ∃ ds : List D, d ∈ ds ∧ D.arePy ds = true ∧ l21 (Q ns o T n a b s6 s7 s8 s9 s10 (fr (rowD ss)) s12 s13 (fr d) s15 (fr (.int k)) .no) = some (.nx (Q ns o T n a b s6 s7 s8 s9 s10 (fr (rowD ss)) s12 s13 (fr d) s15 (fr (.int k)) (fr (.tup ds)))) := by
  refine ⟨((ss.map D.int).take k.toNat ++ [d]) ++ (ss.map D.int).drop k.toNat, by simp, ?_, ?_⟩
  · have h := arePy_map ss
    refine arePy_app (arePy_app (arePy_sub h fun d m => List.mem_of_mem_take m) ?_) (arePy_sub h fun d m => List.mem_of_mem_drop m)
    rw [D.arePy, D.arePy, hd]; rfl
  · have hlm : (ss.map D.int).length = ss.length := List.length_map ..
    have v11 : var 11 (Q ns o T n a b s6 s7 s8 s9 s10 (fr (rowD ss)) s12 s13 (fr d) s15 (fr (.int k)) .no) = some (.tup (ss.map .int)) := rfl
    have p16 : poS (var 16) (Q ns o T n a b s6 s7 s8 s9 s10 (fr (rowD ss)) s12 s13 (fr d) s15 (fr (.int k)) .no) = some (some k) := rfl
    have pn : poN (Q ns o T n a b s6 s7 s8 s9 s10 (fr (rowD ss)) s12 s13 (fr d) s15 (fr (.int k)) .no) = some none := rfl
    have a1 : slP (var 11) poN (poS (var 16)) (Q ns o T n a b s6 s7 s8 s9 s10 (fr (rowD ss)) s12 s13 (fr d) s15 (fr (.int k)) .no) = some (.tup ((ss.map D.int).take k.toNat)) := by
      unfold slP
      rw [v11, p16, pn]
      dsimp only
      rw [slD_tup, cut_to k0 (by rw [hlm]; exact k1)]
    have a2 : slP (var 11) (poS (var 16)) poN (Q ns o T n a b s6 s7 s8 s9 s10 (fr (rowD ss)) s12 s13 (fr d) s15 (fr (.int k)) .no) = some (.tup ((ss.map D.int).drop k.toNat)) := by
      unfold slP
      rw [v11, p16, pn]
      dsimp only
      rw [slD_tup, cut_from k0 (by rw [hlm]; exact k1)]
    have a3 : tupP (lpC (var 14) lpN) (Q ns o T n a b s6 s7 s8 s9 s10 (fr (rowD ss)) s12 s13 (fr d) s15 (fr (.int k)) .no) = some (.tup [d]) := by
      simp [tupP, lpC, lpN, var, Q, sizeLine_eq]
    have a4 := pu2_of (g := addD) (pu2_of (g := addD) a1 a3 (addD_tup (by simp; omega))) a2 (addD_tup (by simp; omega))
    unfold l21
    refine (set_of (i := 17) (ρ' := Q ns o T n a b s6 s7 s8 s9 s10 (fr (rowD ss)) s12 s13 (fr d) s15 (fr (.int k)) .no) (d := .tup (((ss.map D.int).take k.toNat ++ [d]) ++ (ss.map D.int).drop k.toNat)) ?_ ⟨.no, rfl, rfl⟩).trans rfl
    unfold ofP
    rw [a4]
theorem call_5 {F : FS} {f g h u v : Mo D} {ρ : Rho} {d1 d2 d3 d4 d5 : D} {r : O} (h1 : f ρ = some (.ok d1 ρ)) (h2 : g ρ = some (.ok d2 ρ)) (h3 : h ρ = some (.ok d3 ρ)) (h4 : u ρ = some (.ok d4 ρ)) (h5 : v ρ = some (.ok d5 ρ)) (e : F [.ow (.fr d1), .ow (.fr d2), .ow (.fr d3), .ow (.fr d4), .ow (.fr d5)] = some (.ret r [.no, .no, .no, .no, .no])) :
    callM 5 F (agV f (agV g (agV h (agV u (agV v agN))))) ρ = some (.ok r ρ) := by
  simp [callM, agV, agN, h1, h2, h3, h4, h5, toSl, noDup, lents, back, e]
theorem six_ok : okPy (.lst (List.replicate 6 (.str "share"))) = true := by decide +kernel
theorem many_ok : okPy (.lst [.non, .non, .non, .str "many", .non, .non]) = true := by decide +kernel
theorem l22_eq (A : Addr) (G : Gp T n) (ha : Ir n a) (hb : Ir n b) {d d3 : D} {ds : List D} (hd : d.isPy = true) (hw : below d n = false) (hp : D.arePy ds = true) (hx : d ∈ ds) :
    l22 A (Q ns o T n a b s6 s7 (fr (tD (opp T n))) s9 s10 s11 s12 (fr (rowD (mid T n))) (fr d) (fr d3) s16 (fr (.tup ds))) = some (.nx (Q ns o T n a b s6 s7 (fr (tD (opp T n))) s9 s10 s11 s12 (fr (rowD (mid T n))) (fr d) (fr d3) s16 (fr (.tup ds)))) := by
  have hn := G.n2
  unfold l22
  refine (if_f (ρ' := Q ns o T n a b s6 s7 (fr (tD (opp T n))) s9 s10 s11 s12 (fr (rowD (mid T n))) (fr d) (fr d3) s16 (fr (.tup ds))) ?_).trans rfl
  refine or_ff (ρ1 := Q ns o T n a b s6 s7 (fr (tD (opp T n))) s9 s10 s11 s12 (fr (rowD (mid T n))) (fr d) (fr d3) s16 (fr (.tup ds))) ?_ ?_
  · refine ne_eqD six_ok (frz_fl (call_5 (d1 := tD T) (d2 := d) (d3 := .int b) (d4 := d3) (d5 := .tup ds) rfl rfl rfl rfl rfl (refused_bad A G.v G.n1 hb hd hw hp hx))) (pu_of (pu2_of (d := .lst [.str "share"]) (e := .int 6) ?_ rfl ?_))
    · simp [lstP, lpC, lpN, cst, sizeLine_eq]
    · rfl
  · have e : eqD (.int (Nat.cast (mid T n).length)) (.int (Nat.cast n)) = some (.bl (decide (T = opp T n))) := by
      rw [eqD_int, ← mid_all G.v]
      congr 2
      exact decide_eq_decide.mpr (by omega)
    have c := is_commutative_eq (opp_vd G.v) hn
    rw [opp_opp G.v, show decide (opp T n = T) = decide (T = opp T n) from decide_eq_decide.mpr ⟨Eq.symm, Eq.symm⟩] at c
    exact ne_eqD (by rfl) (frz_x (per_1 (d1 := tD (opp T n)) rfl c)) (pu_of (pu2_of (pu1_of rfl (lenD_row _)) rfl e))
theorem l23_eq (A : Addr) (G : Gp T n) (ha : Ir n a) (hb : Ir n b) {d3 : D} {ss : List Int} (h3 : d3.isPy = true) (hw : isI d3 = false) (hs : ∀ s ∈ ss, Ir n s) :
    l23 A (Q ns o T n a b s6 s7 s8 s9 s10 (fr (rowD ss)) s12 s13 s14 (fr d3) s16 s17) = some (.rt (.fr (.bl true)) (Q ns o T n a b s6 s7 s8 s9 s10 (fr (rowD ss)) s12 s13 s14 (fr d3) s16 s17)) := by
  have h1 := frz_fl (call_5 (f := puV (var 2)) (g := puV (var 4)) (h := puV (var 5)) (u := puV (var 15)) (v := puV (var 11)) (ρ := Q ns o T n a b s6 s7 s8 s9 s10 (fr (rowD ss)) s12 s13 s14 (fr d3) s16 s17) (d1 := tD T) (d2 := .int a) (d3 := .int b) (d4 := d3) (d5 := rowD ss) rfl rfl rfl rfl rfl (refused_good A G ha hb h3 hw hs))
  have h2 : puV (lstP (lpC (cst .non) (lpC (cst .non) (lpC (cst .non) (lpC (cst (.str "many")) (lpC (cst .non) (lpC (cst .non) lpN))))))) (Q ns o T n a b s6 s7 s8 s9 s10 (fr (rowD ss)) s12 s13 s14 (fr d3) s16 s17) = some (.ok (.lst [.non, .non, .non, .str "many", .non, .non]) (Q ns o T n a b s6 s7 s8 s9 s10 (fr (rowD ss)) s12 s13 s14 (fr d3) s16 s17)) := by
    simp [puV, lstP, lpC, lpN, cst, sizeLine_eq]
  have h3 := mo2_of h1 h2 (eqD_refl many_ok)
  unfold l23 retS frM
  rw [h3]
/-! ### the first steps -/
theorem call_group {i : Nat} {ρ : Rho} {s0 : Sl} {o : O} {f : Mo D} (e : ρ[i]? = some s0) (et : s0.tr = some o) (ho : HP o) (hf : f ρ = some (.ok (.int 8) ρ)) :
    ∃ M o' d5, chk (tD M) = none ∧ M.length ≤ 8 ∧ HP o' ∧ callM 2 F__law_group (agL i (agV f agN)) ρ = some (.ok (.fr (.tup [tD M, d5])) (ρ.set i (s0.put o'))) := by
  obtain ⟨M, o', d5, q1, q2, q3, q4⟩ := group_eq o ho
  refine ⟨M, o', d5, q1, q2, q3, ?_⟩
  simp [callM, agL, agV, agN, e, et, hf, toSl, noDup, lents, back, q4]
def R0 (ns : List Int) (s1 s2 s3 : Sl) : Rho := [.ow (.fr (.scr ns)), s1, s2, s3, .no, .no, .no, .no, .no, .no, .no, .no, .no, .no, .no, .no, .no, .no, .no, .no]
theorem l1_eq (h : ns.length ≤ 63) : ∃ o, HP o ∧ l1 (R0 ns .no .no .no) = some (.nx (R0 ns (.ow o) .no .no)) := by
  obtain ⟨o, ho, e⟩ := heap_eq ns h
  refine ⟨o, ho, ?_⟩
  have c := call_vv (F := F__law_heap) (f := puV (var 0)) (g := puV (cst (.int 0))) (ρ := R0 ns .no .no .no) (d1 := .scr ns) (d2 := .int 0) rfl rfl e
  unfold l1 setS
  rw [c]
  rfl
theorem l2_eq (ho : HP o) : ∃ M o', chk (tD M) = none ∧ HP o' ∧ l2 (R0 ns (.ow o) .no .no) = some (.nx (R0 ns (.ow o') (fr (tD M)) .no)) := by
  obtain ⟨M, o', d5, q1, q2, q3, q4⟩ := call_group (i := 1) (s0 := .ow o) (ρ := R0 ns (.ow o) .no .no) (f := puV (cst (.int 8))) rfl rfl ho rfl
  refine ⟨M, o', q1, q3, ?_⟩
  unfold l2
  refine (set_of (i := 2) (ρ' := R0 ns (.ow o') .no .no) (d := tD M) ?_ ⟨.no, rfl, rfl⟩).trans rfl
  have := mo2_of (g := ixD) (h := puV (cst (.int 0))) (frz_x q4) rfl (rfl : ixD (.tup [tD M, d5]) (.int 0) = some (tD M))
  unfold frM
  rw [this]
  rfl
theorem l3_eq (V : Vd T n) : l3 (R0 ns (.ow o) (fr (tD T)) .no) = some (.nx (R0 ns (.ow o) (fr (tD T)) (fr (.int (Nat.cast n))))) := by
  unfold l3
  refine (set_of (i := 3) (ρ' := R0 ns (.ow o) (fr (tD T)) .no) (d := .int (Nat.cast n)) ?_ ⟨.no, rfl, rfl⟩).trans rfl
  have := pu1_of (g := lenD) (f := var 2) (ρ := R0 ns (.ow o) (fr (tD T)) .no) rfl (lenD_t V)
  unfold ofP
  rw [this]
theorem l4_eq (G : Gp T n) (ho : HP o) : ∃ (a b : Int) (o' : O), HP o' ∧ Ir n a ∧ Ir n b ∧ l4 (R0 ns (.ow o) (fr (tD T)) (fr (.int (Nat.cast n)))) = some (.nx (Q ns o' T n a b .no .no .no .no .no .no .no .no .no .no .no .no)) := by
  have n1 := G.n1
  have n2 := G.n2
  obtain ⟨a, o1, a0, a1, ho1, h1⟩ := call_draw (i := 1) (s0 := .ow o) (ρ := R0 ns (.ow o) (fr (tD T)) (fr (.int (Nat.cast n)))) (f := puV (var 3)) (m := Nat.cast n) rfl rfl ho rfl (by omega) (by omega)
  obtain ⟨b, o2, b0, b1, ho2, h2⟩ := call_draw (i := 1) (s0 := .ow o1) (ρ := R0 ns (.ow o1) (fr (tD T)) (fr (.int (Nat.cast n)))) (f := puV (var 3)) (m := Nat.cast n) rfl rfl ho1 rfl (by omega) (by omega)
  refine ⟨a, b, o2, ho2, ⟨a0, a1⟩, ⟨b0, b1⟩, ?_⟩
  have f1 := frz_x h1
  have f2 := frz_x h2
  unfold l4 asgS tupV lvC
  rw [f1]
  dsimp only
  rw [show (R0 ns (.ow o) (fr (tD T)) (fr (.int (Nat.cast n)))).set 1 ((Sl.ow o).put o1) = R0 ns (.ow o1) (fr (tD T)) (fr (.int (Nat.cast n))) from rfl, f2]
  rfl
end
theorem ends (A : Nat) (ns : List Int) (h : ns.length ≤ 63) : ∃ outs, F_law A [.ow (.fr (.scr ns))] = some (.ret (.fr (.bl true)) outs) := by
  obtain ⟨o1, ho1, e1⟩ := l1_eq h
  obtain ⟨T, o2, hc, ho2, e2⟩ := l2_eq (ns := ns) ho1
  have G := Gp.of hc
  generalize T.length = n at G
  have e3 := l3_eq (ns := ns) (o := o2) G.v
  obtain ⟨a, b, o4, ho4, ha, hb, e4⟩ := l4_eq (ns := ns) G ho2
  obtain ⟨m, m1, m2, m3, m4, hord⟩ := order_eq0 G ha
  obtain ⟨m', m1', m2', m3', m4', hord'⟩ := order_eq0 G hb
  have hpw := powers_eq G ha m1 m2 m3 m4
  have hpw' := powers_eq G hb m1' m2' m3' m4'
  obtain ⟨k, o10, ho10, e10⟩ := l10_eq (ns := ns) (o := o4) (T := T) (n := n) (a := a) (b := b) (s6 := fr (.int (inv T a))) (s7 := fr (.lst ((pwL T a m).map .int))) (s8 := fr (tD (opp T n))) (s10 := .no) (s11 := .no) (s12 := .no) (s13 := .no) (s14 := .no) (s15 := .no) (s16 := .no) (s17 := .no) ho4 G.n2
  obtain ⟨s10, hs10, e11⟩ := l11_eq (ns := ns) (o := o10) (b := b) (s6 := fr (.int (inv T a))) (s8 := fr (tD (opp T n))) (s11 := .no) (s12 := .no) (s13 := .no) (s14 := .no) (s15 := .no) (s16 := .no) (s17 := .no) G ha m1 m2 (k := k) hord
  obtain ⟨ss, o13, ho13, hl, hs, e13⟩ := l13_eq (ns := ns) (a := a) (b := b) (s6 := fr (.int (inv T a))) (s7 := fr (.lst ((pwL T a m).map .int))) (s8 := fr (tD (opp T n))) (s9 := fr (.int k)) (s10 := s10) (s12 := .no) (s13 := .no) (s14 := .no) (s15 := .no) (s16 := .no) (s17 := .no) G ho10
  obtain ⟨s12, hs12, e14⟩ := l14_eq (ns := ns) (o := o13) (s6 := fr (.int (inv T a))) (s7 := fr (.lst ((pwL T a m).map .int))) (s8 := fr (tD (opp T n))) (s9 := fr (.int k)) (s10 := s10) (s13 := .no) (s14 := .no) (s15 := .no) (s16 := .no) (s17 := .no) G ha hb hs hl
  obtain ⟨d, o18, ho18, hd, hw, e18⟩ := l18_eq (ns := ns) (b := b) (s6 := fr (.int (inv T a))) (s7 := fr (.lst ((pwL T a m).map .int))) (s8 := fr (tD (opp T n))) (s9 := fr (.int k)) (s10 := s10) (s11 := fr (rowD ss)) (s12 := s12) (s13 := fr (rowD (mid T n))) (s15 := .no) (s16 := .no) (s17 := .no) G ha ho13
  obtain ⟨d3, o19, ho19, hd3, hw3, e19⟩ := l19_eq (ns := ns) (T := T) (n := n) (a := a) (b := b) (s6 := fr (.int (inv T a))) (s7 := fr (.lst ((pwL T a m).map .int))) (s8 := fr (tD (opp T n))) (s9 := fr (.int k)) (s10 := s10) (s11 := fr (rowD ss)) (s12 := s12) (s13 := fr (rowD (mid T n))) (s14 := fr d) (s16 := .no) (s17 := .no) ho18
  obtain ⟨kk, o20, ho20, k0, k1, e20⟩ := l20_eq (ns := ns) (T := T) (n := n) (a := a) (b := b) (s6 := fr (.int (inv T a))) (s7 := fr (.lst ((pwL T a m).map .int))) (s8 := fr (tD (opp T n))) (s9 := fr (.int k)) (s10 := s10) (s12 := s12) (s13 := fr (rowD (mid T n))) (s14 := fr d) (s15 := fr d3) (s17 := .no) ho19 hl
  obtain ⟨ds, hdm, hdp, e21⟩ := l21_eq (ns := ns) (o := o20) (T := T) (n := n) (a := a) (b := b) (s6 := fr (.int (inv T a))) (s7 := fr (.lst ((pwL T a m).map .int))) (s8 := fr (tD (opp T n))) (s9 := fr (.int k)) (s10 := s10) (s12 := s12) (s13 := fr (rowD (mid T n))) (s15 := fr d3) hl hd k0 k1
  refine ⟨_, run_rt (m := m_law A) (ρ := Q ns o20 T n a b (fr (.int (inv T a))) (fr (.lst ((pwL T a m).map .int))) (fr (tD (opp T n))) (fr (.int k)) s10 (fr (rowD ss)) s12 (fr (rowD (mid T n))) (fr d) (fr d3) (fr (.int kk)) (fr (.tup ds))) ?_ (by simp [Q]) rfl⟩
  rw [law_m]
  rw [show ([.ow (.fr (.scr ns))] ++ List.replicate (N_law.length - (["_law_script"] : List Str).length) .no : Rho) = R0 ns .no .no .no from rfl]
  rw [seq_nx e1, seq_nx e2, seq_nx e3, seq_nx e4, seq_nx (l5_eq G ha hb), seq_nx (l6_eq G ha), seq_nx (l7_eq G ha), seq_nx (l8_eq G hpw), seq_nx (l9_eq G ha hb m2 hord hord' hpw'), seq_nx e10, seq_nx e11, seq_nx (l12_eq G hb m1' m2' hord' hpw'), seq_nx e13, seq_nx e14, seq_nx (l15_eq G), seq_nx (l16_eq G), seq_nx (l17_eq G hs hl), seq_nx e18, seq_nx e19, seq_nx e20, seq_nx e21, seq_nx (l22_eq A G ha hb hd hw hdp hdm)]
  exact l23_eq A G ha hb hd3 hw3 hs
end K37
set_option maxHeartbeats 4000000
namespace K37
open PySem PySem.Spec PyProof.Rows L2 Tr
theorem all_mk {l : PySem.W.OpenLaw} {w : World} {K : PySem.W.Frag} {h : Heap} {mg : Str → Option Value} {fa : Addr} (X : K.In h) (G : h.Ns mainGlobals mg) (hfa : mg "law" = some (.ref fa))
    {f_is_integer : Addr} {od_is_integer an_is_integer : Option Addr} {sl_is_integer : Array (Option Value)} {oc_is_integer kV_is_integer dc_is_integer pm_is_integer cd_is_integer ct_is_integer : Value} {f_is_number : Addr} {od_is_number an_is_number : Option Addr} {sl_is_number : Array (Option Value)} {oc_is_number kV_is_number dc_is_number pm_is_number cd_is_number ct_is_number : Value} {f_is_below : Addr} {od_is_below an_is_below : Option Addr} {sl_is_below : Array (Option Value)} {oc_is_below kV_is_below dc_is_below pm_is_below cd_is_below ct_is_below : Value} {f_need_share : Addr} {od_need_share an_need_share : Option Addr} {sl_need_share : Array (Option Value)} {oc_need_share kV_need_share dc_need_share pm_need_share cd_need_share ct_need_share : Value} {f_times : Addr} {od_times an_times : Option Addr} {sl_times : Array (Option Value)} {oc_times kV_times dc_times pm_times cd_times ct_times : Value} {f_inverse : Addr} {od_inverse an_inverse : Option Addr} {sl_inverse : Array (Option Value)} {oc_inverse kV_inverse dc_inverse pm_inverse cd_inverse ct_inverse : Value} {f_order_of : Addr} {od_order_of an_order_of : Option Addr} {sl_order_of : Array (Option Value)} {oc_order_of kV_order_of dc_order_of pm_order_of cd_order_of ct_order_of : Value} {f_power : Addr} {od_power an_power : Option Addr} {sl_power : Array (Option Value)} {oc_power kV_power dc_power pm_power cd_power ct_power : Value} {f_generated : Addr} {od_generated an_generated : Option Addr} {sl_generated : Array (Option Value)} {oc_generated kV_generated dc_generated pm_generated cd_generated ct_generated : Value} {f_opposite : Addr} {od_opposite an_opposite : Option Addr} {sl_opposite : Array (Option Value)} {oc_opposite kV_opposite dc_opposite pm_opposite cd_opposite ct_opposite : Value} {f_centre : Addr} {od_centre an_centre : Option Addr} {sl_centre : Array (Option Value)} {oc_centre kV_centre dc_centre pm_centre cd_centre ct_centre : Value} {f_is_commutative : Addr} {od_is_commutative an_is_commutative : Option Addr} {sl_is_commutative : Array (Option Value)} {oc_is_commutative kV_is_commutative dc_is_commutative pm_is_commutative cd_is_commutative ct_is_commutative : Value} {f__law_heap : Addr} {od__law_heap an__law_heap : Option Addr} {sl__law_heap : Array (Option Value)} {oc__law_heap kV__law_heap dc__law_heap pm__law_heap cd__law_heap ct__law_heap : Value} {f__law_draw : Addr} {od__law_draw an__law_draw : Option Addr} {sl__law_draw : Array (Option Value)} {oc__law_draw kV__law_draw dc__law_draw pm__law_draw cd__law_draw ct__law_draw : Value} {f__law_pick : Addr} {od__law_pick an__law_pick : Option Addr} {sl__law_pick : Array (Option Value)} {oc__law_pick kV__law_pick dc__law_pick pm__law_pick cd__law_pick ct__law_pick : Value} {f__law_order : Addr} {od__law_order an__law_order : Option Addr} {sl__law_order : Array (Option Value)} {oc__law_order kV__law_order dc__law_order pm__law_order cd__law_order ct__law_order : Value} {f__law_table : Addr} {od__law_table an__law_table : Option Addr} {sl__law_table : Array (Option Value)} {oc__law_table kV__law_table dc__law_table pm__law_table cd__law_table ct__law_table : Value} {f__law_renamed : Addr} {od__law_renamed an__law_renamed : Option Addr} {sl__law_renamed : Array (Option Value)} {oc__law_renamed kV__law_renamed dc__law_renamed pm__law_renamed cd__law_renamed ct__law_renamed : Value} {f__law_group : Addr} {od__law_group an__law_group : Option Addr} {sl__law_group : Array (Option Value)} {oc__law_group kV__law_group dc__law_group pm__law_group cd__law_group ct__law_group : Value} {f__law_powers : Addr} {od__law_powers an__law_powers : Option Addr} {sl__law_powers : Array (Option Value)} {oc__law_powers kV__law_powers dc__law_powers pm__law_powers cd__law_powers ct__law_powers : Value} {f__law_closed : Addr} {od__law_closed an__law_closed : Option Addr} {sl__law_closed : Array (Option Value)} {oc__law_closed kV__law_closed dc__law_closed pm__law_closed cd__law_closed ct__law_closed : Value} {f__law_refused : Addr} {od__law_refused an__law_refused : Option Addr} {sl__law_refused : Array (Option Value)} {oc__law_refused kV__law_refused dc__law_refused pm__law_refused cd__law_refused ct__law_refused : Value} {f_law : Addr} {od_law an_law : Option Addr} {sl_law : Array (Option Value)} {oc_law kV_law dc_law pm_law cd_law ct_law : Value} {A_InvalidNumber : Addr} {A_StoreError : Addr} {nm_InvalidNumber qn_InvalidNumber : Str} {N_InvalidNumber : Addr} {bs_InvalidNumber : List Value} {sn_InvalidNumber : List Str} {sb_InvalidNumber : List Value} {ab_InvalidNumber : Bool} {co_InvalidNumber : Option Bool} {dd_InvalidNumber : Option Addr} {m0_InvalidNumber m1_InvalidNumber m2_InvalidNumber m3_InvalidNumber m5_InvalidNumber : Option Value} {fI_InvalidNumber cda_InvalidNumber cc_InvalidNumber : Addr} {odI_InvalidNumber anI_InvalidNumber cdd_InvalidNumber cld_InvalidNumber : Option Addr} {slI_InvalidNumber ccs_InvalidNumber csl_InvalidNumber : Array (Option Value)} {ocI_InvalidNumber dV_InvalidNumber kVI_InvalidNumber dcI_InvalidNumber pmI_InvalidNumber ctI_InvalidNumber ccl_InvalidNumber cl_InvalidNumber : Value} {vs_InvalidNumber : Array Value} {file_InvalidNumber : Str} {tf_InvalidNumber : Tok} {cdt_InvalidNumber : ClassData}
    (a_is_integer : PySem.W.nsIn K mainGlobals "is_integer" = some (some (.ref f_is_integer))) (l_is_integer : K.lookup f_is_integer = some ⟨oc_is_integer, od_is_integer, .func (PySem.W.fnOf "is_integer" "is_integer" (defArgs s_is_integer) (defBody s_is_integer) (defScope s_is_integer) .none kV_is_integer dc_is_integer pm_is_integer an_is_integer cd_is_integer ct_is_integer), sl_is_integer⟩) (d_is_integer : PySem.W.codeIn K cd_is_integer "is_integer" = true) (k_is_integer : PySem.W.keepIn K (.ref f_is_integer) = true) (a_is_number : PySem.W.nsIn K mainGlobals "is_number" = some (some (.ref f_is_number))) (l_is_number : K.lookup f_is_number = some ⟨oc_is_number, od_is_number, .func (PySem.W.fnOf "is_number" "is_number" (defArgs s_is_number) (defBody s_is_number) (defScope s_is_number) .none kV_is_number dc_is_number pm_is_number an_is_number cd_is_number ct_is_number), sl_is_number⟩) (d_is_number : PySem.W.codeIn K cd_is_number "is_number" = true) (k_is_number : PySem.W.keepIn K (.ref f_is_number) = true) (a_is_below : PySem.W.nsIn K mainGlobals "is_below" = some (some (.ref f_is_below))) (l_is_below : K.lookup f_is_below = some ⟨oc_is_below, od_is_below, .func (PySem.W.fnOf "is_below" "is_below" (defArgs s_is_below) (defBody s_is_below) (defScope s_is_below) .none kV_is_below dc_is_below pm_is_below an_is_below cd_is_below ct_is_below), sl_is_below⟩) (d_is_below : PySem.W.codeIn K cd_is_below "is_below" = true) (k_is_below : PySem.W.keepIn K (.ref f_is_below) = true) (a_need_share : PySem.W.nsIn K mainGlobals "need_share" = some (some (.ref f_need_share))) (l_need_share : K.lookup f_need_share = some ⟨oc_need_share, od_need_share, .func (PySem.W.fnOf "need_share" "need_share" (defArgs s_need_share) (defBody s_need_share) (defScope s_need_share) .none kV_need_share dc_need_share pm_need_share an_need_share cd_need_share ct_need_share), sl_need_share⟩) (d_need_share : PySem.W.codeIn K cd_need_share "need_share" = true) (k_need_share : PySem.W.keepIn K (.ref f_need_share) = true) (a_times : PySem.W.nsIn K mainGlobals "times" = some (some (.ref f_times))) (l_times : K.lookup f_times = some ⟨oc_times, od_times, .func (PySem.W.fnOf "times" "times" (defArgs s_times) (defBody s_times) (defScope s_times) .none kV_times dc_times pm_times an_times cd_times ct_times), sl_times⟩) (d_times : PySem.W.codeIn K cd_times "times" = true) (k_times : PySem.W.keepIn K (.ref f_times) = true) (a_inverse : PySem.W.nsIn K mainGlobals "inverse" = some (some (.ref f_inverse))) (l_inverse : K.lookup f_inverse = some ⟨oc_inverse, od_inverse, .func (PySem.W.fnOf "inverse" "inverse" (defArgs s_inverse) (defBody s_inverse) (defScope s_inverse) .none kV_inverse dc_inverse pm_inverse an_inverse cd_inverse ct_inverse), sl_inverse⟩) (d_inverse : PySem.W.codeIn K cd_inverse "inverse" = true) (k_inverse : PySem.W.keepIn K (.ref f_inverse) = true) (a_order_of : PySem.W.nsIn K mainGlobals "order_of" = some (some (.ref f_order_of))) (l_order_of : K.lookup f_order_of = some ⟨oc_order_of, od_order_of, .func (PySem.W.fnOf "order_of" "order_of" (defArgs s_order_of) (defBody s_order_of) (defScope s_order_of) .none kV_order_of dc_order_of pm_order_of an_order_of cd_order_of ct_order_of), sl_order_of⟩) (d_order_of : PySem.W.codeIn K cd_order_of "order_of" = true) (k_order_of : PySem.W.keepIn K (.ref f_order_of) = true) (a_power : PySem.W.nsIn K mainGlobals "power" = some (some (.ref f_power))) (l_power : K.lookup f_power = some ⟨oc_power, od_power, .func (PySem.W.fnOf "power" "power" (defArgs s_power) (defBody s_power) (defScope s_power) .none kV_power dc_power pm_power an_power cd_power ct_power), sl_power⟩) (d_power : PySem.W.codeIn K cd_power "power" = true) (k_power : PySem.W.keepIn K (.ref f_power) = true) (a_generated : PySem.W.nsIn K mainGlobals "generated" = some (some (.ref f_generated))) (l_generated : K.lookup f_generated = some ⟨oc_generated, od_generated, .func (PySem.W.fnOf "generated" "generated" (defArgs s_generated) (defBody s_generated) (defScope s_generated) .none kV_generated dc_generated pm_generated an_generated cd_generated ct_generated), sl_generated⟩) (d_generated : PySem.W.codeIn K cd_generated "generated" = true) (k_generated : PySem.W.keepIn K (.ref f_generated) = true) (a_opposite : PySem.W.nsIn K mainGlobals "opposite" = some (some (.ref f_opposite))) (l_opposite : K.lookup f_opposite = some ⟨oc_opposite, od_opposite, .func (PySem.W.fnOf "opposite" "opposite" (defArgs s_opposite) (defBody s_opposite) (defScope s_opposite) .none kV_opposite dc_opposite pm_opposite an_opposite cd_opposite ct_opposite), sl_opposite⟩) (d_opposite : PySem.W.codeIn K cd_opposite "opposite" = true) (k_opposite : PySem.W.keepIn K (.ref f_opposite) = true) (a_centre : PySem.W.nsIn K mainGlobals "centre" = some (some (.ref f_centre))) (l_centre : K.lookup f_centre = some ⟨oc_centre, od_centre, .func (PySem.W.fnOf "centre" "centre" (defArgs s_centre) (defBody s_centre) (defScope s_centre) .none kV_centre dc_centre pm_centre an_centre cd_centre ct_centre), sl_centre⟩) (d_centre : PySem.W.codeIn K cd_centre "centre" = true) (k_centre : PySem.W.keepIn K (.ref f_centre) = true) (a_is_commutative : PySem.W.nsIn K mainGlobals "is_commutative" = some (some (.ref f_is_commutative))) (l_is_commutative : K.lookup f_is_commutative = some ⟨oc_is_commutative, od_is_commutative, .func (PySem.W.fnOf "is_commutative" "is_commutative" (defArgs s_is_commutative) (defBody s_is_commutative) (defScope s_is_commutative) .none kV_is_commutative dc_is_commutative pm_is_commutative an_is_commutative cd_is_commutative ct_is_commutative), sl_is_commutative⟩) (d_is_commutative : PySem.W.codeIn K cd_is_commutative "is_commutative" = true) (k_is_commutative : PySem.W.keepIn K (.ref f_is_commutative) = true) (a__law_heap : PySem.W.nsIn K mainGlobals "_law_heap" = some (some (.ref f__law_heap))) (l__law_heap : K.lookup f__law_heap = some ⟨oc__law_heap, od__law_heap, .func (PySem.W.fnOf "_law_heap" "_law_heap" (defArgs s__law_heap) (defBody s__law_heap) (defScope s__law_heap) .none kV__law_heap dc__law_heap pm__law_heap an__law_heap cd__law_heap ct__law_heap), sl__law_heap⟩) (d__law_heap : PySem.W.codeIn K cd__law_heap "_law_heap" = true) (k__law_heap : PySem.W.keepIn K (.ref f__law_heap) = true) (a__law_draw : PySem.W.nsIn K mainGlobals "_law_draw" = some (some (.ref f__law_draw))) (l__law_draw : K.lookup f__law_draw = some ⟨oc__law_draw, od__law_draw, .func (PySem.W.fnOf "_law_draw" "_law_draw" (defArgs s__law_draw) (defBody s__law_draw) (defScope s__law_draw) .none kV__law_draw dc__law_draw pm__law_draw an__law_draw cd__law_draw ct__law_draw), sl__law_draw⟩) (d__law_draw : PySem.W.codeIn K cd__law_draw "_law_draw" = true) (k__law_draw : PySem.W.keepIn K (.ref f__law_draw) = true) (a__law_pick : PySem.W.nsIn K mainGlobals "_law_pick" = some (some (.ref f__law_pick))) (l__law_pick : K.lookup f__law_pick = some ⟨oc__law_pick, od__law_pick, .func (PySem.W.fnOf "_law_pick" "_law_pick" (defArgs s__law_pick) (defBody s__law_pick) (defScope s__law_pick) .none kV__law_pick dc__law_pick pm__law_pick an__law_pick cd__law_pick ct__law_pick), sl__law_pick⟩) (d__law_pick : PySem.W.codeIn K cd__law_pick "_law_pick" = true) (k__law_pick : PySem.W.keepIn K (.ref f__law_pick) = true) (a__law_order : PySem.W.nsIn K mainGlobals "_law_order" = some (some (.ref f__law_order))) (l__law_order : K.lookup f__law_order = some ⟨oc__law_order, od__law_order, .func (PySem.W.fnOf "_law_order" "_law_order" (defArgs s__law_order) (defBody s__law_order) (defScope s__law_order) .none kV__law_order dc__law_order pm__law_order an__law_order cd__law_order ct__law_order), sl__law_order⟩) (d__law_order : PySem.W.codeIn K cd__law_order "_law_order" = true) (k__law_order : PySem.W.keepIn K (.ref f__law_order) = true) (a__law_table : PySem.W.nsIn K mainGlobals "_law_table" = some (some (.ref f__law_table))) (l__law_table : K.lookup f__law_table = some ⟨oc__law_table, od__law_table, .func (PySem.W.fnOf "_law_table" "_law_table" (defArgs s__law_table) (defBody s__law_table) (defScope s__law_table) .none kV__law_table dc__law_table pm__law_table an__law_table cd__law_table ct__law_table), sl__law_table⟩) (d__law_table : PySem.W.codeIn K cd__law_table "_law_table" = true) (k__law_table : PySem.W.keepIn K (.ref f__law_table) = true) (a__law_renamed : PySem.W.nsIn K mainGlobals "_law_renamed" = some (some (.ref f__law_renamed))) (l__law_renamed : K.lookup f__law_renamed = some ⟨oc__law_renamed, od__law_renamed, .func (PySem.W.fnOf "_law_renamed" "_law_renamed" (defArgs s__law_renamed) (defBody s__law_renamed) (defScope s__law_renamed) .none kV__law_renamed dc__law_renamed pm__law_renamed an__law_renamed cd__law_renamed ct__law_renamed), sl__law_renamed⟩) (d__law_renamed : PySem.W.codeIn K cd__law_renamed "_law_renamed" = true) (k__law_renamed : PySem.W.keepIn K (.ref f__law_renamed) = true) (a__law_group : PySem.W.nsIn K mainGlobals "_law_group" = some (some (.ref f__law_group))) (l__law_group : K.lookup f__law_group = some ⟨oc__law_group, od__law_group, .func (PySem.W.fnOf "_law_group" "_law_group" (defArgs s__law_group) (defBody s__law_group) (defScope s__law_group) .none kV__law_group dc__law_group pm__law_group an__law_group cd__law_group ct__law_group), sl__law_group⟩) (d__law_group : PySem.W.codeIn K cd__law_group "_law_group" = true) (k__law_group : PySem.W.keepIn K (.ref f__law_group) = true) (a__law_powers : PySem.W.nsIn K mainGlobals "_law_powers" = some (some (.ref f__law_powers))) (l__law_powers : K.lookup f__law_powers = some ⟨oc__law_powers, od__law_powers, .func (PySem.W.fnOf "_law_powers" "_law_powers" (defArgs s__law_powers) (defBody s__law_powers) (defScope s__law_powers) .none kV__law_powers dc__law_powers pm__law_powers an__law_powers cd__law_powers ct__law_powers), sl__law_powers⟩) (d__law_powers : PySem.W.codeIn K cd__law_powers "_law_powers" = true) (k__law_powers : PySem.W.keepIn K (.ref f__law_powers) = true) (a__law_closed : PySem.W.nsIn K mainGlobals "_law_closed" = some (some (.ref f__law_closed))) (l__law_closed : K.lookup f__law_closed = some ⟨oc__law_closed, od__law_closed, .func (PySem.W.fnOf "_law_closed" "_law_closed" (defArgs s__law_closed) (defBody s__law_closed) (defScope s__law_closed) .none kV__law_closed dc__law_closed pm__law_closed an__law_closed cd__law_closed ct__law_closed), sl__law_closed⟩) (d__law_closed : PySem.W.codeIn K cd__law_closed "_law_closed" = true) (k__law_closed : PySem.W.keepIn K (.ref f__law_closed) = true) (a__law_refused : PySem.W.nsIn K mainGlobals "_law_refused" = some (some (.ref f__law_refused))) (l__law_refused : K.lookup f__law_refused = some ⟨oc__law_refused, od__law_refused, .func (PySem.W.fnOf "_law_refused" "_law_refused" (defArgs s__law_refused) (defBody s__law_refused) (defScope s__law_refused) .none kV__law_refused dc__law_refused pm__law_refused an__law_refused cd__law_refused ct__law_refused), sl__law_refused⟩) (d__law_refused : PySem.W.codeIn K cd__law_refused "_law_refused" = true) (k__law_refused : PySem.W.keepIn K (.ref f__law_refused) = true) (a_law : PySem.W.nsIn K mainGlobals "law" = some (some (.ref f_law))) (l_law : K.lookup f_law = some ⟨oc_law, od_law, .func (PySem.W.fnOf "law" "law" (defArgs s_law) (defBody s_law) (defScope s_law) .none kV_law dc_law pm_law an_law cd_law ct_law), sl_law⟩) (d_law : PySem.W.codeIn K cd_law "law" = true) (k_law : PySem.W.keepIn K (.ref f_law) = true) (y_abs : PySem.W.nsIn K mainGlobals "abs" = some none) (y_bool : PySem.W.nsIn K mainGlobals "bool" = some none) (y_int : PySem.W.nsIn K mainGlobals "int" = some none) (y_isinstance : PySem.W.nsIn K mainGlobals "isinstance" = some none) (y_len : PySem.W.nsIn K mainGlobals "len" = some none) (y_list : PySem.W.nsIn K mainGlobals "list" = some none) (y_range : PySem.W.nsIn K mainGlobals "range" = some none) (y_repr : PySem.W.nsIn K mainGlobals "repr" = some none) (y_sorted : PySem.W.nsIn K mainGlobals "sorted" = some none) (y_str : PySem.W.nsIn K mainGlobals "str" = some none) (y_tuple : PySem.W.nsIn K mainGlobals "tuple" = some none) (y_super : PySem.W.nsIn K mainGlobals "super" = some none) (aC_InvalidNumber : PySem.W.nsIn K mainGlobals "InvalidNumber" = some (some (.ref A_InvalidNumber))) (aC_StoreError : PySem.W.nsIn K mainGlobals "StoreError" = some (some (.ref A_StoreError))) (x1_InvalidNumber : K.lookup A_InvalidNumber = some (excClassObj nm_InvalidNumber qn_InvalidNumber A_InvalidNumber N_InvalidNumber bs_InvalidNumber [.ref A_StoreError, .type "ValueError", .type "Exception", .type "BaseException", .type "object"] true sn_InvalidNumber sb_InvalidNumber ab_InvalidNumber co_InvalidNumber dd_InvalidNumber m0_InvalidNumber m1_InvalidNumber m2_InvalidNumber m3_InvalidNumber m5_InvalidNumber "ValueError.__new__")) (x2_InvalidNumber : PySem.W.findIn K (.ref A_InvalidNumber) "__setattr__" = some (some (.builtin "object.__setattr__"))) (x3_InvalidNumber : PySem.W.subIn K (.ref A_InvalidNumber) (.type "BaseException") = some true) (x4_InvalidNumber : PySem.W.typeIn K (.ref A_InvalidNumber) = some (.type "type")) (x5_InvalidNumber : PySem.W.keepIn K (.ref A_InvalidNumber) = true) (x6_InvalidNumber : PySem.W.findIn K (.ref A_InvalidNumber) "__init__" = some (some (.ref fI_InvalidNumber))) (x7_InvalidNumber : PySem.W.typeIn K (.ref fI_InvalidNumber) = some (.type "function")) (x8_InvalidNumber : K.lookup fI_InvalidNumber = some ⟨ocI_InvalidNumber, odI_InvalidNumber, .func (PySem.W.ksFn "__init__" "InvalidNumber.__init__" (defArgs (clsDef (topS 2) 0)) (defBody (clsDef (topS 2) 0)) (defScope (clsDef (topS 2) 0)) dV_InvalidNumber kVI_InvalidNumber dcI_InvalidNumber pmI_InvalidNumber anI_InvalidNumber (.ref cda_InvalidNumber) ctI_InvalidNumber cc_InvalidNumber), slI_InvalidNumber⟩) (x9_InvalidNumber : PySem.W.codeIn K (.ref cda_InvalidNumber) "InvalidNumber.__init__" = true) (xa_InvalidNumber : K.lookup cda_InvalidNumber = some ⟨ccl_InvalidNumber, cdd_InvalidNumber, .fields vs_InvalidNumber, ccs_InvalidNumber⟩) (xb_InvalidNumber : vs_InvalidNumber[2]? = some (.str file_InvalidNumber tf_InvalidNumber)) (xc_InvalidNumber : ((l.prog.main.file : Str) == file_InvalidNumber) = true) (xd_InvalidNumber : K.lookup cc_InvalidNumber = some ⟨cl_InvalidNumber, cld_InvalidNumber, .cell (some (.ref A_InvalidNumber)), csl_InvalidNumber⟩) (xe_InvalidNumber : PySem.W.clsIn K A_InvalidNumber = some cdt_InvalidNumber) (xf_InvalidNumber : PySem.W.mroIn K A_InvalidNumber (.ref A_InvalidNumber) = some true) (xg_InvalidNumber : PySem.W.ks_superIn K A_InvalidNumber A_InvalidNumber "__init__" = some (some (.builtin "ValueError.__init__"))) (xh_InvalidNumber : PySem.W.subIn K (.ref A_InvalidNumber) (.type "ValueError") = some true) (xi_InvalidNumber : PySem.W.excInitIn K A_InvalidNumber [.type "ValueError", .type "Exception", .type "BaseException", .type "object"] "ValueError.__new__" = true) (xj_InvalidNumber : PySem.W.findIn K (.ref A_InvalidNumber) "word" = some none) (xl_InvalidNumber : dV_InvalidNumber = .none) (w1 : PySem.W.nsIn K cStatics "thirdparty.any" = some none) (w2 : (l.prog.main.scope.names.lookup ("super" : Str)).isSome = false) (e1_InvalidNumber : PySem.W.findIn K (.ref A_InvalidNumber) "__getattribute__" = some (some (.builtin "BaseException.__getattribute__"))) (e2_InvalidNumber : PySem.W.findIn K (.ref A_InvalidNumber) "__getattr__" = some none) (e3_InvalidNumber : PySem.W.hasDictIn K A_InvalidNumber = true) (e4_InvalidNumber : PySem.W.findIn K (.ref A_InvalidNumber) "__class__" = some (some (.builtin "object.__class__"))) (e5_InvalidNumber : PySem.W.mroIn K A_InvalidNumber (.type "object") = some true) (e6_InvalidNumber : PySem.W.subIn K (.ref A_InvalidNumber) (.type "BaseException") = some true) (e7_InvalidNumber : PySem.W.exmOne K (.ref A_InvalidNumber) (.ref A_InvalidNumber) = some true) (e8_InvalidNumber_word : PySem.W.findIn K (.ref A_InvalidNumber) "word" = some none) (v1 : PySem.W.specialIn K (.builtin "object.__class__") "__get__" = some (some (.builtin "getset_descriptor.__get__"))) (v2 : PySem.W.takesIn K (.builtin "object.__class__") = some true)
    (hend : ∀ (A_InvalidNumber : Addr) (ns : List Int), ns.length ≤ 63 → ∃ outs, (F_law A_InvalidNumber) [.ow (.fr (.scr ns))] = some (.ret (.fr (.bl true)) outs)) :
    ∃ fd : FuncData, (∀ (s : Shared) (v : Value), BindsTo s fd ⟨[v], []⟩ [("_law_script", v)]) ∧ ∀ base : Heap, K.In base → base.Ns mainGlobals mg → FnG l.prog w K mg base 8 fa fd ["_law_script"] (fun vs H Q E => ∃ (a : Addr) (ns : List Int), vs = [.ref a] ∧ ns.length ≤ 63 ∧ SqL K H a (ns.map V.int) ∧ Q = (fun v _ => v = .bl true) ∧ E = fun _ _ _ => False) := by
  have e := hfa.symm.trans (PySem.W.mg_of X G a_law)
  cases e
  have z_abs := PySem.W.mg_none_of X G y_abs
  have z_bool := PySem.W.mg_none_of X G y_bool
  have z_int := PySem.W.mg_none_of X G y_int
  have z_isinstance := PySem.W.mg_none_of X G y_isinstance
  have z_len := PySem.W.mg_none_of X G y_len
  have z_list := PySem.W.mg_none_of X G y_list
  have z_range := PySem.W.mg_none_of X G y_range
  have z_repr := PySem.W.mg_none_of X G y_repr
  have z_sorted := PySem.W.mg_none_of X G y_sorted
  have z_str := PySem.W.mg_none_of X G y_str
  have z_tuple := PySem.W.mg_none_of X G y_tuple
  have z_super := PySem.W.mg_none_of X G y_super
  have g_InvalidNumber := PySem.W.mg_of X G aC_InvalidNumber
  have g_StoreError := PySem.W.mg_of X G aC_StoreError
  have q_is_integer := fun_mk (st := s_is_integer) l_is_integer d_is_integer k_is_integer
  have q_is_number := fun_mk (st := s_is_number) l_is_number d_is_number k_is_number
  have q_is_below := fun_mk (st := s_is_below) l_is_below d_is_below k_is_below
  have q_need_share := fun_mk (st := s_need_share) l_need_share d_need_share k_need_share
  have q_times := fun_mk (st := s_times) l_times d_times k_times
  have q_inverse := fun_mk (st := s_inverse) l_inverse d_inverse k_inverse
  have q_order_of := fun_mk (st := s_order_of) l_order_of d_order_of k_order_of
  have q_power := fun_mk (st := s_power) l_power d_power k_power
  have q_generated := fun_mk (st := s_generated) l_generated d_generated k_generated
  have q_opposite := fun_mk (st := s_opposite) l_opposite d_opposite k_opposite
  have q_centre := fun_mk (st := s_centre) l_centre d_centre k_centre
  have q_is_commutative := fun_mk (st := s_is_commutative) l_is_commutative d_is_commutative k_is_commutative
  have q__law_heap := fun_mk (st := s__law_heap) l__law_heap d__law_heap k__law_heap
  have q__law_draw := fun_mk (st := s__law_draw) l__law_draw d__law_draw k__law_draw
  have q__law_pick := fun_mk (st := s__law_pick) l__law_pick d__law_pick k__law_pick
  have q__law_order := fun_mk (st := s__law_order) l__law_order d__law_order k__law_order
  have q__law_table := fun_mk (st := s__law_table) l__law_table d__law_table k__law_table
  have q__law_renamed := fun_mk (st := s__law_renamed) l__law_renamed d__law_renamed k__law_renamed
  have q__law_group := fun_mk (st := s__law_group) l__law_group d__law_group k__law_group
  have q__law_powers := fun_mk (st := s__law_powers) l__law_powers d__law_powers k__law_powers
  have q__law_closed := fun_mk (st := s__law_closed) l__law_closed d__law_closed k__law_closed
  have q__law_refused := fun_mk (st := s__law_refused) l__law_refused d__law_refused k__law_refused
  have q_law := fun_mk (st := s_law) l_law d_law k_law
  have xff_InvalidNumber : XfC K A_InvalidNumber := ⟨e1_InvalidNumber, e2_InvalidNumber, e6_InvalidNumber, e3_InvalidNumber⟩
  have xcc_InvalidNumber : ExcC K A_InvalidNumber := ⟨e1_InvalidNumber, e2_InvalidNumber, e6_InvalidNumber, e3_InvalidNumber, e4_InvalidNumber, v1, v2, e5_InvalidNumber⟩
  have b_is_integer : Binds K _ ["value"] [] := q_is_integer.binds (ps := ["value"]) fun _ _ _ _ _ _ us hl => match us, hl with | [_], _ => rfl
  have b_is_number : Binds K _ ["value"] [] := q_is_number.binds (ps := ["value"]) fun _ _ _ _ _ _ us hl => match us, hl with | [_], _ => rfl
  have b_is_below : Binds K _ ["value", "bound"] [] := q_is_below.binds (ps := ["value", "bound"]) fun _ _ _ _ _ _ us hl => match us, hl with | [_, _], _ => rfl
  have b_need_share : Binds K _ ["table", "value"] [] := q_need_share.binds (ps := ["table", "value"]) fun _ _ _ _ _ _ us hl => match us, hl with | [_, _], _ => rfl
  have b_times : Binds K _ ["table", "one", "two"] [] := q_times.binds (ps := ["table", "one", "two"]) fun _ _ _ _ _ _ us hl => match us, hl with | [_, _, _], _ => rfl
  have b_inverse : Binds K _ ["table", "one"] [] := q_inverse.binds (ps := ["table", "one"]) fun _ _ _ _ _ _ us hl => match us, hl with | [_, _], _ => rfl
  have b_order_of : Binds K _ ["table", "one"] [] := q_order_of.binds (ps := ["table", "one"]) fun _ _ _ _ _ _ us hl => match us, hl with | [_, _], _ => rfl
  have b_power : Binds K _ ["table", "one", "many"] [] := q_power.binds (ps := ["table", "one", "many"]) fun _ _ _ _ _ _ us hl => match us, hl with | [_, _, _], _ => rfl
  have b_generated : Binds K _ ["table", "shares"] [] := q_generated.binds (ps := ["table", "shares"]) fun _ _ _ _ _ _ us hl => match us, hl with | [_, _], _ => rfl
  have b_opposite : Binds K _ ["table"] [] := q_opposite.binds (ps := ["table"]) fun _ _ _ _ _ _ us hl => match us, hl with | [_], _ => rfl
  have b_centre : Binds K _ ["table"] [] := q_centre.binds (ps := ["table"]) fun _ _ _ _ _ _ us hl => match us, hl with | [_], _ => rfl
  have b_is_commutative : Binds K _ ["table"] [] := q_is_commutative.binds (ps := ["table"]) fun _ _ _ _ _ _ us hl => match us, hl with | [_], _ => rfl
  have b__law_heap : Binds K _ ["_law_script", "_law_base"] [] := q__law_heap.binds (ps := ["_law_script", "_law_base"]) fun _ _ _ _ _ _ us hl => match us, hl with | [_, _], _ => rfl
  have b__law_draw : Binds K _ ["_law_heap_here", "_law_many"] [] := q__law_draw.binds (ps := ["_law_heap_here", "_law_many"]) fun _ _ _ _ _ _ us hl => match us, hl with | [_, _], _ => rfl
  have b__law_pick : Binds K _ ["_law_heap_here", "_law_some"] [] := q__law_pick.binds (ps := ["_law_heap_here", "_law_some"]) fun _ _ _ _ _ _ us hl => match us, hl with | [_, _], _ => rfl
  have b__law_order : Binds K _ ["_law_heap_here", "_law_many"] [] := q__law_order.binds (ps := ["_law_heap_here", "_law_many"]) fun _ _ _ _ _ _ us hl => match us, hl with | [_, _], _ => rfl
  have b__law_table : Binds K _ ["_law_kind"] [] := q__law_table.binds (ps := ["_law_kind"]) fun _ _ _ _ _ _ us hl => match us, hl with | [_], _ => rfl
  have b__law_renamed : Binds K _ ["_law_table_here", "_law_names"] [] := q__law_renamed.binds (ps := ["_law_table_here", "_law_names"]) fun _ _ _ _ _ _ us hl => match us, hl with | [_, _], _ => rfl
  have b__law_group : Binds K _ ["_law_heap_here", "_law_most"] [] := q__law_group.binds (ps := ["_law_heap_here", "_law_most"]) fun _ _ _ _ _ _ us hl => match us, hl with | [_, _], _ => rfl
  have b__law_powers : Binds K _ ["_law_table_here", "_law_one"] [] := q__law_powers.binds (ps := ["_law_table_here", "_law_one"]) fun _ _ _ _ _ _ us hl => match us, hl with | [_, _], _ => rfl
  have b__law_closed : Binds K _ ["_law_table_here", "_law_some"] [] := q__law_closed.binds (ps := ["_law_table_here", "_law_some"]) fun _ _ _ _ _ _ us hl => match us, hl with | [_, _], _ => rfl
  have b__law_refused : Binds K _ ["_law_table_here", "_law_one", "_law_two", "_law_many", "_law_shares"] [] := q__law_refused.binds (ps := ["_law_table_here", "_law_one", "_law_two", "_law_many", "_law_shares"]) fun _ _ _ _ _ _ us hl => match us, hl with | [_, _, _, _, _], _ => rfl
  have b_law : Binds K _ ["_law_script"] [] := q_law.binds (ps := ["_law_script"]) fun _ _ _ _ _ _ us hl => match us, hl with | [_], _ => rfl
  refine ⟨PySem.W.fnOf "law" "law" (defArgs s_law) (defBody s_law) (defScope s_law) .none kV_law dc_law pm_law an_law cd_law ct_law, fun s v => .of_eq rfl, fun base _ _ => ?_⟩
  subst xl_InvalidNumber
  have o_InvalidNumber : OexC K A_InvalidNumber := oex_mk x1_InvalidNumber (by rfl) x2_InvalidNumber x3_InvalidNumber x4_InvalidNumber x5_InvalidNumber
  have i_InvalidNumber : FnOk l.prog w K mg base (fun _ _ _ _ _ _ => False) 1 fI_InvalidNumber _ ["self", "word"] (spI A_InvalidNumber "word") := init_ok (k := 0) (name := "__init__") (qual := "InvalidNumber.__init__") (params := defArgs (clsDef (topS 2) 0)) (scope := defScope (clsDef (topS 2) 0)) o_InvalidNumber x8_InvalidNumber x9_InvalidNumber rfl rfl xa_InvalidNumber xb_InvalidNumber xc_InvalidNumber xd_InvalidNumber xe_InvalidNumber xf_InvalidNumber w1 xg_InvalidNumber xh_InvalidNumber xi_InvalidNumber xj_InvalidNumber z_super rfl rfl rfl rfl rfl w2 (by decide +kernel) rfl rfl (by decide) (by decide) (fun _ => rfl) (fun _ => rfl) (fun _ => rfl) (fun _ => rfl) (fun _ => rfl)
  have x_InvalidNumber : XC l.prog w K mg base "InvalidNumber" "word" A_InvalidNumber fI_InvalidNumber _ := ⟨o_InvalidNumber, x6_InvalidNumber, x7_InvalidNumber, i_InvalidNumber, .all fun us hl => match us, hl with | [_, _], _ => rfl, g_InvalidNumber⟩
  have O_is_integer := ok_is_integer (P := l.prog) (w := w) (mg := mg) (base := base) q_is_integer z_bool z_int z_isinstance
  have C_is_integer : CalG l.prog w K mg base 1 "is_integer" 1 F_is_integer := ⟨_, _, _, rfl, O_is_integer, PySem.W.mg_of X G a_is_integer, k_is_integer, b_is_integer⟩
  have O_is_number := ok_is_number (P := l.prog) (w := w) (mg := mg) (base := base) q_is_number C_is_integer
  have C_is_number : CalG l.prog w K mg base 2 "is_number" 1 F_is_number := ⟨_, _, _, rfl, O_is_number, PySem.W.mg_of X G a_is_number, k_is_number, b_is_number⟩
  have O_is_below := ok_is_below (P := l.prog) (w := w) (mg := mg) (base := base) q_is_below C_is_number
  have C_is_below : CalG l.prog w K mg base 3 "is_below" 2 F_is_below := ⟨_, _, _, rfl, O_is_below, PySem.W.mg_of X G a_is_below, k_is_below, b_is_below⟩
  have O_need_share := ok_need_share (P := l.prog) (w := w) (mg := mg) (base := base) q_need_share z_len x_InvalidNumber C_is_below
  have C_need_share : CalG l.prog w K mg base 4 "need_share" 2 F_need_share := ⟨_, _, _, rfl, O_need_share, PySem.W.mg_of X G a_need_share, k_need_share, b_need_share⟩
  have O_times := ok_times (P := l.prog) (w := w) (mg := mg) (base := base) q_times C_need_share
  have C_times : CalG l.prog w K mg base 5 "times" 3 F_times := ⟨_, _, _, rfl, O_times, PySem.W.mg_of X G a_times, k_times, b_times⟩
  have K_times_210 : KwG l.prog w K mg base 5 "times" ["two", "one", "table"] [2, 1, 0] 3 F_times := ⟨_, _, _, rfl, O_times, PySem.W.mg_of X G a_times, k_times, kb_mk q_times (fun _ _ _ _ _ _ us hl => match us, hl with | [_, _, _], _ => rfl), rfl⟩
  have O_inverse := ok_inverse (P := l.prog) (w := w) (mg := mg) (base := base) q_inverse C_need_share
  have C_inverse : CalG l.prog w K mg base 5 "inverse" 2 F_inverse := ⟨_, _, _, rfl, O_inverse, PySem.W.mg_of X G a_inverse, k_inverse, b_inverse⟩
  have K_inverse_10 : KwG l.prog w K mg base 5 "inverse" ["one", "table"] [1, 0] 2 F_inverse := ⟨_, _, _, rfl, O_inverse, PySem.W.mg_of X G a_inverse, k_inverse, kb_mk q_inverse (fun _ _ _ _ _ _ us hl => match us, hl with | [_, _], _ => rfl), rfl⟩
  have O_order_of := ok_order_of (P := l.prog) (w := w) (mg := mg) (base := base) q_order_of C_need_share
  have C_order_of : CalG l.prog w K mg base 5 "order_of" 2 F_order_of := ⟨_, _, _, rfl, O_order_of, PySem.W.mg_of X G a_order_of, k_order_of, b_order_of⟩
  have K_order_of_10 : KwG l.prog w K mg base 5 "order_of" ["one", "table"] [1, 0] 2 F_order_of := ⟨_, _, _, rfl, O_order_of, PySem.W.mg_of X G a_order_of, k_order_of, kb_mk q_order_of (fun _ _ _ _ _ _ us hl => match us, hl with | [_, _], _ => rfl), rfl⟩
  have O_power := ok_power (P := l.prog) (w := w) (mg := mg) (base := base) q_power z_range x_InvalidNumber C_is_integer C_need_share C_order_of
  have C_power : CalG l.prog w K mg base 6 "power" 3 F_power := ⟨_, _, _, rfl, O_power, PySem.W.mg_of X G a_power, k_power, b_power⟩
  have K_power_210 : KwG l.prog w K mg base 6 "power" ["many", "one", "table"] [2, 1, 0] 3 F_power := ⟨_, _, _, rfl, O_power, PySem.W.mg_of X G a_power, k_power, kb_mk q_power (fun _ _ _ _ _ _ us hl => match us, hl with | [_, _, _], _ => rfl), rfl⟩
  have O_generated := ok_generated (P := l.prog) (w := w) (mg := mg) (base := base) q_generated z_len z_sorted z_tuple C_need_share
  have C_generated : CalG l.prog w K mg base 5 "generated" 2 F_generated := ⟨_, _, _, rfl, O_generated, PySem.W.mg_of X G a_generated, k_generated, b_generated⟩
  have K_generated_10 : KwG l.prog w K mg base 5 "generated" ["shares", "table"] [1, 0] 2 F_generated := ⟨_, _, _, rfl, O_generated, PySem.W.mg_of X G a_generated, k_generated, kb_mk q_generated (fun _ _ _ _ _ _ us hl => match us, hl with | [_, _], _ => rfl), rfl⟩
  have O_opposite := ok_opposite (P := l.prog) (w := w) (mg := mg) (base := base) q_opposite z_len z_range z_tuple
  have C_opposite : CalG l.prog w K mg base 1 "opposite" 1 F_opposite := ⟨_, _, _, rfl, O_opposite, PySem.W.mg_of X G a_opposite, k_opposite, b_opposite⟩
  have K_opposite_0 : KwG l.prog w K mg base 1 "opposite" ["table"] [0] 1 F_opposite := ⟨_, _, _, rfl, O_opposite, PySem.W.mg_of X G a_opposite, k_opposite, kb_mk q_opposite (fun _ _ _ _ _ _ us hl => match us, hl with | [_], _ => rfl), rfl⟩
  have O_centre := ok_centre (P := l.prog) (w := w) (mg := mg) (base := base) q_centre z_len z_range z_tuple C_opposite
  have C_centre : CalG l.prog w K mg base 2 "centre" 1 F_centre := ⟨_, _, _, rfl, O_centre, PySem.W.mg_of X G a_centre, k_centre, b_centre⟩
  have K_centre_0 : KwG l.prog w K mg base 2 "centre" ["table"] [0] 1 F_centre := ⟨_, _, _, rfl, O_centre, PySem.W.mg_of X G a_centre, k_centre, kb_mk q_centre (fun _ _ _ _ _ _ us hl => match us, hl with | [_], _ => rfl), rfl⟩
  have O_is_commutative := ok_is_commutative (P := l.prog) (w := w) (mg := mg) (base := base) q_is_commutative C_opposite
  have C_is_commutative : CalG l.prog w K mg base 2 "is_commutative" 1 F_is_commutative := ⟨_, _, _, rfl, O_is_commutative, PySem.W.mg_of X G a_is_commutative, k_is_commutative, b_is_commutative⟩
  have K_is_commutative_0 : KwG l.prog w K mg base 2 "is_commutative" ["table"] [0] 1 F_is_commutative := ⟨_, _, _, rfl, O_is_commutative, PySem.W.mg_of X G a_is_commutative, k_is_commutative, kb_mk q_is_commutative (fun _ _ _ _ _ _ us hl => match us, hl with | [_], _ => rfl), rfl⟩
  have O__law_heap := ok__law_heap (P := l.prog) (w := w) (mg := mg) (base := base) q__law_heap z_abs z_int
  have C__law_heap : CalG l.prog w K mg base 1 "_law_heap" 2 F__law_heap := ⟨_, _, _, rfl, O__law_heap, PySem.W.mg_of X G a__law_heap, k__law_heap, b__law_heap⟩
  have O__law_draw := ok__law_draw (P := l.prog) (w := w) (mg := mg) (base := base) q__law_draw z_int
  have C__law_draw : CalG l.prog w K mg base 1 "_law_draw" 2 F__law_draw := ⟨_, _, _, rfl, O__law_draw, PySem.W.mg_of X G a__law_draw, k__law_draw, b__law_draw⟩
  have O__law_pick := ok__law_pick (P := l.prog) (w := w) (mg := mg) (base := base) q__law_pick z_len C__law_draw
  have C__law_pick : CalG l.prog w K mg base 2 "_law_pick" 2 F__law_pick := ⟨_, _, _, rfl, O__law_pick, PySem.W.mg_of X G a__law_pick, k__law_pick, b__law_pick⟩
  have O__law_order := ok__law_order (P := l.prog) (w := w) (mg := mg) (base := base) q__law_order z_len z_range C__law_draw
  have C__law_order : CalG l.prog w K mg base 2 "_law_order" 2 F__law_order := ⟨_, _, _, rfl, O__law_order, PySem.W.mg_of X G a__law_order, k__law_order, b__law_order⟩
  have O__law_table := ok__law_table (P := l.prog) (w := w) (mg := mg) (base := base) q__law_table z_int z_range
  have C__law_table : CalG l.prog w K mg base 1 "_law_table" 1 F__law_table := ⟨_, _, _, rfl, O__law_table, PySem.W.mg_of X G a__law_table, k__law_table, b__law_table⟩
  have O__law_renamed := ok__law_renamed (P := l.prog) (w := w) (mg := mg) (base := base) q__law_renamed z_len z_range z_tuple
  have C__law_renamed : CalG l.prog w K mg base 1 "_law_renamed" 2 F__law_renamed := ⟨_, _, _, rfl, O__law_renamed, PySem.W.mg_of X G a__law_renamed, k__law_renamed, b__law_renamed⟩
  have O__law_group := ok__law_group (P := l.prog) (w := w) (mg := mg) (base := base) q__law_group z_int C__law_order C__law_pick C__law_renamed C__law_table
  have C__law_group : CalG l.prog w K mg base 3 "_law_group" 2 F__law_group := ⟨_, _, _, rfl, O__law_group, PySem.W.mg_of X G a__law_group, k__law_group, b__law_group⟩
  have O__law_powers := ok__law_powers (P := l.prog) (w := w) (mg := mg) (base := base) q__law_powers z_len z_range
  have C__law_powers : CalG l.prog w K mg base 1 "_law_powers" 2 F__law_powers := ⟨_, _, _, rfl, O__law_powers, PySem.W.mg_of X G a__law_powers, k__law_powers, b__law_powers⟩
  have O__law_closed := ok__law_closed (P := l.prog) (w := w) (mg := mg) (base := base) q__law_closed z_len z_list z_range z_tuple
  have C__law_closed : CalG l.prog w K mg base 1 "_law_closed" 2 F__law_closed := ⟨_, _, _, rfl, O__law_closed, PySem.W.mg_of X G a__law_closed, k__law_closed, b__law_closed⟩
  have O__law_refused := ok__law_refused (P := l.prog) (w := w) (mg := mg) (base := base) (A_InvalidNumber := A_InvalidNumber) q__law_refused z_range g_InvalidNumber e7_InvalidNumber xff_InvalidNumber xcc_InvalidNumber e8_InvalidNumber_word C_generated C_inverse C_order_of C_power C_times
  have C__law_refused : CalG l.prog w K mg base 7 "_law_refused" 5 (F__law_refused A_InvalidNumber) := ⟨_, _, _, rfl, O__law_refused, PySem.W.mg_of X G a__law_refused, k__law_refused, b__law_refused⟩
  have O_law := ok_law (P := l.prog) (w := w) (mg := mg) (base := base) (A_InvalidNumber := A_InvalidNumber) q_law z_int z_len z_range z_repr z_str z_tuple C__law_closed C__law_draw C__law_group C__law_heap C__law_pick C__law_powers C__law_refused C_centre C_generated C_inverse C_is_commutative C_opposite C_order_of C_power C_times K_times_210 K_inverse_10 K_order_of_10 K_power_210 K_opposite_0 K_centre_0 K_generated_10 K_is_commutative_0
  refine O_law.weak fun vs H Q E ⟨a, ns, e1, e2, e3, e4, e5⟩ => ?_
  subst e1 e4 e5
  exact law_sp e2 e3 (hend A_InvalidNumber ns e2)
end K37
open PySem PySem.W PyProof.Rows
set_option maxHeartbeats 0 in
theorem PySem.Challenge.cw_sharedunseen_k37_products_powers_and_wha_holds : PySem.Challenge.rw_sharedunseen_k37_products_powers_and_wha.Holds := by
  w_on; o_law; k_head; (case hw => w_witness2)
  k_fill
  refine Tr.walkG (l := PySem.Challenge.rw_sharedunseen_k37_products_powers_and_wha) (n := 63) (k := 8) (x := "_law_script") (sp := fun w => fun vs H Q E => ∃ (a : Addr) (ns : List Int), vs = [.ref a] ∧ ns.length ≤ 63 ∧ L2.SqL _ H a (ns.map L2.V.int) ∧ Q = (fun v _ => v = .bl true) ∧ E = fun _ _ _ => False) rfl (by decide) rfl ⟨⟨rfl, by decide, by decide⟩, rfl⟩ (fun w h Y => PySem.W.kIn_of Y) ?F (fun _ _ a ns hl _ hS => ⟨a, ns, rfl, hl, hS, rfl, rfl⟩)
  case F =>
    intro w mg fa h KX G hmg
    refine' K37.all_mk KX G hmg ?a_is_integer ?l_is_integer ?d_is_integer ?k_is_integer ?a_is_number ?l_is_number ?d_is_number ?k_is_number ?a_is_below ?l_is_below ?d_is_below ?k_is_below ?a_need_share ?l_need_share ?d_need_share ?k_need_share ?a_times ?l_times ?d_times ?k_times ?a_inverse ?l_inverse ?d_inverse ?k_inverse ?a_order_of ?l_order_of ?d_order_of ?k_order_of ?a_power ?l_power ?d_power ?k_power ?a_generated ?l_generated ?d_generated ?k_generated ?a_opposite ?l_opposite ?d_opposite ?k_opposite ?a_centre ?l_centre ?d_centre ?k_centre ?a_is_commutative ?l_is_commutative ?d_is_commutative ?k_is_commutative ?a__law_heap ?l__law_heap ?d__law_heap ?k__law_heap ?a__law_draw ?l__law_draw ?d__law_draw ?k__law_draw ?a__law_pick ?l__law_pick ?d__law_pick ?k__law_pick ?a__law_order ?l__law_order ?d__law_order ?k__law_order ?a__law_table ?l__law_table ?d__law_table ?k__law_table ?a__law_renamed ?l__law_renamed ?d__law_renamed ?k__law_renamed ?a__law_group ?l__law_group ?d__law_group ?k__law_group ?a__law_powers ?l__law_powers ?d__law_powers ?k__law_powers ?a__law_closed ?l__law_closed ?d__law_closed ?k__law_closed ?a__law_refused ?l__law_refused ?d__law_refused ?k__law_refused ?a_law ?l_law ?d_law ?k_law ?y_abs ?y_bool ?y_int ?y_isinstance ?y_len ?y_list ?y_range ?y_repr ?y_sorted ?y_str ?y_tuple ?y_super ?aC_InvalidNumber ?aC_StoreError ?x1_InvalidNumber ?x2_InvalidNumber ?x3_InvalidNumber ?x4_InvalidNumber ?x5_InvalidNumber ?x6_InvalidNumber ?x7_InvalidNumber ?x8_InvalidNumber ?x9_InvalidNumber ?xa_InvalidNumber ?xb_InvalidNumber ?xc_InvalidNumber ?xd_InvalidNumber ?xe_InvalidNumber ?xf_InvalidNumber ?xg_InvalidNumber ?xh_InvalidNumber ?xi_InvalidNumber ?xj_InvalidNumber ?xl_InvalidNumber ?w1 ?w2 ?e1_InvalidNumber ?e2_InvalidNumber ?e3_InvalidNumber ?e4_InvalidNumber ?e5_InvalidNumber ?e6_InvalidNumber ?e7_InvalidNumber ?e8_InvalidNumber_word ?v1 ?v2 K37.ends
    (case a_is_integer => k_is)
    (case l_is_integer => k_is)
    (case d_is_integer => k_is)
    (case k_is_integer => k_is)
    (case a_is_number => k_is)
    (case l_is_number => k_is)
    (case d_is_number => k_is)
    (case k_is_number => k_is)
    (case a_is_below => k_is)
    (case l_is_below => k_is)
    (case d_is_below => k_is)
    (case k_is_below => k_is)
    (case a_need_share => k_is)
    (case l_need_share => k_is)
    (case d_need_share => k_is)
    (case k_need_share => k_is)
    (case a_times => k_is)
    (case l_times => k_is)
    (case d_times => k_is)
    (case k_times => k_is)
    (case a_inverse => k_is)
    (case l_inverse => k_is)
    (case d_inverse => k_is)
    (case k_inverse => k_is)
    (case a_order_of => k_is)
    (case l_order_of => k_is)
    (case d_order_of => k_is)
    (case k_order_of => k_is)
    (case a_power => k_is)
    (case l_power => k_is)
    (case d_power => k_is)
    (case k_power => k_is)
    (case a_generated => k_is)
    (case l_generated => k_is)
    (case d_generated => k_is)
    (case k_generated => k_is)
    (case a_opposite => k_is)
    (case l_opposite => k_is)
    (case d_opposite => k_is)
    (case k_opposite => k_is)
    (case a_centre => k_is)
    (case l_centre => k_is)
    (case d_centre => k_is)
    (case k_centre => k_is)
    (case a_is_commutative => k_is)
    (case l_is_commutative => k_is)
    (case d_is_commutative => k_is)
    (case k_is_commutative => k_is)
    (case a__law_heap => k_is)
    (case l__law_heap => k_is)
    (case d__law_heap => k_is)
    (case k__law_heap => k_is)
    (case a__law_draw => k_is)
    (case l__law_draw => k_is)
    (case d__law_draw => k_is)
    (case k__law_draw => k_is)
    (case a__law_pick => k_is)
    (case l__law_pick => k_is)
    (case d__law_pick => k_is)
    (case k__law_pick => k_is)
    (case a__law_order => k_is)
    (case l__law_order => k_is)
    (case d__law_order => k_is)
    (case k__law_order => k_is)
    (case a__law_table => k_is)
    (case l__law_table => k_is)
    (case d__law_table => k_is)
    (case k__law_table => k_is)
    (case a__law_renamed => k_is)
    (case l__law_renamed => k_is)
    (case d__law_renamed => k_is)
    (case k__law_renamed => k_is)
    (case a__law_group => k_is)
    (case l__law_group => k_is)
    (case d__law_group => k_is)
    (case k__law_group => k_is)
    (case a__law_powers => k_is)
    (case l__law_powers => k_is)
    (case d__law_powers => k_is)
    (case k__law_powers => k_is)
    (case a__law_closed => k_is)
    (case l__law_closed => k_is)
    (case d__law_closed => k_is)
    (case k__law_closed => k_is)
    (case a__law_refused => k_is)
    (case l__law_refused => k_is)
    (case d__law_refused => k_is)
    (case k__law_refused => k_is)
    (case a_law => k_is)
    (case l_law => k_is)
    (case d_law => k_is)
    (case k_law => k_is)
    (case y_abs => k_is)
    (case y_bool => k_is)
    (case y_int => k_is)
    (case y_isinstance => k_is)
    (case y_len => k_is)
    (case y_list => k_is)
    (case y_range => k_is)
    (case y_repr => k_is)
    (case y_sorted => k_is)
    (case y_str => k_is)
    (case y_tuple => k_is)
    (case y_super => k_is)
    (case aC_InvalidNumber => k_is)
    (case aC_StoreError => k_is)
    (case x1_InvalidNumber => k_is)
    (case x2_InvalidNumber => k_is)
    (case x3_InvalidNumber => k_is)
    (case x4_InvalidNumber => k_is)
    (case x5_InvalidNumber => k_is)
    (case x6_InvalidNumber => k_is)
    (case x7_InvalidNumber => k_is)
    (case x8_InvalidNumber => k_is)
    (case x9_InvalidNumber => k_is)
    (case xa_InvalidNumber => k_is)
    (case xb_InvalidNumber => rfl)
    (case xc_InvalidNumber => first | rfl | decide +kernel)
    (case xd_InvalidNumber => k_is)
    (case xe_InvalidNumber => k_is)
    (case xf_InvalidNumber => k_is)
    (case xg_InvalidNumber => first | ks_is | kernel_rfl)
    (case xh_InvalidNumber => k_is)
    (case xi_InvalidNumber => first | kx_is | k_is | kernel_rfl)
    (case xj_InvalidNumber => k_is)
    (case xl_InvalidNumber => rfl)
    (case w1 => k_is)
    (case w2 => first | rfl | decide +kernel)
    (case e1_InvalidNumber => k_is)
    (case e2_InvalidNumber => k_is)
    (case e3_InvalidNumber => k_is)
    (case e4_InvalidNumber => k_is)
    (case e5_InvalidNumber => k_is)
    (case e6_InvalidNumber => k_is)
    (case e7_InvalidNumber => first | k_is | kernel_rfl)
    (case e8_InvalidNumber_word => k_is)
    (case v1 => k_is)
    (case v2 => k_is)
