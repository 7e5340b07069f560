import PyProof.Rows.All
import Wide.All
import OpenK.AllK
import Wide.FinOn
import HandS.ForMost
import HandS.ForExc
import HandS.TupAny
import HandS.TupMul
import HandS.Wide
import HandS.SortInts
import HandS.Style
import HandS.IsInst
import HandS.More
import KE.GoesMore
import KE.GoesEnum
import HandS.CallSlots
import HandS.WordsExc
import HandS.ExcInit
import KE.KExcSuper
import KE.KExcLine
import HandS.ExcIs
import HandS.ExcField
import KE.KExcIs
import HandS.SetFor
import HandS.Conv
import HandS.RevTup
import HandS.Ends
import HandS.Defaults
import KE.DatumIndex
import HandS.SortRule
import HandS.Text
import HandS.Steps
import HandS.DictComp
import HandS.WordsDict
import PyProof.Rows.ReprShort
import PySem.Challenge.RW_sharedunseen_k09_whole_ends_and_answers
set_option Elab.async false
set_option linter.all false
set_option maxRecDepth 100000
set_option maxHeartbeats 4000000
set_option maxHeartbeats 4000000
/-! new tuples, known to the object: they have no dict of their own -/
namespace Tr
open PySem PySem.Spec PyProof.Rows L2
/-- a new tuple of these items stands at a free place -/
def NewT (H : Hp) (xs : List V) (Q : VK) : Prop := ∀ p (o : Obj), H p = none → o.dict = none → Q (.ref p) (upd H p (.frz o (.tup xs)))
section
variable {X : Cx} {es : List Expr} {pos : Pos} {t : TA}
theorem lay_tup {pins : List (Addr × Obj)} {σ : L2.St} {H : Hp} {s : Shared} {xs : List V} {us : List Value} {Q : VK} (I : Inv X pins σ H s) (r : Vals xs us) (hz : xs.length ≤ sizeLine) (q : NewT H xs Q) :
    EP X pins σ Q (.ref s.heap.objs.size) { s with heap := s.heap.push { cls := .type "tuple", data := .seq us.toArray } } :=
  ⟨.ref s.heap.objs.size, _, I.laid (t' := s.toks) (o := .frz { cls := .type "tuple", data := .seq us.toArray } (.tup xs)) (fun b u e => Heap.get?_push_of_some _ e) (Nat.le_refl _) ⟨Heap.get?_push_size _ rfl, hz, us, r, IsTup.new _ _⟩, rfl, q _ _ (I.hok.fresh (Nat.le_refl _)) rfl⟩
def tTupB (t : TA) : TE := fun σ H Q => t σ H fun xs H1 => xs.length ≤ sizeLine ∧ NewT H1 xs Q
theorem pe_tupB {k : Nat} (h : PA X es t) : PE X (.Tuple es k pos) (tTupB t) := ⟨fun pins s σ H Q I want =>
  wpAny_Tuple_spliced (thn (h.run pos pins s σ H _ I want) fun us s1 ⟨xs, H1, I1, r, hz, q⟩ => ⟨r.length ▸ hz, lay_tup I1 r hz q⟩)⟩
def rTupB (K : PySem.W.Frag) : List V → Hp → VK → Prop := fun xs H Q => ∃ p ys, xs = [.ref p] ∧ ((SqL K H p ys ∧ NewT H ys Q) ∨ (SqT K H p ys ∧ Q (.ref p) H))
theorem call_tupB : CallR X (.type "tuple") (rTupB X.K) := fun pins s σ H xs us Q I r ⟨p, ys, e, h⟩ => by
  subst e
  obtain ⟨u, rfl, ru⟩ := vals1 r
  have eu : u = Value.ref p := ru
  subst eu
  cases h with
  | inl h =>
    obtain ⟨its, rv, pl, hz⟩ := I.list h.1
    have same := rv.length
    exact call_tuple_list pl.isList (fun h' keeps => lay_tup (s := { s with heap := h' }) (I.kept (t' := s.toks) keeps) rv hz h.2) (by rw [List.size_toArray]; omega)
  | inr h =>
    obtain ⟨its, rv, pl, hz⟩ := I.tuple h.1
    exact call_tuple_same pl ⟨.ref p, H, I, rfl, h.2⟩
def rCatB (K : PySem.W.Frag) : R2 := fun x y H Q => ∃ a b xs ys, x = .ref a ∧ y = .ref b ∧ SqT K H a xs ∧ SqT K H b ys ∧ xs.length + ys.length ≤ sizeLine ∧ (xs = [] → Q (.ref b) H) ∧ (xs ≠ [] → ys = [] → Q (.ref a) H) ∧ (xs ≠ [] → ys ≠ [] → NewT H (xs ++ ys) Q)
theorem op_catB : OpR X (binaryOp .Add) (rCatB X.K) := fun pins s σ H x y v u Q I rx ry ⟨a, b, xs, ys, ex, ey, ha, hb, hz, q0, q1, q2⟩ => by
  subst ex ey
  have ev : v = Value.ref a := rx
  have eu : u = Value.ref b := ry
  subst ev eu
  obtain ⟨is, ri, pi, _⟩ := I.tuple ha
  obtain ⟨js, rj, pj, _⟩ := I.tuple hb
  by_cases hx : xs = []
  · subst hx
    cases ri
    exact cat_tup0 pi pj ⟨.ref b, H, I, rfl, q0 rfl⟩
  · refine HT.cat_tup pi pj (fun z => hx (ri.nil_iff.mp z)) (fun z => ⟨.ref a, H, I, rfl, q1 hx (rj.nil_iff.mp z)⟩) (fun z => ?_) (by rw [← ri.length, ← rj.length]; exact hz)
    exact lay_tup I (ri.append rj) (by rw [List.length_append]; exact hz) (q2 hx fun w => z (rj.nil_iff.mpr w))
def rSlT2 (K : PySem.W.Frag) : V → Option Int → Option Int → Hp → VK → Prop := fun x lo hi H Q => ∃ a xs, x = .ref a ∧ SqT K H a xs ∧
  (HT.sIx xs.length 0 lo = 0 ∧ HT.sIx xs.length xs.length hi = xs.length → Q (.ref a) H) ∧ (¬ (HT.sIx xs.length 0 lo = 0 ∧ HT.sIx xs.length xs.length hi = xs.length) → NewT H (cutV xs lo hi) Q)
theorem sl_tupB : SlR X (rSlT2 X.K) := fun pins s σ H x v vl vu lo hi sl Q I rx hs pl pu ⟨a, xs, ex, hx, q1, q2⟩ => by
  subst ex
  have ev : v = Value.ref a := rx
  subst ev
  obtain ⟨its, r, ht, hz⟩ := I.tuple hx
  have size : its.toArray.size = xs.length := by rw [List.size_toArray, r.length]
  refine ⟨"tuple", _, PyProof.Rows.slot_tuple_getitem.lookup, ht.typeIs, ?_⟩
  by_cases whole : HT.sIx xs.length 0 lo = 0 ∧ HT.sIx xs.length xs.length hi = xs.length
  · exact getItem_tuple_whole ht hs pl pu (by rw [size]; exact whole) ⟨.ref a, H, I, rfl, q1 whole⟩
  · refine HT.getItem_tuple_cut ht hs pl pu (by rw [size]; exact whole) ?_ (by rw [size]; exact hz)
    rw [size]
    exact lay_tup I ((r.drop (HT.sIx xs.length 0 lo)).take (HT.sIx xs.length xs.length hi - HT.sIx xs.length 0 lo)) (Nat.le_trans (cutV_length xs lo hi) hz) (q2 whole)
def rRepB (K : PySem.W.Frag) : R2 := fun x y H Q => ∃ l k xs, x = .ref l ∧ y = .int k ∧ SqT K H l xs ∧ xs ≠ [] ∧ 2 ≤ k ∧ k ≤ 1000 ∧ xs.length ≤ 1000 ∧ NewT H (List.replicate k.toNat xs).flatten Q
theorem op_repB : OpR X (binaryOp .Mult) (rRepB X.K) := fun pins s σ H x y v u Q I rx ry ⟨l, k, xs, ex, ey, hT, hne, h1, h2, hz, q⟩ => by
  subst ex ey
  have ev : v = Value.ref l := rx
  subst ev
  obtain ⟨t, rfl⟩ := ry
  obtain ⟨its, r, ⟨⟨cls, dd, data, slots⟩, there, hc, n, hd⟩, _⟩ := I.tuple hT
  have hc1 : cls = .type "tuple" := hc
  have hd1 : data = .seq its.toArray n := hd
  subst hc1 hd1
  have len : its.length = xs.length := r.length.symm
  have pos1 : 0 < its.length := by rw [len]; exact List.length_pos_iff.mpr hne
  have empty : its.toArray.isEmpty = false := by cases its with
    | nil => exact absurd pos1 (Nat.lt_irrefl 0)
    | cons _ _ => rfl
  have cells : ((its.toArray.size : Nat) : Int) * k ≤ 1000000 := by
    rw [List.size_toArray, len]
    have : (xs.length : Int) * k ≤ 1000 * k := Int.mul_le_mul_of_nonneg_right (by omega) (by omega)
    omega
  have most : ∀ {α : Type} (ys : List α), ys.length = xs.length → (List.replicate k.toNat ys).flatten.length ≤ sizeLine := fun ys e => by
    rw [PyProof.Rows.lm_len_rep_flat, e, sizeLine_eq]
    have : k.toNat * xs.length ≤ 1000 * 1000 := Nat.mul_le_mul (by omega) hz
    omega
  have few : Builtin.Tuple.tupleTooMany (((its.toArray.size : Nat) : Int) * k) = false := by
    show decide _ = false
    rw [sizeLine_eq]
    exact decide_eq_false (by omega)
  have ends : EP X pins σ Q (.ref s.heap.objs.size) { s with heap := s.heap.push { cls := .type "tuple", data := .seq (List.foldl (fun x1 x2 => x1 ++ x2) #[] (List.replicate k.toNat its.toArray)) } } := by
    rw [size_rep]
    exact lay_tup I (r.rep k.toNat) (most xs rfl) q
  refine wpAny_binaryOp_repeat_ref (T := "tuple") (U := "int") (by decide) ⟨_, there, rfl⟩ (fun s' => typeIs_int s' k t) noFill_tuple_mul F.fills_int_mul F.slot_int_rmul repeat_tuple F.slot_int_index.lookup
    (call_meets F.slot_int_rmul (typeIs_int s k t) F.entry_int_rmul (F.args_int_rmul_2 _ _) (int_rmul_tuple k t l its.toArray n dd slots) ⟨there, rfl, ⟨_, there, rfl⟩, call_meets F.slot_tuple_mul ⟨_, there, rfl⟩ F.entry_tuple_mul (F.args_tuple_mul_2 _ _) (tuple_mulW l its.toArray n dd slots k t
      (by rw [Bool.or_eq_false_iff]; exact ⟨decide_eq_false (by omega), decide_eq_false (by omega)⟩) (by rw [empty, Bool.false_or]; exact beq_eq_false_iff_ne.mpr (by omega)) (by rw [empty, Bool.or_false]; exact decide_eq_false (by omega)) (by omega) few (by rw [size_rep, List.size_toArray]; exact most its len)) ⟨there, ends⟩⟩)
end
end Tr
namespace Tr
open PySem PySem.Spec PyProof.Rows L2

/-- frozen data -/
inductive D where
  | non | bl (b : Bool) | int (i : Int) | str (x : Str) | ty (n : String)
  | tup (ds : List D) | lst (ds : List D) | scr (ns : List Int)
  | dic (kvs : List (Key × D)) | ob (C : Addr) (fs : List (Str × D))
  | er (a c dd : Addr) (fs : List (Str × D))
/-- owned data -/
inductive O where
  | fr (d : D) | fl (ds : List D) | ol (os : List O) | od (kvs : List (Key × D))
mutual
def O.fz : O → D
  | .fr d => d
  | .fl ds => .lst ds
  | .ol os => .lst (O.fzs os)
  | .od kvs => .dic kvs
def O.fzs : List O → List D
  | [] => []
  | o :: os => O.fz o :: O.fzs os
end
theorem fzs_eq : ∀ os : List O, O.fzs os = os.map O.fz
  | [] => by rw [O.fzs, List.map_nil]
  | o :: os => by rw [O.fzs, List.map_cons, fzs_eq os]
/-- where an owned cell hangs: a slot, a temporary -/
inductive Rt where
  | s (i : Nat) | t (k : Nat)
  deriving DecidableEq
abbrev Lab := Rt × List Nat
abbrev Own := Addr → Option Lab

/-- a tuple that stands, without a dict of its own -/
def TupB (H : Hp) (a : Addr) (xs : List V) : Prop := ∃ o : Obj, o.dict = none ∧ H a = some (.frz o (.tup xs))
theorem TupB.sq {K : PySem.W.Frag} {H : Hp} {a : Addr} {xs : List V} (h : TupB H a xs) : SqT K H a xs := .inl (.inr (h.elim fun o p => ⟨o, p.2⟩))
theorem TupB.new {H : Hp} {a : Addr} {xs : List V} {o : Obj} (h : o.dict = none) : TupB (upd H a (.frz o (.tup xs))) a xs := ⟨o, h, upd_same⟩
mutual
def Rep (K : PySem.W.Frag) (G : Hp) : D → V → Prop
  | .non, v => v = .non
  | .bl b, v => v = .bl b
  | .int i, v => v = .int i
  | .str x, v => v = .str x
  | .ty n, v => v = .ty n
  | .tup ds, v => ∃ a xs, v = .ref a ∧ TupB G a xs ∧ Reps K G ds xs ∧ ds.length ≤ sizeLine
  | .lst ds, v => ∃ a xs, v = .ref a ∧ G a = some (.lst xs) ∧ Reps K G ds xs ∧ ds.length ≤ sizeLine
  | .scr ns, v => ∃ a, v = .ref a ∧ SqL K G a (ns.map V.int) ∧ ns.length ≤ sizeLine
  | .dic kvs, v => ∃ a ys, v = .ref a ∧ G a = some (.dK ys) ∧ RepK K G kvs ys
  | .ob C fs, v => ∃ a dx ys, v = .ref a ∧ G a = some (.ins C dx ys) ∧ RepF K G fs ys
  | .er a _ dd fs, v => v = .ref a ∧ ∃ ys, G dd = some (.xd ys) ∧ RepF K G fs ys
def RepK (K : PySem.W.Frag) (G : Hp) : List (Key × D) → List (Key × V) → Prop
  | [], xs => xs = []
  | (k, d) :: ds, xs => ∃ x r, xs = (k, x) :: r ∧ Rep K G d x ∧ RepK K G ds r
def RepF (K : PySem.W.Frag) (G : Hp) : List (Str × D) → List (Str × V) → Prop
  | [], xs => xs = []
  | (k, d) :: ds, xs => ∃ x r, xs = (k, x) :: r ∧ Rep K G d x ∧ RepF K G ds r
def Reps (K : PySem.W.Frag) (G : Hp) : List D → List V → Prop
  | [], xs => xs = []
  | d :: ds, xs => ∃ x r, xs = x :: r ∧ Rep K G d x ∧ Reps K G ds r
end
mutual
def Ow (K : PySem.W.Frag) (G H : Hp) (W : Own) : O → V → Rt → List Nat → Prop
  | .fr d, v, _, _ => Rep K G d v
  | .ol os, v, r, p => ∃ a xs, v = .ref a ∧ H a = some (.lst xs) ∧ W a = some (r, p) ∧ Ows K G H W os xs r p 0 ∧ os.length ≤ sizeLine
  | .fl ds, v, r, p => ∃ a xs, v = .ref a ∧ H a = some (.lst xs) ∧ W a = some (r, p) ∧ Reps K G ds xs ∧ ds.length ≤ sizeLine
  | .od kvs, v, r, p => ∃ a ys, v = .ref a ∧ H a = some (.dK ys) ∧ W a = some (r, p) ∧ RepK K G kvs ys
def Ows (K : PySem.W.Frag) (G H : Hp) (W : Own) : List O → List V → Rt → List Nat → Nat → Prop
  | [], xs, _, _, _ => xs = []
  | o :: os, xs, r, p, k => ∃ x xr, xs = x :: xr ∧ Ow K G H W o x r (p ++ [k]) ∧ Ows K G H W os xr r p (k + 1)
end
theorem SqT_same {K : PySem.W.Frag} {H H' : Hp} {a : Addr} {xs : List V} (e : Same H H') (h : SqT K H a xs) : SqT K H' a xs := by
  rcases h with (h | ⟨o, h⟩) | h
  · exact .inl (.inl (e _ _ h))
  · exact .inl (.inr ⟨o, e _ _ h⟩)
  · exact .inr h
theorem TupB.same {H H' : Hp} {a : Addr} {xs : List V} (e : Same H H') (h : TupB H a xs) : TupB H' a xs := h.elim fun o p => ⟨o, p.1, e _ _ p.2⟩
mutual
theorem Rep.mono {K : PySem.W.Frag} {G G' : Hp} (e : Same G G') : ∀ {d : D} {v : V}, Rep K G d v → Rep K G' d v
  | .non, _, h => by rw [Rep] at h ⊢; exact h
  | .bl _, _, h => by rw [Rep] at h ⊢; exact h
  | .int _, _, h => by rw [Rep] at h ⊢; exact h
  | .str _, _, h => by rw [Rep] at h ⊢; exact h
  | .ty _, _, h => by rw [Rep] at h ⊢; exact h
  | .tup ds, _, h => by
    rw [Rep] at h ⊢
    obtain ⟨a, xs, e1, h1, h2, hz⟩ := h
    exact ⟨a, xs, e1, TupB.same e h1, Reps.mono e h2, hz⟩
  | .lst ds, _, h => by
    rw [Rep] at h ⊢
    obtain ⟨a, xs, e1, h1, h2, hz⟩ := h
    exact ⟨a, xs, e1, e _ _ h1, Reps.mono e h2, hz⟩
  | .scr ns, _, h => by
    rw [Rep] at h ⊢
    obtain ⟨a, e1, h1, hz⟩ := h
    exact ⟨a, e1, e.seq h1, hz⟩
  | .dic kvs, _, h => by
    rw [Rep] at h ⊢
    obtain ⟨a, ys, e1, h1, h2⟩ := h
    exact ⟨a, ys, e1, e _ _ h1, RepK.mono e h2⟩
  | .ob C fs, _, h => by
    rw [Rep] at h ⊢
    obtain ⟨a, dx, ys, e1, h1, h2⟩ := h
    exact ⟨a, dx, ys, e1, e _ _ h1, RepF.mono e h2⟩
  | .er _ _ _ fs, _, h => by
    rw [Rep] at h ⊢
    obtain ⟨e1, ys, h1, h2⟩ := h
    exact ⟨e1, ys, e _ _ h1, RepF.mono e h2⟩
theorem RepK.mono {K : PySem.W.Frag} {G G' : Hp} (e : Same G G') : ∀ {ds : List (Key × D)} {xs : List (Key × V)}, RepK K G ds xs → RepK K G' ds xs
  | [], _, h => by rw [RepK] at h ⊢; exact h
  | (k, d) :: ds, _, h => by
    rw [RepK] at h ⊢
    obtain ⟨x, r, e1, h1, h2⟩ := h
    exact ⟨x, r, e1, Rep.mono e h1, RepK.mono e h2⟩
theorem RepF.mono {K : PySem.W.Frag} {G G' : Hp} (e : Same G G') : ∀ {ds : List (Str × D)} {xs : List (Str × V)}, RepF K G ds xs → RepF K G' ds xs
  | [], _, h => by rw [RepF] at h ⊢; exact h
  | (k, d) :: ds, _, h => by
    rw [RepF] at h ⊢
    obtain ⟨x, r, e1, h1, h2⟩ := h
    exact ⟨x, r, e1, Rep.mono e h1, RepF.mono e h2⟩
theorem Reps.mono {K : PySem.W.Frag} {G G' : Hp} (e : Same G G') : ∀ {ds : List D} {xs : List V}, Reps K G ds xs → Reps K G' ds xs
  | [], _, h => by rw [Reps] at h ⊢; exact h
  | d :: ds, _, h => by
    rw [Reps] at h ⊢
    obtain ⟨x, r, e1, h1, h2⟩ := h
    exact ⟨x, r, e1, Rep.mono e h1, Reps.mono e h2⟩
end
mutual
/-- an owned tree in another heap, under another label -/
theorem Ow.move {K : PySem.W.Frag} {G G' H H' : Hp} {W W' : Own} (e : Same G G') {r r' : Rt} {q q' : List Nat} : ∀ {o : O} {v : V} (p : List Nat),
    (∀ a z, W a = some (r, q ++ (p ++ z)) → H' a = H a ∧ W' a = some (r', q' ++ (p ++ z))) → Ow K G H W o v r (q ++ p) → Ow K G' H' W' o v r' (q' ++ p)
  | .fr d, _, p, hm, h => by rw [Ow] at h ⊢; exact h.mono e
  | .ol os, _, p, hm, h => by
    rw [Ow] at h ⊢
    obtain ⟨a, xs, e1, h1, h2, h3, hz⟩ := h
    have m := hm a [] (by rw [List.append_nil]; exact h2)
    rw [List.append_nil] at m
    exact ⟨a, xs, e1, m.1.trans h1, m.2, Ows.move e p 0 hm h3, hz⟩
  | .fl ds, _, p, hm, h => by
    rw [Ow] at h ⊢
    obtain ⟨a, xs, e1, h1, h2, h3, hz⟩ := h
    have m := hm a [] (by rw [List.append_nil]; exact h2)
    rw [List.append_nil] at m
    exact ⟨a, xs, e1, m.1.trans h1, m.2, h3.mono e, hz⟩
  | .od kvs, _, p, hm, h => by
    rw [Ow] at h ⊢
    obtain ⟨a, xs, e1, h1, h2, h3⟩ := h
    have m := hm a [] (by rw [List.append_nil]; exact h2)
    rw [List.append_nil] at m
    exact ⟨a, xs, e1, m.1.trans h1, m.2, h3.mono e⟩
theorem Ows.move {K : PySem.W.Frag} {G G' H H' : Hp} {W W' : Own} (e : Same G G') {r r' : Rt} {q q' : List Nat} : ∀ {os : List O} {xs : List V} (p : List Nat) (k : Nat),
    (∀ a z, W a = some (r, q ++ (p ++ z)) → H' a = H a ∧ W' a = some (r', q' ++ (p ++ z))) → Ows K G H W os xs r (q ++ p) k → Ows K G' H' W' os xs r' (q' ++ p) k
  | [], _, p, k, hm, h => by rw [Ows] at h ⊢; exact h
  | o :: os, _, p, k, hm, h => by
    rw [Ows] at h ⊢
    obtain ⟨x, xr, e1, h1, h2⟩ := h
    refine ⟨x, xr, e1, ?_, Ows.move e p (k + 1) hm h2⟩
    rw [List.append_assoc] at h1 ⊢
    exact Ow.move e (p ++ [k]) (fun a z w => by
      have := hm a (k :: z) (by rw [w]; simp)
      simpa using this) h1
end
mutual
/-- all of an owned tree is given to the frozen part -/
theorem Ow.froze {K : PySem.W.Frag} {G G' H : Hp} {W : Own} (e : Same G G') {r : Rt} {q : List Nat} : ∀ {o : O} {v : V} (p : List Nat),
    (∀ a z, W a = some (r, q ++ (p ++ z)) → G' a = H a) → Ow K G H W o v r (q ++ p) → Rep K G' o.fz v
  | .fr d, _, p, hm, h => by rw [Ow] at h; rw [O.fz]; exact h.mono e
  | .ol os, _, p, hm, h => by
    rw [Ow] at h
    rw [O.fz, Rep]
    obtain ⟨a, xs, e1, h1, h2, h3, hz⟩ := h
    have m := hm a [] (by rw [List.append_nil]; exact h2)
    exact ⟨a, xs, e1, m.trans h1, Ows.froze e p 0 hm h3, by rw [fzs_eq, List.length_map]; exact hz⟩
  | .fl ds, _, p, hm, h => by
    rw [Ow] at h
    rw [O.fz, Rep]
    obtain ⟨a, xs, e1, h1, h2, h3, hz⟩ := h
    have m := hm a [] (by rw [List.append_nil]; exact h2)
    exact ⟨a, xs, e1, m.trans h1, h3.mono e, hz⟩
  | .od kvs, _, p, hm, h => by
    rw [Ow] at h
    rw [O.fz, Rep]
    obtain ⟨a, xs, e1, h1, h2, h3⟩ := h
    have m := hm a [] (by rw [List.append_nil]; exact h2)
    exact ⟨a, xs, e1, m.trans h1, h3.mono e⟩
theorem Ows.froze {K : PySem.W.Frag} {G G' H : Hp} {W : Own} (e : Same G G') {r : Rt} {q : List Nat} : ∀ {os : List O} {xs : List V} (p : List Nat) (k : Nat),
    (∀ a z, W a = some (r, q ++ (p ++ z)) → G' a = H a) → Ows K G H W os xs r (q ++ p) k → Reps K G' (O.fzs os) xs
  | [], _, p, k, hm, h => by rw [Ows] at h; rw [O.fzs, Reps]; exact h
  | o :: os, _, p, k, hm, h => by
    rw [Ows] at h
    rw [O.fzs, Reps]
    obtain ⟨x, xr, e1, h1, h2⟩ := h
    refine ⟨x, xr, e1, ?_, Ows.froze e p (k + 1) hm h2⟩
    rw [List.append_assoc] at h1
    exact Ow.froze e (p ++ [k]) (fun a z w => hm a (k :: z) (by rw [w]; simp)) h1
end
end Tr
namespace Tr
open PySem PySem.Spec PyProof.Rows L2
inductive Sl where
  | no | ow (o : O) | le (o : O)
abbrev Rho := List Sl
/-- what a body's run is measured by: the cells that it may not touch, the frozen part at its start, the lent values -/
structure Gs where
  kp : Hp
  g0 : Hp
  lv : List V
def SlOk (K : PySem.W.Frag) (g : Gs) (G H : Hp) (W : Own) (σ : L2.St) (i : Nat) : Sl → Prop
  | .no => True
  | .ow o => ∃ v, σ[i]? = some (some v) ∧ Ow K G H W o v (.s i) []
  | .le o => ∃ v, σ[i]? = some (some v) ∧ g.lv[i]? = some v ∧ Ow K G H W o v (.s i) []
structure R (K : PySem.W.Frag) (g : Gs) (ρ : Rho) (T : List (O × V)) (σ : L2.St) (H G : Hp) (W : Own) : Prop where
  gh : Same G H
  kh : Same g.kp H
  gg : Same g.g0 G
  sep : ∀ b, G b ≠ none → g.kp b ≠ none → g.g0 b ≠ none
  wl : ∀ b l, W b = some l → G b = none ∧ g.kp b = none ∧ H b ≠ none
  len : ρ.length = σ.length
  sl : ∀ i s, ρ[i]? = some s → SlOk K g G H W σ i s
  tm : ∀ k o v, T[k]? = some (o, v) → Ow K G H W o v (.t k) []
/-- the cells under a root stay -/
def Keep (W W' : Own) (H H' : Hp) (r : Rt) : Prop := ∀ a z, W a = some (r, z) → H' a = H a ∧ W' a = some (r, z)
section
variable {K : PySem.W.Frag} {g : Gs} {ρ ρ' : Rho} {T T' : List (O × V)} {σ σ' : L2.St} {H H' G G' : Hp} {W W' : Own} {o : O} {v : V} {p : Addr} {d : D} {i k : Nat} {u : HO}
theorem Ow.keep {r : Rt} (e : Same G G') (k : Keep W W' H H' r) (h : Ow K G H W o v r []) : Ow K G' H' W' o v r [] :=
  Ow.move (q := []) (q' := []) e [] (fun a z w => k a z w) h
theorem Ow.same {r : Rt} {q : List Nat} (e : Same G G') (eh : Same H H') (hw : ∀ b l, W b = some l → H b ≠ none) (h : Ow K G H W o v r q) : Ow K G' H' W o v r q := by
  have := Ow.move (K := K) (G := G) (G' := G') (H := H) (H' := H') (W := W) (W' := W) (r := r) (r' := r) (q := q) (q' := q) (o := o) (v := v) e [] (fun a z w => ⟨by
    cases x : H a with
    | none => exact absurd x (hw _ _ w)
    | some y => exact eh _ _ x, w⟩) (by rw [List.append_nil]; exact h)
  rw [List.append_nil] at this
  exact this
theorem SlOk.keep {s : Sl} (e : Same G G') (k : Keep W W' H H' (.s i)) (es : σ'[i]? = σ[i]?) (h : SlOk K g G H W σ i s) : SlOk K g G' H' W' σ' i s := by
  cases s with
  | no => trivial
  | ow o =>
    obtain ⟨v, h1, h2⟩ := h
    exact ⟨v, es.trans h1, h2.keep e k⟩
  | le o =>
    obtain ⟨v, h1, h3, h2⟩ := h
    exact ⟨v, es.trans h1, h3, h2.keep e k⟩
theorem Ow.bor {r : Rt} {q : List Nat} (e : Same G H) (h : Ow K G H W o v r q) : Rep K H o.fz v := by
  have := Ow.froze (K := K) (G := G) (G' := H) (H := H) (W := W) (r := r) (q := q) (o := o) (v := v) e [] (fun _ _ _ => rfl) (by rw [List.append_nil]; exact h)
  exact this
/-- a new object that nothing speaks of, or that is frozen at once -/
theorem R.ext (h : R K g ρ T σ H G W) (e : Same H H') : R K g ρ T σ H' G W where
  gh := h.gh.trans e
  kh := h.kh.trans e
  gg := h.gg
  sep := h.sep
  wl := fun b l w => ⟨(h.wl b l w).1, (h.wl b l w).2.1, by
    cases x : H b with
    | none => exact absurd x (h.wl b l w).2.2
    | some y => rw [e _ _ x]; exact fun z => nomatch z⟩
  len := h.len
  sl := fun i s q => (h.sl i s q).keep (Same.refl G) (fun a z w => ⟨by
    cases x : H a with
    | none => exact absurd x (h.wl _ _ w).2.2
    | some y => exact e _ _ x, w⟩) rfl
  tm := fun k o v q => (h.tm k o v q).same (Same.refl G) e fun b l w => (h.wl b l w).2.2
theorem same_upd (h : H p = none) : Same H (upd H p u) := fun b x e => by
  rw [upd_ne (ne_of_none e h)]
  exact e
theorem same_upd2 (h : H p = none) (e : Same G H) : Same (upd G p u) (upd H p u) := fun b x q => by
  by_cases hb : b = p
  · subst hb; rw [upd_same] at q ⊢; exact q
  · rw [upd_ne hb] at q ⊢; exact e _ _ q
theorem R.new (h : R K g ρ T σ H G W) (hp : H p = none) : R K g ρ T σ (upd H p u) (upd G p u) W where
  gh := same_upd2 hp h.gh
  kh := h.kh.trans (same_upd hp)
  gg := h.gg.trans (same_upd (h.gh.free hp))
  sep := fun b x y => by
    by_cases hb : b = p
    · subst hb; exact absurd (h.kh.free hp) y
    · rw [upd_ne hb] at x; exact h.sep b x y
  wl := fun b l w => by
    have z := h.wl b l w
    have hb : b ≠ p := fun e => z.2.2 (by rw [e]; exact hp)
    rw [upd_ne hb, upd_ne hb]; exact z
  len := h.len
  sl := fun i s q => (h.sl i s q).keep (same_upd (h.gh.free hp)) (fun a z w => ⟨by
    have z := (h.wl _ _ w).2.2
    exact upd_ne (fun e => z (by rw [e]; exact hp)), w⟩) rfl
  tm := fun k o v q => (h.tm k o v q).same (same_upd (h.gh.free hp)) (same_upd hp) fun b l w => (h.wl b l w).2.2
/-- the frozen part with all that hangs at a root -/
def frz (G H : Hp) (W : Own) (r : Rt) : Hp := fun b => match W b with
  | some l => if l.1 = r then H b else G b
  | none => G b
def drp (W : Own) (r : Rt) : Own := fun b => match W b with
  | some l => if l.1 = r then none else some l
  | none => none
theorem frz_same (h : R K g ρ T σ H G W) (r : Rt) : Same G (frz G H W r) := fun b x e => by
  unfold frz
  split
  · rename_i l w
    rw [(h.wl b l w).1] at e; cases e
  · exact e
theorem frz_gh (h : R K g ρ T σ H G W) (r : Rt) : Same (frz G H W r) H := fun b x e => by
  unfold frz at e
  split at e
  · split at e
    · exact e
    · exact h.gh _ _ e
  · exact h.gh _ _ e
theorem drp_some {r : Rt} {b : Addr} {l : Lab} (h : drp W r b = some l) : W b = some l ∧ l.1 ≠ r := by
  unfold drp at h
  split at h
  · split at h
    · cases h
    · rename_i w n; cases h; exact ⟨w, n⟩
  · cases h
theorem drp_of {r : Rt} {b : Addr} {l : Lab} (h : W b = some l) (n : l.1 ≠ r) : drp W r b = some l := by
  unfold drp; rw [h]; exact if_neg n
theorem keep_drp {r r' : Rt} (n : r' ≠ r) : Keep W (drp W r) H H r' := fun a z w => ⟨rfl, drp_of w n⟩
/-- the state with the cells of a root frozen; what hung there is dropped from the lists -/
theorem R.frz0 (h : R K g ρ T σ H G W) (r : Rt) (hl : ρ'.length = ρ.length) (hs : ∀ i s, ρ'[i]? = some s → (ρ[i]? = some s ∧ Rt.s i ≠ r) ∨ SlOk K g (frz G H W r) H (drp W r) σ i s)
    (ht : ∀ k o v, T'[k]? = some (o, v) → (T[k]? = some (o, v) ∧ Rt.t k ≠ r)) : R K g ρ' T' σ H (frz G H W r) (drp W r) where
  gh := frz_gh h r
  kh := h.kh
  gg := h.gg.trans (frz_same h r)
  sep := fun b x y => by
    unfold frz at x
    split at x
    · rename_i l w
      exact absurd (h.wl b l w).2.1 y
    · exact h.sep b x y
  wl := fun b l w => by
    obtain ⟨w, n⟩ := drp_some w
    have z := h.wl b l w
    refine ⟨?_, z.2⟩
    unfold frz; rw [w]
    show (if l.1 = r then H b else G b) = none
    rw [if_neg n]; exact z.1
  len := hl.trans h.len
  sl := fun i s q => by
    rcases hs i s q with ⟨q, n⟩ | q
    · exact (h.sl i s q).keep (frz_same h r) (keep_drp n) rfl
    · exact q
  tm := fun k o v q => by
    obtain ⟨q, n⟩ := ht k o v q
    exact (h.tm k o v q).keep (frz_same h r) (keep_drp n)
theorem get_frz {r : Rt} {a : Addr} {z : List Nat} (w : W a = some (r, z)) : frz G H W r a = H a := by
  unfold frz; rw [w]; exact if_pos rfl
theorem Ow.rep {r : Rt} (h : R K g ρ T σ H G W) (q : Ow K G H W o v r []) : Rep K (frz G H W r) o.fz v :=
  Ow.froze (q := []) (frz_same h r) [] (fun a z w => get_frz w) q
theorem getElem?_snoc {α : Type} {l : List α} {a x : α} {k : Nat} (h : (l ++ [a])[k]? = some x) : (l[k]? = some x ∧ k < l.length) ∨ (k = l.length ∧ x = a) := by
  by_cases hk : k < l.length
  · rw [List.getElem?_append_left hk] at h; exact .inl ⟨h, hk⟩
  · rw [List.getElem?_append_right (by omega)] at h
    have : k - l.length = 0 := by
      cases e : k - l.length with
      | zero => rfl
      | succ n => rw [e] at h; simp at h
    rw [this] at h
    simp at h
    exact .inr ⟨by omega, h.symm⟩
/-- the last temporary is frozen -/
theorem R.frzT (h : R K g ρ (T ++ [(o, v)]) σ H G W) : R K g ρ T σ H (frz G H W (.t T.length)) (drp W (.t T.length)) ∧ Rep K (frz G H W (.t T.length)) o.fz v := by
  refine ⟨h.frz0 _ rfl (fun i s q => .inl ⟨q, fun e => nomatch e⟩) fun k o' v' q => ?_, ?_⟩
  · have hk : k < T.length := by
      by_cases hk : k < T.length
      · exact hk
      · rw [List.getElem?_eq_none (by omega)] at q; cases q
    exact ⟨by rw [List.getElem?_append_left hk]; exact q, fun e => by cases e; exact absurd hk (Nat.lt_irrefl _)⟩
  · exact Ow.rep h (h.tm T.length o v (by simp))
/-- a frozen temporary more -/
theorem R.addT (h : R K g ρ T σ H G W) (q : Rep K G d v) : R K g ρ (T ++ [(.fr d, v)]) σ H G W := { h with
  tm := fun k o v' e => by
    rcases getElem?_snoc e with ⟨e, _⟩ | ⟨_, e⟩
    · exact h.tm k o v' e
    · cases e; rw [Ow]; exact q }
/-- a slot is frozen -/
theorem R.frzS (h : R K g ρ T σ H G W) (e : ρ[i]? = some (.ow o)) : ∃ v, σ[i]? = some (some v) ∧ R K g (ρ.set i (.ow (.fr o.fz))) T σ H (frz G H W (.s i)) (drp W (.s i)) ∧ Rep K (frz G H W (.s i)) o.fz v := by
  obtain ⟨v, h1, h2⟩ := h.sl i _ e
  have rp := Ow.rep h h2
  refine ⟨v, h1, h.frz0 _ (List.length_set ..) (fun j s q => ?_) fun k o' v' q => ⟨q, fun e => nomatch e⟩, rp⟩
  by_cases hj : i = j
  · subst hj
    rw [List.getElem?_set_self' , e] at q
    cases q
    refine .inr ⟨v, h1, ?_⟩
    rw [Ow]; exact rp
  · rw [List.getElem?_set_ne hj] at q
    exact .inl ⟨q, fun z => hj (Rt.s.inj z).symm⟩
/-- roots renamed -/
def wRen (W : Own) (r r' : Rt) (q : List Nat) : Own := fun b => match W b with
  | some l => if l.1 = r then some (r', q ++ l.2) else some l
  | none => none
theorem wRen_ne {r r' : Rt} {q : List Nat} {b : Addr} {l : Lab} (h : W b = some l) (n : l.1 ≠ r) : wRen W r r' q b = some l := by
  unfold wRen; rw [h]; exact if_neg n
theorem wRen_eq {r r' : Rt} {q z : List Nat} {b : Addr} (h : W b = some (r, z)) : wRen W r r' q b = some (r', q ++ z) := by
  unfold wRen; rw [h]; exact if_pos rfl
theorem wRen_none {r r' : Rt} {q : List Nat} {b : Addr} {l : Lab} (h : wRen W r r' q b = some l) : ∃ l', W b = some l' := by
  unfold wRen at h
  split at h
  · rename_i l' w; exact ⟨l', w⟩
  · cases h
theorem Ow.rena {r r' : Rt} {q : List Nat} (h : Ow K G H W o v r []) : Ow K G H (wRen W r r' q) o v r' q := by
  have := Ow.move (K := K) (G := G) (G' := G) (H := H) (H' := H) (W := W) (W' := wRen W r r' q) (r := r) (r' := r') (q := []) (q' := q) (o := o) (v := v) (Same.refl G) [] (fun a z w => ⟨rfl, wRen_eq w⟩) h
  rw [List.append_nil] at this
  exact this
end
end Tr
namespace Tr
open PySem PySem.Spec PyProof.Rows L2
section
variable {K : PySem.W.Frag} {g : Gs} {ρ ρ' : Rho} {T T' : List (O × V)} {σ σ' : L2.St} {H H' G G' : Hp} {W W' : Own} {o : O} {v : V} {p : Addr} {d : D} {i k : Nat} {u : HO}
/-- the general change: labels may be renamed, cells are kept -/
theorem R.relab (h : R K g ρ T σ H G W) (hl : ρ'.length = σ'.length) (hw : ∀ b l, W' b = some l → ∃ l', W b = some l')
    (hs : ∀ i s, ρ'[i]? = some s → SlOk K g G H W' σ' i s) (ht : ∀ k o v, T'[k]? = some (o, v) → Ow K G H W' o v (.t k) []) : R K g ρ' T' σ' H G W' where
  gh := h.gh
  kh := h.kh
  gg := h.gg
  sep := h.sep
  wl := fun b l w => by
    obtain ⟨l', w'⟩ := hw b l w
    exact h.wl b l' w'
  len := hl
  sl := hs
  tm := ht
theorem keep_ren {r r' r2 : Rt} {q : List Nat} (n : r2 ≠ r) : Keep W (wRen W r r' q) H H r2 := fun a z w => ⟨rfl, wRen_ne w n⟩
theorem snoc_last {α : Type} {l : List α} {a : α} : (l ++ [a])[l.length]? = some a := by simp
/-- a slot's tree becomes a temporary -/
theorem R.movS (h : R K g ρ T σ H G W) (e : ρ[i]? = some (.ow o)) : ∃ v, σ[i]? = some (some v) ∧ R K g (ρ.set i .no) (T ++ [(o, v)]) σ H G (wRen W (.s i) (.t T.length) []) := by
  obtain ⟨v, h1, h2⟩ := h.sl i _ e
  refine ⟨v, h1, h.relab ((List.length_set ..).trans h.len) (fun b l w => wRen_none w) (fun j s q => ?_) fun k o' v' q => ?_⟩
  · by_cases hj : i = j
    · subst hj
      rw [List.getElem?_set_self', e] at q
      cases q
      trivial
    · rw [List.getElem?_set_ne hj] at q
      exact (h.sl j s q).keep (Same.refl G) (keep_ren fun z => hj (Rt.s.inj z).symm) rfl
  · rcases getElem?_snoc q with ⟨q2, hk⟩ | ⟨ek, q2⟩
    · exact (h.tm k o' v' q2).keep (Same.refl G) (keep_ren fun z => nomatch z)
    · cases q2; subst ek; exact h2.rena
/-- the last temporary becomes a slot's tree -/
theorem R.setS (h : R K g ρ (T ++ [(o, v)]) σ H G W) (hi : i < ρ.length) : R K g (ρ.set i (.ow o)) T (σ.set i (some v)) H G (wRen W (.t T.length) (.s i) []) := by
  have hq := h.tm T.length o v snoc_last
  refine h.relab (by rw [List.length_set, List.length_set]; exact h.len) (fun b l w => wRen_none w) (fun j s q => ?_) fun k o' v' q => ?_
  · by_cases hj : i = j
    · subst hj
      rw [List.getElem?_set_self hi] at q
      cases q
      exact ⟨v, List.getElem?_set_self (by rw [← h.len]; exact hi), hq.rena⟩
    · rw [List.getElem?_set_ne hj] at q
      exact (h.sl j s q).keep (Same.refl G) (keep_ren fun z => nomatch z) (List.getElem?_set_ne hj)
  · have hk : k < T.length := by
      by_cases hk : k < T.length
      · exact hk
      · rw [List.getElem?_eq_none (by omega)] at q; cases q
    exact (h.tm k o' v' (by rw [List.getElem?_append_left hk]; exact q)).keep (Same.refl G) (keep_ren fun z => by cases z; exact absurd hk (Nat.lt_irrefl _))
/-- temporaries from the n-th on are forgotten -/
theorem R.dropT (h : R K g ρ (T ++ T') σ H G W) : R K g ρ T σ H G W := { h with
  tm := fun k o v q => h.tm k o v (by
    have hk : k < T.length := by
      by_cases hk : k < T.length
      · exact hk
      · rw [List.getElem?_eq_none (by omega)] at q; cases q
    rw [List.getElem?_append_left hk]; exact q) }
/-- a slot forgotten -/
theorem R.noS (h : R K g ρ T σ H G W) {x : Option V} : R K g (ρ.set i .no) T (σ.set i x) H G W :=
  h.relab (by rw [List.length_set, List.length_set]; exact h.len) (fun b l w => ⟨l, w⟩) (fun j s q => by
    by_cases hj : i = j
    · subst hj
      by_cases hi : i < ρ.length
      · rw [List.getElem?_set_self hi] at q; cases q; trivial
      · rw [List.getElem?_eq_none (by rw [List.length_set]; omega)] at q; cases q
    · rw [List.getElem?_set_ne hj] at q
      exact (h.sl j s q).keep (Same.refl G) (fun a z w => ⟨rfl, w⟩) (List.getElem?_set_ne hj)) h.tm
/-! ### a new list of temporaries -/
def wJoin (W : Own) (n : Nat) (p : Addr) : Own := fun b => if b = p then some (.t n, []) else match W b with
  | some (.t k, q) => if n ≤ k then some (.t n, (k - n) :: q) else some (.t k, q)
  | x => x
theorem wJoin_s {n j : Nat} {b : Addr} {z : List Nat} (w : W b = some (.s j, z)) (hb : b ≠ p) : wJoin W n p b = some (.s j, z) := by
  unfold wJoin; rw [if_neg hb, w]
theorem wJoin_lt {n k : Nat} {b : Addr} {z : List Nat} (w : W b = some (.t k, z)) (hb : b ≠ p) (hk : k < n) : wJoin W n p b = some (.t k, z) := by
  unfold wJoin; rw [if_neg hb, w]; exact if_neg (by omega)
theorem wJoin_ge {n k : Nat} {b : Addr} {z : List Nat} (w : W b = some (.t k, z)) (hb : b ≠ p) (hk : n ≤ k) : wJoin W n p b = some (.t n, (k - n) :: z) := by
  unfold wJoin; rw [if_neg hb, w]; exact if_pos hk
theorem Ows.of_tm {W' : Own} {r : Rt} {q : List Nat} : ∀ (ts : List (O × V)) (k : Nat), (∀ j o v, ts[j]? = some (o, v) → Ow K G H W' o v r (q ++ [k + j])) → Ows K G H W' (ts.map (·.1)) (ts.map (·.2)) r q k
  | [], k, h => by rw [List.map_nil, List.map_nil, Ows]
  | (o, v) :: ts, k, h => by
    rw [List.map_cons, List.map_cons, Ows]
    refine ⟨v, _, rfl, h 0 o v rfl, Ows.of_tm ts (k + 1) fun j o' v' e => ?_⟩
    have := h (j + 1) o' v' (by simpa using e)
    rw [show k + 1 + j = k + (j + 1) by omega]
    exact this
theorem R.newL {ts : List (O × V)} (h : R K g ρ (T ++ ts) σ H G W) (hp : H p = none) (hz : ts.length ≤ sizeLine) :
    R K g ρ (T ++ [(.ol (ts.map (·.1)), .ref p)]) σ (upd H p (.lst (ts.map (·.2)))) G (wJoin W T.length p) := by
  have ne : ∀ {b l}, W b = some l → b ≠ p := fun {b l} w e => (h.wl b l w).2.2 (by rw [e]; exact hp)
  have hu : Same H (upd H p (.lst (ts.map (·.2)))) := same_upd hp
  refine ⟨h.gh.trans hu, h.kh.trans hu, h.gg, h.sep, fun b l w => ?_, h.len, fun j s q => ?_, fun k o v q => ?_⟩
  · by_cases hb : b = p
    · subst hb
      exact ⟨h.gh.free hp, h.kh.free hp, by rw [upd_same]; exact fun z => nomatch z⟩
    · have : ∃ l', W b = some l' := by
        unfold wJoin at w
        rw [if_neg hb] at w
        cases e : W b with
        | none => rw [e] at w; cases w
        | some l' => exact ⟨l', rfl⟩
      obtain ⟨l', w'⟩ := this
      rw [upd_ne hb]
      exact h.wl b l' w'
  · exact (h.sl j s q).keep (Same.refl G) (fun a z w => ⟨upd_ne (ne w), wJoin_s w (ne w)⟩) rfl
  · rcases getElem?_snoc q with ⟨q2, hk⟩ | ⟨ek, q2⟩
    · exact (h.tm k o v (by rw [List.getElem?_append_left hk]; exact q2)).keep (Same.refl G) fun a z w => ⟨upd_ne (ne w), wJoin_lt w (ne w) hk⟩
    · cases q2
      subst ek
      rw [Ow]
      refine ⟨p, _, rfl, upd_same, if_pos rfl, Ows.of_tm ts 0 fun j o v e => ?_, by rw [List.length_map]; exact hz⟩
      have q := h.tm (T.length + j) o v (by rw [List.getElem?_append_right (by omega), Nat.add_sub_cancel_left]; exact e)
      have := Ow.move (K := K) (G := G) (G' := G) (H := H) (H' := upd H p (.lst (ts.map (·.2)))) (W := W) (W' := wJoin W T.length p) (r := .t (T.length + j)) (r' := .t T.length) (q := []) (q' := [j]) (o := o) (v := v) (Same.refl G) []
        (fun a z w => ⟨upd_ne (ne w), by
          have := wJoin_ge (z := z) (n := T.length) (k := T.length + j) (p := p) w (ne w) (by omega)
          rw [Nat.add_sub_cancel_left] at this
          exact this⟩) q
      simpa using this
/-! ### writes -/
/-- a frozen list's items -/
theorem Ows.fr {r : Rt} {q : List Nat} : ∀ (ds : List D) (xs : List V) (k : Nat), Reps K G ds xs → Ows K G H W (ds.map .fr) xs r q k
  | [], xs, k, h => by rw [Reps] at h; rw [List.map_nil, Ows]; exact h
  | d :: ds, xs, k, h => by
    rw [Reps] at h
    rw [List.map_cons, Ows]
    obtain ⟨x, xr, e, h1, h2⟩ := h
    refine ⟨x, xr, e, ?_, Ows.fr ds xr (k + 1) h2⟩
    rw [Ow]; exact h1
theorem Ows.len {r : Rt} {q : List Nat} : ∀ {os : List O} {xs : List V} {k : Nat}, Ows K G H W os xs r q k → os.length = xs.length
  | [], xs, k, h => by rw [Ows] at h; rw [h]; rfl
  | o :: os, xs, k, h => by
    rw [Ows] at h
    obtain ⟨x, xr, e, _, h2⟩ := h
    rw [e, List.length_cons, List.length_cons, Ows.len h2]
theorem Ows.get {r : Rt} {q : List Nat} : ∀ {os : List O} {xs : List V} {k j : Nat} {o : O}, Ows K G H W os xs r q k → os[j]? = some o → ∃ x, xs[j]? = some x ∧ Ow K G H W o x r (q ++ [k + j])
  | [], xs, k, j, o, h, e => by simp at e
  | o' :: os, xs, k, 0, o, h, e => by
    rw [Ows] at h
    obtain ⟨x, xr, e1, h1, h2⟩ := h
    simp at e; subst e; subst e1
    exact ⟨x, rfl, h1⟩
  | o' :: os, xs, k, j + 1, o, h, e => by
    rw [Ows] at h
    obtain ⟨x, xr, e1, h1, h2⟩ := h
    obtain ⟨y, e2, h3⟩ := Ows.get h2 (show os[j]? = some o by simpa using e)
    subst e1
    refine ⟨y, by simpa using e2, ?_⟩
    rw [show k + (j + 1) = k + 1 + j by omega]; exact h3
theorem Ows.set {r : Rt} {q : List Nat} : ∀ {os : List O} {xs : List V} {k j : Nat} {o : O} {x : V}, Ows K G H W os xs r q k → Ow K G H W o x r (q ++ [k + j]) → Ows K G H W (os.set j o) (xs.set j x) r q k
  | [], xs, k, j, o, x, h, e => by rw [Ows] at h; subst h; simp [Ows]
  | o' :: os, xs, k, 0, o, x, h, e => by
    rw [Ows] at h
    obtain ⟨y, xr, e1, h1, h2⟩ := h
    subst e1
    rw [List.set_cons_zero, List.set_cons_zero, Ows]
    exact ⟨x, xr, rfl, e, h2⟩
  | o' :: os, xs, k, j + 1, o, x, h, e => by
    rw [Ows] at h
    obtain ⟨y, xr, e1, h1, h2⟩ := h
    subst e1
    rw [List.set_cons_succ, List.set_cons_succ, Ows]
    refine ⟨y, _, rfl, h1, Ows.set h2 ?_⟩
    rw [show k + 1 + j = k + (j + 1) by omega]; exact e
theorem Ows.append {r : Rt} {q : List Nat} : ∀ {os os' : List O} {xs xs' : List V} {k : Nat}, Ows K G H W os xs r q k → Ows K G H W os' xs' r q (k + os.length) → Ows K G H W (os ++ os') (xs ++ xs') r q k
  | [], os', xs, xs', k, h, e => by rw [Ows] at h; subst h; exact e
  | o :: os, os', xs, xs', k, h, e => by
    rw [Ows] at h
    obtain ⟨y, xr, e1, h1, h2⟩ := h
    subst e1
    rw [List.cons_append, List.cons_append, Ows]
    refine ⟨y, _, rfl, h1, Ows.append h2 ?_⟩
    rw [show k + 1 + os.length = k + (o :: os).length by rw [List.length_cons]; omega]; exact e
theorem Ows.take {r : Rt} {q : List Nat} : ∀ {os : List O} {xs : List V} {k : Nat} (n : Nat), Ows K G H W os xs r q k → Ows K G H W (os.take n) (xs.take n) r q k
  | os, xs, k, 0, h => by rw [List.take_zero, List.take_zero, Ows]
  | [], xs, k, n + 1, h => by rw [Ows] at h; subst h; rw [List.take_nil, List.take_nil, Ows]
  | o :: os, xs, k, n + 1, h => by
    rw [Ows] at h
    obtain ⟨y, xr, e1, h1, h2⟩ := h
    subst e1
    rw [List.take_succ_cons, List.take_succ_cons, Ows]
    exact ⟨y, _, rfl, h1, Ows.take n h2⟩
theorem Ows.move1 {r : Rt} {q : List Nat} {os : List O} {xs : List V} {k : Nat} (e : Same G G') (hm : ∀ a z, W a = some (r, q ++ z) → z ≠ [] → H' a = H a ∧ W' a = some (r, q ++ z)) (h : Ows K G H W os xs r q k) : Ows K G' H' W' os xs r q k := by
  induction os generalizing xs k with
  | nil => rw [Ows] at h ⊢; exact h
  | cons o os ih =>
    rw [Ows] at h ⊢
    obtain ⟨y, xr, e1, h1, h2⟩ := h
    refine ⟨y, xr, e1, ?_, ih h2⟩
    have := Ow.move (K := K) (G := G) (G' := G') (H := H) (H' := H') (W := W) (W' := W') (r := r) (r' := r) (q := q ++ [k]) (q' := q ++ [k]) (o := o) (v := y) e [] (fun a z w => by
      rw [List.nil_append, List.append_assoc] at w ⊢
      exact hm a _ w (by simp)) (by rw [List.append_nil]; exact h1)
    rw [List.append_nil] at this
    exact this
theorem Ows.un_fr {r : Rt} {q : List Nat} : ∀ (ds : List D) (xs : List V) (k : Nat), Ows K G H W (ds.map .fr) xs r q k → Reps K G ds xs
  | [], xs, k, h => by rw [List.map_nil, Ows] at h; rw [Reps]; exact h
  | d :: ds, xs, k, h => by
    rw [List.map_cons, Ows] at h
    rw [Reps]
    obtain ⟨x, xr, e, h1, h2⟩ := h
    rw [Ow] at h1
    exact ⟨x, xr, e, h1, Ows.un_fr ds xr (k + 1) h2⟩
/-- all items frozen -/
def frs? : List O → Option (List D)
  | [] => some []
  | .fr d :: r => (frs? r).map (d :: ·)
  | _ :: _ => none
theorem frs?_some : ∀ {os : List O} {ds : List D}, frs? os = some ds → os = ds.map .fr
  | [], ds, h => by cases h; rfl
  | .fr d :: r, ds, h => by
    unfold frs? at h
    cases e : frs? r with
    | none => rw [e] at h; cases h
    | some l => rw [e] at h; cases h; rw [List.map_cons, frs?_some e]
  | .fl _ :: _, _, h => by cases h
  | .ol _ :: _, _, h => by cases h
  | .od _ :: _, _, h => by cases h
theorem frs?_map : ∀ ds : List D, frs? (ds.map .fr) = some ds
  | [] => rfl
  | d :: ds => by rw [List.map_cons, frs?, frs?_map ds]; rfl
/-- a new list of owned things -/
def mkL (os : List O) : O := match frs? os with
  | some ds => .fl ds
  | none => .ol os
theorem mkL_fr (ds : List D) : mkL (ds.map .fr) = .fl ds := by unfold mkL; rw [frs?_map]
theorem Ow.mkL {os : List O} {r : Rt} {q : List Nat} (h : Ow K G H W (.ol os) v r q) : Ow K G H W (mkL os) v r q := by
  unfold Tr.mkL
  cases e : frs? os with
  | none => exact h
  | some ds =>
    have e2 := frs?_some e
    subst e2
    show Tr.Ow K G H W (.fl ds) v r q
    have h' := h
    rw [Tr.Ow] at h'
    obtain ⟨a, xs, e1, h1, h2, h3, hz⟩ := h'
    rw [Tr.Ow]
    exact ⟨a, xs, e1, h1, h2, Ows.un_fr _ _ _ h3, by rw [List.length_map] at hz; exact hz⟩
/-- what a slot holds -/
def Sl.tr : Sl → Option O
  | .no => none
  | .ow o => some o
  | .le o => some o
def Sl.put : Sl → O → Sl
  | .no, _ => .no
  | .ow _, o => .ow o
  | .le _, o => .le o
theorem R.slo (h : R K g ρ T σ H G W) {s : Sl} (e : ρ[i]? = some s) (eo : s.tr = some o) : ∃ v, σ[i]? = some (some v) ∧ Ow K G H W o v (.s i) [] := by
  cases s with
  | no => cases eo
  | ow o' => cases eo; exact h.sl i _ e
  | le o' =>
    cases eo
    obtain ⟨v, h1, _, h2⟩ := h.sl i _ e
    exact ⟨v, h1, h2⟩
/-- a slot's cell is written: what it holds is then o' -/
theorem R.wr0 {s : Sl} {o' : O} {a : Addr} {u : HO} (h : R K g ρ T σ H G W) (h' : R K g ρ T σ H G' W) (e : ρ[i]? = some s) (hv : σ[i]? = some (some (.ref a))) (hw : W a = some (.s i, [])) (es : s ≠ .no) (ho : Ow K G' (upd H a u) W o' (.ref a) (.s i) []) :
    R K g (ρ.set i (s.put o')) T σ (upd H a u) G' W := by
  have hne : ∀ {b : Addr} {l : Lab}, W b = some l → l ≠ (.s i, []) → b ≠ a := fun {b l} w n eq => n (by rw [eq, hw] at w; exact (Option.some.inj w).symm)
  have g' := (h'.wl a _ hw)
  refine ⟨fun b x q => ?_, fun b x q => ?_, h'.gg, h'.sep, fun b l w => ?_, (List.length_set ..).trans h.len, fun j s' q => ?_, fun k o v q => ?_⟩
  · rw [upd_ne (fun z => by rw [z, g'.1] at q; cases q)]; exact h'.gh b x q
  · rw [upd_ne (fun z => by rw [z, g'.2.1] at q; cases q)]; exact h'.kh b x q
  · refine ⟨(h'.wl b l w).1, (h'.wl b l w).2.1, ?_⟩
    by_cases hb : b = a
    · rw [hb, upd_same]; exact fun z => nomatch z
    · rw [upd_ne hb]; exact (h'.wl b l w).2.2
  · by_cases hj : i = j
    · subst hj
      have hi : i < ρ.length := by
        by_cases hi : i < ρ.length
        · exact hi
        · rw [List.getElem?_eq_none (by omega)] at e; cases e
      rw [List.getElem?_set_self hi] at q
      cases q
      cases s with
      | no => trivial
      | ow o'' => exact ⟨.ref a, hv, ho⟩
      | le o'' =>
        obtain ⟨v', h1, h3, _⟩ := h.sl i _ e
        rw [hv] at h1; cases h1
        exact ⟨.ref a, hv, h3, ho⟩
    · rw [List.getElem?_set_ne hj] at q
      exact (h'.sl j s' q).keep (Same.refl G') (fun b z w => ⟨upd_ne (hne w fun z => hj (by cases z; rfl)), w⟩) rfl
  · exact (h'.tm k o v q).keep (Same.refl G') fun b z w => ⟨upd_ne (hne w fun z => nomatch z), w⟩
/-- the flat list in a slot is written -/
theorem R.wrF {s : Sl} {ds : List D} (h : R K g ρ T σ H G W) (e : ρ[i]? = some s) (eo : s.tr = some (.fl ds)) :
    ∃ a xs, σ[i]? = some (some (.ref a)) ∧ H a = some (.lst xs) ∧ G a = none ∧ Reps K G ds xs ∧
      ∀ G' ds' xs', Same G G' → R K g ρ T σ H G' W → Reps K G' ds' xs' → ds'.length ≤ sizeLine → R K g (ρ.set i (s.put (.fl ds'))) T σ (upd H a (.lst xs')) G' W := by
  obtain ⟨v, hv, ho⟩ := h.slo e eo
  rw [Ow] at ho
  obtain ⟨a, xs, rfl, ha, hw, hos, hz⟩ := ho
  refine ⟨a, xs, hv, ha, (h.wl a _ hw).1, hos, fun G' ds' xs' eg h' hos' hz' => h.wr0 h' e hv hw (fun z => by rw [z] at eo; cases eo) ?_⟩
  rw [Ow]; exact ⟨a, xs', rfl, upd_same, hw, hos', hz'⟩
/-- the dict in a slot is written -/
theorem R.wrD {s : Sl} {ds : List (Key × D)} (h : R K g ρ T σ H G W) (e : ρ[i]? = some s) (eo : s.tr = some (.od ds)) :
    ∃ a xs, σ[i]? = some (some (.ref a)) ∧ H a = some (.dK xs) ∧ G a = none ∧ RepK K G ds xs ∧
      ∀ G' ds' xs', Same G G' → R K g ρ T σ H G' W → RepK K G' ds' xs' → R K g (ρ.set i (s.put (.od ds'))) T σ (upd H a (.dK xs')) G' W := by
  obtain ⟨v, hv, ho⟩ := h.slo e eo
  rw [Ow] at ho
  obtain ⟨a, xs, rfl, ha, hw, hos⟩ := ho
  refine ⟨a, xs, hv, ha, (h.wl a _ hw).1, hos, fun G' ds' xs' eg h' hos' => h.wr0 h' e hv hw (fun z => by rw [z] at eo; cases eo) ?_⟩
  rw [Ow]; exact ⟨a, xs', rfl, upd_same, hw, hos'⟩
/-- the list in a slot is written -/
theorem R.wr {s : Sl} {os os' : List O} (h : R K g ρ T σ H G W) (e : ρ[i]? = some s) (eo : s.tr = some (.ol os)) :
    ∃ a xs, σ[i]? = some (some (.ref a)) ∧ H a = some (.lst xs) ∧ G a = none ∧ os.length = xs.length ∧ Ows K G H W os xs (.s i) [] 0 ∧
      ∀ G' os' xs', Same G G' → R K g ρ T σ H G' W → (Ows K G' (upd H a (.lst xs')) W os' xs' (.s i) [] 0) → os'.length ≤ sizeLine → R K g (ρ.set i (s.put (.ol os'))) T σ (upd H a (.lst xs')) G' W := by
  obtain ⟨v, hv, ho⟩ := h.slo e eo
  rw [Ow] at ho
  obtain ⟨a, xs, rfl, ha, hw, hos, hz⟩ := ho
  refine ⟨a, xs, hv, ha, (h.wl a _ hw).1, hos.len, hos, fun G' os' xs' eg h' hos' hz' => ?_⟩
  have hne : ∀ {b : Addr} {l : Lab}, W b = some l → l ≠ (.s i, []) → b ≠ a := fun {b l} w n eq => n (by rw [eq, hw] at w; exact (Option.some.inj w).symm)
  have g' := (h'.wl a _ hw)
  refine ⟨fun b x q => ?_, fun b x q => ?_, h'.gg, h'.sep, fun b l w => ?_, (List.length_set ..).trans h.len, fun j s' q => ?_, fun k o v q => ?_⟩
  · rw [upd_ne (fun z => by rw [z, g'.1] at q; cases q)]; exact h'.gh b x q
  · rw [upd_ne (fun z => by rw [z, g'.2.1] at q; cases q)]; exact h'.kh b x q
  · refine ⟨(h'.wl b l w).1, (h'.wl b l w).2.1, ?_⟩
    by_cases hb : b = a
    · rw [hb, upd_same]; exact fun z => nomatch z
    · rw [upd_ne hb]; exact (h'.wl b l w).2.2
  · by_cases hj : i = j
    · subst hj
      have hi : i < ρ.length := by
        by_cases hi : i < ρ.length
        · exact hi
        · rw [List.getElem?_eq_none (by omega)] at e; cases e
      rw [List.getElem?_set_self hi] at q
      cases q
      have ow : Ow K G' (upd H a (.lst xs')) W (.ol os') (.ref a) (.s i) [] := by
        rw [Ow]; exact ⟨a, xs', rfl, upd_same, hw, hos', hz'⟩
      cases s with
      | no => trivial
      | ow o' => exact ⟨.ref a, hv, ow⟩
      | le o' =>
        obtain ⟨v', h1, h3, _⟩ := h.sl i _ e
        rw [hv] at h1; cases h1
        exact ⟨.ref a, hv, h3, ow⟩
    · rw [List.getElem?_set_ne hj] at q
      exact (h'.sl j s' q).keep (Same.refl G') (fun b z w => ⟨upd_ne (hne w fun z => hj (by cases z; rfl)), w⟩) rfl
  · exact (h'.tm k o v q).keep (Same.refl G') fun b z w => ⟨upd_ne (hne w fun z => nomatch z), w⟩
end
end Tr
namespace Tr
open PySem PySem.Spec PyProof.Rows L2
/-- a result: a value, or an error of a class (by its name) with its fields -/
inductive Re (α : Type) where
  | ok (a : α) (ρ : Rho)
  | ex (c : Str) (fs : List (Str × D)) (ρ : Rho)
/-- a statement's result -/
inductive So where
  | nx (ρ : Rho) | rt (o : O) (ρ : Rho) | bk (ρ : Rho) | ct (ρ : Rho)
  | ex (c : Str) (fs : List (Str × D)) (ρ : Rho)
abbrev Mo (α : Type) := Rho → Option (Re α)
abbrev Pu (α : Type) := Rho → Option α
abbrev MS := Rho → Option So
abbrev MG := Str → Option Value
def FsRep (K : PySem.W.Frag) (G : Hp) (fs : List (Str × D)) (fv : List (Str × V)) : Prop := fv.map (·.1) = fs.map (·.1) ∧ Reps K G (fs.map (·.2)) (fv.map (·.2))
/-- what is wanted of an error -/
def WE' (K : PySem.W.Frag) (mg : MG) (Wx : WX) (g : Gs) (T : List (O × V)) (G : Hp) (c : Str) (fs : List (Str × D)) (ρ' : Rho) : Prop :=
  ∀ C d fv σ' H' G' W', mg c = some (.ref C) → R K g ρ' T σ' H' G' W' → Same G G' → G' d = some (.xd fv) → FsRep K G' fs fv → Wx (.ref C) (some d) σ' H'
def GE {α : Type} (K : PySem.W.Frag) (mg : MG) (Wx : WX) (g : Gs) (T : List (O × V)) (G : Hp) (k : α → Rho → Prop) : Option (Re α) → Prop
  | none => False
  | some (.ok a ρ') => k a ρ'
  | some (.ex c fs ρ') => WE' K mg Wx g T G c fs ρ'
section
variable (K : PySem.W.Frag) (mg : MG) (Wx : WX)
/-- an expression: the value as an owned tree -/
def tX (f : Mo O) : TE := fun σ H Q => ∃ g ρ T G W, R K g ρ T σ H G W ∧ GE K mg Wx g T G (fun o ρ' => ∀ v H' G' W', R K g ρ' (T ++ [(o, v)]) σ H' G' W' → Same G G' → Q v H') (f ρ)
/-- an argument list: all its values as temporaries -/
def tA (f : Mo (List O)) : TA := fun σ H Q => ∃ g ρ T G W, R K g ρ T σ H G W ∧ GE K mg Wx g T G (fun os ρ' => ∀ vs H' G' W', vs.length = os.length → R K g ρ' (T ++ os.zip vs) σ H' G' W' → Same G G' → Q vs H') (f ρ)
/-- an expression that changes nothing, its value frozen -/
def tP (f : Pu D) : TE := fun σ H Q => ∃ g ρ T G W d, R K g ρ T σ H G W ∧ f ρ = some d ∧ ∀ v H' G', R K g ρ T σ H' G' W → Same G G' → Same H H' → Rep K G' d v → Q v H'
/-- .. its value readable as the heap stands -/
def tB (f : Pu D) : TE := fun σ H Q => ∃ g ρ T G W d, R K g ρ T σ H G W ∧ f ρ = some d ∧ ∀ v H' G', R K g ρ T σ H' G' W → Same G G' → Same H H' → Rep K H' d v → Q v H'
/-- tests -/
def tQ (f : Pu Bool) : TT := fun σ H Q => ∃ g ρ T G W b, R K g ρ T σ H G W ∧ f ρ = some b ∧ ∀ H' G', R K g ρ T σ H' G' W → Same G G' → Same H H' → Q b H'
def tY (f : Mo Bool) : TT := fun σ H Q => ∃ g ρ T G W, R K g ρ T σ H G W ∧ GE K mg Wx g T G (fun b ρ' => ∀ H' G' W', R K g ρ' T σ H' G' W' → Same G G' → Q b H') (f ρ)
/-- statements -/
def GS (D : Ends) (g : Gs) (T : List (O × V)) (G : Hp) : Option So → Prop
  | none => False
  | some (.nx ρ') => ∀ σ' H' G' W', R K g ρ' T σ' H' G' W' → Same G G' → D.nx σ' H'
  | some (.bk ρ') => ∀ σ' H' G' W', R K g ρ' T σ' H' G' W' → Same G G' → D.bk σ' H'
  | some (.ct ρ') => ∀ σ' H' G' W', R K g ρ' T σ' H' G' W' → Same G G' → D.ct σ' H'
  | some (.rt o ρ') => ∀ v σ' H' G' W', R K g ρ' (T ++ [(o, v)]) σ' H' G' W' → Same G G' → D.rt v H'
  | some (.ex c fs ρ') => WE' K mg Wx g T G c fs ρ'
def tS (f : MS) : TS := fun D σ H => ∃ g ρ T G W, R K g ρ T σ H G W ∧ GS K mg Wx D g T G (f ρ)
end
theorem _root_.L2.PE.wk {X : Cx} {e : Expr} {t t' : TE} (h : PE X e t) (w : ∀ σ H Q, t' σ H Q → t σ H Q) : PE X e t' := ⟨fun pins s σ H Q I q => h.run pins s σ H Q I (w σ H Q q)⟩
theorem _root_.L2.PT.wk {X : Cx} {e : Expr} {t t' : TT} (h : PT X e t) (w : ∀ σ H Q, t' σ H Q → t σ H Q) : PT X e t' := ⟨fun pins s σ H Q I q => h.run pins s σ H Q I (w σ H Q q)⟩
theorem _root_.L2.PA.wk {X : Cx} {e : List Expr} {t t' : TA} (h : PA X e t) (w : ∀ σ H Q, t' σ H Q → t σ H Q) : PA X e t' := ⟨fun pos pins s σ H Q I q => h.run pos pins s σ H Q I (w σ H Q q)⟩
theorem _root_.L2.PS.wk {X : Cx} {e : Stmt} {t t' : TS} (h : PS X e t) (w : ∀ D σ H, t' D σ H → t D σ H) : PS X e t' := ⟨fun pins s σ H Q I q => h.run pins s σ H Q I (w Q σ H q)⟩
theorem _root_.L2.PSs.wk {X : Cx} {e : List Stmt} {t t' : TS} (h : PSs X e t) (w : ∀ D σ H, t' D σ H → t D σ H) : PSs X e t' := ⟨fun pins s σ H Q I q => h.run pins s σ H Q I (w Q σ H q)⟩

theorem WE'.mono {K : PySem.W.Frag} {mg : MG} {Wx : WX} {g : Gs} {T : List (O × V)} {G G' : Hp} {c : Str} {fs : List (Str × D)} {ρ : Rho} (e : Same G G') (h : WE' K mg Wx g T G c fs ρ) : WE' K mg Wx g T G' c fs ρ :=
  fun C d fv σ' H' G2 W' a b s x y => h C d fv σ' H' G2 W' a b (e.trans s) x y
theorem WE'.drop {K : PySem.W.Frag} {mg : MG} {Wx : WX} {g : Gs} {T T' : List (O × V)} {G : Hp} {c : Str} {fs : List (Str × D)} {ρ : Rho} (h : WE' K mg Wx g T G c fs ρ) : WE' K mg Wx g (T ++ T') G c fs ρ :=
  fun C d fv σ' H' G2 W' a b s x y => h C d fv σ' H' G2 W' a b.dropT s x y
/-! ### from one reading to another -/
/-- pure to general -/
def ofP (f : Pu D) : Mo O := fun ρ => match f ρ with
  | some d => some (.ok (.fr d) ρ)
  | none => none
/-- general, its value frozen -/
def frzM (f : Mo O) : Mo D := fun ρ => match f ρ with
  | some (.ok o ρ') => some (.ok o.fz ρ')
  | some (.ex c fs ρ') => some (.ex c fs ρ')
  | none => none
section
variable {X : Cx} {e a b : Expr} {Wx : WX} {pos : Pos}
theorem _root_.L2.PE.px {f : Pu D} (h : PE X e (tP X.K f)) : PE X e (tX X.K X.mg Wx (ofP f)) := h.wk fun σ H Q ⟨g, ρ, T, G, W, hR, k⟩ => by
  unfold ofP at k
  cases hf : f ρ with
  | none => rw [hf] at k; exact k.elim
  | some d =>
    rw [hf] at k
    exact ⟨g, ρ, T, G, W, d, hR, hf, fun v H' G' R' eg eh r => k v H' G' W (R'.addT r) eg⟩
theorem _root_.L2.PE.pb {f : Pu D} (h : PE X e (tP X.K f)) : PE X e (tB X.K f) := h.wk fun σ H Q ⟨g, ρ, T, G, W, d, hR, hf, k⟩ =>
  ⟨g, ρ, T, G, W, d, hR, hf, fun v H' G' R' eg eh r => k v H' G' R' eg eh (r.mono R'.gh)⟩
/-- a value, frozen (for the readings of rules) -/
def tV (K : PySem.W.Frag) (mg : MG) (Wx : WX) (f : Mo D) : TE := fun σ H Q => ∃ g ρ T G W, R K g ρ T σ H G W ∧ GE K mg Wx g T G (fun d ρ' => ∀ v H' G' W', R K g ρ' T σ H' G' W' → Same G G' → Rep K G' d v → Q v H') (f ρ)
theorem _root_.L2.PE.pv {f : Mo O} (h : PE X e (tX X.K X.mg Wx f)) : PE X e (tV X.K X.mg Wx (frzM f)) := h.wk fun σ H Q ⟨g, ρ, T, G, W, hR, k⟩ => by
  refine ⟨g, ρ, T, G, W, hR, ?_⟩
  unfold frzM at k
  cases hf : f ρ with
  | none => rw [hf] at k; exact k.elim
  | some r =>
    rw [hf] at k
    cases r with
    | ex c fs ρ' => exact k
    | ok o ρ' =>
      intro v H' G' W' R' eg
      obtain ⟨R2, rp⟩ := R'.frzT
      exact k v _ _ _ R2 (eg.trans (frz_same R' _)) rp
/-- what a value frozen becomes -/
def frM (f : Mo D) : Mo O := fun ρ => match f ρ with
  | some (.ok d ρ') => some (.ok (.fr d) ρ')
  | some (.ex c fs ρ') => some (.ex c fs ρ')
  | none => none
theorem _root_.L2.PE.vx {f : Mo D} (h : PE X e (tV X.K X.mg Wx f)) : PE X e (tX X.K X.mg Wx (frM f)) := h.wk fun σ H Q ⟨g, ρ, T, G, W, hR, k⟩ => by
  refine ⟨g, ρ, T, G, W, hR, ?_⟩
  unfold frM at k
  cases hf : f ρ with
  | none => rw [hf] at k; exact k.elim
  | some r =>
    rw [hf] at k
    cases r with
    | ex c fs ρ' => exact k
    | ok d ρ' => exact fun v H' G' W' R' eg r => k v H' G' W' (R'.addT r) eg
def puV (f : Pu D) : Mo D := fun ρ => match f ρ with
  | some d => some (.ok d ρ)
  | none => none
theorem _root_.L2.PE.pV {f : Pu D} (h : PE X e (tP X.K f)) : PE X e (tV X.K X.mg Wx (puV f)) := h.wk fun σ H Q ⟨g, ρ, T, G, W, hR, k⟩ => by
  unfold puV at k
  cases hf : f ρ with
  | none => rw [hf] at k; exact k.elim
  | some d =>
    rw [hf] at k
    exact ⟨g, ρ, T, G, W, d, hR, hf, fun v H' G' R' eg eh r => k v H' G' W R' eg r⟩
/-! ### constants and names -/
def cst (d : D) : Pu D := fun _ => some d
theorem p_cst {v : V} {d : D} (h : PE X e (tC v)) (r : ∀ G, Rep X.K G d v) : PE X e (tP X.K (cst d)) := h.wk fun σ H Q ⟨g, ρ, T, G, W, d', hR, hf, k⟩ => by
  cases hf
  exact k v H G hR (Same.refl _) (Same.refl _) (r G)
theorem p_int {i j} : PE X (.Constant (.int i) j pos) (tP X.K (cst (.int i))) := p_cst pe_int fun G => by rw [Rep]
theorem p_bl {b j} : PE X (.Constant (.bool b) j pos) (tP X.K (cst (.bl b))) := p_cst pe_bl fun G => by rw [Rep]
theorem p_non {j} : PE X (.Constant .none j pos) (tP X.K (cst .non)) := p_cst pe_non fun G => by rw [Rep]
theorem p_str {x j} : PE X (.Constant (.str x) j pos) (tP X.K (cst (.str x))) := p_cst pe_str fun G => by rw [Rep]
/-- a frozen slot -/
def var (i : Nat) : Pu D := fun ρ => match ρ[i]? with
  | some (.ow (.fr d)) => some d
  | some (.le (.fr d)) => some d
  | _ => none
theorem var_some {i : Nat} {ρ : Rho} {d : D} (h : var i ρ = some d) : ∃ s, ρ[i]? = some s ∧ s.tr = some (.fr d) := by
  unfold var at h
  split at h
  · rename_i e; cases h; exact ⟨_, e, rfl⟩
  · rename_i e; cases h; exact ⟨_, e, rfl⟩
  · cases h
theorem p_var {i : Nat} (h : PE X e (tVar i)) : PE X e (tP X.K (var i)) := h.wk fun σ H Q ⟨g, ρ, T, G, W, d, hR, hf, k⟩ => by
  obtain ⟨s, e1, e2⟩ := var_some hf
  obtain ⟨v, h1, h2⟩ := hR.slo e1 e2
  rw [Ow] at h2
  exact ⟨v, h1, k v H G hR (Same.refl _) (Same.refl _) h2⟩
/-- any slot, read -/
def bor (i : Nat) : Pu D := fun ρ => match ρ[i]? with
  | some (.ow o) => some o.fz
  | some (.le o) => some o.fz
  | _ => none
theorem bor_some {i : Nat} {ρ : Rho} {d : D} (h : bor i ρ = some d) : ∃ s o, ρ[i]? = some s ∧ s.tr = some o ∧ d = o.fz := by
  unfold bor at h
  split at h
  · rename_i e; cases h; exact ⟨_, _, e, rfl, rfl⟩
  · rename_i e; cases h; exact ⟨_, _, e, rfl, rfl⟩
  · cases h
theorem b_var {i : Nat} (h : PE X e (tVar i)) : PE X e (tB X.K (bor i)) := h.wk fun σ H Q ⟨g, ρ, T, G, W, d, hR, hf, k⟩ => by
  obtain ⟨s, o, e1, e2, e3⟩ := bor_some hf
  obtain ⟨v, h1, h2⟩ := hR.slo e1 e2
  subst e3
  exact ⟨v, h1, k v H G hR (Same.refl _) (Same.refl _) (h2.bor hR.gh)⟩
/-- a slot, frozen for good -/
def frzS (i : Nat) : Mo D := fun ρ => match ρ[i]? with
  | some (.ow o) => some (.ok o.fz (ρ.set i (.ow (.fr o.fz))))
  | _ => none
theorem v_frz {i : Nat} (h : PE X e (tVar i)) : PE X e (tV X.K X.mg Wx (frzS i)) := h.wk fun σ H Q ⟨g, ρ, T, G, W, hR, k⟩ => by
  unfold frzS at k
  cases e : ρ[i]? with
  | none => rw [e] at k; exact k.elim
  | some s =>
    rw [e] at k
    cases s with
    | no => exact k.elim
    | le o => exact k.elim
    | ow o =>
      obtain ⟨v, h1, R2, rp⟩ := hR.frzS e
      exact ⟨v, h1, k v H _ _ R2 (frz_same hR _) rp⟩
/-- a slot, given away -/
def mov (i : Nat) : Mo O := fun ρ => match ρ[i]? with
  | some (.ow o) => some (.ok o (ρ.set i .no))
  | _ => none
theorem x_mov {i : Nat} (h : PE X e (tVar i)) : PE X e (tX X.K X.mg Wx (mov i)) := h.wk fun σ H Q ⟨g, ρ, T, G, W, hR, k⟩ => by
  unfold mov at k
  cases e : ρ[i]? with
  | none => rw [e] at k; exact k.elim
  | some s =>
    rw [e] at k
    cases s with
    | no => exact k.elim
    | le o => exact k.elim
    | ow o =>
      obtain ⟨v, h1, R2⟩ := hR.movS e
      exact ⟨v, h1, k v H _ _ R2 (Same.refl G)⟩
/-! ### operators -/
inductive Grow (H G : Hp) : Hp → Hp → Prop where
  | st : Grow H G H G
  | nw (p : Addr) (u : HO) (hp : H p = none) : Grow H G (upd H p u) (upd G p u)
theorem R.grow {K : PySem.W.Frag} {g : Gs} {ρ : Rho} {T : List (O × V)} {σ : L2.St} {H H' G G' : Hp} {W : Own} (h : R K g ρ T σ H G W) (w : Grow H G H' G') : R K g ρ T σ H' G' W ∧ Same H H' ∧ Same G G' := by
  cases w with
  | st => exact ⟨h, Same.refl _, Same.refl _⟩
  | nw p u hp => exact ⟨h.new hp, same_upd hp, same_upd (h.gh.free hp)⟩
/-- a rule for two values reckons g -/
def OpS (K : PySem.W.Frag) (r : R2) (f : D → D → Option D) : Prop := ∀ (d1 d2 d : D) (x y : V) (H G : Hp) (Q : VK), Same G H → f d1 d2 = some d → Rep K G d1 x → Rep K G d2 y → (∀ v H' G', Grow H G H' G' → Rep K G' d v → Q v H') → r x y H Q
/-- .. of values read in the heap, a value that is no object -/
def OpB (K : PySem.W.Frag) (r : R2) (f : D → D → Option D) : Prop := ∀ (d1 d2 d : D) (x y : V) (H : Hp) (Q : VK), f d1 d2 = some d → Rep K H d1 x → Rep K H d2 y → (∀ v, (∀ G, Rep K G d v) → Q v H) → r x y H Q
theorem OpB.s {K : PySem.W.Frag} {r : R2} {f : D → D → Option D} (h : OpB K r f) : OpS K r f := fun d1 d2 d x y H G Q e hf r1 r2 k => h d1 d2 d x y H Q hf (r1.mono e) (r2.mono e) fun v hv => k v H G .st (hv G)
def pu2 (g : D → D → Option D) (fa fb : Pu D) : Pu D := fun ρ => match fa ρ, fb ρ with
  | some x, some y => g x y
  | _, _ => none
theorem pu2_some {g : D → D → Option D} {fa fb : Pu D} {ρ : Rho} {d : D} (h : pu2 g fa fb ρ = some d) : ∃ x y, fa ρ = some x ∧ fb ρ = some y ∧ g x y = some d := by
  unfold pu2 at h
  split at h
  · rename_i x y e1 e2; exact ⟨x, y, e1, e2, h⟩
  · cases h
theorem tOp_p {K : PySem.W.Frag} {r : R2} {g : D → D → Option D} {fa fb : Pu D} (h : OpS K r g) : ∀ σ H Q, tP K (pu2 g fa fb) σ H Q → tOp r (tP K fa) (tP K fb) σ H Q := fun σ H Q ⟨g', ρ, T, G, W, d, hR, hf, k⟩ => by
  obtain ⟨x, y, e1, e2, e3⟩ := pu2_some hf
  refine ⟨g', ρ, T, G, W, x, hR, e1, fun u H1 G1 R1 eg1 eh1 r1 => ⟨g', ρ, T, G1, W, y, R1, e2, fun u2 H2 G2 R2 eg2 eh2 r2 => ?_⟩⟩
  refine h x y d u u2 H2 G2 Q R2.gh e3 (r1.mono eg2) r2 fun v H' G' w rv => ?_
  obtain ⟨R3, a, b⟩ := R2.grow w
  exact k v H' G' R3 ((eg1.trans eg2).trans b) ((eh1.trans eh2).trans a) rv
theorem tOp_b {K : PySem.W.Frag} {r : R2} {g : D → D → Option D} {fa fb : Pu D} (h : OpB K r g) : ∀ σ H Q, tP K (pu2 g fa fb) σ H Q → tOp r (tB K fa) (tB K fb) σ H Q := fun σ H Q ⟨g', ρ, T, G, W, d, hR, hf, k⟩ => by
  obtain ⟨x, y, e1, e2, e3⟩ := pu2_some hf
  refine ⟨g', ρ, T, G, W, x, hR, e1, fun u H1 G1 R1 eg1 eh1 r1 => ⟨g', ρ, T, G1, W, y, R1, e2, fun u2 H2 G2 R2 eg2 eh2 r2 => ?_⟩⟩
  exact h x y d u u2 H2 Q e3 (r1.mono eh2) r2 fun v rv => k v H2 G2 R2 (eg1.trans eg2) (eh1.trans eh2) (rv G2)
def mo2 (g : D → D → Option D) (fa fb : Mo D) : Mo D := fun ρ => match fa ρ with
  | some (.ok x ρ1) => (match fb ρ1 with
    | some (.ok y ρ2) => (match g x y with
      | some d => some (.ok d ρ2)
      | none => none)
    | some (.ex c fs ρ2) => some (.ex c fs ρ2)
    | none => none)
  | some (.ex c fs ρ1) => some (.ex c fs ρ1)
  | none => none
theorem tOp_v {K : PySem.W.Frag} {mg : MG} {r : R2} {g : D → D → Option D} {fa fb : Mo D} (h : OpS K r g) : ∀ σ H Q, tV K mg Wx (mo2 g fa fb) σ H Q → tOp r (tV K mg Wx fa) (tV K mg Wx fb) σ H Q := fun σ H Q ⟨g', ρ, T, G, W, hR, k⟩ => by
  refine ⟨g', ρ, T, G, W, hR, ?_⟩
  unfold mo2 at k
  cases ha : fa ρ with
  | none => rw [ha] at k; exact k.elim
  | some ra =>
    rw [ha] at k
    cases ra with
    | ex c fs ρ1 => exact k
    | ok x ρ1 =>
      intro u H1 G1 W1 R1 eg1 r1
      refine ⟨g', ρ1, T, G1, W1, R1, ?_⟩
      dsimp only at k
      cases hb : fb ρ1 with
      | none => rw [hb] at k; exact k.elim
      | some rb =>
        rw [hb] at k
        cases rb with
        | ex c fs ρ2 => exact WE'.mono eg1 k
        | ok y ρ2 =>
          intro u2 H2 G2 W2 R2 eg2 r2
          dsimp only at k
          cases hg : g x y with
          | none => rw [hg] at k; exact k.elim
          | some d =>
            rw [hg] at k
            refine h x y d u u2 H2 G2 Q R2.gh hg (r1.mono eg2) r2 fun v H' G' w rv => ?_
            obtain ⟨R3, a, b⟩ := R2.grow w
            exact k v H' G' W2 R3 ((eg1.trans eg2).trans b) rv
theorem p_op {op : Operator} {r : R2} {g : D → D → Option D} {fa fb : Pu D} (ho : OpR X (binaryOp op) r) (h : OpS X.K r g) (ha : PE X a (tP X.K fa)) (hb : PE X b (tP X.K fb)) : PE X (.BinOp a op b pos) (tP X.K (pu2 g fa fb)) := (pe_op ho ha hb).wk (tOp_p h)
theorem v_op {op : Operator} {r : R2} {g : D → D → Option D} {fa fb : Mo D} (ho : OpR X (binaryOp op) r) (h : OpS X.K r g) (ha : PE X a (tV X.K X.mg Wx fa)) (hb : PE X b (tV X.K X.mg Wx fb)) : PE X (.BinOp a op b pos) (tV X.K X.mg Wx (mo2 g fa fb)) := (pe_op ho ha hb).wk (tOp_v h)
theorem p_cmp {op : CmpOp} {r : R2} {g : D → D → Option D} {fa fb : Pu D} (ho : OpR X (compareOp op) r) (h : OpB X.K r g) (ha : PE X a (tB X.K fa)) (hb : PE X b (tB X.K fb)) (hm : behindInMarks op b = false) : PE X (.Compare a [op] [b] pos) (tP X.K (pu2 g fa fb)) := (pe_cmpR ho ha hb hm).wk (tOp_b h)
theorem v_cmp {op : CmpOp} {r : R2} {g : D → D → Option D} {fa fb : Mo D} (ho : OpR X (compareOp op) r) (h : OpS X.K r g) (ha : PE X a (tV X.K X.mg Wx fa)) (hb : PE X b (tV X.K X.mg Wx fb)) (hm : behindInMarks op b = false) : PE X (.Compare a [op] [b] pos) (tV X.K X.mg Wx (mo2 g fa fb)) := (pe_cmpR ho ha hb hm).wk (tOp_v h)
end
end Tr
namespace Tr
open PySem PySem.Spec PyProof.Rows L2
section
variable {K : PySem.W.Frag} {G H : Hp} {d : D} {v : V}
theorem Reps.len : ∀ {ds : List D} {xs : List V}, Reps K G ds xs → ds.length = xs.length
  | [], _, h => by rw [Reps] at h; rw [h]; rfl
  | d :: ds, _, h => by
    rw [Reps] at h
    obtain ⟨x, r, e, _, h2⟩ := h
    rw [e, List.length_cons, List.length_cons, Reps.len h2]
theorem Reps.get : ∀ {ds : List D} {xs : List V} {j : Nat} {d : D}, Reps K G ds xs → ds[j]? = some d → ∃ x, xs[j]? = some x ∧ Rep K G d x
  | [], _, _, _, h, e => by simp at e
  | d :: ds, _, 0, _, h, e => by
    rw [Reps] at h
    obtain ⟨x, r, e1, h1, _⟩ := h
    subst e1; simp at e; subst e
    exact ⟨x, rfl, h1⟩
  | d :: ds, _, j + 1, _, h, e => by
    rw [Reps] at h
    obtain ⟨x, r, e1, _, h2⟩ := h
    subst e1
    obtain ⟨y, e2, h3⟩ := Reps.get h2 (show ds[j]? = some _ by simpa using e)
    exact ⟨y, by simpa using e2, h3⟩
theorem Reps.app : ∀ {ds es : List D} {xs ys : List V}, Reps K G ds xs → Reps K G es ys → Reps K G (ds ++ es) (xs ++ ys)
  | [], _, _, _, h, h' => by rw [Reps] at h; subst h; exact h'
  | d :: ds, _, _, _, h, h' => by
    rw [Reps] at h
    obtain ⟨x, r, e1, h1, h2⟩ := h
    subst e1
    rw [List.cons_append, List.cons_append, Reps]
    exact ⟨x, _, rfl, h1, h2.app h'⟩
theorem Reps.take : ∀ {ds : List D} {xs : List V} (n : Nat), Reps K G ds xs → Reps K G (ds.take n) (xs.take n)
  | ds, xs, 0, h => by rw [List.take_zero, List.take_zero, Reps]
  | [], _, n + 1, h => by rw [Reps] at h; subst h; rw [List.take_nil, List.take_nil, Reps]
  | d :: ds, _, n + 1, h => by
    rw [Reps] at h
    obtain ⟨x, r, e1, h1, h2⟩ := h
    subst e1
    rw [List.take_succ_cons, List.take_succ_cons, Reps]
    exact ⟨x, _, rfl, h1, h2.take n⟩
theorem Reps.drop : ∀ {ds : List D} {xs : List V} (n : Nat), Reps K G ds xs → Reps K G (ds.drop n) (xs.drop n)
  | ds, xs, 0, h => h
  | [], _, n + 1, h => by rw [Reps] at h; subst h; rw [List.drop_nil, List.drop_nil, Reps]
  | d :: ds, _, n + 1, h => by
    rw [Reps] at h
    obtain ⟨x, r, e1, h1, h2⟩ := h
    subst e1
    exact h2.drop n
theorem Reps.nil_iff {ds : List D} {xs : List V} (h : Reps K G ds xs) : ds = [] ↔ xs = [] := by
  have := h.len
  constructor
  · intro e; subst e; exact List.eq_nil_of_length_eq_zero this.symm
  · intro e; subst e; exact List.eq_nil_of_length_eq_zero this
theorem Reps.rep : ∀ {ds : List D} {xs : List V} (n : Nat), Reps K G ds xs → Reps K G (List.replicate n ds).flatten (List.replicate n xs).flatten
  | ds, xs, 0, h => by simp [Reps]
  | ds, xs, n + 1, h => by
    rw [List.replicate_succ, List.replicate_succ, List.flatten_cons, List.flatten_cons]
    exact h.app (h.rep n)
theorem Reps.rev : ∀ {ds : List D} {xs : List V}, Reps K G ds xs → Reps K G ds.reverse xs.reverse
  | [], _, h => by rw [Reps] at h; subst h; simp [Reps]
  | d :: ds, _, h => by
    rw [Reps] at h
    obtain ⟨x, r, e1, h1, h2⟩ := h
    subst e1
    rw [List.reverse_cons, List.reverse_cons]
    refine h2.rev.app ?_
    rw [Reps]
    exact ⟨x, [], rfl, h1, by rw [Reps]⟩
theorem Reps.ints : ∀ {ns : List Int} {xs : List V}, Reps K G (ns.map D.int) xs ↔ xs = ns.map V.int
  | [], xs => by rw [List.map_nil, List.map_nil, Reps]
  | n :: ns, xs => by
    rw [List.map_cons, List.map_cons, Reps]
    constructor
    · rintro ⟨x, r, rfl, h1, h2⟩
      rw [Rep] at h1
      rw [h1, Reps.ints.mp h2]
    · intro e
      exact ⟨_, _, e, by rw [Rep], Reps.ints.mpr rfl⟩
end
/-- a list's items (the script's too) -/
def D.lsq : D → Option (List D)
  | .lst ds => some ds
  | .scr ns => some (ns.map .int)
  | _ => none
/-- a list's or a tuple's -/
def D.sq : D → Option (List D)
  | .lst ds => some ds
  | .scr ns => some (ns.map .int)
  | .tup ds => some ds
  | _ => none
section
variable {K : PySem.W.Frag} {G H : Hp} {d : D} {v : V} {ds : List D}
theorem Rep.lsq (h : Rep K G d v) (e : d.lsq = some ds) : ∃ a xs, v = .ref a ∧ SqL K G a xs ∧ Reps K G ds xs := by
  cases d <;> cases e
  · rw [Rep] at h
    obtain ⟨a, xs, e1, h1, h2, _⟩ := h
    exact ⟨a, xs, e1, SqL.of h1, h2⟩
  · rw [Rep] at h
    obtain ⟨a, e1, h1, _⟩ := h
    exact ⟨a, _, e1, h1, Reps.ints.mpr rfl⟩
theorem Rep.sql (h : Rep K G d v) (e : d.sq = some ds) : ds.length ≤ sizeLine := by
  cases d <;> cases e
  · rw [Rep] at h
    obtain ⟨a, xs, e1, h1, h2, hz⟩ := h
    exact hz
  · rw [Rep] at h
    obtain ⟨a, xs, e1, h1, h2, hz⟩ := h
    exact hz
  · rw [Rep] at h
    obtain ⟨a, e1, h1, hz⟩ := h
    rw [List.length_map]; exact hz
theorem D.sq_of_lsq (e : d.lsq = some ds) : d.sq = some ds := by cases d <;> cases e <;> rfl
theorem Rep.sq (h : Rep K G d v) (e : d.sq = some ds) : ∃ a xs, v = .ref a ∧ (SqL K G a xs ∨ SqT K G a xs) ∧ Reps K G ds xs := by
  cases d <;> cases e
  · rw [Rep] at h
    obtain ⟨a, xs, e1, h1, h2, _⟩ := h
    exact ⟨a, xs, e1, .inr h1.sq, h2⟩
  · rw [Rep] at h
    obtain ⟨a, xs, e1, h1, h2, _⟩ := h
    exact ⟨a, xs, e1, .inl (SqL.of h1), h2⟩
  · rw [Rep] at h
    obtain ⟨a, e1, h1, _⟩ := h
    exact ⟨a, _, e1, .inl h1, Reps.ints.mpr rfl⟩
theorem Rep.tp (h : Rep K G (.tup ds) v) : ∃ a xs, v = .ref a ∧ SqT K G a xs ∧ Reps K G ds xs := by
  rw [Rep] at h
  obtain ⟨a, xs, e1, h1, h2, _⟩ := h
  exact ⟨a, xs, e1, h1.sq, h2⟩
theorem Rep.tr (h : Rep K G (.tup ds) v) : ∃ a xs, v = .ref a ∧ TupB G a xs ∧ Reps K G ds xs := by
  rw [Rep] at h
  obtain ⟨a, xs, e1, h1, h2, _⟩ := h
  exact ⟨a, xs, e1, h1, h2⟩
theorem Rep.ls (h : Rep K G (.lst ds) v) : ∃ a xs, v = .ref a ∧ G a = some (.lst xs) ∧ Reps K G ds xs := by
  rw [Rep] at h
  obtain ⟨a, xs, e1, h1, h2, _⟩ := h
  exact ⟨a, xs, e1, h1, h2⟩
theorem Rep.i {i : Int} : Rep K G (.int i) v ↔ v = .int i := by rw [Rep]
theorem Rep.b {i : Bool} : Rep K G (.bl i) v ↔ v = .bl i := by rw [Rep]
theorem Rep.st {i : Str} : Rep K G (.str i) v ↔ v = .str i := by rw [Rep]
theorem Rep.nn : Rep K G .non v ↔ v = .non := by rw [Rep]
theorem Rep.newT {p : Addr} {xs : List V} {o : Obj} (ho : o.dict = none) (h : Reps K G ds xs) (hp : G p = none) (hz : ds.length ≤ sizeLine) : Rep K (upd G p (.frz o (.tup xs))) (.tup ds) (.ref p) := by
  rw [Rep]; exact ⟨p, xs, rfl, .new ho, h.mono (same_upd hp), hz⟩
theorem Rep.newL {p : Addr} {xs : List V} (h : Reps K G ds xs) (hp : G p = none) (hz : ds.length ≤ sizeLine) : Rep K (upd G p (.lst xs)) (.lst ds) (.ref p) := by
  rw [Rep]; exact ⟨p, xs, rfl, upd_same, h.mono (same_upd hp), hz⟩
end
/-! ### rules by alternatives -/
def orO (f g : D → D → Option D) : D → D → Option D := fun a b => match f a b with
  | some d => some d
  | none => g a b
theorem OpS.or {K : PySem.W.Frag} {r r' : R2} {f f' : D → D → Option D} (h : OpS K r f) (h' : OpS K r' f') : OpS K (fun x y H Q => r x y H Q ∨ r' x y H Q) (orO f f') := fun d1 d2 d x y H G Q e hf r1 r2 k => by
  unfold orO at hf
  cases e1 : f d1 d2 with
  | some z => rw [e1] at hf; exact .inl (h d1 d2 d x y H G Q e (by rw [e1]; exact hf) r1 r2 k)
  | none => rw [e1] at hf; exact .inr (h' d1 d2 d x y H G Q e hf r1 r2 k)
theorem OpB.or {K : PySem.W.Frag} {r r' : R2} {f f' : D → D → Option D} (h : OpB K r f) (h' : OpB K r' f') : OpB K (fun x y H Q => r x y H Q ∨ r' x y H Q) (orO f f') := fun d1 d2 d x y H Q hf r1 r2 k => by
  unfold orO at hf
  cases e1 : f d1 d2 with
  | some z => rw [e1] at hf; exact .inl (h d1 d2 d x y H Q (by rw [e1]; exact hf) r1 r2 k)
  | none => rw [e1] at hf; exact .inr (h' d1 d2 d x y H Q hf r1 r2 k)
theorem OpS.imp {K : PySem.W.Frag} {r : R2} {f f' : D → D → Option D} (h : OpS K r f) (hi : ∀ a b d, f' a b = some d → f a b = some d) : OpS K r f' := fun d1 d2 d x y H G Q e hf => h d1 d2 d x y H G Q e (hi _ _ _ hf)
theorem OpB.imp {K : PySem.W.Frag} {r : R2} {f f' : D → D → Option D} (h : OpB K r f) (hi : ∀ a b d, f' a b = some d → f a b = some d) : OpB K r f' := fun d1 d2 d x y H Q hf => h d1 d2 d x y H Q (hi _ _ _ hf)
/-! ### ints -/
def onI (C : Int → Int → Prop) [∀ i j, Decidable (C i j)] (g : Int → Int → D) : D → D → Option D
  | .int i, .int j => if C i j then some (g i j) else none
  | _, _ => none
theorem onI_ok {K : PySem.W.Frag} {C C' : Int → Int → Prop} [∀ i j, Decidable (C i j)] {g : Int → Int → D} {g' : Int → Int → V} (hc : ∀ i j, C i j → C' i j) (h : ∀ i j G, C i j → Rep K G (g i j) (g' i j)) : OpB K (rI C' g') (onI C g) := fun d1 d2 d x y H Q hf r1 r2 k => by
  unfold onI at hf
  split at hf
  · split at hf
    · rename_i c; cases hf
      exact ⟨_, _, Rep.i.mp r1, Rep.i.mp r2, hc _ _ c, k _ fun G => h _ _ G c⟩
    · cases hf
  · cases hf
def onI0 (g : Int → Int → D) : D → D → Option D
  | .int i, .int j => some (g i j)
  | _, _ => none
theorem onI0_ok {K : PySem.W.Frag} {g : Int → Int → D} {g' : Int → Int → V} (h : ∀ i j G, Rep K G (g i j) (g' i j)) : OpB K (rI0 g') (onI0 g) := fun d1 d2 d x y H Q hf r1 r2 k => by
  unfold onI0 at hf
  split at hf
  · cases hf
    exact ⟨_, _, Rep.i.mp r1, Rep.i.mp r2, k _ fun G => h _ _ G⟩
  · cases hf
/-- a + b -/
def addD : D → D → Option D
  | .int i, .int j => some (.int (i + j))
  | .str i, .str j => if i.length + j.length ≤ sizeLine then some (.str (i ++ j)) else none
  | .tup a, .tup b => if a.length + b.length ≤ sizeLine then some (.tup (a ++ b)) else none
  | .lst a, .lst b => if a.length + b.length ≤ sizeLine then some (.lst (a ++ b)) else none
  | _, _ => none
abbrev rAddA (K : PySem.W.Frag) : R2 := fun x y H Q => (rI0 fun i j => .int (i + j)) x y H Q ∨ ((fun x y H Q => ∃ i j, x = .str i ∧ y = .str j ∧ i.length + j.length ≤ sizeLine ∧ Q (.str (i ++ j)) H) x y H Q ∨ (rCatB K x y H Q ∨ rCat x y H Q))
theorem op_addA {X : Cx} : OpR X (binaryOp .Add) (rAddA X.K) := op_add.or (op_add_str.or (op_catB.or op_cat))
theorem addD_ok {K : PySem.W.Frag} : OpS K (rAddA K) addD := fun d1 d2 d x y H G Q e hf r1 r2 k => by
  unfold addD at hf
  split at hf
  · cases hf
    exact .inl ⟨_, _, Rep.i.mp r1, Rep.i.mp r2, k _ H G .st (Rep.i.mpr rfl)⟩
  · split at hf
    · rename_i c; cases hf
      exact .inr (.inl ⟨_, _, Rep.st.mp r1, Rep.st.mp r2, c, k _ H G .st (Rep.st.mpr rfl)⟩)
    · cases hf
  · split at hf
    · rename_i a b c; cases hf
      obtain ⟨p, xs, rfl, h1, q1⟩ := r1.tp
      obtain ⟨p2, ys, rfl, h2, q2⟩ := r2.tp
      refine .inr (.inr (.inl ⟨p, p2, xs, ys, rfl, rfl, SqT_same e h1, SqT_same e h2, by rw [← q1.len, ← q2.len]; exact c, fun z => ?_, fun _ z => ?_, fun z1 z2 p3 o hp ho => ?_⟩))
      · have := q1.nil_iff.mpr z
        subst this
        exact k _ H G .st r2
      · have := q2.nil_iff.mpr z
        subst this
        rw [List.append_nil] at k
        exact k _ H G .st r1
      · exact k _ _ _ (.nw p3 _ hp) (Rep.newT ho (q1.app q2) (e.free hp) (by rw [List.length_append]; exact c))
    · cases hf
  · split at hf
    · rename_i a b c; cases hf
      obtain ⟨p, xs, rfl, h1, q1⟩ := r1.ls
      obtain ⟨p2, ys, rfl, h2, q2⟩ := r2.ls
      exact .inr (.inr (.inr ⟨p, p2, xs, ys, rfl, rfl, e _ _ h1, e _ _ h2, by rw [← q1.len, ← q2.len]; exact c, fun p3 hp => k _ _ _ (.nw p3 _ hp) (Rep.newL (q1.app q2) (e.free hp) (by rw [List.length_append]; exact c))⟩))
    · cases hf
  · cases hf
/-- a - b -/
def subD : D → D → Option D := onI0 fun i j => .int (i - j)
theorem subD_ok {K : PySem.W.Frag} : OpB K (rI0 fun i j => V.int (i - j)) subD := onI0_ok fun _ _ _ => Rep.i.mpr rfl
/-- a * b -/
def mulD : D → D → Option D
  | .int i, .int j => if (-(2 ^ 64) < i ∧ i < 2 ^ 64) ∨ (-(2 ^ 64) < j ∧ j < 2 ^ 64) then some (.int (i * j)) else none
  | .lst a, .int k => if 0 ≤ k ∧ k ≤ 100000 ∧ a.length ≤ 100 then some (.lst (List.replicate k.toNat a).flatten) else none
  | .tup a, .int k => if a ≠ [] ∧ 2 ≤ k ∧ k ≤ 1000 ∧ a.length ≤ 1000 then some (.tup (List.replicate k.toNat a).flatten) else none
  | _, _ => none
abbrev rMulA (K : PySem.W.Frag) : R2 := fun x y H Q => (rI CMul fun i j => .int (i * j)) x y H Q ∨ (rRep x y H Q ∨ rRepB K x y H Q)
theorem op_mulA {X : Cx} : OpR X (binaryOp .Mult) (rMulA X.K) := op_mul.or (op_rep.or op_repB)
theorem mulD_ok {K : PySem.W.Frag} : OpS K (rMulA K) mulD := fun d1 d2 d x y H G Q e hf r1 r2 k => by
  unfold mulD at hf
  split at hf
  · split at hf
    · rename_i c; cases hf
      exact .inl ⟨_, _, Rep.i.mp r1, Rep.i.mp r2, c, k _ H G .st (Rep.i.mpr rfl)⟩
    · cases hf
  · split at hf
    · rename_i a i c; cases hf
      obtain ⟨p, xs, rfl, h1, q1⟩ := r1.ls
      have hz : a.length * i.toNat ≤ sizeLine := by
        rw [sizeLine_eq]
        have : a.length * i.toNat ≤ 100 * 100000 := Nat.mul_le_mul c.2.2 (by omega)
        omega
      refine .inr (.inl ⟨p, i, xs, rfl, Rep.i.mp r2, e _ _ h1, by omega, by omega, by rw [← q1.len]; exact hz, fun p3 hp => k _ _ _ (.nw p3 _ hp) (Rep.newL (q1.rep _) (e.free hp) ?_)⟩)
      rw [PyProof.Rows.lm_len_rep_flat, Nat.mul_comm]; exact hz
    · cases hf
  · split at hf
    · rename_i a i c; cases hf
      obtain ⟨p, xs, rfl, h1, q1⟩ := r1.tp
      exact .inr (.inr ⟨p, i, xs, rfl, Rep.i.mp r2, SqT_same e h1, fun z => c.1 (q1.nil_iff.mpr z), c.2.1, c.2.2.1, by rw [← q1.len]; exact c.2.2.2, fun p3 o hp ho => k _ _ _ (.nw p3 _ hp) (Rep.newT ho (q1.rep _) (e.free hp) (by
        rw [PyProof.Rows.lm_len_rep_flat, sizeLine_eq]
        have : i.toNat * a.length ≤ 1000 * 1000 := Nat.mul_le_mul (by omega) c.2.2.2
        omega))⟩)
    · cases hf
  · cases hf
/-- a // b, a % b (the divisor positive, below 2 ^ 9000) -/
def divD : D → D → Option D := onI (fun _ j => 0 < j ∧ j.natAbs.log2 < 9000) fun i j => .int (i / j)
theorem divD_ok {K : PySem.W.Frag} : OpB K (rI CDivW fun i j => V.int (i / j)) divD := onI_ok (fun _ _ c => c) fun _ _ _ _ => Rep.i.mpr rfl
def modD : D → D → Option D := onI (fun _ j => 0 < j) fun i j => .int (i % j)
theorem modD_ok {K : PySem.W.Frag} : OpB K (rI (fun _ j => 0 < j) fun i j => V.int (i % j)) modD := onI_ok (fun _ _ c => c) fun _ _ _ _ => Rep.i.mpr rfl
def powD : D → D → Option D := onI (fun i j => 0 ≤ j ∧ j ≤ 1000000 ∧ i.natAbs < 2 ^ 64) fun i j => .int (i ^ j.toNat)
theorem powD_ok {K : PySem.W.Frag} : OpB K (rI CPow fun i j => V.int (i ^ j.toNat)) powD := onI_ok (fun _ _ c => c) fun _ _ _ _ => Rep.i.mpr rfl
/-! ### comparisons -/
abbrev ltD : D → D → Option D := onI0 fun i j => .bl (decide (i < j))
abbrev leD : D → D → Option D := onI0 fun i j => .bl (decide (i ≤ j))
abbrev gtD : D → D → Option D := onI0 fun i j => .bl (decide (j < i))
abbrev geD : D → D → Option D := onI0 fun i j => .bl (decide (j ≤ i))
theorem ltD_ok {K : PySem.W.Frag} : OpB K (rI0 fun i j => V.bl (decide (i < j))) ltD := onI0_ok fun _ _ _ => Rep.b.mpr rfl
theorem leD_ok {K : PySem.W.Frag} : OpB K (rI0 fun i j => V.bl (decide (i ≤ j))) leD := onI0_ok fun _ _ _ => Rep.b.mpr rfl
theorem gtD_ok {K : PySem.W.Frag} : OpB K (rI0 fun i j => V.bl (decide (j < i))) gtD := onI0_ok fun _ _ _ => Rep.b.mpr rfl
theorem geD_ok {K : PySem.W.Frag} : OpB K (rI0 fun i j => V.bl (decide (j ≤ i))) geD := onI0_ok fun _ _ _ => Rep.b.mpr rfl
/-! ### == of data -/
mutual
def D.py : D → PyData
  | .non => .none
  | .bl b => .bool b
  | .int i => .int i
  | .str x => .str x
  | .tup ds => .tuple (D.pys ds)
  | .lst ds => .list (D.pys ds)
  | .scr ns => .list (ns.map .int)
  | _ => .none
def D.pys : List D → List PyData
  | [] => []
  | d :: ds => D.py d :: D.pys ds
end
mutual
/-- data without dicts, objects, types -/
def D.isPy : D → Bool
  | .tup ds => D.arePy ds
  | .lst ds => D.arePy ds
  | .ty _ => false
  | .dic _ => false
  | .ob _ _ => false
  | .er _ _ _ _ => false
  | _ => true
def D.arePy : List D → Bool
  | [] => true
  | d :: ds => D.isPy d && D.arePy ds
end
mutual
theorem Rep.dp {K : PySem.W.Frag} {G : Hp} : ∀ {d : D} {v : V}, d.isPy = true → Rep K G d v → Dp K G v d.py
  | .non, _, _, h => by rw [Rep] at h; rw [h, D.py]; exact .non
  | .bl _, _, _, h => by rw [Rep] at h; rw [h, D.py]; exact .bl _
  | .int _, _, _, h => by rw [Rep] at h; rw [h, D.py]; exact .int _
  | .str _, _, _, h => by rw [Rep] at h; rw [h, D.py]; exact .str _
  | .ty _, _, e, _ => by rw [D.isPy] at e; cases e
  | .dic _, _, e, _ => by rw [D.isPy] at e; cases e
  | .ob _ _, _, e, _ => by rw [D.isPy] at e; cases e
  | .er _ _ _ _, _, e, _ => by rw [D.isPy] at e; cases e
  | .tup ds, _, e, h => by
    rw [D.isPy] at e
    obtain ⟨a, xs, rfl, h1, h2⟩ := h.tp
    rw [D.py]
    exact .tup h1 (Reps.dp e h2)
  | .lst ds, _, e, h => by
    rw [D.isPy] at e
    obtain ⟨a, xs, rfl, h1, h2⟩ := h.ls
    rw [D.py]
    exact .lst (SqL.of h1) (Reps.dp e h2)
  | .scr ns, _, e, h => by
    rw [Rep] at h
    obtain ⟨a, rfl, h1, _⟩ := h
    rw [D.py]
    refine .lst h1 ?_
    rename_i hzz
    clear h1 e hzz
    induction ns with
    | nil => exact .nil
    | cons n ns ih => exact .cons (.int n) ih
theorem Reps.dp {K : PySem.W.Frag} {G : Hp} : ∀ {ds : List D} {xs : List V}, D.arePy ds = true → Reps K G ds xs → DpAll K G xs (D.pys ds)
  | [], _, _, h => by rw [Reps] at h; rw [h, D.pys]; exact .nil
  | d :: ds, _, e, h => by
    rw [Reps] at h
    obtain ⟨x, r, rfl, h1, h2⟩ := h
    rw [D.arePy, Bool.and_eq_true] at e
    rw [D.pys]
    exact .cons (Rep.dp e.1 h1) (Reps.dp e.2 h2)
end
def okPy (d : D) : Bool := d.isPy && SeqAt.shaped d.py
def eqD (a b : D) : Option D := if okPy a = true ∧ okPy b = true then some (.bl (PyData.eqv a.py b.py)) else none
def neD (a b : D) : Option D := if okPy a = true ∧ okPy b = true then some (.bl (!PyData.eqv a.py b.py)) else none
theorem eqD_ok {K : PySem.W.Frag} : OpB K (rEqD K) eqD := fun d1 d2 d x y H Q hf r1 r2 k => by
  unfold eqD at hf
  split at hf
  · rename_i c; cases hf
    obtain ⟨c1, c2⟩ := c
    unfold okPy at c1 c2
    rw [Bool.and_eq_true] at c1 c2
    exact ⟨_, _, r1.dp c1.1, r2.dp c2.1, c1.2, c2.2, k _ fun G => Rep.b.mpr rfl⟩
  · cases hf
theorem neD_ok {K : PySem.W.Frag} : OpB K (rNeD K) neD := fun d1 d2 d x y H Q hf r1 r2 k => by
  unfold neD at hf
  split at hf
  · rename_i c; cases hf
    obtain ⟨c1, c2⟩ := c
    unfold okPy at c1 c2
    rw [Bool.and_eq_true] at c1 c2
    exact ⟨_, _, r1.dp c1.1, r2.dp c2.1, c1.2, c2.2, k _ fun G => Rep.b.mpr rfl⟩
  · cases hf
/-- is None -/
def D.isN : D → Bool
  | .non => true
  | _ => false
theorem Rep.isN {K : PySem.W.Frag} {G : Hp} {d : D} {v : V} (h : Rep K G d v) : decide (v = .non) = d.isN := by
  cases d <;> rw [Rep] at h
  case non => rw [h]; rfl
  case bl => rw [h]; rfl
  case int => rw [h]; rfl
  case str => rw [h]; rfl
  case ty => rw [h]; rfl
  case er => rw [h.1]; rfl
  all_goals (obtain ⟨a, q⟩ := h; rw [show v = .ref a by first | exact q.1 | (obtain ⟨_, q⟩ := q; exact q.1) | (obtain ⟨_, _, q⟩ := q; exact q.1)]; rfl)
def isND (a b : D) : Option D := match b with
  | .non => some (.bl a.isN)
  | _ => none
def notND (a b : D) : Option D := match b with
  | .non => some (.bl (!a.isN))
  | _ => none
theorem isND_ok {K : PySem.W.Frag} : OpB K (fun x y H Q => y = .non ∧ Q (.bl (decide (x = .non))) H) isND := fun d1 d2 d x y H Q hf r1 r2 k => by
  unfold isND at hf
  split at hf
  · cases hf
    exact ⟨Rep.nn.mp r2, k _ fun G => Rep.b.mpr (by rw [r1.isN])⟩
  · cases hf
theorem notND_ok {K : PySem.W.Frag} : OpB K (fun x y H Q => y = .non ∧ Q (.bl (!decide (x = .non))) H) notND := fun d1 d2 d x y H Q hf r1 r2 k => by
  unfold notND at hf
  split at hf
  · cases hf
    exact ⟨Rep.nn.mp r2, k _ fun G => Rep.b.mpr (by rw [r1.isN])⟩
  · cases hf
/-! ### items -/
def ixD : D → D → Option D
  | .lst ds, .int i => atI ds i
  | .scr ns, .int i => (atI ns i).map .int
  | .tup ds, .int i => atI ds i
  | .str z, .int i => if z.length ≤ sizeLine then (atI z.cps.toList i).map fun c => .str ⟨#[c]⟩ else none
  | _, _ => none
theorem Reps.at {K : PySem.W.Frag} {G : Hp} {ds : List D} {xs : List V} {i : Int} {d : D} (h : Reps K G ds xs) (e : atI ds i = some d) : ∃ x, atI xs i = some x ∧ Rep K G d x := by
  unfold atI at e ⊢
  rw [← h.len]
  cases hj : ixN ds.length i with
  | none => rw [hj] at e; cases e
  | some j =>
    rw [hj] at e
    exact h.get e
theorem atI_map {α β : Type} (f : α → β) (xs : List α) (i : Int) : atI (xs.map f) i = (atI xs i).map f := by
  unfold atI
  rw [List.length_map]
  cases ixN xs.length i with
  | none => rfl
  | some j => show (xs.map f)[j]? = _; rw [List.getElem?_map]; rfl
theorem ixD_ok {K : PySem.W.Frag} : OpS K (rIx K) ixD := fun d1 d2 d x y H G Q e hf r1 r2 k => by
  unfold ixD at hf
  split at hf
  · obtain ⟨p, xs, rfl, h1, q1⟩ := r1.ls
    obtain ⟨z, e1, q2⟩ := q1.at hf
    exact .inl ⟨p, xs, _, z, rfl, Rep.i.mp r2, SqL.of (e _ _ h1), e1, k _ H G .st q2⟩
  · rw [Rep] at r1
    rename_i ns i
    obtain ⟨p, rfl, h1, _⟩ := r1
    cases e1 : atI ns i with
    | none => rw [e1] at hf; cases hf
    | some n =>
      rw [e1] at hf; cases hf
      exact .inl ⟨p, _, _, .int n, rfl, Rep.i.mp r2, e.seq h1, by rw [atI_map, e1]; rfl, k _ H G .st (Rep.i.mpr rfl)⟩
  · obtain ⟨p, xs, rfl, h1, q1⟩ := r1.tp
    obtain ⟨z, e1, q2⟩ := q1.at hf
    exact .inr (.inl ⟨p, xs, _, z, rfl, Rep.i.mp r2, SqT_same e h1, e1, k _ H G .st q2⟩)
  · rename_i z i
    split at hf
    · rename_i c
      cases e1 : atI z.cps.toList i with
      | none => rw [e1] at hf; cases hf
      | some n =>
        rw [e1] at hf; cases hf
        exact .inr (.inr ⟨z, i, n, Rep.st.mp r1, Rep.i.mp r2, c, e1, k _ H G .st (Rep.st.mpr rfl)⟩)
    · cases hf
  · cases hf
section
variable {X : Cx} {a b : Expr} {Wx : WX} {pos : Pos} {fa fb : Pu D} {ga gb : Mo D}
theorem p_ix (ha : PE X a (tP X.K fa)) (hb : PE X b (tP X.K fb)) (hs : PlainIx b) : PE X (.Subscript a b pos) (tP X.K (pu2 ixD fa fb)) := (pe_ix ix_seq ha hb hs).wk (tOp_p ixD_ok)
theorem v_ix (ha : PE X a (tV X.K X.mg Wx ga)) (hb : PE X b (tV X.K X.mg Wx gb)) (hs : PlainIx b) : PE X (.Subscript a b pos) (tV X.K X.mg Wx (mo2 ixD ga gb)) := (pe_ix ix_seq ha hb hs).wk (tOp_v ixD_ok)
end
end Tr
namespace Tr
open PySem PySem.Spec PyProof.Rows L2
/-- a container read where it stands: its items are frozen -/
def CRep (K : PySem.W.Frag) (G H : Hp) (d : D) (v : V) : Prop := Rep K G d v ∨ (∃ ds a xs, d = .lst ds ∧ v = .ref a ∧ H a = some (.lst xs) ∧ Reps K G ds xs ∧ ds.length ≤ sizeLine) ∨ (∃ kvs a ys, d = .dic kvs ∧ v = .ref a ∧ H a = some (.dK ys) ∧ RepK K G kvs ys)
section
variable {K : PySem.W.Frag} {G H G' H' : Hp} {d : D} {v : V} {ds : List D}
theorem CRep.mono (eg : Same G G') (eh : Same H H') (h : CRep K G H d v) : CRep K G' H' d v := by
  rcases h with h | ⟨ds, a, xs, e1, e2, e3, h, hz⟩ | ⟨ds, a, xs, e1, e2, e3, h⟩
  · exact .inl (h.mono eg)
  · exact .inr (.inl ⟨ds, a, xs, e1, e2, eh _ _ e3, h.mono eg, hz⟩)
  · exact .inr (.inr ⟨ds, a, xs, e1, e2, eh _ _ e3, h.mono eg⟩)
theorem CRep.rep (e : Same G H) (h : CRep K G H d v) : Rep K H d v := by
  rcases h with h | ⟨ds, a, xs, rfl, rfl, e3, h, hz⟩ | ⟨ds, a, xs, rfl, rfl, e3, h⟩
  · exact h.mono e
  · rw [Rep]; exact ⟨a, xs, rfl, e3, h.mono e, hz⟩
  · rw [Rep]; exact ⟨a, xs, rfl, e3, h.mono e⟩
theorem CRep.sq (e : Same G H) (h : CRep K G H d v) (es : d.sq = some ds) : ∃ a xs, v = .ref a ∧ (SqL K H a xs ∨ SqT K H a xs) ∧ Reps K G ds xs := by
  rcases h with h | ⟨ds', a, xs, rfl, rfl, e3, h, hz⟩ | ⟨ds', a, xs, rfl, rfl, e3, h⟩
  · obtain ⟨a, xs, e1, h1, h2⟩ := h.sq es
    refine ⟨a, xs, e1, ?_, h2⟩
    rcases h1 with h1 | h1
    · exact .inl (e.seq h1)
    · exact .inr (SqT_same e h1)
  · cases es
    exact ⟨a, xs, rfl, .inl (SqL.of e3), h⟩
  · cases es
theorem CRep.lsq (e : Same G H) (h : CRep K G H d v) (es : d.lsq = some ds) : ∃ a xs, v = .ref a ∧ SqL K H a xs ∧ Reps K G ds xs := by
  rcases h with h | ⟨ds', a, xs, rfl, rfl, e3, h, hz⟩ | ⟨ds', a, xs, rfl, rfl, e3, h⟩
  · obtain ⟨a, xs, e1, h1, h2⟩ := h.lsq es
    exact ⟨a, xs, e1, e.seq h1, h2⟩
  · cases es
    exact ⟨a, xs, rfl, SqL.of e3, h⟩
  · cases es
theorem CRep.sql (h : CRep K G H d v) (es : d.sq = some ds) : ds.length ≤ sizeLine := by
  rcases h with h | ⟨ds', a, xs, rfl, rfl, e3, h, hz⟩ | ⟨ds', a, xs, rfl, rfl, e3, h⟩
  · exact h.sql es
  · cases es; exact hz
  · cases es
theorem CRep.of {K : PySem.W.Frag} {G H : Hp} {d : D} {v : V} (h : Rep K G d v) : CRep K G H d v := .inl h
end
def tC (K : PySem.W.Frag) (f : Pu D) : TE := fun σ H Q => ∃ g ρ T G W d, R K g ρ T σ H G W ∧ f ρ = some d ∧ ∀ v H' G', R K g ρ T σ H' G' W → Same G G' → Same H H' → CRep K G' H' d v → Q v H'
section
variable {X : Cx} {e a b c : Expr} {es : List Expr} {Wx : WX} {pos : Pos} {f fa fb fc : Pu D} {ga gb gc : Mo D}
theorem _root_.L2.PE.pc (h : PE X e (tP X.K f)) : PE X e (tC X.K f) := h.wk fun σ H Q ⟨g, ρ, T, G, W, d, hR, hf, k⟩ =>
  ⟨g, ρ, T, G, W, d, hR, hf, fun v H' G' R' eg eh r => k v H' G' R' eg eh (.inl r)⟩
theorem _root_.L2.PE.cb (h : PE X e (tC X.K f)) : PE X e (tB X.K f) := h.wk fun σ H Q ⟨g, ρ, T, G, W, d, hR, hf, k⟩ =>
  ⟨g, ρ, T, G, W, d, hR, hf, fun v H' G' R' eg eh r => k v H' G' R' eg eh (r.rep R'.gh)⟩
/-- a slot's container -/
def O.cont : O → Option D
  | .fr d => some d
  | .fl ds => some (.lst ds)
  | .od kvs => some (.dic kvs)
  | .ol _ => none
def con (i : Nat) : Pu D := fun ρ => match ρ[i]? with
  | some (.ow o) => o.cont
  | some (.le o) => o.cont
  | _ => none
theorem con_some {i : Nat} {ρ : Rho} {d : D} (h : con i ρ = some d) : ∃ s o, ρ[i]? = some s ∧ s.tr = some o ∧ o.cont = some d := by
  unfold con at h
  split at h
  · rename_i e; exact ⟨_, _, e, rfl, h⟩
  · rename_i e; exact ⟨_, _, e, rfl, h⟩
  · cases h
theorem Ow.crep {K : PySem.W.Frag} {G H : Hp} {W : Own} {o : O} {v : V} {r : Rt} {q : List Nat} {d : D} (h : Ow K G H W o v r q) (e : o.cont = some d) : CRep K G H d v := by
  cases o with
  | fr d' => cases e; rw [Ow] at h; exact .inl h
  | ol os => cases e
  | fl ds =>
    cases e
    rw [Ow] at h
    obtain ⟨a, xs, e1, h1, _, h3, hz⟩ := h
    exact .inr (.inl ⟨ds, a, xs, rfl, e1, h1, h3, hz⟩)
  | od kvs =>
    cases e
    rw [Ow] at h
    obtain ⟨a, xs, e1, h1, _, h3⟩ := h
    exact .inr (.inr ⟨kvs, a, xs, rfl, e1, h1, h3⟩)
theorem c_var {i : Nat} (h : PE X e (tVar i)) : PE X e (tC X.K (con i)) := h.wk fun σ H Q ⟨g, ρ, T, G, W, d, hR, hf, k⟩ => by
  obtain ⟨s, o, e1, e2, e3⟩ := con_some hf
  obtain ⟨v, h1, h2⟩ := hR.slo e1 e2
  exact ⟨v, h1, k v H G hR (Same.refl _) (Same.refl _) (h2.crep e3)⟩
/-- an item of a slot's list of owned things -/
def conAt (i : Nat) (fb : Pu D) : Pu D := fun ρ => match ρ[i]?.bind Sl.tr, fb ρ with
  | some (.ol os), some (.int j) => (atI os j).bind O.cont
  | some (.fl ds), some (.int j) => atI ds j
  | some (.fr d), some x => ixD d x
  | _, _ => none
theorem Ows.at {K : PySem.W.Frag} {G H : Hp} {W : Own} {os : List O} {xs : List V} {r : Rt} {q : List Nat} {i : Int} {o : O} (h : Ows K G H W os xs r q 0) (e : atI os i = some o) : ∃ x j, ixN os.length i = some j ∧ os[j]? = some o ∧ atI xs i = some x ∧ xs[j]? = some x ∧ Ow K G H W o x r (q ++ [j]) := by
  unfold atI at e
  have hl := h.len
  cases hj : ixN os.length i with
  | none => rw [hj] at e; cases e
  | some j =>
    rw [hj] at e
    have e' : os[j]? = some o := e
    obtain ⟨x, h1, h2⟩ := h.get e'
    refine ⟨x, j, rfl, e', ?_, h1, by simpa using h2⟩
    unfold atI
    rw [← hl, hj]
    exact h1
theorem c_at {i : Nat} (h : PE X a (tVar i)) (hb : PE X b (tP X.K fb)) (hs : PlainIx b) : PE X (.Subscript a b pos) (tC X.K (conAt i fb)) := (pe_ix ix_seq h hb hs).wk fun σ H Q ⟨g, ρ, T, G, W, d, hR, hf, k⟩ => by
  unfold conAt at hf
  cases es : ρ[i]? with
  | none => rw [es] at hf; cases hf
  | some s =>
    rw [es] at hf
    cases eo : s.tr with
    | none => rw [Option.bind_some, eo] at hf; cases hf
    | some o =>
      rw [Option.bind_some, eo] at hf
      obtain ⟨v, h1, h2⟩ := hR.slo es eo
      cases ex : fb ρ with
      | none => rw [ex] at hf; cases o <;> cases hf
      | some x =>
        rw [ex] at hf
        refine ⟨v, h1, g, ρ, T, G, W, x, hR, ex, fun y H2 G2 R2 eg eh r2 => ?_⟩
        have h2' := h2.same (G' := G2) eg eh fun b l w => (hR.wl b l w).2.2
        have fin : ∀ w, CRep X.K G2 H2 d w → Q w H2 := fun w r => k w H2 G2 R2 eg eh r
        cases o with
        | fr dd =>
          rw [Ow] at h2'
          exact ixD_ok dd x d v y H2 G2 Q R2.gh (by cases x <;> exact hf) h2' r2 fun w H3 G3 gr rw' => by
            obtain ⟨R3, e1, e2⟩ := R2.grow gr
            exact k w H3 G3 R3 (eg.trans e2) (eh.trans e1) (.inl rw')
        | od kvs => cases x <;> cases hf
        | fl ds =>
          cases x with
          | int j =>
            rw [Ow] at h2'
            obtain ⟨p, xs, rfl, h3, h4, h5, _⟩ := h2'
            obtain ⟨z, e1, q2⟩ := h5.at hf
            exact .inl ⟨p, xs, _, z, rfl, Rep.i.mp r2, SqL.of h3, e1, fin z (.inl q2)⟩
          | _ => cases hf
        | ol os =>
          cases x with
          | int j =>
            rw [Ow] at h2'
            obtain ⟨p, xs, rfl, h3, h4, h5, _⟩ := h2'
            replace hf : (atI os j).bind O.cont = some d := hf
            cases e6 : atI os j with
            | none => rw [e6] at hf; cases hf
            | some o =>
              rw [e6] at hf
              obtain ⟨z, jj, _, _, e1, _, q2⟩ := h5.at e6
              exact .inl ⟨p, xs, _, z, rfl, Rep.i.mp r2, SqL.of h3, e1, fin z (q2.crep hf)⟩
          | _ => cases hf
/-! ### argument lists -/
def tLP (K : PySem.W.Frag) (f : Pu (List D)) : TA := fun σ H Q => ∃ g ρ T G W ds, R K g ρ T σ H G W ∧ f ρ = some ds ∧ ∀ vs H' G', R K g ρ T σ H' G' W → Same G G' → Same H H' → Reps K G' ds vs → Q vs H'
def tLV (K : PySem.W.Frag) (mg : MG) (Wx : WX) (f : Mo (List D)) : TA := fun σ H Q => ∃ g ρ T G W, R K g ρ T σ H G W ∧ GE K mg Wx g T G (fun ds ρ' => ∀ vs H' G' W', R K g ρ' T σ H' G' W' → Same G G' → Reps K G' ds vs → Q vs H') (f ρ)
def lpN : Pu (List D) := fun _ => some []
def lpC (fa : Pu D) (fr : Pu (List D)) : Pu (List D) := fun ρ => match fa ρ, fr ρ with
  | some d, some ds => some (d :: ds)
  | _, _ => none
theorem lp_nil : PA X [] (tLP X.K lpN) := pa_nil.wk fun σ H Q ⟨g, ρ, T, G, W, ds, hR, hf, k⟩ => by
  cases hf
  exact k [] H G hR (Same.refl _) (Same.refl _) (by rw [Reps])
theorem lp_cons {fr : Pu (List D)} (ha : PE X a (tP X.K fa)) (hr : PA X es (tLP X.K fr)) (hs : starEach (a :: es) X.env = (false, eval a X.env) :: starEach es X.env := by rfl) : PA X (a :: es) (tLP X.K (lpC fa fr)) := (pa_cons ha hr hs).wk fun σ H Q ⟨g, ρ, T, G, W, ds, hR, hf, k⟩ => by
  unfold lpC at hf
  split at hf
  · rename_i d ds' e1 e2
    cases hf
    refine ⟨g, ρ, T, G, W, d, hR, e1, fun x H1 G1 R1 eg1 eh1 r1 => ⟨g, ρ, T, G1, W, ds', R1, e2, fun xs H2 G2 R2 eg2 eh2 r2 => ?_⟩⟩
    refine k _ H2 G2 R2 (eg1.trans eg2) (eh1.trans eh2) ?_
    rw [Reps]
    exact ⟨x, xs, rfl, r1.mono eg2, r2⟩
  · cases hf
def lvN : Mo (List D) := fun ρ => some (.ok [] ρ)
def lvC (fa : Mo D) (fr : Mo (List D)) : Mo (List D) := fun ρ => match fa ρ with
  | some (.ok d ρ1) => (match fr ρ1 with
    | some (.ok ds ρ2) => some (.ok (d :: ds) ρ2)
    | some (.ex c fs ρ2) => some (.ex c fs ρ2)
    | none => none)
  | some (.ex c fs ρ1) => some (.ex c fs ρ1)
  | none => none
theorem lv_nil : PA X [] (tLV X.K X.mg Wx lvN) := pa_nil.wk fun σ H Q ⟨g, ρ, T, G, W, hR, k⟩ => k [] H G W hR (Same.refl _) (by rw [Reps])
theorem lv_cons {fr : Mo (List D)} (ha : PE X a (tV X.K X.mg Wx ga)) (hr : PA X es (tLV X.K X.mg Wx fr)) (hs : starEach (a :: es) X.env = (false, eval a X.env) :: starEach es X.env := by rfl) : PA X (a :: es) (tLV X.K X.mg Wx (lvC ga fr)) := (pa_cons ha hr hs).wk fun σ H Q ⟨g, ρ, T, G, W, hR, k⟩ => by
  refine ⟨g, ρ, T, G, W, hR, ?_⟩
  unfold lvC at k
  cases h1 : ga ρ with
  | none => rw [h1] at k; exact k.elim
  | some r =>
    rw [h1] at k
    cases r with
    | ex c fs ρ1 => exact k
    | ok d ρ1 =>
      intro x H1 G1 W1 R1 eg1 r1
      refine ⟨g, ρ1, T, G1, W1, R1, ?_⟩
      dsimp only at k
      cases h2 : fr ρ1 with
      | none => rw [h2] at k; exact k.elim
      | some r =>
        rw [h2] at k
        cases r with
        | ex c fs ρ2 => exact WE'.mono eg1 k
        | ok ds ρ2 =>
          intro xs H2 G2 W2 R2 eg2 r2
          refine k _ H2 G2 W2 R2 (eg1.trans eg2) ?_
          rw [Reps]
          exact ⟨x, xs, rfl, r1.mono eg2, r2⟩
/-- all as temporaries -/
def lxN : Mo (List O) := fun ρ => some (.ok [] ρ)
def lxC (fa : Mo O) (fr : Mo (List O)) : Mo (List O) := fun ρ => match fa ρ with
  | some (.ok d ρ1) => (match fr ρ1 with
    | some (.ok ds ρ2) => some (.ok (d :: ds) ρ2)
    | some (.ex c fs ρ2) => some (.ex c fs ρ2)
    | none => none)
  | some (.ex c fs ρ1) => some (.ex c fs ρ1)
  | none => none
theorem lx_nil : PA X [] (tA X.K X.mg Wx lxN) := pa_nil.wk fun σ H Q ⟨g, ρ, T, G, W, hR, k⟩ => k [] H G W rfl (by simpa using hR) (Same.refl _)
theorem lx_cons {fa : Mo O} {fr : Mo (List O)} (ha : PE X a (tX X.K X.mg Wx fa)) (hr : PA X es (tA X.K X.mg Wx fr)) (hs : starEach (a :: es) X.env = (false, eval a X.env) :: starEach es X.env := by rfl) : PA X (a :: es) (tA X.K X.mg Wx (lxC fa fr)) := (pa_cons ha hr hs).wk fun σ H Q ⟨g, ρ, T, G, W, hR, k⟩ => by
  refine ⟨g, ρ, T, G, W, hR, ?_⟩
  unfold lxC at k
  cases h1 : fa ρ with
  | none => rw [h1] at k; exact k.elim
  | some r =>
    rw [h1] at k
    cases r with
    | ex c fs ρ1 => exact k
    | ok o ρ1 =>
      intro x H1 G1 W1 R1 eg1
      refine ⟨g, ρ1, T ++ [(o, x)], G1, W1, R1, ?_⟩
      dsimp only at k
      cases h2 : fr ρ1 with
      | none => rw [h2] at k; exact k.elim
      | some r =>
        rw [h2] at k
        cases r with
        | ex c fs ρ2 => exact (WE'.mono eg1 k).drop
        | ok os ρ2 =>
          intro xs H2 G2 W2 hl R2 eg2
          refine k (x :: xs) H2 G2 W2 (by rw [List.length_cons, List.length_cons, hl]) ?_ (eg1.trans eg2)
          rw [List.zip_cons_cons]
          simpa using R2
/-! ### displays -/
def tupP (f : Pu (List D)) : Pu D := fun ρ => match f ρ with
  | some ds => if ds.length ≤ sizeLine then some (.tup ds) else none
  | none => none
theorem p_tup {x1} {f : Pu (List D)} (h : PA X es (tLP X.K f)) : PE X (.Tuple es x1 pos) (tP X.K (tupP f)) := (pe_tupB h).wk fun σ H Q ⟨g, ρ, T, G, W, d, hR, hf, k⟩ => by
  unfold tupP at hf
  split at hf
  · rename_i ds e1
    split at hf
    · rename_i hl
      cases hf
      refine ⟨g, ρ, T, G, W, ds, hR, e1, fun vs H1 G1 R1 eg1 eh1 r1 => ⟨by rw [← r1.len]; exact hl, fun p o hp ho => ?_⟩⟩
      exact k _ _ _ (R1.new hp) (eg1.trans (same_upd (R1.gh.free hp))) (eh1.trans (same_upd hp)) (Rep.newT ho r1 (R1.gh.free hp) hl)
    · cases hf
  · cases hf
def tupV (f : Mo (List D)) : Mo D := fun ρ => match f ρ with
  | some (.ok ds ρ') => if ds.length ≤ sizeLine then some (.ok (.tup ds) ρ') else none
  | some (.ex c fs ρ') => some (.ex c fs ρ')
  | none => none
theorem v_tup {x1} {f : Mo (List D)} (h : PA X es (tLV X.K X.mg Wx f)) : PE X (.Tuple es x1 pos) (tV X.K X.mg Wx (tupV f)) := (pe_tupB h).wk fun σ H Q ⟨g, ρ, T, G, W, hR, k⟩ => by
  refine ⟨g, ρ, T, G, W, hR, ?_⟩
  unfold tupV at k
  cases h1 : f ρ with
  | none => rw [h1] at k; exact k.elim
  | some r =>
    rw [h1] at k
    cases r with
    | ex c fs ρ1 => exact k
    | ok ds ρ1 =>
      intro vs H1 G1 W1 R1 eg1 r1
      dsimp only at k
      by_cases hl : ds.length ≤ sizeLine
      · rw [if_pos hl] at k
        exact ⟨by rw [← r1.len]; exact hl, fun p o hp ho => k _ _ _ W1 (R1.new hp) (eg1.trans (same_upd (R1.gh.free hp))) (Rep.newT ho r1 (R1.gh.free hp) hl)⟩
      · rw [if_neg hl] at k; exact k.elim
/-- a new list, frozen -/
def lstP (f : Pu (List D)) : Pu D := fun ρ => match f ρ with
  | some ds => if ds.length ≤ sizeLine then some (.lst ds) else none
  | none => none
theorem p_lst {f : Pu (List D)} (h : PA X es (tLP X.K f)) : PE X (.List es pos) (tP X.K (lstP f)) := (pe_lst h).wk fun σ H Q ⟨g, ρ, T, G, W, d, hR, hf, k⟩ => by
  unfold lstP at hf
  split at hf
  · rename_i ds e1
    split at hf
    · rename_i hl
      cases hf
      refine ⟨g, ρ, T, G, W, ds, hR, e1, fun vs H1 G1 R1 eg1 eh1 r1 => ⟨by rw [← r1.len]; exact hl, fun p hp => ?_⟩⟩
      exact k _ _ _ (R1.new hp) (eg1.trans (same_upd (R1.gh.free hp))) (eh1.trans (same_upd hp)) (Rep.newL r1 (R1.gh.free hp) hl)
    · cases hf
  · cases hf
/-- a new list, owned -/
def lstX (f : Mo (List O)) : Mo O := fun ρ => match f ρ with
  | some (.ok os ρ') => if os.length ≤ sizeLine then some (.ok (mkL os) ρ') else none
  | some (.ex c fs ρ') => some (.ex c fs ρ')
  | none => none
theorem R.newL' {K : PySem.W.Frag} {g : Gs} {ρ : Rho} {T ts : List (O × V)} {σ : L2.St} {H G : Hp} {W : Own} {p : Addr} (h : R K g ρ (T ++ ts) σ H G W) (hp : H p = none) (hz : ts.length ≤ sizeLine) :
    R K g ρ (T ++ [(mkL (ts.map (·.1)), .ref p)]) σ (upd H p (.lst (ts.map (·.2)))) G (wJoin W T.length p) := by
  have h' := h.newL hp hz
  refine ⟨h'.gh, h'.kh, h'.gg, h'.sep, h'.wl, h'.len, h'.sl, fun k o v e => ?_⟩
  rcases getElem?_snoc e with ⟨e2, hk⟩ | ⟨ek, e2⟩
  · exact h'.tm k o v (by rw [List.getElem?_append_left hk]; exact e2)
  · cases e2; subst ek; exact (h'.tm T.length _ _ snoc_last).mkL
theorem x_lst {f : Mo (List O)} (h : PA X es (tA X.K X.mg Wx f)) : PE X (.List es pos) (tX X.K X.mg Wx (lstX f)) := (pe_lst h).wk fun σ H Q ⟨g, ρ, T, G, W, hR, k⟩ => by
  refine ⟨g, ρ, T, G, W, hR, ?_⟩
  unfold lstX at k
  cases h1 : f ρ with
  | none => rw [h1] at k; exact k.elim
  | some r =>
    rw [h1] at k
    cases r with
    | ex c fs ρ1 => exact k
    | ok os ρ1 =>
      intro vs H1 G1 W1 hv R1 eg1
      dsimp only at k
      by_cases hl : os.length ≤ sizeLine
      · rw [if_pos hl] at k
        refine ⟨by rw [hv]; exact hl, fun p hp => ?_⟩
        have R2 := R1.newL' hp (by rw [List.length_zip]; omega)
        rw [List.map_fst_zip (by omega), List.map_snd_zip (by omega)] at R2
        exact k _ _ _ _ R2 eg1
      · rw [if_neg hl] at k; exact k.elim
theorem R.newF {K : PySem.W.Frag} {g : Gs} {ρ : Rho} {T : List (O × V)} {σ : L2.St} {H G : Hp} {W : Own} {p : Addr} {ds : List D} {xs : List V} (h : R K g ρ T σ H G W) (hp : H p = none) (r : Reps K G ds xs) (hz : ds.length ≤ sizeLine) :
    R K g ρ (T ++ [(.fl ds, .ref p)]) σ (upd H p (.lst xs)) G (wJoin W T.length p) := by
  have hl := r.len
  have h0 : R K g ρ (T ++ (ds.map O.fr).zip xs) σ H G W := by
    refine ⟨h.gh, h.kh, h.gg, h.sep, h.wl, h.len, h.sl, fun k o v e => ?_⟩
    by_cases hk : k < T.length
    · rw [List.getElem?_append_left hk] at e; exact h.tm k o v e
    · rw [List.getElem?_append_right (by omega), List.getElem?_zip_eq_some] at e
      obtain ⟨e1, e2⟩ := e
      rw [List.getElem?_map] at e1
      cases e3 : ds[k - T.length]? with
      | none => rw [e3] at e1; cases e1
      | some d =>
        rw [e3] at e1; cases e1
        obtain ⟨x, e4, rx⟩ := r.get e3
        rw [e4] at e2; cases e2
        rw [Ow]; exact rx
  have h1 := h0.newL' hp (by rw [List.length_zip, List.length_map]; omega)
  rw [List.map_fst_zip (by rw [List.length_map]; omega), List.map_snd_zip (by rw [List.length_map]; omega), mkL_fr] at h1
  exact h1
/-! ### built-ins of one argument -/
def pu1 (g : D → Option D) (fa : Pu D) : Pu D := fun ρ => match fa ρ with
  | some d => g d
  | none => none
def mo1 (g : D → Option D) (fa : Mo D) : Mo D := fun ρ => match fa ρ with
  | some (.ok d ρ') => (match g d with
    | some z => some (.ok z ρ')
    | none => none)
  | some (.ex c fs ρ') => some (.ex c fs ρ')
  | none => none
def C1 (K : PySem.W.Frag) (r : List V → Hp → VK → Prop) (g : D → Option D) : Prop := ∀ (d z : D) (x : V) (H G : Hp) (Q : VK), g d = some z → Same G H → CRep K G H d x → (∀ v H' G', Grow H G H' G' → Rep K G' z v → Q v H') → r [x] H Q
theorem tC1_p {K : PySem.W.Frag} {r : List V → Hp → VK → Prop} {g : D → Option D} (h : C1 K r g) : ∀ σ H Q, tP K (pu1 g fa) σ H Q → tCB r (tCons (tC K fa) tNil) σ H Q := fun σ H Q ⟨g', ρ, T, G, W, d, hR, hf, k⟩ => by
  unfold pu1 at hf
  split at hf
  · rename_i x e1
    refine ⟨g', ρ, T, G, W, x, hR, e1, fun v H1 G1 R1 eg1 eh1 r1 => ?_⟩
    refine h x d v H1 G1 Q hf R1.gh r1 fun v' H' G' w rv => ?_
    obtain ⟨R3, a, b⟩ := R1.grow w
    exact k v' H' G' R3 (eg1.trans b) (eh1.trans a) rv
  · cases hf
theorem tC1_v {K : PySem.W.Frag} {mg : MG} {r : List V → Hp → VK → Prop} {g : D → Option D} (h : C1 K r g) : ∀ σ H Q, tV K mg Wx (mo1 g ga) σ H Q → tCB r (tCons (tV K mg Wx ga) tNil) σ H Q := fun σ H Q ⟨g', ρ, T, G, W, hR, k⟩ => by
  refine ⟨g', ρ, T, G, W, hR, ?_⟩
  unfold mo1 at k
  cases h1 : ga ρ with
  | none => rw [h1] at k; exact k.elim
  | some rr =>
    rw [h1] at k
    cases rr with
    | ex c fs ρ1 => exact k
    | ok d ρ1 =>
      intro v H1 G1 W1 R1 eg1 r1
      dsimp only at k
      cases h2 : g d with
      | none => rw [h2] at k; exact k.elim
      | some z =>
        rw [h2] at k
        refine h d z v H1 G1 Q h2 R1.gh (.inl r1) fun v' H' G' w rv => ?_
        obtain ⟨R3, a, b⟩ := R1.grow w
        exact k v' H' G' W1 R3 (eg1.trans b) rv
variable {id x : Str} {p : Pos} {idn : String} {r : List V → Hp → VK → Prop} {g : D → Option D}
theorem p_callB {x : Str} (h : C1 X.K r g) (hc : CallR X (.builtin idn) r) (hg : Gl X x) (hm : X.mg x = none) (hv : bootBuiltins x = some (.builtin idn)) (ha : PE X a (tC X.K fa)) (hn : x ≠ "__name__" := by decide) (hdb : (x == ("__debug__" : Str)) = false := by decide)
    (hs : starEach [a] X.env = (false, eval a X.env) :: starEach [] X.env := by rfl) (hpl : (backTo pos (starEach [] X.env)).any (·.1) = false := by rfl) : PE X (.Call (.Name x p) [a] [] pos) (tP X.K (pu1 g fa)) := (pe_callB hc hg hm hv (pa_cons ha pa_nil hs) hn hdb hs hpl).wk (tC1_p h)
theorem v_callB {x : Str} (h : C1 X.K r g) (hc : CallR X (.builtin idn) r) (hg : Gl X x) (hm : X.mg x = none) (hv : bootBuiltins x = some (.builtin idn)) (ha : PE X a (tV X.K X.mg Wx ga)) (hn : x ≠ "__name__" := by decide) (hdb : (x == ("__debug__" : Str)) = false := by decide)
    (hs : starEach [a] X.env = (false, eval a X.env) :: starEach [] X.env := by rfl) (hpl : (backTo pos (starEach [] X.env)).any (·.1) = false := by rfl) : PE X (.Call (.Name x p) [a] [] pos) (tV X.K X.mg Wx (mo1 g ga)) := (pe_callB hc hg hm hv (pa_cons ha pa_nil hs) hn hdb hs hpl).wk (tC1_v h)
theorem p_callT {x : Str} (h : C1 X.K r g) (hc : CallR X (.type idn) r) (hg : Gl X x) (hm : X.mg x = none) (hv : bootBuiltins x = some (.type idn)) (ha : PE X a (tC X.K fa)) (hn : x ≠ "__name__" := by decide) (hdb : (x == ("__debug__" : Str)) = false := by decide)
    (hs : starEach [a] X.env = (false, eval a X.env) :: starEach [] X.env := by rfl) (hpl : (backTo pos (starEach [] X.env)).any (·.1) = false := by rfl) : PE X (.Call (.Name x p) [a] [] pos) (tP X.K (pu1 g fa)) := (pe_callTy hc hg hm hv (pa_cons ha pa_nil hs) hn hdb hs hpl).wk (tC1_p h)
theorem v_callT {x : Str} (h : C1 X.K r g) (hc : CallR X (.type idn) r) (hg : Gl X x) (hm : X.mg x = none) (hv : bootBuiltins x = some (.type idn)) (ha : PE X a (tV X.K X.mg Wx ga)) (hn : x ≠ "__name__" := by decide) (hdb : (x == ("__debug__" : Str)) = false := by decide)
    (hs : starEach [a] X.env = (false, eval a X.env) :: starEach [] X.env := by rfl) (hpl : (backTo pos (starEach [] X.env)).any (·.1) = false := by rfl) : PE X (.Call (.Name x p) [a] [] pos) (tV X.K X.mg Wx (mo1 g ga)) := (pe_callTy hc hg hm hv (pa_cons ha pa_nil hs) hn hdb hs hpl).wk (tC1_v h)
/-- .. that give a new list, owned -/
def C1L (K : PySem.W.Frag) (r : List V → Hp → VK → Prop) (g : D → Option (List D)) : Prop := ∀ (d : D) (zs : List D) (x : V) (H G : Hp) (Q : VK), g d = some zs → Same G H → CRep K G H d x → (∀ ys p, H p = none → Reps K G zs ys → zs.length ≤ sizeLine → Q (.ref p) (upd H p (.lst ys))) → r [x] H Q
theorem C1L.s {K : PySem.W.Frag} {r : List V → Hp → VK → Prop} {g : D → Option (List D)} (h : C1L K r g) : C1 K r (fun d => (g d).map .lst) := fun d z x H G Q hg e hc k => by
  replace hg : (g d).map D.lst = some z := hg
  cases e1 : g d with
  | none => rw [e1] at hg; cases hg
  | some zs =>
    rw [e1] at hg; cases hg
    exact h d zs x H G Q e1 e hc fun ys p hp hr hz => k _ _ _ (.nw p _ hp) (Rep.newL hr (e.free hp) hz)
def moL (g : D → Option (List D)) (fa : Pu D) : Mo O := fun ρ => match fa ρ with
  | some d => (match g d with
    | some zs => some (.ok (.fl zs) ρ)
    | none => none)
  | none => none
def moLv (g : D → Option (List D)) (fa : Mo D) : Mo O := fun ρ => match fa ρ with
  | some (.ok d ρ') => (match g d with
    | some zs => some (.ok (.fl zs) ρ')
    | none => none)
  | some (.ex c fs ρ') => some (.ex c fs ρ')
  | none => none
theorem tC1L_p {K : PySem.W.Frag} {mg : MG} {r : List V → Hp → VK → Prop} {g : D → Option (List D)} (h : C1L K r g) : ∀ σ H Q, tX K mg Wx (moL g fa) σ H Q → tCB r (tCons (tC K fa) tNil) σ H Q := fun σ H Q ⟨g', ρ, T, G, W, hR, k⟩ => by
  unfold moL at k
  cases h1 : fa ρ with
  | none => rw [h1] at k; exact k.elim
  | some d =>
    rw [h1] at k
    refine ⟨g', ρ, T, G, W, d, hR, h1, fun v H1 G1 R1 eg1 eh1 r1 => ?_⟩
    dsimp only at k
    cases h2 : g d with
    | none => rw [h2] at k; exact k.elim
    | some zs =>
      rw [h2] at k
      exact h d zs v H1 G1 Q h2 R1.gh r1 fun ys p hp hr hz => k _ _ _ _ (R1.newF hp hr hz) eg1
theorem tC1L_v {K : PySem.W.Frag} {mg : MG} {r : List V → Hp → VK → Prop} {g : D → Option (List D)} (h : C1L K r g) : ∀ σ H Q, tX K mg Wx (moLv g ga) σ H Q → tCB r (tCons (tV K mg Wx ga) tNil) σ H Q := fun σ H Q ⟨g', ρ, T, G, W, hR, k⟩ => by
  refine ⟨g', ρ, T, G, W, hR, ?_⟩
  unfold moLv at k
  cases h1 : ga ρ with
  | none => rw [h1] at k; exact k.elim
  | some rr =>
    rw [h1] at k
    cases rr with
    | ex c fs ρ1 => exact k
    | ok d ρ1 =>
      intro v H1 G1 W1 R1 eg1 r1
      dsimp only at k
      cases h2 : g d with
      | none => rw [h2] at k; exact k.elim
      | some zs =>
        rw [h2] at k
        exact h d zs v H1 G1 Q h2 R1.gh (.inl r1) fun ys p hp hr hz => k _ _ _ _ (R1.newF hp hr hz) eg1
theorem x_callBL {x : Str} {g : D → Option (List D)} (h : C1L X.K r g) (hc : CallR X (.builtin idn) r) (hg : Gl X x) (hm : X.mg x = none) (hv : bootBuiltins x = some (.builtin idn)) (ha : PE X a (tC X.K fa)) (hn : x ≠ "__name__" := by decide) (hdb : (x == ("__debug__" : Str)) = false := by decide)
    (hs : starEach [a] X.env = (false, eval a X.env) :: starEach [] X.env := by rfl) (hpl : (backTo pos (starEach [] X.env)).any (·.1) = false := by rfl) : PE X (.Call (.Name x p) [a] [] pos) (tX X.K X.mg Wx (moL g fa)) := (pe_callB hc hg hm hv (pa_cons ha pa_nil hs) hn hdb hs hpl).wk (tC1L_p h)
theorem x_callTL {x : Str} {g : D → Option (List D)} (h : C1L X.K r g) (hc : CallR X (.type idn) r) (hg : Gl X x) (hm : X.mg x = none) (hv : bootBuiltins x = some (.type idn)) (ha : PE X a (tC X.K fa)) (hn : x ≠ "__name__" := by decide) (hdb : (x == ("__debug__" : Str)) = false := by decide)
    (hs : starEach [a] X.env = (false, eval a X.env) :: starEach [] X.env := by rfl) (hpl : (backTo pos (starEach [] X.env)).any (·.1) = false := by rfl) : PE X (.Call (.Name x p) [a] [] pos) (tX X.K X.mg Wx (moL g fa)) := (pe_callTy hc hg hm hv (pa_cons ha pa_nil hs) hn hdb hs hpl).wk (tC1L_p h)
theorem x_callTLv {x : Str} {g : D → Option (List D)} (h : C1L X.K r g) (hc : CallR X (.type idn) r) (hg : Gl X x) (hm : X.mg x = none) (hv : bootBuiltins x = some (.type idn)) (ha : PE X a (tV X.K X.mg Wx ga)) (hn : x ≠ "__name__" := by decide) (hdb : (x == ("__debug__" : Str)) = false := by decide)
    (hs : starEach [a] X.env = (false, eval a X.env) :: starEach [] X.env := by rfl) (hpl : (backTo pos (starEach [] X.env)).any (·.1) = false := by rfl) : PE X (.Call (.Name x p) [a] [] pos) (tX X.K X.mg Wx (moLv g ga)) := (pe_callTy hc hg hm hv (pa_cons ha pa_nil hs) hn hdb hs hpl).wk (tC1L_v h)
end
end Tr
namespace Tr
open PySem PySem.Spec PyProof.Rows L2
theorem _root_.L2.PW.wk {X : Cx} {e : Expr} {t t' : TT} (h : PW X e t) (w : ∀ σ H Q, t' σ H Q → t σ H Q) : PW X e t' := ⟨fun wh pins s σ H Q I q => h.run wh pins s σ H Q I (w σ H Q q)⟩
section
variable {X : Cx} {e a b c : Expr} {es rest : List Expr} {Wx : WX} {pos : Pos} {f fa fb fc : Pu D} {ga gb gc : Mo D} {qa qb : Pu Bool} {ya yb : Mo Bool}
/-! ### tests -/
def tb (f : Pu D) : Pu Bool := fun ρ => match f ρ with
  | some (.bl b) => some b
  | _ => none
def tbM (f : Mo D) : Mo Bool := fun ρ => match f ρ with
  | some (.ok (.bl b) ρ') => some (.ok b ρ')
  | some (.ex c fs ρ') => some (.ex c fs ρ')
  | _ => none
theorem tb_some {f : Pu D} {ρ : Rho} {b : Bool} (h : tb f ρ = some b) : f ρ = some (.bl b) := by
  unfold tb at h
  split at h
  · rename_i e; cases h; exact e
  · cases h
theorem tQ_P {K : PySem.W.Frag} : ∀ σ H (Q : Bool → Hp → Prop), tQ K (tb f) σ H Q → tP K f σ H (fun x H' => ∃ c, x = .bl c ∧ Q c H') := fun σ H Q ⟨g, ρ, T, G, W, b, hR, hf, k⟩ =>
  ⟨g, ρ, T, G, W, .bl b, hR, tb_some hf, fun v H' G' R' eg eh r => ⟨b, Rep.b.mp r, k H' G' R' eg eh⟩⟩
theorem tY_V {K : PySem.W.Frag} {mg : MG} : ∀ σ H (Q : Bool → Hp → Prop), tY K mg Wx (tbM ga) σ H Q → tV K mg Wx ga σ H (fun x H' => ∃ c, x = .bl c ∧ Q c H') := fun σ H Q ⟨g, ρ, T, G, W, hR, k⟩ => by
  refine ⟨g, ρ, T, G, W, hR, ?_⟩
  unfold tbM at k
  cases h1 : ga ρ with
  | none => rw [h1] at k; exact k.elim
  | some r =>
    rw [h1] at k
    cases r with
    | ex c fs ρ' => exact k
    | ok d ρ' =>
      intro v H' G' W' R' eg r
      cases d with
      | bl b => exact ⟨b, Rep.b.mp r, k H' G' W' R' eg⟩
      | _ => exact k.elim
def quM (f : Pu Bool) : Mo Bool := fun ρ => match f ρ with
  | some b => some (.ok b ρ)
  | none => none
theorem _root_.L2.PT.qy (h : PT X e (tQ X.K qa)) : PT X e (tY X.K X.mg Wx (quM qa)) := h.wk fun σ H Q ⟨g, ρ, T, G, W, hR, k⟩ => by
  unfold quM at k
  cases h1 : qa ρ with
  | none => rw [h1] at k; exact k.elim
  | some b => rw [h1] at k; exact ⟨g, ρ, T, G, W, b, hR, h1, fun H' G' R' eg eh => k H' G' W R' eg⟩
theorem _root_.L2.PW.qy (h : PW X e (tQ X.K qa)) : PW X e (tY X.K X.mg Wx (quM qa)) := h.wk fun σ H Q ⟨g, ρ, T, G, W, hR, k⟩ => by
  unfold quM at k
  cases h1 : qa ρ with
  | none => rw [h1] at k; exact k.elim
  | some b => rw [h1] at k; exact ⟨g, ρ, T, G, W, b, hR, h1, fun H' G' R' eg eh => k H' G' W R' eg⟩
theorem q_val (h : PE X e (tP X.K f)) (he : ∀ whole, isTrue e X.env whole = (do let v ← whole; standAt e.pos; holding [v] (truthy v)) := by intro _; rfl) : PT X e (tQ X.K (tb f)) := (pt_val h he).wk tQ_P
theorem y_val (h : PE X e (tV X.K X.mg Wx ga)) (he : ∀ whole, isTrue e X.env whole = (do let v ← whole; standAt e.pos; holding [v] (truthy v)) := by intro _; rfl) : PT X e (tY X.K X.mg Wx (tbM ga)) := (pt_val h he).wk tY_V
theorem q_cmp {op : CmpOp} {r : R2} {g : D → D → Option D} (ho : OpR X (compareOp op) r) (h : OpB X.K r g) (ha : PE X a (tB X.K fa)) (hb : PE X b (tB X.K fb)) (hm : behindInMarks op b = false) : PT X (.Compare a [op] [b] pos) (tQ X.K (tb (pu2 g fa fb))) := (pt_cmpR ho ha hb hm).wk fun σ H Q h' => tOp_b h σ H _ (tQ_P σ H Q h')
theorem y_cmp {op : CmpOp} {r : R2} {g : D → D → Option D} (ho : OpR X (compareOp op) r) (h : OpS X.K r g) (ha : PE X a (tV X.K X.mg Wx ga)) (hb : PE X b (tV X.K X.mg Wx gb)) (hm : behindInMarks op b = false) : PT X (.Compare a [op] [b] pos) (tY X.K X.mg Wx (tbM (mo2 g ga gb))) := (pt_cmpR ho ha hb hm).wk fun σ H Q h' => tOp_v h σ H _ (tY_V σ H Q h')
/-- a op b op' c -/
def chn (g g' : D → D → Option D) (fa fb fc : Pu D) : Pu D := fun ρ => match fa ρ, fb ρ with
  | some x, some y => (match g x y with
    | some (.bl true) => (match fc ρ with
      | some z => g' y z
      | none => none)
    | some (.bl false) => some (.bl false)
    | _ => none)
  | _, _ => none
theorem tChain_p {K : PySem.W.Frag} {r r' : R2} {g g' : D → D → Option D} (h : OpB K r g) (h' : OpB K r' g') : ∀ σ H Q, tP K (chn g g' fa fb fc) σ H Q → tChain r r' (tB K fa) (tB K fb) (tB K fc) σ H Q := fun σ H Q ⟨gg, ρ, T, G, W, d, hR, hf, k⟩ => by
  unfold chn at hf
  split at hf
  · rename_i x y e1 e2
    refine ⟨gg, ρ, T, G, W, x, hR, e1, fun u H1 G1 R1 eg1 eh1 r1 => ⟨gg, ρ, T, G1, W, y, R1, e2, fun u2 H2 G2 R2 eg2 eh2 r2 => ?_⟩⟩
    split at hf
    · rename_i e3
      split at hf
      · rename_i z e4
        refine h x y _ u u2 H2 _ e3 (r1.mono eh2) r2 fun v rv => ⟨true, Rep.b.mp (rv G), iteT ?_⟩
        refine ⟨gg, ρ, T, G2, W, z, R2, e4, fun u3 H3 G3 R3 eg3 eh3 r3 => ?_⟩
        exact h' y z d u2 u3 H3 Q hf (r2.mono eh3) r3 fun v rv => k v H3 G3 R3 (eg1.trans (eg2.trans eg3)) (eh1.trans (eh2.trans eh3)) (rv G3)
      · cases hf
    · rename_i e3
      cases hf
      exact h x y _ u u2 H2 _ e3 (r1.mono eh2) r2 fun v rv => ⟨false, Rep.b.mp (rv G), iteF (k _ H2 G2 R2 (eg1.trans eg2) (eh1.trans eh2) (Rep.b.mpr rfl))⟩
    · cases hf
  · cases hf
theorem p_chain {op op' : CmpOp} {r r' : R2} {g g' : D → D → Option D} (ho : OpR X (compareOp op) r) (h : OpB X.K r g) (ho' : OpR X (compareOp op') r') (h' : OpB X.K r' g') (ha : PE X a (tB X.K fa)) (hb : PE X b (tB X.K fb)) (hc : PE X c (tB X.K fc))
    (hm : lastMarks [op, op'] [b, c] = false := by with_unfolding_all rfl) : PE X (.Compare a [op, op'] [b, c] pos) (tP X.K (chn g g' fa fb fc)) := (pe_chain ho ho' ha hb hc hm).wk (tChain_p h h')
theorem q_chain {op op' : CmpOp} {r r' : R2} {g g' : D → D → Option D} (ho : OpR X (compareOp op) r) (h : OpB X.K r g) (ho' : OpR X (compareOp op') r') (h' : OpB X.K r' g') (ha : PE X a (tB X.K fa)) (hb : PE X b (tB X.K fb)) (hc : PE X c (tB X.K fc))
    (hm : lastMarks [op, op'] [b, c] = false := by with_unfolding_all rfl) : PT X (.Compare a [op, op'] [b, c] pos) (tQ X.K (tb (chn g g' fa fb fc))) := (pt_chain ho ho' ha hb hc hm).wk fun σ H Q hq => tChain_p h h' σ H _ (tQ_P σ H Q hq)
def notQ (f : Pu Bool) : Pu Bool := fun ρ => match f ρ with
  | some b => some (!b)
  | none => none
theorem q_not (h : PT X a (tQ X.K qa)) : PT X (.UnaryOp .Not a pos) (tQ X.K (notQ qa)) := (pt_not h).wk fun σ H Q ⟨g, ρ, T, G, W, b, hR, hf, k⟩ => by
  unfold notQ at hf
  split at hf
  · rename_i b' e1; cases hf
    exact ⟨g, ρ, T, G, W, b', hR, e1, fun H' G' R' eg eh => k H' G' R' eg eh⟩
  · cases hf
def notY (f : Mo Bool) : Mo Bool := fun ρ => match f ρ with
  | some (.ok b ρ') => some (.ok (!b) ρ')
  | some (.ex c fs ρ') => some (.ex c fs ρ')
  | none => none
theorem y_not (h : PT X a (tY X.K X.mg Wx ya)) : PT X (.UnaryOp .Not a pos) (tY X.K X.mg Wx (notY ya)) := (pt_not h).wk fun σ H Q ⟨g, ρ, T, G, W, hR, k⟩ => by
  refine ⟨g, ρ, T, G, W, hR, ?_⟩
  unfold notY at k
  cases h1 : ya ρ with
  | none => rw [h1] at k; exact k.elim
  | some r =>
    rw [h1] at k
    cases r with
    | ex c fs ρ' => exact k
    | ok b ρ' => exact k
def andQ (f g : Pu Bool) : Pu Bool := fun ρ => match f ρ with
  | some true => g ρ
  | some false => some false
  | none => none
def orQ (f g : Pu Bool) : Pu Bool := fun ρ => match f ρ with
  | some true => some true
  | some false => g ρ
  | none => none
theorem q_and1 (h : PT X a (tQ X.K qa)) : PW X (.BoolOp .And [a] pos) (tQ X.K qa) := pw_and1 h
theorem q_or1 (h : PT X a (tQ X.K qa)) : PW X (.BoolOp .Or [a] pos) (tQ X.K qa) := pw_or1 h
theorem q_and (ha : PT X a (tQ X.K qa)) (hb : PW X (.BoolOp .And (b :: rest) pos) (tQ X.K qb)) : PW X (.BoolOp .And (a :: b :: rest) pos) (tQ X.K (andQ qa qb)) := (pw_and ha hb).wk fun σ H Q ⟨g, ρ, T, G, W, d, hR, hf, k⟩ => by
  unfold andQ at hf
  split at hf
  · rename_i e1
    refine ⟨g, ρ, T, G, W, true, hR, e1, fun H1 G1 R1 eg eh => iteT ⟨g, ρ, T, G1, W, d, R1, hf, fun H2 G2 R2 eg2 eh2 => k H2 G2 R2 (eg.trans eg2) (eh.trans eh2)⟩⟩
  · rename_i e1; cases hf
    exact ⟨g, ρ, T, G, W, false, hR, e1, fun H1 G1 R1 eg eh => iteF (k H1 G1 R1 eg eh)⟩
  · cases hf
theorem q_or (ha : PT X a (tQ X.K qa)) (hb : PW X (.BoolOp .Or (b :: rest) pos) (tQ X.K qb)) : PW X (.BoolOp .Or (a :: b :: rest) pos) (tQ X.K (orQ qa qb)) := (pw_or ha hb).wk fun σ H Q ⟨g, ρ, T, G, W, d, hR, hf, k⟩ => by
  unfold orQ at hf
  split at hf
  · rename_i e1; cases hf
    exact ⟨g, ρ, T, G, W, true, hR, e1, fun H1 G1 R1 eg eh => iteT (k H1 G1 R1 eg eh)⟩
  · rename_i e1
    refine ⟨g, ρ, T, G, W, false, hR, e1, fun H1 G1 R1 eg eh => iteF ⟨g, ρ, T, G1, W, d, R1, hf, fun H2 G2 R2 eg2 eh2 => k H2 G2 R2 (eg.trans eg2) (eh.trans eh2)⟩⟩
  · cases hf
def andY (f g : Mo Bool) : Mo Bool := fun ρ => match f ρ with
  | some (.ok true ρ') => g ρ'
  | some (.ok false ρ') => some (.ok false ρ')
  | some (.ex c fs ρ') => some (.ex c fs ρ')
  | none => none
def orY (f g : Mo Bool) : Mo Bool := fun ρ => match f ρ with
  | some (.ok false ρ') => g ρ'
  | some (.ok true ρ') => some (.ok true ρ')
  | some (.ex c fs ρ') => some (.ex c fs ρ')
  | none => none
theorem GE.mono {α : Type} {K : PySem.W.Frag} {mg : MG} {g : Gs} {T : List (O × V)} {G G' : Hp} {k k' : α → Rho → Prop} {r : Option (Re α)} (e : Same G G') (hk : ∀ a ρ, k a ρ → k' a ρ) (h : GE K mg Wx g T G k r) : GE K mg Wx g T G' k' r := by
  cases r with
  | none => exact h.elim
  | some r =>
    cases r with
    | ok a ρ => exact hk a ρ h
    | ex c fs ρ => exact WE'.mono e h
theorem y_and1 (h : PT X a (tY X.K X.mg Wx ya)) : PW X (.BoolOp .And [a] pos) (tY X.K X.mg Wx ya) := pw_and1 h
theorem y_or1 (h : PT X a (tY X.K X.mg Wx ya)) : PW X (.BoolOp .Or [a] pos) (tY X.K X.mg Wx ya) := pw_or1 h
theorem y_and (ha : PT X a (tY X.K X.mg Wx ya)) (hb : PW X (.BoolOp .And (b :: rest) pos) (tY X.K X.mg Wx yb)) : PW X (.BoolOp .And (a :: b :: rest) pos) (tY X.K X.mg Wx (andY ya yb)) := (pw_and ha hb).wk fun σ H Q ⟨g, ρ, T, G, W, hR, k⟩ => by
  refine ⟨g, ρ, T, G, W, hR, ?_⟩
  unfold andY at k
  cases h1 : ya ρ with
  | none => rw [h1] at k; exact k.elim
  | some r =>
    rw [h1] at k
    cases r with
    | ex c fs ρ' => exact k
    | ok b ρ' =>
      intro H1 G1 W1 R1 eg
      cases b with
      | true => exact iteT ⟨g, ρ', T, G1, W1, R1, GE.mono eg (fun b ρ2 k H2 G2 W2 R2 eg2 => k H2 G2 W2 R2 (eg.trans eg2)) k⟩
      | false => exact iteF (k H1 G1 W1 R1 eg)
theorem y_or (ha : PT X a (tY X.K X.mg Wx ya)) (hb : PW X (.BoolOp .Or (b :: rest) pos) (tY X.K X.mg Wx yb)) : PW X (.BoolOp .Or (a :: b :: rest) pos) (tY X.K X.mg Wx (orY ya yb)) := (pw_or ha hb).wk fun σ H Q ⟨g, ρ, T, G, W, hR, k⟩ => by
  refine ⟨g, ρ, T, G, W, hR, ?_⟩
  unfold orY at k
  cases h1 : ya ρ with
  | none => rw [h1] at k; exact k.elim
  | some r =>
    rw [h1] at k
    cases r with
    | ex c fs ρ' => exact k
    | ok b ρ' =>
      intro H1 G1 W1 R1 eg
      cases b with
      | false => exact iteF ⟨g, ρ', T, G1, W1, R1, GE.mono eg (fun b ρ2 k H2 G2 W2 R2 eg2 => k H2 G2 W2 R2 (eg.trans eg2)) k⟩
      | true => exact iteT (k H1 G1 W1 R1 eg)
/-! ### and, or, not as values -/
def andP (f g : Pu D) : Pu D := fun ρ => match f ρ with
  | some (.bl true) => g ρ
  | some (.bl false) => some (.bl false)
  | _ => none
def orP (f g : Pu D) : Pu D := fun ρ => match f ρ with
  | some (.bl false) => g ρ
  | some (.bl true) => some (.bl true)
  | _ => none
theorem p_and (ha : PE X a (tP X.K fa)) (hb : PE X (.BoolOp .And (b :: rest) pos) (tP X.K fb)) : PE X (.BoolOp .And (a :: b :: rest) pos) (tP X.K (andP fa fb)) := (pe_and ha hb).wk fun σ H Q ⟨g, ρ, T, G, W, d, hR, hf, k⟩ => by
  unfold andP at hf
  split at hf
  · rename_i e1
    exact ⟨g, ρ, T, G, W, _, hR, e1, fun v H1 G1 R1 eg eh r => ⟨true, Rep.b.mp r, iteT ⟨g, ρ, T, G1, W, d, R1, hf, fun v2 H2 G2 R2 eg2 eh2 r2 => k v2 H2 G2 R2 (eg.trans eg2) (eh.trans eh2) r2⟩⟩⟩
  · rename_i e1; cases hf
    exact ⟨g, ρ, T, G, W, _, hR, e1, fun v H1 G1 R1 eg eh r => ⟨false, Rep.b.mp r, iteF (k _ H1 G1 R1 eg eh (Rep.b.mpr rfl))⟩⟩
  · cases hf
theorem p_or (ha : PE X a (tP X.K fa)) (hb : PE X (.BoolOp .Or (b :: rest) pos) (tP X.K fb)) : PE X (.BoolOp .Or (a :: b :: rest) pos) (tP X.K (orP fa fb)) := (pe_or ha hb).wk fun σ H Q ⟨g, ρ, T, G, W, d, hR, hf, k⟩ => by
  unfold orP at hf
  split at hf
  · rename_i e1
    exact ⟨g, ρ, T, G, W, _, hR, e1, fun v H1 G1 R1 eg eh r => ⟨false, Rep.b.mp r, iteF ⟨g, ρ, T, G1, W, d, R1, hf, fun v2 H2 G2 R2 eg2 eh2 r2 => k v2 H2 G2 R2 (eg.trans eg2) (eh.trans eh2) r2⟩⟩⟩
  · rename_i e1; cases hf
    exact ⟨g, ρ, T, G, W, _, hR, e1, fun v H1 G1 R1 eg eh r => ⟨true, Rep.b.mp r, iteT (k _ H1 G1 R1 eg eh (Rep.b.mpr rfl))⟩⟩
  · cases hf
theorem p_one {op} (h : PE X a (tP X.K fa)) : PE X (.BoolOp op [a] pos) (tP X.K fa) := pe_one h
def notP (f : Pu D) : Pu D := fun ρ => match f ρ with
  | some (.bl b) => some (.bl (!b))
  | _ => none
theorem p_not (ha : PE X a (tP X.K fa)) : PE X (.UnaryOp .Not a pos) (tP X.K (notP fa)) := (pe_not ha).wk fun σ H Q ⟨g, ρ, T, G, W, d, hR, hf, k⟩ => by
  unfold notP at hf
  split at hf
  · rename_i b e1; cases hf
    exact ⟨g, ρ, T, G, W, _, hR, e1, fun v H1 G1 R1 eg eh r => ⟨b, Rep.b.mp r, k _ H1 G1 R1 eg eh (Rep.b.mpr rfl)⟩⟩
  · cases hf
def andV (f g : Mo D) : Mo D := fun ρ => match f ρ with
  | some (.ok (.bl true) ρ') => g ρ'
  | some (.ok (.bl false) ρ') => some (.ok (.bl false) ρ')
  | some (.ex c fs ρ') => some (.ex c fs ρ')
  | _ => none
def orV (f g : Mo D) : Mo D := fun ρ => match f ρ with
  | some (.ok (.bl false) ρ') => g ρ'
  | some (.ok (.bl true) ρ') => some (.ok (.bl true) ρ')
  | some (.ex c fs ρ') => some (.ex c fs ρ')
  | _ => none
theorem v_and (ha : PE X a (tV X.K X.mg Wx ga)) (hb : PE X (.BoolOp .And (b :: rest) pos) (tV X.K X.mg Wx gb)) : PE X (.BoolOp .And (a :: b :: rest) pos) (tV X.K X.mg Wx (andV ga gb)) := (pe_and ha hb).wk fun σ H Q ⟨g, ρ, T, G, W, hR, k⟩ => by
  refine ⟨g, ρ, T, G, W, hR, ?_⟩
  unfold andV at k
  cases h1 : ga ρ with
  | none => rw [h1] at k; exact k.elim
  | some r =>
    rw [h1] at k
    cases r with
    | ex c fs ρ' => exact k
    | ok d ρ' =>
      intro v H1 G1 W1 R1 eg rd
      cases d with
      | bl b =>
        cases b with
        | true => exact ⟨true, Rep.b.mp rd, iteT ⟨g, ρ', T, G1, W1, R1, GE.mono eg (fun b ρ2 k v2 H2 G2 W2 R2 eg2 => k v2 H2 G2 W2 R2 (eg.trans eg2)) k⟩⟩
        | false => exact ⟨false, Rep.b.mp rd, iteF (k _ H1 G1 W1 R1 eg (Rep.b.mpr rfl))⟩
      | _ => exact k.elim
theorem v_or (ha : PE X a (tV X.K X.mg Wx ga)) (hb : PE X (.BoolOp .Or (b :: rest) pos) (tV X.K X.mg Wx gb)) : PE X (.BoolOp .Or (a :: b :: rest) pos) (tV X.K X.mg Wx (orV ga gb)) := (pe_or ha hb).wk fun σ H Q ⟨g, ρ, T, G, W, hR, k⟩ => by
  refine ⟨g, ρ, T, G, W, hR, ?_⟩
  unfold orV at k
  cases h1 : ga ρ with
  | none => rw [h1] at k; exact k.elim
  | some r =>
    rw [h1] at k
    cases r with
    | ex c fs ρ' => exact k
    | ok d ρ' =>
      intro v H1 G1 W1 R1 eg rd
      cases d with
      | bl b =>
        cases b with
        | false => exact ⟨false, Rep.b.mp rd, iteF ⟨g, ρ', T, G1, W1, R1, GE.mono eg (fun b ρ2 k v2 H2 G2 W2 R2 eg2 => k v2 H2 G2 W2 R2 (eg.trans eg2)) k⟩⟩
        | true => exact ⟨true, Rep.b.mp rd, iteT (k _ H1 G1 W1 R1 eg (Rep.b.mpr rfl))⟩
      | _ => exact k.elim
theorem v_one {op} (h : PE X a (tV X.K X.mg Wx ga)) : PE X (.BoolOp op [a] pos) (tV X.K X.mg Wx ga) := pe_one h
def notV (f : Mo D) : Mo D := mo1 (fun d => match d with
  | .bl b => some (.bl (!b))
  | _ => none) f
theorem v_not (ha : PE X a (tV X.K X.mg Wx ga)) : PE X (.UnaryOp .Not a pos) (tV X.K X.mg Wx (notV ga)) := (pe_not ha).wk fun σ H Q ⟨g, ρ, T, G, W, hR, k⟩ => by
  refine ⟨g, ρ, T, G, W, hR, ?_⟩
  unfold notV mo1 at k
  cases h1 : ga ρ with
  | none => rw [h1] at k; exact k.elim
  | some r =>
    rw [h1] at k
    cases r with
    | ex c fs ρ' => exact k
    | ok d ρ' =>
      intro v H1 G1 W1 R1 eg rd
      cases d with
      | bl b => exact ⟨b, Rep.b.mp rd, k _ H1 G1 W1 R1 eg (Rep.b.mpr rfl)⟩
      | _ => exact k.elim
/-! ### a if t else b -/
def ifP (q : Pu Bool) (f g : Pu D) : Pu D := fun ρ => match q ρ with
  | some true => f ρ
  | some false => g ρ
  | none => none
theorem p_if (hc : PT X c (tQ X.K qa)) (ha : PE X a (tP X.K fa)) (hb : PE X b (tP X.K fb)) : PE X (.IfExp c a b pos) (tP X.K (ifP qa fa fb)) := (pe_ifExp hc ha hb).wk fun σ H Q ⟨g, ρ, T, G, W, d, hR, hf, k⟩ => by
  unfold ifP at hf
  split at hf
  · rename_i e1
    exact ⟨g, ρ, T, G, W, true, hR, e1, fun H1 G1 R1 eg eh => iteT ⟨g, ρ, T, G1, W, d, R1, hf, fun v2 H2 G2 R2 eg2 eh2 r2 => k v2 H2 G2 R2 (eg.trans eg2) (eh.trans eh2) r2⟩⟩
  · rename_i e1
    exact ⟨g, ρ, T, G, W, false, hR, e1, fun H1 G1 R1 eg eh => iteF ⟨g, ρ, T, G1, W, d, R1, hf, fun v2 H2 G2 R2 eg2 eh2 r2 => k v2 H2 G2 R2 (eg.trans eg2) (eh.trans eh2) r2⟩⟩
  · cases hf
def ifM {α : Type} (q : Mo Bool) (f g : Mo α) : Mo α := fun ρ => match q ρ with
  | some (.ok true ρ') => f ρ'
  | some (.ok false ρ') => g ρ'
  | some (.ex c fs ρ') => some (.ex c fs ρ')
  | none => none
theorem x_if {fa fb : Mo O} (hc : PT X c (tY X.K X.mg Wx ya)) (ha : PE X a (tX X.K X.mg Wx fa)) (hb : PE X b (tX X.K X.mg Wx fb)) : PE X (.IfExp c a b pos) (tX X.K X.mg Wx (ifM ya fa fb)) := (pe_ifExp hc ha hb).wk fun σ H Q ⟨g, ρ, T, G, W, hR, k⟩ => by
  refine ⟨g, ρ, T, G, W, hR, ?_⟩
  unfold ifM at k
  cases h1 : ya ρ with
  | none => rw [h1] at k; exact k.elim
  | some r =>
    rw [h1] at k
    cases r with
    | ex c fs ρ' => exact k
    | ok b ρ' =>
      intro H1 G1 W1 R1 eg
      cases b with
      | true => exact iteT ⟨g, ρ', T, G1, W1, R1, GE.mono eg (fun b ρ2 k v H2 G2 W2 R2 eg2 => k v H2 G2 W2 R2 (eg.trans eg2)) k⟩
      | false => exact iteF ⟨g, ρ', T, G1, W1, R1, GE.mono eg (fun b ρ2 k v H2 G2 W2 R2 eg2 => k v H2 G2 W2 R2 (eg.trans eg2)) k⟩
theorem v_if (hc : PT X c (tY X.K X.mg Wx ya)) (ha : PE X a (tV X.K X.mg Wx ga)) (hb : PE X b (tV X.K X.mg Wx gb)) : PE X (.IfExp c a b pos) (tV X.K X.mg Wx (ifM ya ga gb)) := (pe_ifExp hc ha hb).wk fun σ H Q ⟨g, ρ, T, G, W, hR, k⟩ => by
  refine ⟨g, ρ, T, G, W, hR, ?_⟩
  unfold ifM at k
  cases h1 : ya ρ with
  | none => rw [h1] at k; exact k.elim
  | some r =>
    rw [h1] at k
    cases r with
    | ex c fs ρ' => exact k
    | ok b ρ' =>
      intro H1 G1 W1 R1 eg
      cases b with
      | true => exact iteT ⟨g, ρ', T, G1, W1, R1, GE.mono eg (fun b ρ2 k v H2 G2 W2 R2 eg2 => k v H2 G2 W2 R2 (eg.trans eg2)) k⟩
      | false => exact iteF ⟨g, ρ', T, G1, W1, R1, GE.mono eg (fun b ρ2 k v H2 G2 W2 R2 eg2 => k v H2 G2 W2 R2 (eg.trans eg2)) k⟩
end
end Tr
namespace Tr
open PySem PySem.Spec PyProof.Rows L2
section
variable {K : PySem.W.Frag} {mg : MG} {Wx : WX} {g : Gs} {ρ ρ' : Rho} {T T' : List (O × V)} {σ σ' : L2.St} {H H' G G' : Hp} {W W' : Own} {o : O} {v : V} {p : Addr} {d : D} {i k : Nat} {u : HO} {D0 : Ends}
theorem GS.mono {r : Option So} (e : Same G G') (h : GS K mg Wx D0 g T G r) : GS K mg Wx D0 g T G' r := by
  cases r with
  | none => exact h.elim
  | some r =>
    cases r with
    | nx ρ => exact fun σ' H' G2 W' a b => h σ' H' G2 W' a (e.trans b)
    | bk ρ => exact fun σ' H' G2 W' a b => h σ' H' G2 W' a (e.trans b)
    | ct ρ => exact fun σ' H' G2 W' a b => h σ' H' G2 W' a (e.trans b)
    | rt o ρ => exact fun v σ' H' G2 W' a b => h v σ' H' G2 W' a (e.trans b)
    | ex c fs ρ => exact WE'.mono e h
/-- a cell of a slot's tree is written -/
theorem R.wrL {s : Sl} {o' : O} {b : Addr} {q : List Nat} (h : R K g ρ T σ H G W) (h' : R K g ρ T σ H G' W) (e : ρ[i]? = some s) (hv : σ[i]? = some (some v)) (hw : W b = some (.s i, q)) (ho : Ow K G' (upd H b u) W o' v (.s i) []) :
    R K g (ρ.set i (s.put o')) T σ (upd H b u) G' W := by
  have hne : ∀ {c : Addr} {l : Lab}, W c = some l → l.1 ≠ .s i → c ≠ b := fun {c l} w n eq => n (by rw [eq, hw] at w; cases w; rfl)
  have g' := (h'.wl b _ hw)
  refine ⟨fun c x q => ?_, fun c x q => ?_, h'.gg, h'.sep, fun c l w => ?_, (List.length_set ..).trans h.len, fun j s' q => ?_, fun k o v q => ?_⟩
  · rw [upd_ne (fun z => by rw [z, g'.1] at q; cases q)]; exact h'.gh c x q
  · rw [upd_ne (fun z => by rw [z, g'.2.1] at q; cases q)]; exact h'.kh c x q
  · refine ⟨(h'.wl c l w).1, (h'.wl c l w).2.1, ?_⟩
    by_cases hb : c = b
    · rw [hb, upd_same]; exact fun z => nomatch z
    · rw [upd_ne hb]; exact (h'.wl c l w).2.2
  · by_cases hj : i = j
    · subst hj
      have hi : i < ρ.length := by
        by_cases hi : i < ρ.length
        · exact hi
        · rw [List.getElem?_eq_none (by omega)] at e; cases e
      rw [List.getElem?_set_self hi] at q
      cases q
      cases s with
      | no => trivial
      | ow o'' => exact ⟨v, hv, ho⟩
      | le o'' =>
        obtain ⟨v', h1, h3, _⟩ := h.sl i _ e
        rw [hv] at h1; cases h1
        exact ⟨v, hv, h3, ho⟩
    · rw [List.getElem?_set_ne hj] at q
      exact (h'.sl j s' q).keep (Same.refl G') (fun b z w => ⟨upd_ne (hne w fun z => hj (by cases z; rfl)), w⟩) rfl
  · exact (h'.tm k o v q).keep (Same.refl G') fun b z w => ⟨upd_ne (hne w fun z => nomatch z), w⟩
theorem path_ne {q z : List Nat} {k m : Nat} (h : k ≠ m) : (q ++ [k]) ++ z ≠ q ++ [m] := by
  intro e
  rw [List.append_assoc] at e
  have := List.append_cancel_left e
  simp at this
  exact h this.1
theorem Ow.off {r : Rt} {q : List Nat} {k m : Nat} {b : Addr} (hw : W b = some (r, q ++ [m])) (hk : k ≠ m) (h : Ow K G H W o v r (q ++ [k])) : Ow K G (upd H b u) W o v r (q ++ [k]) := by
  have := Ow.move (K := K) (G := G) (G' := G) (H := H) (H' := upd H b u) (W := W) (W' := W) (r := r) (r' := r) (q := q ++ [k]) (q' := q ++ [k]) (o := o) (v := v) (Same.refl G) [] (fun a z w => by
    rw [List.nil_append] at w ⊢
    exact ⟨upd_ne fun e => by
      rw [e, hw] at w
      have z2 := Option.some.inj w
      have z3 : q ++ [m] = (q ++ [k]) ++ z := congrArg Prod.snd z2
      exact path_ne hk z3.symm, w⟩) (by rw [List.append_nil]; exact h)
  rw [List.append_nil] at this
  exact this
theorem Ows.off {r : Rt} {q : List Nat} {m : Nat} {b : Addr} (hw : W b = some (r, q ++ [m])) : ∀ {os : List O} {xs : List V} {k : Nat}, m < k → Ows K G H W os xs r q k → Ows K G (upd H b u) W os xs r q k
  | [], _, _, _, h => by rw [Ows] at h ⊢; exact h
  | o :: os, _, k, hk, h => by
    rw [Ows] at h ⊢
    obtain ⟨x, xr, e1, h1, h2⟩ := h
    exact ⟨x, xr, e1, h1.off hw (by omega), Ows.off hw (by omega) h2⟩
theorem Ows.upd {r : Rt} {q : List Nat} {b : Addr} {o' : O} {x' : V} : ∀ {os : List O} {xs : List V} {k j : Nat}, Ows K G H W os xs r q k → W b = some (r, q ++ [k + j]) → Ow K G (upd H b u) W o' x' r (q ++ [k + j]) → xs[j]? = some x' → Ows K G (upd H b u) W (os.set j o') xs r q k
  | [], _, _, _, h, _, _, _ => by rw [Ows] at h; subst h; rename_i hx; simp at hx
  | o :: os, _, k, 0, h, hw, ho, hx => by
    rw [Ows] at h
    obtain ⟨x, xr, e1, h1, h2⟩ := h
    subst e1
    simp at hx; subst hx
    rw [List.set_cons_zero, Ows]
    exact ⟨x, xr, rfl, ho, Ows.off hw (by omega) h2⟩
  | o :: os, _, k, j + 1, h, hw, ho, hx => by
    rw [Ows] at h
    obtain ⟨x, xr, e1, h1, h2⟩ := h
    subst e1
    rw [List.set_cons_succ, Ows]
    rw [show k + (j + 1) = k + 1 + j by omega] at hw ho
    exact ⟨x, xr, rfl, h1.off hw (by omega), Ows.upd h2 hw ho (by simpa using hx)⟩
/-- a flat list within a slot's list is written -/
theorem R.wr1 {s : Sl} {os : List O} {j : Int} {ds : List D} (h : R K g ρ T σ H G W) (e : ρ[i]? = some s) (eo : s.tr = some (.ol os)) (ej : atI os j = some (.fl ds)) :
    ∃ a xs b ys jj, σ[i]? = some (some (.ref a)) ∧ H a = some (.lst xs) ∧ atI xs j = some (.ref b) ∧ H b = some (.lst ys) ∧ G b = none ∧ Reps K G ds ys ∧ ixN os.length j = some jj ∧
      ∀ G' ds' ys', Same G G' → R K g ρ T σ H G' W → Reps K G' ds' ys' → ds'.length ≤ sizeLine → R K g (ρ.set i (s.put (.ol (os.set jj (.fl ds'))))) T σ (upd H b (.lst ys')) G' W := by
  obtain ⟨v, hv, ho⟩ := h.slo e eo
  have ho0 := ho
  rw [Ow] at ho
  obtain ⟨a, xs, rfl, ha, hw, hos, hzo⟩ := ho
  obtain ⟨x, jj, e1, e2, e3, e4, hx⟩ := hos.at ej
  rw [Ow] at hx
  obtain ⟨b, ys, rfl, hb, hwb, hds, hzd⟩ := hx
  refine ⟨a, xs, b, ys, jj, hv, ha, e3, hb, (h.wl b _ hwb).1, hds, e1, fun G' ds' ys' eg h' hds' hz' => h.wrL h' e hv hwb ?_⟩
  have hab : a ≠ b := fun z => by rw [z, hwb] at hw; cases hw
  have ho' := ho0.same (G' := G') eg (Same.refl H) fun b l w => (h.wl b l w).2.2
  rw [Ow] at ho' ⊢
  obtain ⟨a', xs', ea, ha', hw', hos', hz2⟩ := ho'
  cases ea
  rw [ha] at ha'; cases ha'
  refine ⟨a, xs, rfl, by rw [upd_ne hab]; exact ha, hw, ?_, by rw [List.length_set]; exact hzo⟩
  refine Ows.upd hos' (x' := .ref b) (by rw [Nat.zero_add]; exact hwb) ?_ e4
  rw [Nat.zero_add, Ow]
  exact ⟨b, ys', rfl, upd_same, hwb, hds', hz'⟩
end
section
variable {X : Cx} {e a b c : Expr} {st : Stmt} {rest : List Stmt} {Wx : WX} {pos : Pos} {f fa fb fc fi : Pu D} {ga gb gc : Mo D} {gx : Mo O} {ms mr : MS} {ya : Mo Bool}
/-! ### blocks -/
def nxS : MS := fun ρ => some (.nx ρ)
def seqS (f g : MS) : MS := fun ρ => match f ρ with
  | some (.nx ρ') => g ρ'
  | r => r
theorem s_nil : PSs X [] (tS X.K X.mg Wx nxS) := pss_nil.wk fun D σ H ⟨g, ρ, T, G, W, hR, k⟩ => k σ H G W hR (Same.refl G)
theorem s_one (h : PS X st (tS X.K X.mg Wx ms)) : PSs X [st] (tS X.K X.mg Wx ms) := pss_one h
theorem s_cons (h1 : PS X st (tS X.K X.mg Wx ms)) (h2 : PSs X rest (tS X.K X.mg Wx mr)) : PSs X (st :: rest) (tS X.K X.mg Wx (seqS ms mr)) := (pss_cons h1 h2).wk fun D σ H ⟨g, ρ, T, G, W, hR, k⟩ => by
  refine ⟨g, ρ, T, G, W, hR, ?_⟩
  unfold seqS at k
  cases h1 : ms ρ with
  | none => rw [h1] at k; exact k.elim
  | some r =>
    rw [h1] at k
    cases r with
    | nx ρ' => exact fun σ' H' G' W' R' eg => ⟨g, ρ', T, G', W', R', GS.mono eg k⟩
    | bk ρ' => exact k
    | ct ρ' => exact k
    | rt o ρ' => exact k
    | ex c fs ρ' => exact k
theorem s_pass : PS X (.Pass pos) (tS X.K X.mg Wx nxS) := ps_pass.wk fun D σ H ⟨g, ρ, T, G, W, hR, k⟩ => k σ H G W hR (Same.refl G)
def bkS : MS := fun ρ => some (.bk ρ)
def ctS : MS := fun ρ => some (.ct ρ)
theorem s_break : PS X (.Break pos) (tS X.K X.mg Wx bkS) := ps_break.wk fun D σ H ⟨g, ρ, T, G, W, hR, k⟩ => k σ H G W hR (Same.refl G)
theorem s_continue : PS X (.Continue pos) (tS X.K X.mg Wx ctS) := ps_continue.wk fun D σ H ⟨g, ρ, T, G, W, hR, k⟩ => k σ H G W hR (Same.refl G)
def dropS (f : Mo O) : MS := fun ρ => match f ρ with
  | some (.ok _ ρ') => some (.nx ρ')
  | some (.ex c fs ρ') => some (.ex c fs ρ')
  | none => none
theorem s_expr (h : PE X e (tX X.K X.mg Wx gx)) (hs : swapsWith e none pos.line X.env = pure false := by rfl) : PS X (.Expr e pos) (tS X.K X.mg Wx (dropS gx)) := (ps_expr h hs).wk fun D σ H ⟨g, ρ, T, G, W, hR, k⟩ => by
  refine ⟨g, ρ, T, G, W, hR, ?_⟩
  unfold dropS at k
  cases h1 : gx ρ with
  | none => rw [h1] at k; exact k.elim
  | some r =>
    rw [h1] at k
    cases r with
    | ex c fs ρ' => exact k
    | ok o ρ' => exact fun v H' G' W' R' eg => k σ H' G' W' R'.dropT eg
def retS (f : Mo O) : MS := fun ρ => match f ρ with
  | some (.ok o ρ') => some (.rt o ρ')
  | some (.ex c fs ρ') => some (.ex c fs ρ')
  | none => none
theorem s_ret (h : PE X e (tX X.K X.mg Wx gx)) : PS X (.Return (some e) pos) (tS X.K X.mg Wx (retS gx)) := (ps_ret h).wk fun D σ H ⟨g, ρ, T, G, W, hR, k⟩ => by
  refine ⟨g, ρ, T, G, W, hR, ?_⟩
  unfold retS at k
  cases h1 : gx ρ with
  | none => rw [h1] at k; exact k.elim
  | some r =>
    rw [h1] at k
    cases r with
    | ex c fs ρ' => exact k
    | ok o ρ' => exact fun v H' G' W' R' eg => k v σ H' G' W' R' eg
def retN : MS := fun ρ => some (.rt (.fr .non) ρ)
theorem s_retN : PS X (.Return none pos) (tS X.K X.mg Wx retN) := ps_retN.wk fun D σ H ⟨g, ρ, T, G, W, hR, k⟩ => k .non σ H G W (hR.addT (Rep.nn.mpr rfl)) (Same.refl G)
def ifS (q : Mo Bool) (f g : MS) : MS := fun ρ => match q ρ with
  | some (.ok true ρ') => f ρ'
  | some (.ok false ρ') => g ρ'
  | some (.ex c fs ρ') => some (.ex c fs ρ')
  | none => none
theorem s_if {c : Expr} {sa sb : List Stmt} {ma mb : MS} (hc : PT X c (tY X.K X.mg Wx ya)) (ha : PSs X sa (tS X.K X.mg Wx ma)) (hb : PSs X sb (tS X.K X.mg Wx mb)) : PS X (.If c sa sb pos) (tS X.K X.mg Wx (ifS ya ma mb)) := (ps_if hc ha hb).wk fun D σ H ⟨g, ρ, T, G, W, hR, k⟩ => by
  refine ⟨g, ρ, T, G, W, hR, ?_⟩
  unfold ifS at k
  cases h1 : ya ρ with
  | none => rw [h1] at k; exact k.elim
  | some r =>
    rw [h1] at k
    cases r with
    | ex c fs ρ' => exact k
    | ok b ρ' =>
      intro H1 G1 W1 R1 eg
      cases b with
      | true => exact iteT ⟨g, ρ', T, G1, W1, R1, GS.mono eg k⟩
      | false => exact iteF ⟨g, ρ', T, G1, W1, R1, GS.mono eg k⟩
/-! ### name = e -/
/-- a slot that may be stored -/
def stb (i : Nat) (ρ : Rho) : Bool := match ρ[i]? with
  | some (.no) => true
  | some (.ow _) => true
  | _ => false
theorem stb_lt {i : Nat} {ρ : Rho} (h : stb i ρ = true) : i < ρ.length := by
  unfold stb at h
  by_cases hi : i < ρ.length
  · exact hi
  · rw [List.getElem?_eq_none (by omega)] at h; cases h
def setS (i : Nat) (f : Mo O) : MS := fun ρ => match f ρ with
  | some (.ok o ρ') => if stb i ρ' = true then some (.nx (ρ'.set i (.ow o))) else none
  | some (.ex c fs ρ') => some (.ex c fs ρ')
  | none => none
theorem tSet {K : PySem.W.Frag} {mg : MG} {i : Nat} : ∀ D σ H, tS K mg Wx (setS i gx) D σ H → tAsg (tX K mg Wx gx) (gName i) D σ H := fun D σ H ⟨g, ρ, T, G, W, hR, k⟩ => by
  refine ⟨g, ρ, T, G, W, hR, ?_⟩
  unfold setS at k
  cases h1 : gx ρ with
  | none => rw [h1] at k; exact k.elim
  | some r =>
    rw [h1] at k
    cases r with
    | ex c fs ρ' => exact k
    | ok o ρ' =>
      intro v H' G' W' R' eg
      dsimp only at k
      by_cases hs : stb i ρ' = true
      · rw [if_pos hs] at k
        exact k _ H' G' _ (R'.setS (stb_lt hs)) eg
      · rw [if_neg hs] at k; exact k.elim
theorem s_set {i : Nat} {x : Str} {pos' : Pos} (hN : X.N.Nodup) (hi : X.N[i]? = some x) (hx : Loc X.env.scope x) (he : PE X e (tX X.K X.mg Wx gx)) (hs : swapsWith e (some (.Name x pos')) pos.line X.env = pure false := by rfl) (hf : X.fn x = true ∨ X.env.scope.names.lookup x = some .local := by first | exact .inl rfl | exact .inr rfl | assumption) :
    PS X (.Assign [.Name x pos'] e pos) (tS X.K X.mg Wx (setS i gx)) := (ps_set hN hi hx he hs hf).wk tSet
/-! ### targets -/
/-- two states that differ at these slots alone -/
def Offs (is : List Nat) (σ σ' : L2.St) : Prop := σ'.length = σ.length ∧ ∀ j, j ∉ is → σ'[j]? = σ[j]?
def tG (K : PySem.W.Frag) (is : List Nat) (f : D → Rho → Option Rho) : TG := fun v σ H Q => ∃ g ρ T G W d ρ', R K g ρ T σ H G W ∧ Rep K G d v ∧ f d ρ = some ρ' ∧ ∀ σ' H' G' W', R K g ρ' T σ' H' G' W' → Same G G' → Offs is σ σ' → Q σ' H'
def tGs (K : PySem.W.Frag) (is : List Nat) (f : List D → Rho → Option Rho) : TGs := fun vs σ H Q => ∃ g ρ T G W ds ρ', R K g ρ T σ H G W ∧ Reps K G ds vs ∧ f ds ρ = some ρ' ∧ ∀ σ' H' G' W', R K g ρ' T σ' H' G' W' → Same G G' → Offs is σ σ' → Q σ' H'
theorem _root_.L2.PG.wk {X : Cx} {e : Expr} {t t' : TG} (h : PG X e t) (w : ∀ v σ H Q, t' v σ H Q → t v σ H Q) : PG X e t' := ⟨fun pins s σ H v u Q I r q => h.run pins s σ H v u Q I r (w v σ H Q q)⟩
theorem _root_.L2.PGs.wk {X : Cx} {e : List Expr} {t t' : TGs} (h : PGs X e t) (w : ∀ v σ H Q, t' v σ H Q → t v σ H Q) : PGs X e t' := ⟨fun pins s σ H v u Q I r q => h.run pins s σ H v u Q I r (w v σ H Q q)⟩
def gN (i : Nat) : D → Rho → Option Rho := fun d ρ => if stb i ρ = true then some (ρ.set i (.ow (.fr d))) else none
theorem g_name {i : Nat} {x : Str} (hN : X.N.Nodup) (hi : X.N[i]? = some x) (hx : Loc X.env.scope x) (hf : X.fn x = true ∨ X.env.scope.names.lookup x = some .local := by first | exact .inl rfl | exact .inr rfl | assumption) : PG X (.Name x pos) (tG X.K [i] (gN i)) := (pg_name hN hi hx hf).wk fun v σ H Q ⟨g, ρ, T, G, W, d, ρ', hR, hr, hf, k⟩ => by
  unfold gN at hf
  split at hf
  · rename_i hs; cases hf
    exact k _ H G _ ((hR.addT hr).setS (stb_lt hs)) (Same.refl G) ⟨List.length_set .., fun j hj => List.getElem?_set_ne fun z => hj (by simp [z])⟩
  · cases hf
def gsN : List D → Rho → Option Rho := fun ds ρ => match ds with
  | [] => some ρ
  | _ => none
def gsC (f : D → Rho → Option Rho) (fs : List D → Rho → Option Rho) : List D → Rho → Option Rho := fun ds ρ => match ds with
  | d :: ds => (match f d ρ with
    | some ρ' => fs ds ρ'
    | none => none)
  | [] => none
theorem gs_nil : PGs X [] (tGs X.K [] gsN) := pgs_nil.wk fun v σ H Q ⟨g, ρ, T, G, W, ds, ρ', hR, hr, hf, k⟩ => by
  unfold gsN at hf
  split at hf
  · cases hf
    rw [Reps] at hr
    exact ⟨hr, k σ H G W hR (Same.refl G) ⟨rfl, fun _ _ => rfl⟩⟩
  · cases hf
theorem gs_cons {es : List Expr} {is js : List Nat} {f : D → Rho → Option Rho} {fs : List D → Rho → Option Rho} (h1 : PG X e (tG X.K is f)) (h2 : PGs X es (tGs X.K js fs))
    (hs : (assignEach (e :: es) X.env).map (·.2) = assign e X.env :: (assignEach es X.env).map (·.2) := by rfl) : PGs X (e :: es) (tGs X.K (is ++ js) (gsC f fs)) := (pgs_cons h1 h2 hs).wk fun v σ H Q ⟨g, ρ, T, G, W, ds, ρ', hR, hr, hf, k⟩ => by
  unfold gsC at hf
  split at hf
  · rename_i d ds
    split at hf
    · rename_i ρ1 e1
      rw [Reps] at hr
      obtain ⟨x, r, rfl, r1, r2⟩ := hr
      exact ⟨x, r, rfl, g, ρ, T, G, W, d, ρ1, hR, r1, e1, fun σ1 H1 G1 W1 R1 eg1 o1 => ⟨g, ρ1, T, G1, W1, ds, ρ', R1, r2.mono eg1, hf, fun σ2 H2 G2 W2 R2 eg2 o2 => k σ2 H2 G2 W2 R2 (eg1.trans eg2) ⟨o2.1.trans o1.1, fun j hj => (o2.2 j fun z => hj (List.mem_append_right _ z)).trans (o1.2 j fun z => hj (List.mem_append_left _ z))⟩⟩⟩
    · cases hf
  · cases hf
def gT (n : Nat) (fs : List D → Rho → Option Rho) : D → Rho → Option Rho := fun d ρ => match d with
  | .tup ds => if ds.length = n then fs ds ρ else none
  | _ => none
theorem g_tup {es : List Expr} {kk : Nat} {is : List Nat} {fs : List D → Rho → Option Rho} {n : Nat} (hc : X.calm = true) (h : PGs X es (tGs X.K is fs))
    (hn : (assignEach es X.env).length = n := by rfl) (hst : (assignEach es X.env).findIdx? (·.1) = none := by rfl) : PG X (.Tuple es kk pos) (tG X.K is (gT n fs)) := (pg_tup hc h hn hst).wk fun v σ H Q ⟨g, ρ, T, G, W, d, ρ', hR, hr, hf, k⟩ => by
  unfold gT at hf
  split at hf
  · rename_i ds
    split at hf
    · rename_i hl
      obtain ⟨a, xs, rfl, h1, h2⟩ := hr.tp
      exact ⟨a, xs, rfl, SqT_same hR.gh h1, by rw [← h2.len]; exact hl, g, ρ, T, G, W, ds, ρ', hR, h2, hf, k⟩
    · cases hf
  · cases hf
def asgS (f : Mo D) (t : D → Rho → Option Rho) : MS := fun ρ => match f ρ with
  | some (.ok d ρ') => (match t d ρ' with
    | some ρ2 => some (.nx ρ2)
    | none => none)
  | some (.ex c fs ρ') => some (.ex c fs ρ')
  | none => none
theorem s_asg {tg : Expr} {is : List Nat} {t : D → Rho → Option Rho} (he : PE X e (tV X.K X.mg Wx ga)) (hg : PG X tg (tG X.K is t)) (hs : swapsWithSole [tg] e pos.line X.env = pure false := by rfl) (hw : swappedStores [tg] e X.env = pure none := by rfl)
    (h1 : (assignEach [tg] X.env).map (·.2) = [assign tg X.env] := by rfl) : PS X (.Assign [tg] e pos) (tS X.K X.mg Wx (asgS ga t)) := (ps_asg he hg hs hw h1).wk fun D σ H ⟨g, ρ, T, G, W, hR, k⟩ => by
  refine ⟨g, ρ, T, G, W, hR, ?_⟩
  unfold asgS at k
  cases h1 : ga ρ with
  | none => rw [h1] at k; exact k.elim
  | some r =>
    rw [h1] at k
    cases r with
    | ex c fs ρ' => exact k
    | ok d ρ' =>
      intro v H' G' W' R' eg r'
      dsimp only at k
      cases h2 : t d ρ' with
      | none => rw [h2] at k; exact k.elim
      | some ρ2 =>
        rw [h2] at k
        exact ⟨g, ρ', T, G', W', d, ρ2, R', r', h2, fun σ2 H2 G2 W2 R2 eg2 _ => k σ2 H2 G2 W2 R2 (eg.trans eg2)⟩
/-- a, b = x, y -/
def par2 (i j : Nat) (f : Mo (List O)) : MS := fun ρ => match f ρ with
  | some (.ok [o1, o2] ρ') => if stb i ρ' = true ∧ stb j ρ' = true then some (.nx ((ρ'.set i (.ow o1)).set j (.ow o2))) else none
  | some (.ex c fs ρ') => some (.ex c fs ρ')
  | _ => none
theorem R.setS2 {K : PySem.W.Frag} {g : Gs} {ρ : Rho} {T : List (O × V)} {σ : L2.St} {H G : Hp} {W : Own} {o1 o2 : O} {v1 v2 : V} {i j : Nat} (h : R K g ρ (T ++ [(o1, v1), (o2, v2)]) σ H G W) (hi : i < ρ.length) (hj : j < ρ.length) (hij : i ≠ j) :
    ∃ W', R K g ((ρ.set i (.ow o1)).set j (.ow o2)) T ((σ.set i (some v1)).set j (some v2)) H G W' := by
  have h1 : R K g ρ ((T ++ [(o1, v1)]) ++ [(o2, v2)]) σ H G W := by simpa using h
  have h2 := h1.setS hj
  have h3 := h2.setS (by rw [List.length_set]; exact hi)
  rw [List.set_comm _ _ hij, List.set_comm _ _ hij]
  exact ⟨_, h3⟩
theorem s_par2 {i j : Nat} {x y : Str} {f : Mo (List O)} {px py pt : Pos} {kt k2 pt2} (hc : X.calm = true) (hN : X.N.Nodup) (hi : X.N[i]? = some x) (hj : X.N[j]? = some y) (hij : i ≠ j)
    (hx : X.env.scope.names.lookup x = some .local) (hy : X.env.scope.names.lookup y = some .local) (ha : PA X [a, b] (tA X.K X.mg Wx f))
    (hw : swappedStores [.Tuple [.Name x px, .Name y py] kt pt] (.Tuple [a, b] k2 pt2) X.env = pure (some [x, y]))
    (hs : swapsWithSole [.Tuple [.Name x px, .Name y py] kt pt] (.Tuple [a, b] k2 pt2) pos.line X.env = pure false := by rfl) :
    PS X (.Assign [.Tuple [.Name x px, .Name y py] kt pt] (.Tuple [a, b] k2 pt2) pos) (tS X.K X.mg Wx (par2 i j f)) := (ps_par hc hN hi hj hij hx hy ha hw hs).wk fun D σ H ⟨g, ρ, T, G, W, hR, k⟩ => by
  refine ⟨g, ρ, T, G, W, hR, ?_⟩
  unfold par2 at k
  split at k
  · rename_i o1 o2 ρ' h1
    rw [h1]
    intro vs H' G' W' hl R' eg
    obtain ⟨v1, v2, rfl⟩ : ∃ v1 v2, vs = [v1, v2] := by
      match vs, hl with
      | [v1, v2], _ => exact ⟨v1, v2, rfl⟩
    split at k
    · rename_i hs
      obtain ⟨W2, R2⟩ := R'.setS2 (stb_lt hs.1) (stb_lt hs.2) hij
      exact ⟨v1, v2, rfl, k _ H' G' W2 R2 eg⟩
    · exact k.elim
  · rename_i h1; rw [h1]; exact k
  · exact k.elim
/-! ### while -/
def whS : Nat → Mo Bool → MS → MS
  | 0, _, _ => fun _ => none
  | n + 1, c, b => fun ρ => match c ρ with
    | some (.ok false ρ1) => some (.nx ρ1)
    | some (.ok true ρ1) => (match b ρ1 with
      | some (.nx ρ2) => whS n c b ρ2
      | some (.ct ρ2) => whS n c b ρ2
      | some (.bk ρ2) => some (.nx ρ2)
      | r => r)
    | some (.ex cl fs ρ1) => some (.ex cl fs ρ1)
    | none => none
/-- a while with a bound for its turns, by the state ahead -/
def whF (N : Rho → Nat) (c : Mo Bool) (b : MS) : MS := fun ρ => whS (N ρ) c b ρ
theorem s_while {c : Expr} {body : List Stmt} {mb : MS} (N : Rho → Nat) (hp : PassesOwn (model X.prog X.w) X.A X.env X.xe) (hc : PT X c (tY X.K X.mg Wx ya)) (hb : PSs X body (tS X.K X.mg Wx mb)) : PS X (.While c body [] pos) (tS X.K X.mg Wx (whF N ya mb)) := (ps_while hp hc hb).wk fun D σ H ⟨g, ρ, T, G, W, hR, k⟩ => by
  refine ⟨fun m σ' H' => ∃ ρ' G' W', R X.K g ρ' T σ' H' G' W' ∧ Same G G' ∧ GS X.K X.mg Wx D g T G' (whS m ya mb ρ'), ⟨N ρ, ρ, G, W, hR, Same.refl G, k⟩, fun m σ1 H1 ⟨ρ1, G1, W1, R1, eg1, k1⟩ => ?_⟩
  refine ⟨g, ρ1, T, G1, W1, R1, ?_⟩
  cases m with
  | zero => exact k1.elim
  | succ m =>
    unfold whS at k1
    cases h1 : ya ρ1 with
    | none => rw [h1] at k1; exact k1.elim
    | some r =>
      rw [h1] at k1
      cases r with
      | ex c fs ρ' => exact k1
      | ok bb ρ2 =>
        intro H2 G2 W2 R2 eg2
        cases bb with
        | false => exact iteF (k1 σ1 H2 G2 W2 R2 eg2)
        | true =>
          refine iteT ⟨fun σ' H' => ∃ ρ' G' W', R X.K g ρ' T σ' H' G' W' ∧ Same G G' ∧ GS X.K X.mg Wx D g T G' (whS m ya mb ρ'), fun σ' H' hn => ⟨m, Nat.lt_succ_self m, hn⟩, g, ρ2, T, G2, W2, R2, ?_⟩
          dsimp only at k1
          have eg := eg1.trans eg2
          cases h2 : mb ρ2 with
          | none => rw [h2] at k1; exact k1.elim
          | some r =>
            rw [h2] at k1
            cases r with
            | nx ρ3 => exact fun σ3 H3 G3 W3 R3 eg3 => ⟨ρ3, G3, W3, R3, eg.trans eg3, GS.mono (eg2.trans eg3) k1⟩
            | ct ρ3 => exact fun σ3 H3 G3 W3 R3 eg3 => ⟨ρ3, G3, W3, R3, eg.trans eg3, GS.mono (eg2.trans eg3) k1⟩
            | bk ρ3 => exact fun σ3 H3 G3 W3 R3 eg3 => k1 σ3 H3 G3 W3 R3 (eg2.trans eg3)
            | rt o ρ3 => exact fun v σ3 H3 G3 W3 R3 eg3 => k1 v σ3 H3 G3 W3 R3 (eg2.trans eg3)
            | ex c fs ρ3 => exact WE'.mono eg2 k1
/-! ### for -/
/-- an iterator that yields these frozen things -/
structure Wk (K : PySem.W.Frag) (J : It) (G : Hp) (ds : List D) : Prop where
  len : ds.length ≤ sizeLine
  go : ∀ i H, Same G H → i < ds.length → J.go i H
  stop : ∀ i H, Same G H → ds.length ≤ i → J.stop i H
  yld : ∀ i H x H' d, Same G H → ds[i]? = some d → J.yld i H x H' → ∀ G0, Same G G0 → Same G0 H → ∃ G0', Grow H G0 H' G0' ∧ Rep K G0' d x
def tI (K : PySem.W.Frag) (mg : MG) (Wx : WX) (f : Mo (List D)) : TI := fun σ H Q => ∃ g ρ T G W, R K g ρ T σ H G W ∧ GE K mg Wx g T G (fun ds ρ' => ∀ J H' G' W', R K g ρ' T σ H' G' W' → Same G G' → Wk K J G' ds → Q J H') (f ρ)
theorem _root_.L2.PI.wk {X : Cx} {tg e : Expr} {t t' : TI} (h : PI X tg e t) (w : ∀ σ H Q, t' σ H Q → t σ H Q) : PI X tg e t' := ⟨fun pins s σ H Q I q => h.run pins s σ H Q I (w σ H Q q)⟩
def forL (t : D → Rho → Option Rho) (b : MS) : List D → MS
  | [] => fun ρ => some (.nx ρ)
  | d :: ds => fun ρ => match t d ρ with
    | none => none
    | some ρ1 => (match b ρ1 with
      | some (.nx ρ2) => forL t b ds ρ2
      | some (.ct ρ2) => forL t b ds ρ2
      | some (.bk ρ2) => some (.nx ρ2)
      | r => r)
def forS (f : Mo (List D)) (t : D → Rho → Option Rho) (b : MS) : MS := fun ρ => match f ρ with
  | some (.ok ds ρ') => forL t b ds ρ'
  | some (.ex c fs ρ') => some (.ex c fs ρ')
  | none => none
theorem s_for {tg iter : Expr} {body : List Stmt} {mi : Mo (List D)} {is : List Nat} {t : D → Rho → Option Rho} {mb : MS} (hp : PassesOwn (model X.prog X.w) X.A X.env X.xe) (hc : X.calm = true) (hi : PI X tg iter (tI X.K X.mg Wx mi)) (hg : PG X tg (tG X.K is t)) (hb : PSs X body (tS X.K X.mg Wx mb))
    (hs : ∀ x, foldedSetIterable iter X.env x = pure x := by intro _; rfl) : PS X (.For tg iter body [] pos) (tS X.K X.mg Wx (forS mi t mb)) := (ps_for hp hc hi hg hb hs).wk fun D σ H ⟨g, ρ, T, G, W, hR, k⟩ => by
  refine ⟨g, ρ, T, G, W, hR, ?_⟩
  unfold forS at k
  cases h1 : mi ρ with
  | none => rw [h1] at k; exact k.elim
  | some r =>
    rw [h1] at k
    cases r with
    | ex c fs ρ' => exact k
    | ok ds ρ' =>
      intro J H1 G1 W1 R1 eg1 wk
      refine ⟨fun i m σ' H' => m = ds.length - i ∧ i ≤ ds.length ∧ ∃ ρ2 G2 W2, R X.K g ρ2 T σ' H' G2 W2 ∧ Same G1 G2 ∧ GS X.K X.mg Wx D g T G2 (forL t mb (ds.drop i) ρ2), ⟨ds.length, by simp, Nat.zero_le _, ρ', G1, W1, R1, Same.refl _, by rw [List.drop_zero]; exact GS.mono eg1 k⟩, fun i m σ2 H2 hW => ?_⟩
      obtain ⟨rfl, hi, ρ2, G2, W2, R2, eg2, k2⟩ := hW
      have hH : Same G1 H2 := eg2.trans R2.gh
      by_cases hlt : i < ds.length
      · refine .inr ⟨wk.go i H2 hH hlt, fun σ' H' => ∃ ρ3 G3 W3, R X.K g ρ3 T σ' H' G3 W3 ∧ Same G1 G3 ∧ GS X.K X.mg Wx D g T G3 (forL t mb (ds.drop (i + 1)) ρ3), fun σ' H' hn => ⟨ds.length - (i + 1), by omega, rfl, by omega, hn⟩, fun x H' hy => ?_⟩
        have hd : ds[i]? = some ds[i] := List.getElem?_eq_getElem hlt
        rw [List.drop_eq_getElem_cons hlt] at k2
        unfold forL at k2
        obtain ⟨G3, gr, rx⟩ := wk.yld i H2 x H' _ hH hd hy G2 eg2 R2.gh
        obtain ⟨R3, _, eg3⟩ := R2.grow gr
        cases h3 : t ds[i] ρ2 with
        | none => rw [h3] at k2; exact k2.elim
        | some ρ3 =>
          rw [h3] at k2
          refine ⟨g, ρ2, T, G3, W2, ds[i], ρ3, R3, rx, h3, fun σ4 H4 G4 W4 R4 eg4 _ => ⟨g, ρ3, T, G4, W4, R4, ?_⟩⟩
          dsimp only at k2
          have e24 := eg3.trans eg4
          cases h4 : mb ρ3 with
          | none => rw [h4] at k2; exact k2.elim
          | some r =>
            rw [h4] at k2
            cases r with
            | nx ρ5 => exact fun σ5 H5 G5 W5 R5 eg5 => ⟨ρ5, G5, W5, R5, eg2.trans (e24.trans eg5), GS.mono (e24.trans eg5) k2⟩
            | ct ρ5 => exact fun σ5 H5 G5 W5 R5 eg5 => ⟨ρ5, G5, W5, R5, eg2.trans (e24.trans eg5), GS.mono (e24.trans eg5) k2⟩
            | bk ρ5 => exact fun σ5 H5 G5 W5 R5 eg5 => k2 σ5 H5 G5 W5 R5 (e24.trans eg5)
            | rt o ρ5 => exact fun v σ5 H5 G5 W5 R5 eg5 => k2 v σ5 H5 G5 W5 R5 (e24.trans eg5)
            | ex c fs ρ5 => exact WE'.mono e24 k2
      · refine .inl ⟨wk.stop i H2 hH (by omega), ?_⟩
        rw [List.drop_eq_nil_of_le (by omega)] at k2
        exact k2 σ2 H2 G2 W2 R2 (Same.refl _)
/-! ### what is walked -/
theorem wk_tup {K : PySem.W.Frag} {G : Hp} {a : Addr} {ds : List D} {xs : List V} (h : SqT K G a xs) (r : Reps K G ds xs) (hz : ds.length ≤ sizeLine) : Wk K (Itt K a) G ds where
  len := hz
  go := fun i H e hi => by
    obtain ⟨x, hx, _⟩ := r.get (List.getElem?_eq_getElem hi)
    exact ⟨xs, x, SqT_same e h, hx⟩
  stop := fun i H e hi => ⟨xs, SqT_same e h, by rw [← r.len]; exact hi⟩
  yld := fun i H x H' d e hd hy G0 eg eh => by
    obtain ⟨rfl, hy⟩ := hy
    obtain ⟨y, hy2, ry⟩ := r.get hd
    have := hy xs (SqT_same e h)
    rw [hy2] at this; cases this
    exact ⟨G0, .st, ry.mono eg⟩
theorem wk_range {K : PySem.W.Frag} {G : Hp} {lo : Int} {n : Nat} (hz : n ≤ sizeLine) : Wk K (Itr lo n) G ((List.range n).map fun i => .int (lo + (i : Nat))) where
  len := by simpa using hz
  go := fun i H e hi => by
    have : i < n := by simpa using hi
    exact this
  stop := fun i H e hi => by
    have : n ≤ i := by simpa using hi
    exact this
  yld := fun i H x H' d e hd hy G0 eg eh => by
    obtain ⟨rfl, rfl⟩ := hy
    rw [List.getElem?_map] at hd
    by_cases hi : i < n
    · rw [List.getElem?_range hi] at hd
      cases hd
      exact ⟨G0, .st, Rep.i.mpr rfl⟩
    · rw [List.getElem?_eq_none (by simpa using hi)] at hd; cases hd
/-- a list or a tuple walked, its kind known -/
def itL (f : Mo D) : Mo (List D) := fun ρ => match f ρ with
  | some (.ok d ρ') => (match d.lsq with
    | some ds => some (.ok ds ρ')
    | none => none)
  | some (.ex c fs ρ') => some (.ex c fs ρ')
  | none => none
def itT (f : Mo D) : Mo (List D) := fun ρ => match f ρ with
  | some (.ok (.tup ds) ρ') => some (.ok ds ρ')
  | some (.ex c fs ρ') => some (.ex c fs ρ')
  | _ => none
theorem i_list {tg : Expr} (h : PE X e (tV X.K X.mg Wx ga)) : PI X tg e (tI X.K X.mg Wx (itL ga)) := (pi_list h).wk fun σ H Q ⟨g, ρ, T, G, W, hR, k⟩ => by
  refine ⟨g, ρ, T, G, W, hR, ?_⟩
  unfold itL at k
  cases h1 : ga ρ with
  | none => rw [h1] at k; exact k.elim
  | some r =>
    rw [h1] at k
    cases r with
    | ex c fs ρ' => exact k
    | ok d ρ' =>
      intro v H' G' W' R' eg r
      dsimp only at k
      cases h2 : d.lsq with
      | none => rw [h2] at k; exact k.elim
      | some ds =>
        rw [h2] at k
        obtain ⟨a, xs, rfl, hs, hr⟩ := r.lsq h2
        refine ⟨a, rfl, ⟨xs, R'.gh.seq hs⟩, k _ H' G' W' R' eg ?_⟩
        exact {
          len := r.sql (D.sq_of_lsq h2)
          go := fun i H e hi => by
            obtain ⟨x, hx, _⟩ := hr.get (List.getElem?_eq_getElem hi)
            exact ⟨xs, x, e.seq hs, hx⟩
          stop := fun i H e hi => ⟨xs, e.seq hs, by rw [← hr.len]; exact hi⟩
          yld := fun i H x H' d e hd hy G0 eg eh => by
            obtain ⟨rfl, hy⟩ := hy
            obtain ⟨y, hy2, ry⟩ := hr.get hd
            have := hy xs (e.seq hs)
            rw [hy2] at this; cases this
            exact ⟨G0, .st, ry.mono eg⟩ }
theorem i_tup {tg : Expr} (h : PE X e (tV X.K X.mg Wx ga)) : PI X tg e (tI X.K X.mg Wx (itT ga)) := (pi_tup h).wk fun σ H Q ⟨g, ρ, T, G, W, hR, k⟩ => by
  refine ⟨g, ρ, T, G, W, hR, ?_⟩
  unfold itT at k
  cases h1 : ga ρ with
  | none => rw [h1] at k; exact k.elim
  | some r =>
    rw [h1] at k
    cases r with
    | ex c fs ρ' => exact k
    | ok d ρ' =>
      intro v H' G' W' R' eg r
      cases d with
      | tup ds =>
        obtain ⟨a, xs, rfl, hs, hr⟩ := r.tp
        exact ⟨a, rfl, ⟨xs, SqT_same R'.gh hs⟩, k _ H' G' W' R' eg (wk_tup hs hr (r.sql rfl))⟩
      | _ => exact k.elim
def rngD (lo : Int) (n : Nat) : List D := (List.range n).map fun i => .int (lo + (i : Nat))
def itR1 (f : Mo D) : Mo (List D) := fun ρ => match f ρ with
  | some (.ok (.int j) ρ') => if -(2 ^ 62) ≤ j ∧ j ≤ 16777216 then some (.ok (rngD 0 j.toNat) ρ') else none
  | some (.ex c fs ρ') => some (.ex c fs ρ')
  | _ => none
theorem i_range1 {tg : Expr} {p : Pos} (hg : Gl X "range") (hm : X.mg "range" = none) (ha : PE X a (tV X.K X.mg Wx ga)) (hs : starEach [a] X.env = [(false, eval a X.env)] := by rfl) : PI X tg (.Call (.Name "range" p) [a] [] pos) (tI X.K X.mg Wx (itR1 ga)) := (pi_range1 hg hm (pa_cons ha pa_nil (by rw [hs]; rfl)) hs).wk fun σ H Q ⟨g, ρ, T, G, W, hR, k⟩ => by
  refine ⟨g, ρ, T, G, W, hR, ?_⟩
  unfold itR1 at k
  cases h1 : ga ρ with
  | none => rw [h1] at k; exact k.elim
  | some r =>
    rw [h1] at k
    cases r with
    | ex c fs ρ' => exact k
    | ok d ρ' =>
      intro v H' G' W' R' eg r
      cases d with
      | int j =>
        dsimp only at k
        by_cases hb : -(2 ^ 62) ≤ j ∧ j ≤ 16777216
        · rw [if_pos hb] at k
          exact ⟨j, by rw [Rep.i.mp r], hb.1, by omega, k _ H' G' W' R' eg (wk_range (by rw [sizeLine_eq]; omega))⟩
        · rw [if_neg hb] at k; exact k.elim
      | _ => exact k.elim
def itR2 (f : Mo (List D)) : Mo (List D) := fun ρ => match f ρ with
  | some (.ok [.int i, .int j] ρ') => if 0 ≤ i ∧ i < 2 ^ 62 ∧ -(2 ^ 62) ≤ j ∧ j ≤ 16777216 then some (.ok (rngD i (j - i).toNat) ρ') else none
  | some (.ex c fs ρ') => some (.ex c fs ρ')
  | _ => none
theorem i_range2 {tg : Expr} {p : Pos} {f : Mo (List D)} (hg : Gl X "range") (hm : X.mg "range" = none) (ha : PA X [a, b] (tLV X.K X.mg Wx f)) (hs : starEach [a, b] X.env = [(false, eval a X.env), (false, eval b X.env)] := by rfl) (hs2 : starEach [b] X.env = [(false, eval b X.env)] := by rfl) :
    PI X tg (.Call (.Name "range" p) [a, b] [] pos) (tI X.K X.mg Wx (itR2 f)) := (pi_range2 hg hm ha hs hs2).wk fun σ H Q ⟨g, ρ, T, G, W, hR, k⟩ => by
  refine ⟨g, ρ, T, G, W, hR, ?_⟩
  unfold itR2 at k
  split at k
  · rename_i i j ρ' h1
    rw [h1]
    intro vs H' G' W' R' eg r
    split at k
    · rename_i hb
      refine ⟨i, j, ?_, ⟨by omega, by omega, by omega, by omega⟩, k _ H' G' W' R' eg (wk_range (by rw [sizeLine_eq]; omega))⟩
      rw [Reps] at r
      obtain ⟨x, r1, rfl, rx, r⟩ := r
      rw [Reps] at r
      obtain ⟨y, r2, rfl, ry, r⟩ := r
      rw [Reps] at r
      rw [r, Rep.i.mp rx, Rep.i.mp ry]
    · exact k.elim
  · rename_i h1; rw [h1]; exact k
  · exact k.elim
end
end Tr
namespace Tr
open PySem PySem.Spec PyProof.Rows L2
/-! ### slices -/
def cutA {α : Type} (xs : List α) (lo hi : Option Int) : List α := (xs.drop (HT.sIx xs.length 0 lo)).take (HT.sIx xs.length xs.length hi - HT.sIx xs.length 0 lo)
theorem cutA_le {α : Type} (xs : List α) (lo hi : Option Int) : (cutA xs lo hi).length ≤ xs.length := by
  unfold cutA
  rw [List.length_take, List.length_drop]
  omega
theorem Reps.cut {K : PySem.W.Frag} {G : Hp} {ds : List D} {xs : List V} (lo hi : Option Int) (h : Reps K G ds xs) : Reps K G (cutA ds lo hi) (cutV xs lo hi) := by
  unfold cutA cutV
  rw [h.len]
  exact (h.drop _).take _
def tPO (K : PySem.W.Frag) (f : Pu (Option Int)) : TO := fun σ H Q => ∃ g ρ T G W d, R K g ρ T σ H G W ∧ f ρ = some d ∧ ∀ H' G', R K g ρ T σ H' G' W → Same G G' → Same H H' → Q d H'
theorem _root_.L2.PO.wk {X : Cx} {e : Option Expr} {t t' : TO} (h : PO X e t) (w : ∀ σ H Q, t' σ H Q → t σ H Q) : PO X e t' := ⟨fun pins s σ H Q I q => h.run pins s σ H Q I (w σ H Q q)⟩
section
variable {X : Cx} {e a b c : Expr} {es : List Expr} {lo hi : Option Expr} {Wx : WX} {pos p2 : Pos} {f fa fb fc : Pu D} {ga gb gc : Mo D} {fl fh : Pu (Option Int)}
def poN : Pu (Option Int) := fun _ => some none
def poS (f : Pu D) : Pu (Option Int) := fun ρ => match f ρ with
  | some (.int i) => some (some i)
  | _ => none
theorem o_none : PO X none (tPO X.K poN) := po_none.wk fun σ H Q ⟨g, ρ, T, G, W, d, hR, hf, k⟩ => by
  cases hf
  exact k H G hR (Same.refl _) (Same.refl _)
theorem o_some (h : PE X e (tP X.K f)) : PO X (some e) (tPO X.K (poS f)) := (po_some h).wk fun σ H Q ⟨g, ρ, T, G, W, d, hR, hf, k⟩ => by
  unfold poS at hf
  split at hf
  · rename_i i e1; cases hf
    exact ⟨g, ρ, T, G, W, _, hR, e1, fun v H' G' R' eg eh r => ⟨i, Rep.i.mp r, k H' G' R' eg eh⟩⟩
  · cases hf
/-- x[lo:hi] -/
def slD (d : D) (lo hi : Option Int) : Option D := match d with
  | .tup ds => some (.tup (cutA ds lo hi))
  | .lst ds => some (.lst (cutA ds lo hi))
  | .scr ns => some (.lst (cutA (ns.map .int) lo hi))
  | _ => none
def slP (f : Pu D) (fl fh : Pu (Option Int)) : Pu D := fun ρ => match f ρ, fl ρ, fh ρ with
  | some d, some l, some h => slD d l h
  | _, _, _ => none
abbrev rSlB (K : PySem.W.Frag) : V → Option Int → Option Int → Hp → VK → Prop := fun x lo hi H Q => rSlT2 K x lo hi H Q ∨ rSlL K x lo hi H Q
theorem sl_both : SlR X (rSlB X.K) := sl_tupB.or sl_list
theorem cut_all {α : Type} {xs : List α} {lo hi : Option Int} (h1 : HT.sIx xs.length 0 lo = 0) (h2 : HT.sIx xs.length xs.length hi = xs.length) : cutA xs lo hi = xs := by
  unfold cutA
  rw [h1, h2]
  simp
theorem slD_ok {K : PySem.W.Frag} {d z : D} {v : V} {lo hi : Option Int} {H G : Hp} {Q : VK} (hz : slD d lo hi = some z) (e : Same G H) (r : CRep K G H d v) (k : ∀ v H' G', Grow H G H' G' → Rep K G' z v → Q v H') : rSlB K v lo hi H Q := by
  have hl : ∀ {ds : List D}, d.lsq = some ds → z = .lst (cutA ds lo hi) → rSlB K v lo hi H Q := fun {ds} hd ez => by
    obtain ⟨a, xs, rfl, hs, hr⟩ := r.lsq e hd
    have hn := r.sql (D.sq_of_lsq hd)
    subst ez
    exact .inr ⟨a, xs, rfl, hs, fun p hp => k _ _ _ (.nw p _ hp) (Rep.newL (hr.cut lo hi) (e.free hp) (Nat.le_trans (cutA_le _ _ _) hn))⟩
  cases d with
  | lst ds => cases hz; exact hl rfl rfl
  | scr ns => cases hz; exact hl rfl rfl
  | tup ds =>
    cases hz
    rcases r with r | ⟨ds', a, xs, e0, _⟩ | ⟨ds', a, xs, e0, _⟩
    · have hn := r.sql (ds := ds) rfl
      have r0 := r
      obtain ⟨a, xs, rfl, hs, hr⟩ := r.tp
      have hlen := hr.len
      refine .inl ⟨a, xs, rfl, SqT_same e hs, fun ⟨h1, h2⟩ => ?_, fun _ p o hp ho => k _ _ _ (.nw p _ hp) (Rep.newT ho (hr.cut lo hi) (e.free hp) (Nat.le_trans (cutA_le _ _ _) hn))⟩
      rw [← hlen] at h1 h2
      rw [cut_all h1 h2] at k
      exact k _ H G .st r0
    · cases e0
    · cases e0
  | _ => cases hz
theorem p_slice (he : PE X e (tC X.K f)) (hl : PO X lo (tPO X.K fl)) (hu : PO X hi (tPO X.K fh)) : PE X (.Subscript e (.Slice lo hi none p2) pos) (tP X.K (slP f fl fh)) := (pe_slice sl_both he hl hu).wk fun σ H Q ⟨g, ρ, T, G, W, d, hR, hf, k⟩ => by
  unfold slP at hf
  split at hf
  · rename_i d0 l h e1 e2 e3
    refine ⟨g, ρ, T, G, W, d0, hR, e1, fun v H1 G1 R1 eg1 eh1 r1 => ⟨g, ρ, T, G1, W, l, R1, e2, fun H2 G2 R2 eg2 eh2 => ⟨g, ρ, T, G2, W, h, R2, e3, fun H3 G3 R3 eg3 eh3 => ?_⟩⟩⟩
    refine slD_ok hf R3.gh (r1.mono (eg2.trans eg3) (eh2.trans eh3)) fun v' H' G' w rv => ?_
    obtain ⟨R4, x, y⟩ := R3.grow w
    exact k v' H' G' R4 ((eg1.trans (eg2.trans eg3)).trans y) ((eh1.trans (eh2.trans eh3)).trans x) rv
  · cases hf
/-- .. a list's, owned -/
def slX (f : Pu D) (fl fh : Pu (Option Int)) : Mo O := fun ρ => match f ρ, fl ρ, fh ρ with
  | some d, some l, some h => (match d.lsq with
    | some ds => some (.ok (.fl (cutA ds l h)) ρ)
    | none => none)
  | _, _, _ => none
theorem x_slice (he : PE X e (tC X.K f)) (hl : PO X lo (tPO X.K fl)) (hu : PO X hi (tPO X.K fh)) : PE X (.Subscript e (.Slice lo hi none p2) pos) (tX X.K X.mg Wx (slX f fl fh)) := (pe_slice sl_list he hl hu).wk fun σ H Q ⟨g, ρ, T, G, W, hR, k⟩ => by
  unfold slX at k
  split at k
  · rename_i d0 l h e1 e2 e3
    refine ⟨g, ρ, T, G, W, d0, hR, e1, fun v H1 G1 R1 eg1 eh1 r1 => ⟨g, ρ, T, G1, W, l, R1, e2, fun H2 G2 R2 eg2 eh2 => ⟨g, ρ, T, G2, W, h, R2, e3, fun H3 G3 R3 eg3 eh3 => ?_⟩⟩⟩
    have r3 := r1.mono (eg2.trans eg3) (eh2.trans eh3)
    cases hd : d0.lsq with
    | none => rw [hd] at k; exact k.elim
    | some ds =>
      rw [hd] at k
      obtain ⟨a, xs, rfl, hs, hr⟩ := r3.lsq R3.gh hd
      have hn := r3.sql (D.sq_of_lsq hd)
      exact ⟨a, xs, rfl, hs, fun p hp => k _ _ _ _ (R3.newF hp (hr.cut l h) (Nat.le_trans (cutA_le _ _ _) hn)) (eg1.trans (eg2.trans eg3))⟩
  · exact k.elim
/-- xs[::-1], owned -/
def revX (f : Pu D) : Mo O := fun ρ => match f ρ with
  | some d => (match d.lsq with
    | some ds => some (.ok (.fl ds.reverse) ρ)
    | none => none)
  | none => none
theorem tRev_p {K : PySem.W.Frag} {mg : MG} : ∀ σ H Q, tX K mg Wx (revX f) σ H Q → tRevL K (tC K f) σ H Q := fun σ H Q ⟨g, ρ, T, G, W, hR, k⟩ => by
  unfold revX at k
  split at k
  · rename_i d0 e1
    refine ⟨g, ρ, T, G, W, d0, hR, e1, fun v H1 G1 R1 eg1 eh1 r1 => ?_⟩
    cases hd : d0.lsq with
    | none => rw [hd] at k; exact k.elim
    | some ds =>
      rw [hd] at k
      obtain ⟨a, xs, rfl, hs, hr⟩ := r1.lsq R1.gh hd
      have hn := r1.sql (D.sq_of_lsq hd)
      exact ⟨a, xs, rfl, hs, fun p hp => k _ _ _ _ (R1.newF hp hr.rev (by rw [List.length_reverse]; exact hn)) eg1⟩
  · exact k.elim
theorem x_rev {k : Nat} {p1 p2 p3 : Pos} (he : PE X e (tC X.K f)) : PE X (.Subscript e (.Slice none none (some (.UnaryOp .USub (.Constant (.int 1) k p1) p2)) p3) pos) (tX X.K X.mg Wx (revX f)) := (pe_revL he).wk tRev_p
def revXv (f : Mo D) : Mo O := fun ρ => match f ρ with
  | some (.ok d ρ') => (match d.lsq with
    | some ds => some (.ok (.fl ds.reverse) ρ')
    | none => none)
  | some (.ex c fs ρ') => some (.ex c fs ρ')
  | none => none
theorem x_revv {k : Nat} {p1 p2 p3 : Pos} (he : PE X e (tV X.K X.mg Wx ga)) : PE X (.Subscript e (.Slice none none (some (.UnaryOp .USub (.Constant (.int 1) k p1) p2)) p3) pos) (tX X.K X.mg Wx (revXv ga)) := (pe_revL he).wk fun σ H Q ⟨g, ρ, T, G, W, hR, k⟩ => by
  refine ⟨g, ρ, T, G, W, hR, ?_⟩
  unfold revXv at k
  cases h1 : ga ρ with
  | none => rw [h1] at k; exact k.elim
  | some r =>
    rw [h1] at k
    cases r with
    | ex c fs ρ' => exact k
    | ok d ρ' =>
      intro v H1 G1 W1 R1 eg1 r1
      dsimp only at k
      cases hd : d.lsq with
      | none => rw [hd] at k; exact k.elim
      | some ds =>
        rw [hd] at k
        obtain ⟨a, xs, rfl, hs, hr⟩ := r1.lsq hd
        have hn := r1.sql (D.sq_of_lsq hd)
        exact ⟨a, xs, rfl, R1.gh.seq hs, fun p hp => k _ _ _ _ (R1.newF hp hr.rev (by rw [List.length_reverse]; exact hn)) eg1⟩
/-! ### built-ins -/
def lenD : D → Option D
  | .str z => if z.length ≤ sizeLine then some (.int z.length) else none
  | d => d.sq.map fun ds => .int ds.length
abbrev rLenA (K : PySem.W.Frag) : List V → Hp → VK → Prop := fun xs H Q => (fun xs H Q => ∃ z, xs = [V.str z] ∧ z.length ≤ sizeLine ∧ Q (.int z.length) H) xs H Q ∨ (fun xs H Q => ∃ p ys, xs = [V.ref p] ∧ (SqL K H p ys ∨ SqT K H p ys) ∧ Q (.int ys.length) H) xs H Q
theorem c_len : CallR X (.builtin "len") (rLenA X.K) := call_len_str.or call_len_seq
theorem lenD_ok {K : PySem.W.Frag} : C1 K (rLenA K) lenD := fun d z x H G Q hz e r k => by
  have hs : ∀ {ds : List D}, d.sq = some ds → z = .int ds.length → rLenA K [x] H Q := fun {ds} hd ez => by
    obtain ⟨a, xs, rfl, h1, h2⟩ := r.sq e hd
    subst ez
    exact .inr ⟨a, xs, rfl, h1, by rw [← h2.len]; exact k _ H G .st (Rep.i.mpr rfl)⟩
  cases d with
  | str z' =>
    replace hz : (if z'.length ≤ sizeLine then some (D.int z'.length) else none) = some z := hz
    split at hz
    · rename_i hl; cases hz
      rcases r with r | ⟨ds', a, xs, e0, _⟩ | ⟨ds', a, xs, e0, _⟩
      · exact .inl ⟨z', by rw [Rep.st.mp r], hl, k _ H G .st (Rep.i.mpr rfl)⟩
      · cases e0
      · cases e0
    · cases hz
  | tup ds => cases hz; exact hs rfl rfl
  | lst ds => cases hz; exact hs rfl rfl
  | scr ds => cases hz; exact hs rfl rfl
  | _ => cases hz
theorem CRep.int {K : PySem.W.Frag} {G H : Hp} {i : Int} {v : V} (h : CRep K G H (.int i) v) : v = .int i := by
  rcases h with r | ⟨ds', a, xs, e0, _⟩ | ⟨ds', a, xs, e0, _⟩
  · exact Rep.i.mp r
  · cases e0
  · cases e0
theorem CRep.bool {K : PySem.W.Frag} {G H : Hp} {i : Bool} {v : V} (h : CRep K G H (.bl i) v) : v = .bl i := by
  rcases h with r | ⟨ds', a, xs, e0, _⟩ | ⟨ds', a, xs, e0, _⟩
  · exact Rep.b.mp r
  · cases e0
  · cases e0
def absD : D → Option D
  | .int i => some (.int i.natAbs)
  | _ => none
theorem absD_ok {K : PySem.W.Frag} : C1 K (fun xs H Q => ∃ i, xs = [.int i] ∧ Q (.int (if i < 0 then -i else i)) H) absD := fun d z x H G Q hz e r k => by
  cases d with
  | int i =>
    cases hz
    refine ⟨i, by rw [r.int], ?_⟩
    have : (if i < 0 then -i else i) = ((i.natAbs : Nat) : Int) := by split <;> omega
    rw [this]
    exact k _ H G .st (Rep.i.mpr rfl)
  | _ => cases hz
def intD : D → Option D
  | .int i => some (.int i)
  | .bl b => some (.int (if b then 1 else 0))
  | _ => none
theorem intD_ok {K : PySem.W.Frag} : C1 K (fun xs H Q => (∃ i, xs = [.int i] ∧ Q (.int i) H) ∨ ∃ k, xs = [.bl k] ∧ Q (.int (if k then 1 else 0)) H) intD := fun d z x H G Q hz e r k => by
  cases d with
  | int i => cases hz; exact .inl ⟨i, by rw [r.int], k _ H G .st (Rep.i.mpr rfl)⟩
  | bl b => cases hz; exact .inr ⟨b, by rw [r.bool], k _ H G .st (Rep.i.mpr rfl)⟩
  | _ => cases hz
def strD : D → Option D
  | .int i => if i.natAbs.log2 < 1920 then some (.str (toString i)) else none
  | _ => none
theorem strD_ok {K : PySem.W.Frag} : C1 K (fun xs H Q => ∃ i, xs = [.int i] ∧ i.natAbs.log2 < 1920 ∧ Q (.str (toString i)) H) strD := fun d z x H G Q hz e r k => by
  cases d with
  | int i =>
    replace hz : (if i.natAbs.log2 < 1920 then some (D.str (toString i)) else none) = some z := hz
    split at hz
    · rename_i h; cases hz
      exact ⟨i, by rw [r.int], h, k _ H G .st (Rep.st.mpr rfl)⟩
    · cases hz
  | _ => cases hz
def tupD (d : D) : Option D := d.sq.map .tup
theorem tupD_ok {K : PySem.W.Frag} : C1 K (rTupB K) tupD := fun d z x H G Q hz e r k => by
  unfold tupD at hz
  cases hd : d.sq with
  | none => rw [hd] at hz; cases hz
  | some ds =>
    rw [hd] at hz; cases hz
    have hn := r.sql hd
    have hl : d.lsq = some ds → rTupB K [x] H Q := fun h2 => by
      obtain ⟨a, xs, rfl, h1, h3⟩ := r.lsq e h2
      exact ⟨a, xs, rfl, .inl ⟨h1, fun l o hl ho => k _ _ _ (.nw l _ hl) (Rep.newT ho h3 (e.free hl) hn)⟩⟩
    cases d with
    | tup ds' =>
      cases hd
      rcases r with r | ⟨ds', a, xs, e0, _⟩ | ⟨ds', a, xs, e0, _⟩
      · have r0 := r
        obtain ⟨a, xs, rfl, h1, h2⟩ := r.tp
        exact ⟨a, xs, rfl, .inr ⟨SqT_same e h1, k _ H G .st r0⟩⟩
      · cases e0
      · cases e0
    | lst ds' => exact hl hd
    | scr ds' => exact hl hd
    | _ => cases hd
theorem listD_ok {K : PySem.W.Frag} : C1L K (fun xs H Q => ∃ p ys, xs = [.ref p] ∧ (SqL K H p ys ∨ SqT K H p ys) ∧ ∀ l, H l = none → Q (.ref l) (upd H l (.lst ys))) D.sq := fun d zs x H G Q hz e r k => by
  obtain ⟨a, xs, rfl, h1, h2⟩ := r.sq e hz
  exact ⟨a, xs, rfl, h1, fun l hl => k xs l hl h2 (r.sql hz)⟩
def bools : List D → Option (List Bool)
  | [] => some []
  | .bl b :: r => (bools r).map (b :: ·)
  | _ :: _ => none
theorem Reps.bools {K : PySem.W.Frag} {G : Hp} : ∀ {ds : List D} {xs : List V} {bs : List Bool}, Reps K G ds xs → bools ds = some bs → xs = bs.map V.bl
  | [], _, _, h, e => by cases e; rw [Reps] at h; exact h
  | .bl b :: r, _, _, h, e => by
    rw [Reps] at h
    obtain ⟨x, xr, rfl, h1, h2⟩ := h
    unfold Tr.bools at e
    cases e1 : Tr.bools r with
    | none => rw [e1] at e; cases e
    | some bs =>
      rw [e1] at e; cases e
      rw [Rep.b.mp h1, Reps.bools h2 e1]; rfl
  | .non :: _, _, _, _, e => by cases e
  | .int _ :: _, _, _, _, e => by cases e
  | .str _ :: _, _, _, _, e => by cases e
  | .ty _ :: _, _, _, _, e => by cases e
  | .tup _ :: _, _, _, _, e => by cases e
  | .lst _ :: _, _, _, _, e => by cases e
  | .scr _ :: _, _, _, _, e => by cases e
  | .dic _ :: _, _, _, _, e => by cases e
  | .ob _ _ :: _, _, _, _, e => by cases e
def allD (d : D) : Option D := match d with
  | .lst ds => (bools ds).map fun bs => .bl (bs.all id)
  | _ => none
def anyD (d : D) : Option D := match d with
  | .lst ds => (bools ds).map fun bs => .bl (bs.any id)
  | _ => none
theorem allD_ok {K : PySem.W.Frag} : C1 K (rAll K) allD := fun d z x H G Q hz e r k => by
  cases d with
  | lst ds =>
    replace hz : (bools ds).map (fun bs => D.bl (bs.all id)) = some z := hz
    cases hb : bools ds with
    | none => rw [hb] at hz; cases hz
    | some bs =>
      rw [hb] at hz; cases hz
      obtain ⟨a, xs, rfl, h1, h2⟩ := r.lsq e rfl
      have := h2.bools hb
      subst this
      exact ⟨a, bs, rfl, h1, k _ H G .st (Rep.b.mpr rfl)⟩
  | _ => cases hz
theorem anyD_ok {K : PySem.W.Frag} : C1 K (rAny K) anyD := fun d z x H G Q hz e r k => by
  cases d with
  | lst ds =>
    replace hz : (bools ds).map (fun bs => D.bl (bs.any id)) = some z := hz
    cases hb : bools ds with
    | none => rw [hb] at hz; cases hz
    | some bs =>
      rw [hb] at hz; cases hz
      obtain ⟨a, xs, rfl, h1, h2⟩ := r.lsq e rfl
      have := h2.bools hb
      subst this
      exact ⟨a, bs, rfl, h1, k _ H G .st (Rep.b.mpr rfl)⟩
  | _ => cases hz
def intsO : List D → Option (List Int)
  | [] => some []
  | .int b :: r => (intsO r).map (b :: ·)
  | _ :: _ => none
theorem ints_some : ∀ {ds : List D} {ns : List Int}, intsO ds = some ns → ds = ns.map .int
  | [], _, e => by cases e; rfl
  | .int b :: r, _, e => by
    unfold intsO at e
    cases e1 : intsO r with
    | none => rw [e1] at e; cases e
    | some bs => rw [e1] at e; cases e; rw [ints_some e1]; rfl
  | .non :: _, _, e => by cases e
  | .bl _ :: _, _, e => by cases e
  | .str _ :: _, _, e => by cases e
  | .ty _ :: _, _, e => by cases e
  | .tup _ :: _, _, e => by cases e
  | .lst _ :: _, _, e => by cases e
  | .scr _ :: _, _, e => by cases e
  | .dic _ :: _, _, e => by cases e
  | .ob _ _ :: _, _, e => by cases e
theorem ints_map : ∀ ns : List Int, intsO (ns.map .int) = some ns
  | [] => rfl
  | n :: ns => by rw [List.map_cons, intsO, ints_map ns]; rfl
theorem Reps.intsV {K : PySem.W.Frag} {G : Hp} {ds : List D} {xs : List V} {ns : List Int} (h : Reps K G ds xs) (e : intsO ds = some ns) : xs = ns.map V.int := by
  rw [ints_some e] at h
  exact Reps.ints.mp h
/-- the sorted arrangement of intsO -/
def sortI (ns : List Int) : List Int := ns.mergeSort (fun a b => decide (a ≤ b))
theorem sortI_perm (ns : List Int) : (sortI ns).Perm ns := List.mergeSort_perm ..
theorem sortI_pw (ns : List Int) : (sortI ns).Pairwise (· ≤ ·) := by
  have := List.pairwise_mergeSort (le := fun a b : Int => decide (a ≤ b)) (fun a b c h1 h2 => by simp at *; omega) (fun a b => by simp; omega) ns
  exact this.imp fun h => by simpa using h
theorem sorted_uniq : ∀ {xs ys : List Int}, xs.Perm ys → xs.Pairwise (· ≤ ·) → ys.Pairwise (· ≤ ·) → xs = ys := fun {xs ys} p h1 h2 => by
  exact p.eq_of_pairwise (fun a b _ _ h1 h2 => Int.le_antisymm h1 h2) h1 h2
def sortedD (d : D) : Option (List D) := match d.lsq with
  | some ds => (intsO ds).map fun ns => (sortI ns).map .int
  | none => none
theorem sortedD_ok {K : PySem.W.Frag} : C1L K (rSortedI K) sortedD := fun d zs x H G Q hz e r k => by
  unfold sortedD at hz
  cases hd : d.lsq with
  | none => rw [hd] at hz; cases hz
  | some ds =>
    rw [hd] at hz
    replace hz : (intsO ds).map (fun ns => (sortI ns).map D.int) = some zs := hz
    cases hi : intsO ds with
    | none => rw [hi] at hz; cases hz
    | some ns =>
      rw [hi] at hz; cases hz
      obtain ⟨a, xs, rfl, h1, h2⟩ := r.lsq e hd
      have hn := r.sql (D.sq_of_lsq hd)
      have e2 := h2.intsV hi
      have e3 := ints_some hi
      subst e2 e3
      refine ⟨a, ns, rfl, h1, fun ns' p hp hs hf => ?_⟩
      have := sorted_uniq (hp.trans (sortI_perm ns).symm) hs (sortI_pw ns)
      subst this
      refine k _ p hf (Reps.ints.mpr rfl) ?_
      rw [List.length_map, (sortI_perm ns).length_eq]
      rw [List.length_map] at hn
      exact hn
def sumD (d : D) : Option D := match d.lsq with
  | some ds => (intsO ds).map fun ns => .int ns.sum
  | none => none
/-- isinstance(x, T), T a built-in class -/
def tyD : D → Option String
  | .non => some "NoneType"
  | .bl _ => some "bool"
  | .int _ => some "int"
  | .str _ => some "str"
  | .tup _ => some "tuple"
  | .lst _ => some "list"
  | .scr _ => some "list"
  | .dic _ => some "dict"
  | _ => none
def isiD (T : String) (d : D) : Option D := match tyD d with
  | some t => (kitB t T).map .bl
  | none => none
theorem Rep.tyx {K : PySem.W.Frag} {H : Hp} {d : D} {v : V} {t : String} (h : Rep K H d v) (e : tyD d = some t) : TyX K H v (.type t) := by
  have hl : ∀ {a : Addr} {xs : List V}, SqL K H a xs → TyX K H (.ref a) (.type "list") := fun {a xs} h => by
    rcases h with (h | ⟨o, h⟩) | ⟨o, its, n, hk, hc, _⟩
    · exact .base (.lst h)
    · exact .base (.frz h)
    · exact .kList hk hc
  cases d <;> cases e
  · rw [Rep.nn.mp h]; exact .base .non
  · rw [Rep.b.mp h]; exact .base (.bl _)
  · rw [Rep.i.mp h]; exact .base (.int _)
  · rw [Rep.st.mp h]; exact .base (.str _)
  · obtain ⟨a, xs, rfl, h1, _⟩ := h.tp
    rcases h1 with (h | ⟨o, h⟩) | ⟨o, its, n, hk, hc, _⟩
    · exact .base (.tup h)
    · exact .fTuple h
    · exact .kTuple hk hc
  · obtain ⟨a, xs, rfl, h1, _⟩ := h.ls
    exact .base (.lst h1)
  · rw [Rep] at h
    obtain ⟨a, rfl, h1, _⟩ := h
    exact hl h1
  · rw [Rep] at h
    obtain ⟨a, ys, rfl, h1, _⟩ := h
    exact .base (.dK h1)
theorem p_isi {x : Str} {T : String} {p q : Pos} (hg : Gl X "isinstance") (hm : X.mg "isinstance" = none) (ha : PE X a (tB X.K fa)) (hgT : Gl X x) (hmT : X.mg x = none) (hv : bootBuiltins x = some (.type T)) (hn : x ≠ "__name__" := by decide) (hd : (x == ("__debug__" : Str)) = false := by decide)
    (hs : starEach [a, .Name x q] X.env = (false, eval a X.env) :: starEach [.Name x q] X.env := by rfl) (hs2 : starEach [.Name x q] X.env = (false, eval (.Name x q) X.env) :: starEach [] X.env := by rfl) (hpl : (backTo pos (starEach [.Name x q] X.env)).any (·.1) = false := by rfl) :
    PE X (.Call (.Name "isinstance" p) [a, .Name x q] [] pos) (tP X.K (pu1 (isiD T) fa)) := (pe_callB call_isi hg hm (by decide +kernel) (pa_cons ha (pa_cons (pe_bltn (v := .ty T) hgT hmT hv rfl hn hd) pa_nil hs2) hs) (by decide) (by decide) hs hpl).wk fun σ H Q ⟨g, ρ, T', G, W, d, hR, hf, k⟩ => by
  unfold pu1 at hf
  split at hf
  · rename_i x0 e1
    unfold isiD at hf
    cases et : tyD x0 with
    | none => rw [et] at hf; cases hf
    | some t =>
      rw [et] at hf
      replace hf : (kitB t T).map D.bl = some d := hf
      cases eb : kitB t T with
      | none => rw [eb] at hf; cases hf
      | some b =>
        rw [eb] at hf; cases hf
        exact ⟨g, ρ, T', G, W, x0, hR, e1, fun v H1 G1 R1 eg eh r => ⟨v, .ty T, .type t, .type T, b, rfl, .ty T, r.tyx et, kit_ty eb, k _ H1 G1 R1 eg eh (Rep.b.mpr rfl)⟩⟩
  · cases hf
/-! ### a list in a slot is changed -/
def appX (i : Nat) (f : Mo D) : Mo O := fun ρ => match ρ[i]?.bind Sl.tr with
  | some (.fl _) => (match f ρ with
    | some (.ok d ρ1) => (match ρ1[i]? with
      | some s => (match s.tr with
        | some (.fl ds) => if ds.length < sizeLine then some (.ok (.fr .non) (ρ1.set i (s.put (.fl (ds ++ [d]))))) else none
        | _ => none)
      | none => none)
    | some (.ex c fs ρ1) => some (.ex c fs ρ1)
    | none => none)
  | _ => none
theorem Reps.one {K : PySem.W.Frag} {G : Hp} {d : D} {v : V} (h : Rep K G d v) : Reps K G [d] [v] := by
  rw [Reps]; exact ⟨v, [], rfl, h, by rw [Reps]⟩
theorem x_append {i : Nat} {o : Expr} {apos cpos : Pos} (ho : PE X o (tVar i)) (ha : PE X e (tV X.K X.mg Wx ga)) (hs : starEach [e] X.env = (false, eval e X.env) :: starEach [] X.env := by rfl) (hbase : attributeBase o "append" X.env (eval o X.env) = eval o X.env := by rfl)
    (hfew : ((backTo cpos (starEach [e] X.env)).all (fun x => !x.1) && (backToKw cpos (keywordEach [] X.env)).all (fun x => x.1.isSome) && decide ([e].length + ([] : List Keyword).length + (if ([] : List Keyword).isEmpty then 0 else 1) < 30)) = true := by rfl)
    (hline : (apos.endLine == cpos.line) = true := by rfl) (hplain : (backTo cpos (starEach [] X.env)).any (·.1) = false := by rfl) :
    PE X (.Call (.Attribute o "append" apos) [e] [] cpos) (tX X.K X.mg Wx (appX i ga)) := (pe_bm PySem.F.plainAttrs_list PySem.F.slot_list_append PySem.F.type_list_append mt_append ho (pa_cons ha pa_nil hs) hbase hfew hline hs hplain).wk fun σ H Q ⟨g, ρ, T, G, W, hR, k⟩ => by
  unfold appX at k
  cases e0 : ρ[i]? with
  | none => rw [e0] at k; exact k.elim
  | some s0 =>
    rw [e0, Option.bind_some] at k
    cases e1 : s0.tr with
    | none => rw [e1] at k; exact k.elim
    | some o0 =>
      rw [e1] at k
      cases o0 with
      | fl ds0 =>
        obtain ⟨a0, xs0, hv0, ha0, _⟩ := hR.wrF e0 e1
        refine ⟨.ref a0, hv0, .inl ⟨rfl, xs0, SqL.of ha0⟩, g, ρ, T, G, W, hR, ?_⟩
        dsimp only at k
        cases h1 : ga ρ with
        | none => rw [h1] at k; exact k.elim
        | some r =>
          rw [h1] at k
          cases r with
          | ex c fs ρ1 => exact k
          | ok d ρ1 =>
            intro v H1 G1 W1 R1 eg r1
            dsimp only at k
            cases e2 : ρ1[i]? with
            | none => rw [e2] at k; exact k.elim
            | some s =>
              rw [e2] at k
              dsimp only at k
              cases e3 : s.tr with
              | none => rw [e3] at k; exact k.elim
              | some oo =>
                rw [e3] at k
                cases oo with
                | fl ds =>
                  dsimp only at k
                  by_cases hl : ds.length < sizeLine
                  · rw [if_pos hl] at k
                    obtain ⟨a, xs, hv, ha, hga, hr, wr⟩ := R1.wrF e2 e3
                    rw [hv0] at hv; cases hv
                    refine ⟨a0, xs, v, rfl, rfl, ha, by rw [← hr.len]; exact hl, ?_⟩
                    have R2 := wr G1 (ds ++ [d]) (xs ++ [v]) (Same.refl _) R1 (hr.app (Reps.one r1)) (by rw [List.length_append]; exact hl)
                    exact k .non _ G1 _ (R2.addT (Rep.nn.mpr rfl)) eg
                  · rw [if_neg hl] at k; exact k.elim
                | _ => exact k.elim
      | _ => exact k.elim
/-- x.pop() -/
def popX (i : Nat) : Mo O := fun ρ => match ρ[i]? with
  | some s => (match s.tr with
    | some (.fl ds) => (match ds.getLast? with
      | some d => some (.ok (.fr d) (ρ.set i (s.put (.fl ds.dropLast))))
      | none => none)
    | _ => none)
  | none => none
theorem Reps.dropLast {K : PySem.W.Frag} {G : Hp} {ds : List D} {xs : List V} (h : Reps K G ds xs) : Reps K G ds.dropLast xs.dropLast := by
  rw [List.dropLast_eq_take, List.dropLast_eq_take, h.len]
  exact h.take _
theorem Reps.last {K : PySem.W.Frag} {G : Hp} {ds : List D} {xs : List V} {d : D} (h : Reps K G ds xs) (e : ds.getLast? = some d) : ∃ y, xs[xs.length - 1]? = some y ∧ Rep K G d y := by
  rw [List.getLast?_eq_getElem?] at e
  obtain ⟨y, h1, h2⟩ := h.get e
  rw [h.len] at h1
  exact ⟨y, h1, h2⟩
theorem x_pop {i : Nat} {o : Expr} {apos cpos : Pos} (ho : PE X o (tVar i)) (hbase : attributeBase o "pop" X.env (eval o X.env) = eval o X.env := by rfl) (hline : (apos.endLine == cpos.line) = true := by rfl) :
    PE X (.Call (.Attribute o "pop" apos) [] [] cpos) (tX X.K X.mg Wx (popX i)) := (pe_bm0 PySem.F.plainAttrs_list PySem.F.slot_list_pop PySem.F.type_list_pop mt_pop ho hbase hline).wk fun σ H Q ⟨g, ρ, T, G, W, hR, k⟩ => by
  unfold popX at k
  cases e0 : ρ[i]? with
  | none => rw [e0] at k; exact k.elim
  | some s0 =>
    rw [e0] at k
    dsimp only at k
    cases e1 : s0.tr with
    | none => rw [e1] at k; exact k.elim
    | some o0 =>
      rw [e1] at k
      cases o0 with
      | fl ds =>
        dsimp only at k
        cases e2 : ds.getLast? with
        | none => rw [e2] at k; exact k.elim
        | some d =>
          rw [e2] at k
          obtain ⟨a, xs, hv, ha, hga, hr, wr⟩ := hR.wrF e0 e1
          obtain ⟨y, hy, ry⟩ := hr.last e2
          have hn : ds.dropLast.length ≤ sizeLine := by
            obtain ⟨v2, _, ho⟩ := hR.slo e0 e1
            rw [Ow] at ho
            obtain ⟨_, _, _, _, _, _, hz⟩ := ho
            rw [List.length_dropLast]; omega
          refine ⟨.ref a, hv, .inl ⟨rfl, xs, SqL.of ha⟩, a, xs, y, rfl, rfl, ha, hy, ?_⟩
          have R2 := wr G ds.dropLast xs.dropLast (Same.refl _) hR hr.dropLast hn
          exact k y _ G _ (R2.addT ry) (Same.refl _)
      | _ => exact k.elim
/-- x.insert(n, e) -/
def insX (i : Nat) (f : Mo (List D)) : Mo O := fun ρ => match ρ[i]?.bind Sl.tr with
  | some (.fl _) => (match f ρ with
    | some (.ok [.int n, d] ρ1) => (match ρ1[i]? with
      | some s => (match s.tr with
        | some (.fl ds) => if ds.length < sizeLine ∧ 0 ≤ n ∧ n < 2 ^ 63 then some (.ok (.fr .non) (ρ1.set i (s.put (.fl (ds.take n.toNat ++ [d] ++ ds.drop n.toNat))))) else none
        | _ => none)
      | none => none)
    | some (.ex c fs ρ1) => some (.ex c fs ρ1)
    | _ => none)
  | _ => none
theorem x_insert {i : Nat} {o : Expr} {f : Mo (List D)} {apos cpos : Pos} (ho : PE X o (tVar i)) (ha : PA X [a, b] (tLV X.K X.mg Wx f)) (hs : starEach [a, b] X.env = (false, eval a X.env) :: starEach [b] X.env := by rfl) (hbase : attributeBase o "insert" X.env (eval o X.env) = eval o X.env := by rfl)
    (hfew : ((backTo cpos (starEach [a, b] X.env)).all (fun x => !x.1) && (backToKw cpos (keywordEach [] X.env)).all (fun x => x.1.isSome) && decide ([a, b].length + ([] : List Keyword).length + (if ([] : List Keyword).isEmpty then 0 else 1) < 30)) = true := by rfl)
    (hline : (apos.endLine == cpos.line) = true := by rfl) (hplain : (backTo cpos (starEach [b] X.env)).any (·.1) = false := by rfl) :
    PE X (.Call (.Attribute o "insert" apos) [a, b] [] cpos) (tX X.K X.mg Wx (insX i f)) := (pe_bm PySem.F.plainAttrs_list PySem.F.slot_list_insert PySem.F.type_list_insert mt_insert ho ha hbase hfew hline hs hplain).wk fun σ H Q ⟨g, ρ, T, G, W, hR, k⟩ => by
  unfold insX at k
  cases e0 : ρ[i]? with
  | none => rw [e0] at k; exact k.elim
  | some s0 =>
    rw [e0, Option.bind_some] at k
    cases e1 : s0.tr with
    | none => rw [e1] at k; exact k.elim
    | some o0 =>
      rw [e1] at k
      cases o0 with
      | fl ds0 =>
        obtain ⟨a0, xs0, hv0, ha0, _⟩ := hR.wrF e0 e1
        refine ⟨.ref a0, hv0, .inl ⟨rfl, xs0, SqL.of ha0⟩, g, ρ, T, G, W, hR, ?_⟩
        dsimp only at k
        split at k
        · rename_i n d ρ1 h1
          rw [h1]
          intro vs H1 G1 W1 R1 eg r1
          cases e2 : ρ1[i]? with
          | none => rw [e2] at k; exact k.elim
          | some s =>
            rw [e2] at k
            dsimp only at k
            cases e3 : s.tr with
            | none => rw [e3] at k; exact k.elim
            | some oo =>
              rw [e3] at k
              cases oo with
              | fl ds =>
                dsimp only at k
                split at k
                · rename_i hl
                  obtain ⟨a, xs, hv, ha, hga, hr, wr⟩ := R1.wrF e2 e3
                  rw [hv0] at hv; cases hv
                  rw [Reps] at r1
                  obtain ⟨x1, y1, rfl, rx, r1⟩ := r1
                  rw [Reps] at r1
                  obtain ⟨x2, y2, rfl, ry, r1⟩ := r1
                  rw [Reps] at r1
                  subst r1
                  refine ⟨a0, xs, n, x2, rfl, by rw [Rep.i.mp rx], ha, by rw [← hr.len]; exact hl.1, hl.2.1, hl.2.2, ?_⟩
                  have R2 := wr G1 (ds.take n.toNat ++ [d] ++ ds.drop n.toNat) (xs.take n.toNat ++ [x2] ++ xs.drop n.toNat) (Same.refl _) R1 (((hr.take _).app (Reps.one ry)).app (hr.drop _)) (by
                    rw [List.length_append, List.length_append, List.length_take, List.length_drop, List.length_singleton]; omega)
                  exact k .non _ G1 _ (R2.addT (Rep.nn.mpr rfl)) eg
                · exact k.elim
              | _ => exact k.elim
        · rename_i h1; rw [h1]; exact k
        · exact k.elim
      | _ => exact k.elim
/-! ### a list within a slot's list is changed -/
/-- x[j].append(e) -/
def appAt (i : Nat) (fj : Pu D) (f : Pu D) : Mo O := fun ρ => match ρ[i]?, fj ρ, f ρ with
  | some s, some (.int j), some d => (match s.tr with
    | some (.ol os) => (match atI os j, ixN os.length j with
      | some (.fl ds), some jj => if ds.length < sizeLine then some (.ok (.fr .non) (ρ.set i (s.put (.ol (os.set jj (.fl (ds ++ [d]))))))) else none
      | _, _ => none)
    | _ => none)
  | _, _, _ => none
/-- x[j].pop() -/
def popAt (i : Nat) (fj : Pu D) : Mo O := fun ρ => match ρ[i]?, fj ρ with
  | some s, some (.int j) => (match s.tr with
    | some (.ol os) => (match atI os j, ixN os.length j with
      | some (.fl ds), some jj => (match ds.getLast? with
        | some d => some (.ok (.fr d) (ρ.set i (s.put (.ol (os.set jj (.fl ds.dropLast))))))
        | none => none)
      | _, _ => none)
    | _ => none)
  | _, _ => none
theorem x_popAt {i : Nat} {o ej : Expr} {fj : Pu D} {spos apos cpos : Pos} (ho : PE X o (tVar i)) (hj : PE X ej (tP X.K fj)) (hix : PlainIx ej) (hbase : attributeBase (.Subscript o ej spos) "pop" X.env (eval (.Subscript o ej spos) X.env) = eval (.Subscript o ej spos) X.env := by rfl) (hline : (apos.endLine == cpos.line) = true := by rfl) :
    PE X (.Call (.Attribute (.Subscript o ej spos) "pop" apos) [] [] cpos) (tX X.K X.mg Wx (popAt i fj)) := (pe_bm0 PySem.F.plainAttrs_list PySem.F.slot_list_pop PySem.F.type_list_pop mt_pop (pe_ix ix_list ho hj hix) hbase hline).wk fun σ H Q ⟨g, ρ, T, G, W, hR, k⟩ => by
  unfold popAt at k
  split at k
  · rename_i s j e0 ej
    cases e1 : s.tr with
    | none => rw [e1] at k; exact k.elim
    | some o0 =>
      rw [e1] at k
      cases o0 with
      | ol os =>
        dsimp only at k
        split at k
        · rename_i ds jj e2 e3
          cases e4 : ds.getLast? with
          | none => rw [e4] at k; exact k.elim
          | some d =>
            rw [e4] at k
            obtain ⟨v0, hv0, _⟩ := hR.slo e0 e1
            refine ⟨v0, hv0, g, ρ, T, G, W, .int j, hR, ej, fun vj H1 G1 R1 eg1 eh1 rj => ?_⟩
            obtain ⟨a, xs, b, ys, jj', hv, ha, hat, hb, hgb, hr, hjj, wr⟩ := R1.wr1 e0 e1 e2
            rw [hv0] at hv; cases hv
            rw [e3] at hjj; cases hjj
            obtain ⟨y, hy, ry⟩ := hr.last e4
            refine ⟨a, xs, j, .ref b, rfl, Rep.i.mp rj, SqL.of ha, hat, .inl ⟨rfl, ys, SqL.of hb⟩, b, ys, y, rfl, rfl, hb, hy, ?_⟩
            have hn : ds.dropLast.length ≤ sizeLine := by
              obtain ⟨v2, _, ho⟩ := R1.slo e0 e1
              rw [Ow] at ho
              obtain ⟨_, _, _, _, _, hos, _⟩ := ho
              obtain ⟨_, _, _, _, _, _, hx⟩ := hos.at e2
              rw [Ow] at hx
              obtain ⟨_, _, _, _, _, _, hz⟩ := hx
              rw [List.length_dropLast]; omega
            have R2 := wr G1 ds.dropLast ys.dropLast (Same.refl _) R1 hr.dropLast hn
            exact k y _ G1 _ (R2.addT ry) eg1
        · exact k.elim
      | _ => exact k.elim
  · exact k.elim
theorem x_appAt {i : Nat} {o ej : Expr} {fj : Pu D} {spos apos cpos : Pos} (ho : PE X o (tVar i)) (hj : PE X ej (tP X.K fj)) (hix : PlainIx ej) (ha : PE X e (tP X.K f)) (hs : starEach [e] X.env = (false, eval e X.env) :: starEach [] X.env := by rfl)
    (hbase : attributeBase (.Subscript o ej spos) "append" X.env (eval (.Subscript o ej spos) X.env) = eval (.Subscript o ej spos) X.env := by rfl)
    (hfew : ((backTo cpos (starEach [e] X.env)).all (fun x => !x.1) && (backToKw cpos (keywordEach [] X.env)).all (fun x => x.1.isSome) && decide ([e].length + ([] : List Keyword).length + (if ([] : List Keyword).isEmpty then 0 else 1) < 30)) = true := by rfl)
    (hline : (apos.endLine == cpos.line) = true := by rfl) (hplain : (backTo cpos (starEach [] X.env)).any (·.1) = false := by rfl) :
    PE X (.Call (.Attribute (.Subscript o ej spos) "append" apos) [e] [] cpos) (tX X.K X.mg Wx (appAt i fj f)) := (pe_bm PySem.F.plainAttrs_list PySem.F.slot_list_append PySem.F.type_list_append mt_append (pe_ix ix_list ho hj hix) (pa_cons ha pa_nil hs) hbase hfew hline hs hplain).wk fun σ H Q ⟨g, ρ, T, G, W, hR, k⟩ => by
  unfold appAt at k
  split at k
  · rename_i s j d e0 ej ed
    cases e1 : s.tr with
    | none => rw [e1] at k; exact k.elim
    | some o0 =>
      rw [e1] at k
      cases o0 with
      | ol os =>
        dsimp only at k
        split at k
        · rename_i ds jj e2 e3
          by_cases hl : ds.length < sizeLine
          · rw [if_pos hl] at k
            obtain ⟨v0, hv0, _⟩ := hR.slo e0 e1
            refine ⟨v0, hv0, g, ρ, T, G, W, .int j, hR, ej, fun vj H1 G1 R1 eg1 eh1 rj => ?_⟩
            obtain ⟨a, xs, b, ys, jj', hv, ha, hat, hb, hgb, hr, hjj, wr⟩ := R1.wr1 e0 e1 e2
            rw [hv0] at hv; cases hv
            refine ⟨a, xs, j, .ref b, rfl, Rep.i.mp rj, SqL.of ha, hat, .inl ⟨rfl, ys, SqL.of hb⟩, g, ρ, T, G1, W, d, R1, ed, fun v H2 G2 R2 eg2 eh2 r2 => ?_⟩
            obtain ⟨a2, xs2, b2, ys2, jj2, hv2, ha2, hat2, hb2, hgb2, hr2, hjj2, wr2⟩ := R2.wr1 e0 e1 e2
            rw [hv0] at hv2; cases hv2
            have e5 := eh2 _ _ ha
            rw [ha2] at e5; cases e5
            rw [hat] at hat2; cases hat2
            rw [e3] at hjj2; cases hjj2
            refine ⟨b, ys2, v, rfl, rfl, hb2, by rw [← hr2.len]; exact hl, ?_⟩
            have R3 := wr2 G2 (ds ++ [d]) (ys2 ++ [v]) (Same.refl _) R2 (hr2.app (Reps.one r2)) (by rw [List.length_append]; exact hl)
            exact k .non _ G2 _ (R3.addT (Rep.nn.mpr rfl)) (eg1.trans eg2)
          · rw [if_neg hl] at k; exact k.elim
        · exact k.elim
      | _ => exact k.elim
  · exact k.elim
/-! ### x[j] = e, x[j][l] = e -/
def stoS (i : Nat) (f : Mo D) (fj : Pu D) : MS := fun ρ => match f ρ with
  | some (.ok d ρ1) => (match ρ1[i]?, fj ρ1 with
    | some s, some (.int j) => (match s.tr with
      | some (.fl ds) => (match ixN ds.length j with
        | some jj => some (.nx (ρ1.set i (s.put (.fl (ds.set jj d)))))
        | none => none)
      | some (.ol os) => (match ixN os.length j with
        | some jj => some (.nx (ρ1.set i (s.put (.ol (os.set jj (.fr d))))))
        | none => none)
      | _ => none)
    | _, _ => none)
  | some (.ex c fs ρ1) => some (.ex c fs ρ1)
  | none => none
theorem Reps.set {K : PySem.W.Frag} {G : Hp} : ∀ {ds : List D} {xs : List V} {d : D} {v : V} (j : Nat), Reps K G ds xs → Rep K G d v → Reps K G (ds.set j d) (xs.set j v)
  | [], _, _, _, _, h, _ => by rw [Reps] at h; subst h; simp [Reps]
  | d0 :: ds, _, _, _, 0, h, h' => by
    rw [Reps] at h
    obtain ⟨x, xr, rfl, h1, h2⟩ := h
    rw [List.set_cons_zero, List.set_cons_zero, Reps]
    exact ⟨_, xr, rfl, h', h2⟩
  | d0 :: ds, _, _, _, j + 1, h, h' => by
    rw [Reps] at h
    obtain ⟨x, xr, rfl, h1, h2⟩ := h
    rw [List.set_cons_succ, List.set_cons_succ, Reps]
    exact ⟨x, _, rfl, h1, h2.set j h'⟩
theorem R.flen {K : PySem.W.Frag} {g : Gs} {ρ : Rho} {T : List (O × V)} {σ : L2.St} {H G : Hp} {W : Own} {i : Nat} {s : Sl} {ds : List D} (h : R K g ρ T σ H G W) (e0 : ρ[i]? = some s) (e1 : s.tr = some (.fl ds)) : ds.length ≤ sizeLine := by
  obtain ⟨v2, _, ho⟩ := h.slo e0 e1
  rw [Ow] at ho
  obtain ⟨_, _, _, _, _, _, hz⟩ := ho
  exact hz
theorem R.flen1 {K : PySem.W.Frag} {g : Gs} {ρ : Rho} {T : List (O × V)} {σ : L2.St} {H G : Hp} {W : Own} {i : Nat} {s : Sl} {os : List O} {ds : List D} {j : Int} (h : R K g ρ T σ H G W) (e0 : ρ[i]? = some s) (e1 : s.tr = some (.ol os)) (e2 : atI os j = some (.fl ds)) : ds.length ≤ sizeLine := by
  obtain ⟨v2, _, ho⟩ := h.slo e0 e1
  rw [Ow] at ho
  obtain ⟨_, _, _, _, _, hos, _⟩ := ho
  obtain ⟨_, _, _, _, _, _, hx⟩ := hos.at e2
  rw [Ow] at hx
  obtain ⟨_, _, _, _, _, _, hz⟩ := hx
  exact hz
theorem s_sto {i : Nat} {o ej : Expr} {fj : Pu D} {p1 : Pos} (he : PE X e (tV X.K X.mg Wx ga)) (ho : PE X o (tVar i)) (hj : PE X ej (tP X.K fj))
    (has : ∀ v, assign (.Subscript o ej p1) X.env v = (do
      let ov ← holding [v] (eval o X.env)
      let iv ← holding [v, ov] (eval ej X.env)
      standAt p1
      holding [v, ov, iv] (setItem ov iv v)
      release [v, ov, iv] []) := by intro _; rfl)
    (hs : swapsWithSole [.Subscript o ej p1] e pos.line X.env = pure false := by rfl) (hw : swappedStores [.Subscript o ej p1] e X.env = pure none := by rfl)
    (h1 : (assignEach [.Subscript o ej p1] X.env).map (·.2) = [assign (.Subscript o ej p1) X.env] := by rfl) : PS X (.Assign [.Subscript o ej p1] e pos) (tS X.K X.mg Wx (stoS i ga fj)) := (ps_asg he (pg_sub ho hj set_list has) hs hw h1).wk fun D0 σ H ⟨g, ρ, T, G, W, hR, k⟩ => by
  refine ⟨g, ρ, T, G, W, hR, ?_⟩
  unfold stoS at k
  cases h1 : ga ρ with
  | none => rw [h1] at k; exact k.elim
  | some r =>
    rw [h1] at k
    cases r with
    | ex c fs ρ1 => exact k
    | ok d ρ1 =>
      intro v H1 G1 W1 R1 eg1 r1
      dsimp only at k
      split at k
      · rename_i s j e0 ej
        cases e1 : s.tr with
        | none => rw [e1] at k; exact k.elim
        | some o0 =>
          rw [e1] at k
          cases o0 with
          | fl ds =>
            dsimp only at k
            cases e2 : ixN ds.length j with
            | none => rw [e2] at k; exact k.elim
            | some jj =>
              rw [e2] at k
              obtain ⟨v0, hv0, _⟩ := R1.slo e0 e1
              refine ⟨v0, hv0, g, ρ1, T, G1, W1, .int j, R1, ej, fun vj H2 G2 R2 eg2 eh2 rj => ?_⟩
              obtain ⟨a, xs, hv, ha, hga, hr, wr⟩ := R2.wrF e0 e1
              rw [hv0] at hv; cases hv
              refine ⟨a, xs, j, jj, rfl, Rep.i.mp rj, ha, by rw [← hr.len]; exact e2, ?_⟩
              exact k σ _ G2 _ (wr G2 _ _ (Same.refl _) R2 (hr.set jj (r1.mono eg2)) (by rw [List.length_set]; exact R2.flen e0 e1)) (eg1.trans eg2)
          | ol os =>
            dsimp only at k
            cases e2 : ixN os.length j with
            | none => rw [e2] at k; exact k.elim
            | some jj =>
              rw [e2] at k
              obtain ⟨v0, hv0, _⟩ := R1.slo e0 e1
              refine ⟨v0, hv0, g, ρ1, T, G1, W1, .int j, R1, ej, fun vj H2 G2 R2 eg2 eh2 rj => ?_⟩
              obtain ⟨v1, hv1, ho⟩ := R2.slo e0 e1
              rw [hv0] at hv1; cases hv1
              rw [Ow] at ho
              obtain ⟨a0, xs0, ev, ha0, hw0, hos0, hz0⟩ := ho
              obtain ⟨a, xs, hv, ha, hga, hlen, hos, wr⟩ := R2.wr (os' := os) e0 e1
              rw [hv0] at hv; cases hv
              cases ev
              refine ⟨_, xs, j, jj, rfl, Rep.i.mp rj, ha, by rw [← hlen]; exact e2, ?_⟩
              refine k σ _ G2 _ (wr G2 (os.set jj (.fr d)) (xs.set jj v) (Same.refl _) R2 (Ows.set (Ows.move1 (Same.refl _) (fun b z w hz => ⟨upd_ne (fun eb => hz ?_), w⟩) hos) (by rw [Ow]; exact r1.mono eg2)) (by rw [List.length_set]; exact hz0)) (eg1.trans eg2)
              rw [eb, hw0] at w
              simpa using (congrArg (fun l : Option Lab => (l.map (·.2)).getD [])  w).symm
          | _ => exact k.elim
      · exact k.elim
def sto2S (i : Nat) (f : Mo D) (fj fl : Pu D) : MS := fun ρ => match f ρ with
  | some (.ok d ρ1) => (match ρ1[i]?, fj ρ1, fl ρ1 with
    | some s, some (.int j), some (.int l) => (match s.tr with
      | some (.ol os) => (match atI os j, ixN os.length j with
        | some (.fl ds), some jj => (match ixN ds.length l with
          | some ll => some (.nx (ρ1.set i (s.put (.ol (os.set jj (.fl (ds.set ll d)))))))
          | none => none)
        | _, _ => none)
      | _ => none)
    | _, _, _ => none)
  | some (.ex c fs ρ1) => some (.ex c fs ρ1)
  | none => none
theorem s_sto2 {i : Nat} {o ej el : Expr} {fj fl : Pu D} {p0 p1 : Pos} (he : PE X e (tV X.K X.mg Wx ga)) (ho : PE X o (tVar i)) (hj : PE X ej (tP X.K fj)) (hl : PE X el (tP X.K fl)) (hix : PlainIx ej)
    (has : ∀ v, assign (.Subscript (.Subscript o ej p0) el p1) X.env v = (do
      let ov ← holding [v] (eval (.Subscript o ej p0) X.env)
      let iv ← holding [v, ov] (eval el X.env)
      standAt p1
      holding [v, ov, iv] (setItem ov iv v)
      release [v, ov, iv] []) := by intro _; rfl)
    (hs : swapsWithSole [.Subscript (.Subscript o ej p0) el p1] e pos.line X.env = pure false := by rfl) (hw : swappedStores [.Subscript (.Subscript o ej p0) el p1] e X.env = pure none := by rfl)
    (h1 : (assignEach [.Subscript (.Subscript o ej p0) el p1] X.env).map (·.2) = [assign (.Subscript (.Subscript o ej p0) el p1) X.env] := by rfl) : PS X (.Assign [.Subscript (.Subscript o ej p0) el p1] e pos) (tS X.K X.mg Wx (sto2S i ga fj fl)) := (ps_asg he (pg_sub (pe_ix ix_list ho hj hix) hl set_list has) hs hw h1).wk fun D0 σ H ⟨g, ρ, T, G, W, hR, k⟩ => by
  refine ⟨g, ρ, T, G, W, hR, ?_⟩
  unfold sto2S at k
  cases h1 : ga ρ with
  | none => rw [h1] at k; exact k.elim
  | some r =>
    rw [h1] at k
    cases r with
    | ex c fs ρ1 => exact k
    | ok d ρ1 =>
      intro v H1 G1 W1 R1 eg1 r1
      dsimp only at k
      split at k
      · rename_i s j l e0 ej el
        cases e1 : s.tr with
        | none => rw [e1] at k; exact k.elim
        | some o0 =>
          rw [e1] at k
          cases o0 with
          | ol os =>
            dsimp only at k
            split at k
            · rename_i ds jj e2 e3
              cases e4 : ixN ds.length l with
              | none => rw [e4] at k; exact k.elim
              | some ll =>
                rw [e4] at k
                obtain ⟨v0, hv0, _⟩ := R1.slo e0 e1
                refine ⟨v0, hv0, g, ρ1, T, G1, W1, .int j, R1, ej, fun vj H2 G2 R2 eg2 eh2 rj => ?_⟩
                obtain ⟨a, xs, b, ys, jj', hv, ha, hat, hb, hgb, hr, hjj, wr⟩ := R2.wr1 e0 e1 e2
                rw [hv0] at hv; cases hv
                refine ⟨a, xs, j, .ref b, rfl, Rep.i.mp rj, SqL.of ha, hat, g, ρ1, T, G2, W1, .int l, R2, el, fun vl H3 G3 R3 eg3 eh3 rl => ?_⟩
                obtain ⟨a2, xs2, b2, ys2, jj2, hv2, ha2, hat2, hb2, hgb2, hr2, hjj2, wr2⟩ := R3.wr1 e0 e1 e2
                rw [hv0] at hv2; cases hv2
                have e5 := eh3 _ _ ha
                rw [ha2] at e5; cases e5
                rw [hat] at hat2; cases hat2
                rw [e3] at hjj2; cases hjj2
                refine ⟨b, ys2, l, ll, rfl, Rep.i.mp rl, hb2, by rw [← hr2.len]; exact e4, ?_⟩
                exact k σ _ G3 _ (wr2 G3 _ _ (Same.refl _) R3 (hr2.set ll (r1.mono (eg2.trans eg3))) (by rw [List.length_set]; exact R3.flen1 e0 e1 e2)) (eg1.trans (eg2.trans eg3))
            · exact k.elim
          | _ => exact k.elim
      · exact k.elim
/-! ### name += e -/
def augS (i : Nat) (h : Int → Int → Int) (f : Mo D) : MS := fun ρ => match var i ρ with
  | some (.int x) => (match f ρ with
    | some (.ok (.int y) ρ1) => if stb i ρ1 = true then some (.nx (ρ1.set i (.ow (.fr (.int (h x y)))))) else none
    | some (.ex c fs ρ1) => some (.ex c fs ρ1)
    | _ => none)
  | _ => none
theorem tAug_ok {K : PySem.W.Frag} {mg : MG} {i : Nat} {h : Int → Int → Int} : ∀ D0 σ H, tS K mg Wx (augS i h ga) D0 σ H → tAug i (tV K mg Wx ga) (ipI h) D0 σ H := fun D0 σ H ⟨g, ρ, T, G, W, hR, k⟩ => by
  unfold augS at k
  split at k
  · rename_i x e0
    obtain ⟨s, e1, e2⟩ := var_some e0
    obtain ⟨v, h1, h2⟩ := hR.slo e1 e2
    rw [Ow] at h2
    have hx := Rep.i.mp h2
    subst hx
    refine ⟨_, h1, g, ρ, T, G, W, hR, ?_⟩
    split at k
    · rename_i y ρ1 e3
      rw [e3]
      intro v H1 G1 W1 R1 eg1 r1
      split at k
      · rename_i hs
        refine ⟨x, y, rfl, Rep.i.mp r1, ?_⟩
        exact k _ H1 G1 _ ((R1.addT (Rep.i.mpr rfl)).setS (stb_lt hs)) eg1
      · exact k.elim
    · rename_i e3; rw [e3]; exact k
    · exact k.elim
  · exact k.elim
end
end Tr
namespace Tr
open PySem PySem.Spec PyProof.Rows L2
/-! ### slots of a comprehension -/
def wipeR (ρ : Rho) : List Nat → Rho
  | [] => ρ
  | v :: vs => (wipeR ρ vs).set v .no
def frOk (ρ : Rho) (vs : List Nat) : Bool := vs.all fun v => match ρ[v]? with
  | some .no => true
  | some (.ow (.fr _)) => true
  | _ => false
def unw (ρ0 ρ1 : Rho) : List Nat → Rho
  | [] => ρ1
  | v :: vs => (unw ρ0 ρ1 vs).set v (ρ0[v]?.getD .no)
theorem wipe_out {σ : L2.St} {j : Nat} : ∀ {vs : List Nat}, j ∉ vs → (wipe σ vs)[j]? = σ[j]?
  | [], _ => rfl
  | v :: vs, h => by
    unfold wipe
    rw [List.getElem?_set_ne (fun e => h (by rw [e]; exact List.mem_cons_self ..))]
    exact wipe_out fun z => h (List.mem_cons_of_mem _ z)
theorem wipe_in {σ : L2.St} {j : Nat} (hj : j < σ.length) : ∀ {vs : List Nat}, j ∈ vs → (wipe σ vs)[j]? = some none
  | v :: vs, h => by
    unfold wipe
    by_cases e : v = j
    · subst e
      rw [List.getElem?_set_self (by rw [wipe_length]; exact hj)]
    · rw [List.getElem?_set_ne e]
      exact wipe_in hj (by
        rcases List.mem_cons.mp h with z | z
        · exact absurd z.symm e
        · exact z)
theorem wipe_eq {σ σ' : L2.St} {vs is : List Nat} (h : Offs is σ σ') (hi : ∀ i ∈ is, i ∈ vs) : wipe σ' vs = wipe σ vs := by
  apply List.ext_getElem?
  intro j
  by_cases hj : j ∈ vs
  · by_cases hl : j < σ.length
    · rw [wipe_in hl hj, wipe_in (by rw [h.1]; exact hl) hj]
    · rw [List.getElem?_eq_none (by rw [wipe_length, h.1]; omega), List.getElem?_eq_none (by rw [wipe_length]; omega)]
  · rw [wipe_out hj, wipe_out hj]
    exact h.2 j fun z => hj (hi j z)
theorem wipe_wipe {σ : L2.St} {vs : List Nat} : wipe (wipe σ vs) vs = wipe σ vs := by
  apply List.ext_getElem?
  intro j
  by_cases hj : j ∈ vs
  · by_cases hl : j < σ.length
    · rw [wipe_in (by rw [wipe_length]; exact hl) hj, wipe_in hl hj]
    · rw [List.getElem?_eq_none (by rw [wipe_length, wipe_length]; omega), List.getElem?_eq_none (by rw [wipe_length]; omega)]
  · rw [wipe_out hj]
theorem unw_length {ρ0 ρ1 : Rho} : ∀ {vs : List Nat}, (unw ρ0 ρ1 vs).length = ρ1.length
  | [] => rfl
  | v :: vs => by unfold unw; rw [List.length_set, unw_length]
theorem unw_out {ρ0 ρ1 : Rho} {j : Nat} : ∀ {vs : List Nat}, j ∉ vs → (unw ρ0 ρ1 vs)[j]? = ρ1[j]?
  | [], _ => rfl
  | v :: vs, h => by
    unfold unw
    rw [List.getElem?_set_ne (fun e => h (by rw [e]; exact List.mem_cons_self ..))]
    exact unw_out fun z => h (List.mem_cons_of_mem _ z)
theorem unw_in {ρ0 ρ1 : Rho} {j : Nat} (hj : j < ρ1.length) : ∀ {vs : List Nat}, j ∈ vs → (unw ρ0 ρ1 vs)[j]? = some (ρ0[j]?.getD .no)
  | v :: vs, h => by
    unfold unw
    by_cases e : v = j
    · subst e
      rw [List.getElem?_set_self (by rw [unw_length]; exact hj)]
    · rw [List.getElem?_set_ne e]
      exact unw_in hj (by
        rcases List.mem_cons.mp h with z | z
        · exact absurd z.symm e
        · exact z)
section
variable {K : PySem.W.Frag} {g : Gs} {ρ ρ' ρ0 ρ1 : Rho} {T T' : List (O × V)} {σ σ' : L2.St} {H H' G G' : Hp} {W W' : Own} {o : O} {v : V} {p : Addr} {d : D} {i k : Nat} {u : HO}
theorem R.wipe (h : R K g ρ T σ H G W) : ∀ vs : List Nat, R K g (wipeR ρ vs) T (L2.wipe σ vs) H G W
  | [] => h
  | v :: vs => by
    unfold wipeR L2.wipe
    exact (h.wipe vs).noS
theorem R.unwipe {vs : List Nat} (h0 : R K g ρ0 T σ H G W) (hf : frOk ρ0 vs = true) (h : R K g ρ1 T' (L2.wipe σ vs) H' G' W') (eg : Same G G') : R K g (unw ρ0 ρ1 vs) T' σ H' G' W' := by
  have hl : ρ1.length = σ.length := by rw [h.len, wipe_length]
  refine h.relab (by rw [unw_length]; exact hl) (fun b l w => ⟨l, w⟩) (fun j s q => ?_) h.tm
  by_cases hj : j ∈ vs
  · have hjl : j < ρ1.length := by
      by_cases hjl : j < ρ1.length
      · exact hjl
      · rw [List.getElem?_eq_none (by rw [unw_length]; omega)] at q; cases q
    rw [unw_in hjl hj] at q
    have hs := (List.all_eq_true.mp hf) j hj
    cases e : ρ0[j]? with
    | none => rw [e] at q; cases q; trivial
    | some s0 =>
      rw [e] at q hs
      cases q
      cases s0 with
      | no => trivial
      | le o => cases hs
      | ow o =>
        cases o with
        | fr d =>
          obtain ⟨v, h1, h2⟩ := h0.sl j _ e
          rw [Ow] at h2
          exact ⟨v, h1, by rw [Ow]; exact h2.mono eg⟩
        | _ => cases hs
  · rw [unw_out hj] at q
    exact (h.sl j s q).keep (Same.refl _) (fun a z w => ⟨rfl, w⟩) (wipe_out hj).symm
theorem Rt.t_ne {k : Nat} : Rt.t k ≠ Rt.t (k + 1) := fun e => by
  injection e with e
  omega
/-- the last temporary is put behind the list before it -/
theorem R.pushT {acc : List O} {a : Addr} (h : R K g ρ (T ++ [(.ol acc, .ref a)] ++ [(o, v)]) σ H G W) (hz : acc.length < sizeLine) :
    ∃ xs W', H a = some (.lst xs) ∧ xs.length = acc.length ∧ R K g ρ (T ++ [(.ol (acc ++ [o]), .ref a)]) σ (upd H a (.lst (xs ++ [v]))) G W' := by
  have h1 : Ow K G H W (.ol acc) (.ref a) (.t T.length) [] := h.tm T.length _ _ (by simp)
  have h2 : Ow K G H W o v (.t (T.length + 1)) [] := h.tm (T.length + 1) _ _ (by simp)
  rw [Ow] at h1
  obtain ⟨a', xs, ea, ha, hw, hos, _⟩ := h1
  cases ea
  refine ⟨xs, wRen W (.t (T.length + 1)) (.t T.length) [acc.length], ha, hos.len.symm, ?_⟩
  have ga := h.wl a _ hw
  have hne : ∀ {b : Addr} {l : Lab}, W b = some l → l ≠ (.t T.length, []) → b ≠ a := fun {b l} w n eq => n (by rw [eq, hw] at w; exact (Option.some.inj w).symm)
  refine ⟨fun b x q => ?_, fun b x q => ?_, h.gg, h.sep, fun b l w => ?_, h.len, fun j s q => ?_, fun k o' v' q => ?_⟩
  · rw [upd_ne (fun z => by rw [z, ga.1] at q; cases q)]; exact h.gh b x q
  · rw [upd_ne (fun z => by rw [z, ga.2.1] at q; cases q)]; exact h.kh b x q
  · obtain ⟨l', w'⟩ := wRen_none w
    refine ⟨(h.wl b l' w').1, (h.wl b l' w').2.1, ?_⟩
    by_cases hb : b = a
    · rw [hb, upd_same]; exact fun z => nomatch z
    · rw [upd_ne hb]; exact (h.wl b l' w').2.2
  · exact (h.sl j s q).keep (Same.refl G) (fun b z w => ⟨upd_ne (hne w fun z => nomatch z), wRen_ne w fun z => nomatch z⟩) rfl
  · rcases getElem?_snoc q with ⟨q2, hk⟩ | ⟨ek, q2⟩
    · refine (h.tm k o' v' (by rw [List.append_assoc, List.getElem?_append_left hk]; exact q2)).keep (Same.refl G) fun b z w => ⟨upd_ne (hne w fun z => ?_), wRen_ne w fun z => ?_⟩
      · cases z; exact absurd hk (Nat.lt_irrefl _)
      · injection z with z; omega
    · cases q2
      subst ek
      rw [Ow]
      refine ⟨a, xs ++ [v], rfl, upd_same, wRen_ne hw Rt.t_ne, Ows.append (hos.move1 (Same.refl G) fun b z w hz => ⟨upd_ne (hne w fun e => ?_), wRen_ne w Rt.t_ne⟩) ?_, by rw [List.length_append]; exact hz⟩
      · cases e; exact hz rfl
      · rw [Ows]
        refine ⟨v, [], rfl, ?_, by rw [Ows]⟩
        rw [Nat.zero_add]
        have := Ow.move (K := K) (G := G) (G' := G) (H := H) (H' := upd H a (.lst (xs ++ [v]))) (W := W) (W' := wRen W (.t (T.length + 1)) (.t T.length) [acc.length]) (r := .t (T.length + 1)) (r' := .t T.length) (q := []) (q' := [acc.length]) (o := o) (v := v) (Same.refl G) []
          (fun b z w => ⟨upd_ne (hne w fun e => Rt.t_ne (congrArg Prod.fst e).symm), wRen_eq w⟩) h2
        simpa using this
end
section
variable {X : Cx} {e a b c elt tg iter : Expr} {ifs es : List Expr} {Wx : WX} {pos : Pos} {mi : Mo (List D)} {t : D → Rho → Option Rho} {q : Mo Bool} {fe : Mo O} {is vs : List Nat} {ga : Mo D}
abbrev W0 : WX := fun _ _ _ _ => False
def yes : Mo Bool := fun ρ => some (.ok true ρ)
theorem _root_.L2.PTs.wk {X : Cx} {e : List Expr} {t t' : TT} (h : PTs X e t) (w : ∀ σ H Q, t' σ H Q → t σ H Q) : PTs X e t' := ⟨fun pins s σ H Q I q => h.run pins s σ H Q I (w σ H Q q)⟩
theorem t_nil : PTs X [] (tY X.K X.mg Wx yes) := pts_nil.wk fun σ H Q ⟨g, ρ, T, G, W, hR, k⟩ => k H G W hR (Same.refl G)
theorem t_one (h : PT X c (tY X.K X.mg Wx q)) : PTs X [c] (tY X.K X.mg Wx q) := pts_one h
def lcL (t : D → Rho → Option Rho) (q : Mo Bool) (fe : Mo O) (vs : List Nat) : List D → Rho → Option (List O × Rho)
  | [], ρ => some ([], ρ)
  | d :: ds, ρ => match t d ρ with
    | none => none
    | some ρ1 => (match q ρ1 with
      | some (.ok true ρ2) => (match fe ρ2 with
        | some (.ok o ρ3) => (match lcL t q fe vs ds (wipeR ρ3 vs) with
          | some (os, ρ4) => some (o :: os, ρ4)
          | none => none)
        | _ => none)
      | some (.ok false ρ2) => lcL t q fe vs ds (wipeR ρ2 vs)
      | _ => none)
def lcM (mi : Mo (List D)) (t : D → Rho → Option Rho) (q : Mo Bool) (fe : Mo O) (vs : List Nat) : Mo O := fun ρ => match mi ρ with
  | some (.ok ds ρ0) => if frOk ρ0 vs = true then (match lcL t q fe vs ds (wipeR ρ0 vs) with
    | some (os, ρ1) => some (.ok (mkL os) (unw ρ0 ρ1 vs))
    | none => none) else none
  | some (.ex c fs ρ0) => some (.ex c fs ρ0)
  | none => none
theorem R.mkT {K : PySem.W.Frag} {g : Gs} {ρ : Rho} {T : List (O × V)} {σ : L2.St} {H G : Hp} {W : Own} {os : List O} {v : V} (h : R K g ρ (T ++ [(.ol os, v)]) σ H G W) : R K g ρ (T ++ [(mkL os, v)]) σ H G W := by
  refine h.relab h.len (fun b l w => ⟨l, w⟩) h.sl fun k o v e => ?_
  rcases getElem?_snoc e with ⟨e2, hk⟩ | ⟨ek, e2⟩
  · exact h.tm k o v (by rw [List.getElem?_append_left hk]; exact e2)
  · cases e2; subst ek; exact (h.tm T.length _ _ snoc_last).mkL
theorem tLc_ok {K : PySem.W.Frag} {mg : MG} (his : ∀ i ∈ is, i ∈ vs) : ∀ σ H Q, tX K mg Wx (lcM mi t q fe vs) σ H Q → tLc (tI K mg Wx mi) (tG K is t) (tY K mg W0 q) (tX K mg W0 fe) vs σ H Q := fun σ H Q ⟨g, ρ, T, G, W, hR, k⟩ => by
  refine ⟨g, ρ, T, G, W, hR, ?_⟩
  unfold lcM at k
  cases h1 : mi ρ with
  | none => rw [h1] at k; exact k.elim
  | some r =>
    rw [h1] at k
    cases r with
    | ex c fs ρ0 => exact k
    | ok ds ρ0 =>
      intro J H1 G1 W1 R1 eg1 wk a ha
      dsimp only at k
      by_cases hf : frOk ρ0 vs = true
      · rw [if_pos hf] at k
        cases h2 : lcL t q fe vs ds (wipeR ρ0 vs) with
        | none => rw [h2] at k; exact k.elim
        | some pr =>
          obtain ⟨osE, ρE⟩ := pr
          rw [h2] at k
          have R0 : R K g (wipeR ρ0 vs) (T ++ [(.ol [], .ref a)]) (wipe σ vs) (upd H1 a (.lst [])) G1 (wJoin W1 T.length a) := by
            have hw0 : R K g (wipeR ρ0 vs) (T ++ []) (wipe σ vs) H1 G1 W1 := by
              rw [List.append_nil]; exact R1.wipe vs
            exact hw0.newL (ts := []) ha (Nat.zero_le _)
          refine ⟨fun i m H => m = ds.length - i ∧ i ≤ ds.length ∧ ∃ ρ2 G2 W2 acc os, acc.length ≤ i ∧ R K g ρ2 (T ++ [(.ol acc, .ref a)]) (wipe σ vs) H G2 W2 ∧ Same G1 G2 ∧ lcL t q fe vs (ds.drop i) ρ2 = some (os, ρE) ∧ acc ++ os = osE,
            ⟨ds.length, by simp, Nat.zero_le _, _, G1, _, [], osE, Nat.le_refl _, R0, Same.refl _, by rw [List.drop_zero]; exact h2, rfl⟩, fun i m H2 hW => ?_⟩
          obtain ⟨rfl, hi, ρ2, G2, W2, acc, os, hacc, R2, eg2, hl, ho⟩ := hW
          have hH : Same G1 H2 := eg2.trans R2.gh
          by_cases hlt : i < ds.length
          · refine .inr ⟨wk.go i H2 hH hlt, fun H' => ∃ ρ3 G3 W3 acc os, acc.length ≤ i + 1 ∧ R K g ρ3 (T ++ [(.ol acc, .ref a)]) (wipe σ vs) H' G3 W3 ∧ Same G1 G3 ∧ lcL t q fe vs (ds.drop (i + 1)) ρ3 = some (os, ρE) ∧ acc ++ os = osE, fun H' hn => ⟨ds.length - (i + 1), by omega, rfl, by omega, hn⟩, fun x H' hy => ?_⟩
            have hd : ds[i]? = some ds[i] := List.getElem?_eq_getElem hlt
            rw [List.drop_eq_getElem_cons hlt] at hl
            unfold lcL at hl
            obtain ⟨G3, gr, rx⟩ := wk.yld i H2 x H' _ hH hd hy G2 eg2 R2.gh
            obtain ⟨R3, _, eg3⟩ := R2.grow gr
            cases h3 : t ds[i] ρ2 with
            | none => rw [h3] at hl; cases hl
            | some ρ3 =>
              rw [h3] at hl
              refine ⟨g, ρ2, T ++ [(.ol acc, .ref a)], G3, W2, ds[i], ρ3, R3, rx, h3, fun σ4 H4 G4 W4 R4 eg4 off => ?_⟩
              have ew : wipe σ4 vs = wipe σ vs := (wipe_eq off his).trans wipe_wipe
              refine ⟨ew, g, ρ3, T ++ [(.ol acc, .ref a)], G4, W4, R4, ?_⟩
              dsimp only at hl
              have e24 := eg3.trans eg4
              cases h4 : q ρ3 with
              | none => rw [h4] at hl; cases hl
              | some r =>
                rw [h4] at hl
                cases r with
                | ex c fs ρ5 => cases hl
                | ok bb ρ5 =>
                  intro H5 G5 W5 R5 eg5
                  cases bb with
                  | false =>
                    refine iteF ⟨_, G5, W5, acc, os, by omega, ?_, eg2.trans (e24.trans eg5), hl, ho⟩
                    have := R5.wipe vs
                    rw [ew] at this
                    exact this
                  | true =>
                    refine iteT ⟨g, ρ5, T ++ [(.ol acc, .ref a)], G5, W5, R5, ?_⟩
                    dsimp only at hl
                    cases h6 : fe ρ5 with
                    | none => rw [h6] at hl; cases hl
                    | some r =>
                      rw [h6] at hl
                      cases r with
                      | ex c fs ρ6 => cases hl
                      | ok o ρ6 =>
                        intro y H6 G6 W6 R6 eg6
                        have hz : acc.length < sizeLine := Nat.lt_of_le_of_lt hacc (Nat.lt_of_lt_of_le hlt wk.len)
                        obtain ⟨xs, W7, hx, hxl, R7⟩ := R6.pushT hz
                        refine ⟨xs, hx, by rw [hxl]; exact hz, ?_⟩
                        dsimp only at hl
                        cases h7 : lcL t q fe vs (ds.drop (i + 1)) (wipeR ρ6 vs) with
                        | none => rw [h7] at hl; cases hl
                        | some pr =>
                          obtain ⟨os7, ρ7⟩ := pr
                          rw [h7] at hl
                          cases hl
                          refine ⟨_, G6, W7, acc ++ [o], os7, by rw [List.length_append]; simp; omega, ?_, eg2.trans (e24.trans (eg5.trans eg6)), h7, by rw [List.append_assoc]; exact ho⟩
                          have := R7.wipe vs
                          rw [ew] at this
                          exact this
          · refine .inl ⟨wk.stop i H2 hH (by omega), ?_⟩
            rw [List.drop_eq_nil_of_le (by omega)] at hl
            cases hl
            rw [List.append_nil] at ho
            subst ho
            exact k _ H2 G2 W2 ((R1.unwipe hf R2 eg2).mkT) (eg1.trans eg2)
      · rw [if_neg hf] at k; exact k.elim
theorem x_lc {scope : Scope} {own : List (Str × Nat)} (hc : X.calm = true) (hN : X.N.Nodup) (hi : PI X tg iter (tI X.K X.mg Wx mi)) (ok : BlkOk X.N X.env.scope scope own)
    (hg : ∀ (s : Shared) (H : Hp) (C : Addr) (cl : List (Str × Addr)) (fp : List Addr), PG (X.blk s H scope (compEnvC scope cl C X.env) fp) tg (tG X.K is t)) (ht : ∀ (s : Shared) (H : Hp) (C : Addr) (cl : List (Str × Addr)) (fp : List Addr), PTs (X.blk s H scope (compEnvC scope cl C X.env) fp) ifs (tY X.K X.mg W0 q))
    (he : ∀ (s : Shared) (H : Hp) (C : Addr) (cl : List (Str × Addr)) (fp : List Addr), PE (X.blk s H scope (compEnvC scope cl C X.env) fp) elt (tX X.K X.mg W0 fe)) (his : ∀ i ∈ is, i ∈ own.map (·.2)) (hs : ∀ x, foldedSetIterable iter X.env x = pure x := by intro _; rfl) :
    PE X (.ListComp elt [⟨tg, iter, ifs, 0⟩] scope pos) (tX X.K X.mg Wx (lcM mi t q fe (own.map (·.2)))) := (pe_lc hc hN hi ok hg ht he hs).wk (tLc_ok his)
theorem s_setLc {i : Nat} {y : Str} {py spos : Pos} {scope : Scope} {own : List (Str × Nat)} (hc : X.calm = true) (hN : X.N.Nodup) (hy : X.N[i]? = some y) (hyl : X.env.scope.names.lookup y = some .local)
    (hsw : swapsWith (.ListComp elt [⟨tg, iter, ifs, 0⟩] scope pos) (some (.Name y py)) spos.line X.env = pure true) (hi : PI X tg iter (tI X.K X.mg Wx mi)) (ok : BlkOk X.N X.env.scope scope own)
    (hg : ∀ (s : Shared) (H : Hp) (C : Addr) (cl : List (Str × Addr)) (fp : List Addr), PG (X.blk s H scope (compEnvC scope cl C X.env) fp) tg (tG X.K is t)) (ht : ∀ (s : Shared) (H : Hp) (C : Addr) (cl : List (Str × Addr)) (fp : List Addr), PTs (X.blk s H scope (compEnvC scope cl C X.env) fp) ifs (tY X.K X.mg W0 q))
    (he : ∀ (s : Shared) (H : Hp) (C : Addr) (cl : List (Str × Addr)) (fp : List Addr), PE (X.blk s H scope (compEnvC scope cl C X.env) fp) elt (tX X.K X.mg W0 fe)) (his : ∀ i ∈ is, i ∈ own.map (·.2)) (hs : ∀ x, foldedSetIterable iter X.env x = pure x := by intro _; rfl) :
    PS X (.Assign [.Name y py] (.ListComp elt [⟨tg, iter, ifs, 0⟩] scope pos) spos) (tS X.K X.mg Wx (setS i (lcM mi t q fe (own.map (·.2))))) := (ps_setLc hc hN hy hyl hsw hi ok hg ht he hs).wk fun D0 σ H h => tLc_ok his σ H _ (tSet D0 σ H h)
end
end Tr
namespace Tr
open PySem PySem.Spec PyProof.Rows L2
/-- a def's result: the value, the lent things as they are left; or an error -/
inductive FR where
  | ret (o : O) (outs : List Sl)
  | ex (c : Str) (fs : List (Str × D)) (outs : List Sl)
abbrev FS := List Sl → Option FR
/-- arguments: frozen values, lent trees -/
def argOk : Sl → Bool
  | .ow (.fr _) => true
  | .le _ => true
  | _ => false
def GF (K : PySem.W.Frag) (mg : MG) (g : Gs) (vs : List V) (G : Hp) (Q : VK) (E : XK) : Option FR → Prop
  | none => False
  | some (.ret o outs) => ∀ v H' G' W', R K g outs [(o, v)] (vs.map some) H' G' W' → Same G G' → Q v H'
  | some (.ex c fs outs) => ∀ C d fv H' G' W', mg c = some (.ref C) → R K g outs [] (vs.map some) H' G' W' → Same G G' → G' d = some (.xd fv) → FsRep K G' fs fv → E (.ref C) (some d) H'
def spF (K : PySem.W.Frag) (mg : MG) (n : Nat) (F : FS) : Sp := fun vs H Q E => vs.length = n ∧ ∃ kp G W args, args.all argOk = true ∧ R K ⟨kp, G, vs⟩ args [] (vs.map some) H G W ∧ GF K mg ⟨kp, G, vs⟩ vs G Q E (F args)
/-- a weaker promise: fewer arguments are served -/
theorem spF_imp {K : PySem.W.Frag} {mg : MG} {n : Nat} {F F' : FS} (h : ∀ a r, F' a = some r → F a = some r) : ∀ vs H Q E, spF K mg n F' vs H Q E → spF K mg n F vs H Q E := fun vs H Q E ⟨hn, kp, G, W, args, ha, hR, k⟩ => by
  refine ⟨hn, kp, G, W, args, ha, hR, ?_⟩
  cases e : F' args with
  | none => rw [e] at k; exact k.elim
  | some r => rw [e] at k; rw [h args r e]; exact k
/-! ### a body keeps its promise -/
def lent : Sl → Sl
  | .le o => .le o
  | _ => .no
/-- a body as a function of its arguments -/
def runF (N n : Nat) (f : MS) : FS := fun args => match f (args ++ List.replicate (N - n) .no) with
  | some (.rt o ρ) => if n ≤ ρ.length then some (.ret o ((ρ.take n).map lent)) else none
  | some (.nx ρ) => if n ≤ ρ.length then some (.ret (.fr .non) ((ρ.take n).map lent)) else none
  | some (.ex c fs ρ) => if n ≤ ρ.length then some (.ex c fs ((ρ.take n).map lent)) else none
  | _ => none
section
variable {K : PySem.W.Frag} {g : Gs} {ρ : Rho} {T : List (O × V)} {σ : L2.St} {H G : Hp} {W : Own} {vs : List V}
theorem R.out {n : Nat} (h : R K g ρ T σ H G W) (hv : g.lv = vs) (hn : vs.length = n) (hl : n ≤ ρ.length) : R K g ((ρ.take n).map lent) T (vs.map some) H G W := by
  refine ⟨h.gh, h.kh, h.gg, h.sep, h.wl, ?_, fun i s q => ?_, h.tm⟩
  · rw [List.length_map, List.length_take, List.length_map]; omega
  · rw [List.getElem?_map] at q
    cases e : (ρ.take n)[i]? with
    | none => rw [e] at q; cases q
    | some s0 =>
      rw [e] at q
      cases q
      have hi : i < n := by
        by_cases hi : i < n
        · exact hi
        · rw [List.getElem?_eq_none (by rw [List.length_take]; omega)] at e; cases e
      rw [List.getElem?_take_of_lt hi] at e
      cases s0 with
      | no => trivial
      | ow o => trivial
      | le o =>
        obtain ⟨v, h1, h2, h3⟩ := h.sl i _ e
        refine ⟨v, ?_, h2, h3⟩
        rw [hv] at h2
        rw [List.getElem?_map, h2]; rfl
theorem R.begin {N : List Str} {args : List Sl} (h : R K g args [] (vs.map some) H G W) (hN : vs.length ≤ N.length) : R K g (args ++ List.replicate (N.length - args.length) .no) [] (L2.start N vs) H G W := by
  have hl : args.length = vs.length := by have := h.len; rw [List.length_map] at this; exact this
  refine h.relab ?_ (fun b l w => ⟨l, w⟩) (fun i s q => ?_) (fun k o v e => by simp at e)
  · unfold L2.start
    rw [List.length_append, List.length_append, List.length_replicate, List.length_replicate, List.length_map, hl]
  · by_cases hi : i < args.length
    · rw [List.getElem?_append_left hi] at q
      have := h.sl i s q
      refine this.keep (Same.refl _) (fun a z w => ⟨rfl, w⟩) ?_
      unfold L2.start
      rw [List.getElem?_append_left (by rw [List.length_map]; omega)]
    · rw [List.getElem?_append_right (by omega), List.getElem?_replicate] at q
      split at q
      · cases q; trivial
      · cases q
end
section
variable {P : Program} {w : World} {K : PySem.W.Frag} {mg : MG} {base : Heap}
/-- what a body must be -/
theorem fn_ok {x qual : Str} {st : Stmt} {f : Addr} {fd : FuncData} {N ps : List Str} {k : Nat} {ms : MS} (F : Fun K x qual st f fd) (S : FnScope N ps (defScope st)) (hn : ps.length ≤ N.length)
    (hbody : ∀ (cdv : Value) (A : Around) (outer : List Env) (s : Shared) (H : Hp) (E : XK), Room k (A.deeper (envOfC qual (defScope st) s.heap.objs.size f cdv)) →
      PSs (cxOf (L2.CX P w) P w K mg base N qual (defScope st) f cdv A outer s H E) (defBody st) (tS K mg (fun cls d _ H => E cls d H) ms)) : FnOk P w K mg base (L2.CX P w) (k + 1) f fd ps (spF K mg ps.length (runF N.length ps.length ms)) := by
  refine F.okX S (fun vs H Q E h => h.1) fun cdv A outer s H vs Q E hr h => ⟨_, hbody cdv A outer s H E hr, ?_⟩
  obtain ⟨hv, kp, G, W, args, ha, hR, k⟩ := h
  have hl : args.length = vs.length := by have := hR.len; rw [List.length_map] at this; exact this
  have hR' := hR.begin (N := N) (by omega)
  rw [hl, hv] at hR'
  refine ⟨⟨kp, G, vs⟩, _, [], G, W, hR', ?_⟩
  unfold runF at k
  cases h1 : ms (args ++ List.replicate (N.length - ps.length) .no) with
  | none => rw [h1] at k; exact k.elim
  | some r =>
    rw [h1] at k
    cases r with
    | nx ρ =>
      dsimp only at k
      by_cases hl : ps.length ≤ ρ.length
      · rw [if_pos hl] at k
        exact fun σ' H' G' W' R' eg => k .non H' G' W' ((R'.out rfl hv hl).addT (T := []) (Rep.nn.mpr rfl)) eg
      · rw [if_neg hl] at k; exact k.elim
    | rt o ρ =>
      dsimp only at k
      by_cases hl : ps.length ≤ ρ.length
      · rw [if_pos hl] at k
        exact fun v σ' H' G' W' R' eg => k v H' G' W' (R'.out rfl hv hl) eg
      · rw [if_neg hl] at k; exact k.elim
    | ex c fs ρ =>
      dsimp only at k
      by_cases hl : ps.length ≤ ρ.length
      · rw [if_pos hl] at k
        exact fun C d fv σ' H' G' W' hm R' eg hd hf => k C d fv H' G' W' hm (R'.out rfl hv hl) eg hd hf
      · rw [if_neg hl] at k; exact k.elim
    | bk ρ => exact k.elim
    | ct ρ => exact k.elim
end
/-! ### calls -/
inductive Ag where
  | v (d : D)
  | l (i : Nat)
def AgOk (K : PySem.W.Frag) (G : Hp) (σ : L2.St) : List Ag → List V → Prop
  | [], vs => vs = []
  | .v d :: r, vs => ∃ x xr, vs = x :: xr ∧ Rep K G d x ∧ AgOk K G σ r xr
  | .l i :: r, vs => ∃ x xr, vs = x :: xr ∧ σ[i]? = some (some x) ∧ AgOk K G σ r xr
theorem AgOk.mono {K : PySem.W.Frag} {G G' : Hp} {σ : L2.St} (e : Same G G') : ∀ {as : List Ag} {vs : List V}, AgOk K G σ as vs → AgOk K G' σ as vs
  | [], _, h => h
  | .v d :: r, _, ⟨x, xr, e1, h1, h2⟩ => ⟨x, xr, e1, h1.mono e, h2.mono e⟩
  | .l i :: r, _, ⟨x, xr, e1, h1, h2⟩ => ⟨x, xr, e1, h1, h2.mono e⟩
theorem AgOk.len {K : PySem.W.Frag} {G : Hp} {σ : L2.St} : ∀ {as : List Ag} {vs : List V}, AgOk K G σ as vs → vs.length = as.length
  | [], vs, h => by
    have h' : vs = [] := h
    rw [h']; rfl
  | .v d :: r, _, ⟨x, xr, e1, h1, h2⟩ => by rw [e1, List.length_cons, List.length_cons, h2.len]
  | .l i :: r, _, ⟨x, xr, e1, h1, h2⟩ => by rw [e1, List.length_cons, List.length_cons, h2.len]
def toSl (ρ : Rho) : List Ag → Option (List Sl)
  | [] => some []
  | .v d :: r => (toSl ρ r).map (.ow (.fr d) :: ·)
  | .l i :: r => match ρ[i]?.bind Sl.tr, toSl ρ r with
    | some o, some l => some (.le o :: l)
    | _, _ => none
/-- the lent slots -/
def lents : List Ag → List (Option Nat)
  | [] => []
  | .v _ :: r => none :: lents r
  | .l i :: r => some i :: lents r
def back : List Ag → List Sl → Rho → Option Rho
  | [], [], ρ => some ρ
  | .v _ :: r, _ :: os, ρ => back r os ρ
  | .l i :: r, .le o :: os, ρ => match ρ[i]? with
    | some s => back r os (ρ.set i (s.put o))
    | none => none
  | _, _, _ => none
def noDup : List Ag → Bool
  | [] => true
  | .v _ :: r => noDup r
  | .l i :: r => !((lents r).contains (some i)) && noDup r
def callM (n : Nat) (F : FS) (f : Mo (List Ag)) : Mo O := fun ρ => match f ρ with
  | some (.ok ags ρ1) => if noDup ags = true ∧ ags.length = n then (match toSl ρ1 ags with
    | some args => (match F args with
      | some (.ret o outs) => (match back ags outs ρ1 with
        | some ρ2 => some (.ok o ρ2)
        | none => none)
      | some (.ex c fs outs) => (match back ags outs ρ1 with
        | some ρ2 => some (.ex c fs ρ2)
        | none => none)
      | none => none)
    | none => none) else none
  | some (.ex c fs ρ1) => some (.ex c fs ρ1)
  | none => none
def tAg (K : PySem.W.Frag) (mg : MG) (Wx : WX) (f : Mo (List Ag)) : TA := fun σ H Q => ∃ g ρ T G W, R K g ρ T σ H G W ∧ GE K mg Wx g T G (fun as ρ' => ∀ vs H' G' W', R K g ρ' T σ H' G' W' → Same G G' → AgOk K G' σ as vs → Q vs H') (f ρ)
section
variable {K : PySem.W.Frag}
theorem toSl_all : ∀ {as : List Ag} {ρ : Rho} {args : List Sl}, toSl ρ as = some args → args.all argOk = true
  | [], _, _, h => by cases h; rfl
  | .v d :: r, ρ, _, h => by
    unfold toSl at h
    cases e : toSl ρ r with
    | none => rw [e] at h; cases h
    | some l => rw [e] at h; cases h; rw [List.all_cons, toSl_all e]; rfl
  | .l i :: r, ρ, _, h => by
    unfold toSl at h
    split at h
    · rename_i o l e1 e2
      cases h
      rw [List.all_cons, toSl_all e2]; rfl
    · cases h
theorem toSl_len : ∀ {as : List Ag} {ρ : Rho} {args : List Sl}, toSl ρ as = some args → args.length = as.length
  | [], _, _, h => by cases h; rfl
  | .v d :: r, ρ, _, h => by
    unfold toSl at h
    cases e : toSl ρ r with
    | none => rw [e] at h; cases h
    | some l => rw [e] at h; cases h; rw [List.length_cons, List.length_cons, toSl_len e]
  | .l i :: r, ρ, _, h => by
    unfold toSl at h
    split at h
    · rename_i o l e1 e2
      cases h
      rw [List.length_cons, List.length_cons, toSl_len e2]
    · cases h
/-- an argument by its place -/
theorem toSl_get {G : Hp} {σ : L2.St} : ∀ {as : List Ag} {ρ : Rho} {args : List Sl} {vs : List V} {j : Nat} {s : Sl}, toSl ρ as = some args → AgOk K G σ as vs → args[j]? = some s →
    (∃ d v, s = .ow (.fr d) ∧ vs[j]? = some v ∧ Rep K G d v ∧ (lents as)[j]? = some none) ∨ (∃ o v i s0, s = .le o ∧ vs[j]? = some v ∧ σ[i]? = some (some v) ∧ ρ[i]? = some s0 ∧ s0.tr = some o ∧ (lents as)[j]? = some (some i))
  | [], _, _, _, _, _, h, _, e => by cases h; simp at e
  | .v d :: r, ρ, _, _, j, s, h, ⟨x, xr, e1, h1, h2⟩, e => by
    unfold toSl at h
    subst e1
    cases e2 : toSl ρ r with
    | none => rw [e2] at h; cases h
    | some l =>
      rw [e2] at h; cases h
      cases j with
      | zero => simp at e; subst e; exact .inl ⟨d, x, rfl, rfl, h1, rfl⟩
      | succ j =>
        have := toSl_get (j := j) e2 h2 (by simpa using e)
        simpa [lents] using this
  | .l i :: r, ρ, _, _, j, s, h, ⟨x, xr, e1, h1, h2⟩, e => by
    unfold toSl at h
    subst e1
    split at h
    · rename_i o l e3 e2
      cases h
      cases j with
      | zero =>
        simp at e; subst e
        cases e4 : ρ[i]? with
        | none => rw [e4] at e3; cases e3
        | some s0 =>
          rw [e4] at e3
          exact .inr ⟨o, x, i, s0, rfl, rfl, h1, e4, e3, rfl⟩
      | succ j =>
        have := toSl_get (j := j) e2 h2 (by simpa using e)
        simpa [lents] using this
    · cases h
/-- where a slot is lent -/
def lentAt (as : List Ag) (i : Nat) : Option Nat := (lents as).findIdx? (· == some i)
theorem lentAt_some {as : List Ag} {i j : Nat} (h : lentAt as i = some j) : (lents as)[j]? = some (some i) := by
  unfold lentAt at h
  rw [List.findIdx?_eq_some_iff_getElem] at h
  obtain ⟨hj, h1, _⟩ := h
  rw [List.getElem?_eq_getElem hj]
  exact congrArg some (by simpa using h1)
theorem noDup_inj : ∀ {as : List Ag} {i j k : Nat}, noDup as = true → (lents as)[j]? = some (some i) → (lents as)[k]? = some (some i) → j = k
  | [], _, _, _, _, h, _ => by simp [lents] at h
  | .v d :: r, i, j, k, hn, h1, h2 => by
    unfold noDup at hn
    cases j with
    | zero => simp [lents] at h1
    | succ j =>
      cases k with
      | zero => simp [lents] at h2
      | succ k =>
        have a1 : (lents r)[j]? = some (some i) := by simpa [lents] using h1
        have a2 : (lents r)[k]? = some (some i) := by simpa [lents] using h2
        rw [noDup_inj hn a1 a2]
  | .l m :: r, i, j, k, hn, h1, h2 => by
    unfold noDup at hn
    rw [Bool.and_eq_true] at hn
    have hm : some m ∉ lents r := by
      have := hn.1
      simp at this
      exact this
    cases j with
    | zero =>
      have e1 : m = i := by simpa [lents] using h1
      cases k with
      | zero => rfl
      | succ k =>
        have : (lents r)[k]? = some (some i) := by simpa [lents] using h2
        rw [← e1] at this
        exact absurd (List.mem_of_getElem? this) hm
    | succ j =>
      have a1 : (lents r)[j]? = some (some i) := by simpa [lents] using h1
      cases k with
      | zero =>
        have e1 : m = i := by simpa [lents] using h2
        rw [← e1] at a1
        exact absurd (List.mem_of_getElem? a1) hm
      | succ k =>
        have a2 : (lents r)[k]? = some (some i) := by simpa [lents] using h2
        rw [noDup_inj hn.2 a1 a2]
theorem lentAt_of {as : List Ag} {i j : Nat} (hn : noDup as = true) (h : (lents as)[j]? = some (some i)) : lentAt as i = some j := by
  cases e : lentAt as i with
  | none =>
    unfold lentAt at e
    rw [List.findIdx?_eq_none_iff] at e
    have := e _ (List.mem_of_getElem? h)
    simp at this
  | some k => rw [noDup_inj hn h (lentAt_some e)]
/-- what a slot is behind the call -/
theorem back_get : ∀ {as : List Ag} {outs : List Sl} {ρ ρ' : Rho}, back as outs ρ = some ρ' → noDup as = true → ρ'.length = ρ.length ∧ ∀ i : Nat, (∀ j : Nat, (lents as)[j]? ≠ some (some i)) ∧ ρ'[i]? = ρ[i]? ∨ ∃ (j : Nat) (o : O) (s : Sl), (lents as)[j]? = some (some i) ∧ outs[j]? = some (.le o) ∧ ρ[i]? = some s ∧ ρ'[i]? = some (s.put o)
  | [], [], ρ, ρ', h, _ => by
    cases h
    exact ⟨rfl, fun i => .inl ⟨fun j e => by simp [lents] at e, rfl⟩⟩
  | .v d :: r, x :: os, ρ, ρ', h, hn => by
    have hb : back r os ρ = some ρ' := by cases x <;> exact h
    obtain ⟨hl, hi⟩ := back_get hb hn
    refine ⟨hl, fun i => ?_⟩
    rcases hi i with ⟨h1, h2⟩ | ⟨j, o, s, h1, h2, h3, h4⟩
    · refine .inl ⟨fun j e => ?_, h2⟩
      cases j with
      | zero => simp [lents] at e
      | succ j => exact h1 j (by simpa [lents] using e)
    · exact .inr ⟨j + 1, o, s, by simpa [lents] using h1, by simpa using h2, h3, h4⟩
  | .l m :: r, .le o :: os, ρ, ρ', h, hn => by
    unfold noDup at hn
    rw [Bool.and_eq_true] at hn
    have hm : some m ∉ lents r := by
      have := hn.1
      simp at this
      exact this
    unfold back at h
    cases e : ρ[m]? with
    | none => rw [e] at h; cases h
    | some s =>
      rw [e] at h
      obtain ⟨hl, hi⟩ := back_get (ρ := ρ.set m (s.put o)) h hn.2
      have hml : m < ρ.length := by
        by_cases hml : m < ρ.length
        · exact hml
        · rw [List.getElem?_eq_none (by omega)] at e; cases e
      refine ⟨by rw [hl, List.length_set], fun i => ?_⟩
      by_cases him : i = m
      · subst him
        rcases hi i with ⟨h1, h2⟩ | ⟨j, o', s', h1, _⟩
        · rw [List.getElem?_set_self hml] at h2
          exact .inr ⟨0, o, s, rfl, rfl, e, h2⟩
        · exact absurd (List.mem_of_getElem? h1) hm
      · rcases hi i with ⟨h1, h2⟩ | ⟨j, o', s', h1, h2, h3, h4⟩
        · rw [List.getElem?_set_ne (fun z => him z.symm)] at h2
          refine .inl ⟨fun j e => ?_, h2⟩
          cases j with
          | zero =>
            have : m = i := by simpa [lents] using e
            exact him this.symm
          | succ j => exact h1 j (by simpa [lents] using e)
        · rw [List.getElem?_set_ne (fun z => him z.symm)] at h3
          exact .inr ⟨j + 1, o', s', by simpa [lents] using h1, by simpa using h2, h3, h4⟩
  | [], _ :: _, _, _, h, _ => by simp [back] at h
  | .v _ :: _, [], _, _, h, _ => by simp [back] at h
  | .l _ :: _, [], _, _, h, _ => by simp [back] at h
  | .l _ :: _, .no :: _, _, _, h, _ => by simp [back] at h
  | .l _ :: _, .ow _ :: _, _, _, h, _ => by simp [back] at h
/-- the callee's labels -/
def wIn (as : List Ag) (W : Own) : Own := fun b => match W b with
  | some (.s i, p) => (lentAt as i).map fun j => (.s j, p)
  | _ => none
/-- the cells that the callee may not touch -/
def kIn (as : List Ag) (W : Own) (H : Hp) : Hp := fun b => match wIn as W b with
  | some _ => none
  | none => H b
/-- the caller's labels behind the call -/
def wOut (as : List Ag) (n : Nat) (W W' : Own) : Own := fun b => match W' b with
  | some (.s j, p) => (match (lents as)[j]? with
    | some (some i) => some (.s i, p)
    | _ => none)
  | some (.t 0, p) => some (.t n, p)
  | some _ => none
  | none => (match wIn as W b with
    | some _ => none
    | none => W b)
variable {g : Gs} {ρ ρ2 : Rho} {T : List (O × V)} {σ : L2.St} {H H' G G' : Hp} {W W' : Own} {as : List Ag} {vs : List V} {args outs : List Sl}
theorem R.enter (h : R K g ρ T σ H G W) (ha : AgOk K G σ as vs) (hs : toSl ρ as = some args) (hn : noDup as = true) : R K ⟨kIn as W H, G, vs⟩ args [] (vs.map some) H G (wIn as W) where
  gh := h.gh
  kh := fun b x q => by
    have q' : kIn as W H b = some x := q
    unfold kIn at q'
    split at q'
    · cases q'
    · exact q'
  gg := Same.refl G
  sep := fun b x _ => x
  wl := fun b l w => by
    have w' := w
    unfold wIn at w
    split at w
    · rename_i i p e
      refine ⟨(h.wl b _ e).1, ?_, (h.wl b _ e).2.2⟩
      show kIn as W H b = none
      unfold kIn; rw [w']
    · cases w
  len := by rw [toSl_len hs, List.length_map, ha.len]
  sl := fun j s q => by
    rcases toSl_get hs ha q with ⟨d, v, rfl, h1, h2, _⟩ | ⟨o, v, i, s0, rfl, h1, h2, h3, h4, h5⟩
    · exact ⟨v, by rw [List.getElem?_map, h1]; rfl, by rw [Ow]; exact h2⟩
    · obtain ⟨v', h6, h7⟩ := h.slo h3 h4
      rw [h2] at h6; cases h6
      refine ⟨v, by rw [List.getElem?_map, h1]; rfl, h1, ?_⟩
      exact Ow.move (q := []) (q' := []) (Same.refl G) [] (fun a z w => ⟨rfl, by
        have w2 : W a = some (.s i, z) := w
        show wIn as W a = some (.s j, z)
        unfold wIn
        rw [w2]
        show (lentAt as i).map _ = _
        rw [lentAt_of hn h5]; rfl⟩) h7
  tm := fun k o v e => by simp at e
theorem wIn_some {b : Addr} {l : Lab} (h : wIn as W b = some l) : ∃ i p, W b = some (.s i, p) ∧ lentAt as i = some (match l.1 with | .s j => j | .t k => k) ∧ l.2 = p := by
  unfold wIn at h
  split at h
  · rename_i i p e
    cases e2 : lentAt as i with
    | none => rw [e2] at h; cases h
    | some j => rw [e2] at h; cases h; exact ⟨i, p, e, e2, rfl⟩
  · cases h
theorem R.leave (h : R K g ρ T σ H G W) (hn : noDup as = true) (h' : R K ⟨kIn as W H, G, vs⟩ outs T' (vs.map some) H' G' W') (eg : Same G G') (ha : AgOk K G σ as vs) (hb : back as outs ρ = some ρ2)
    (hT : T'.length ≤ 1) : R K g ρ2 (T ++ T') σ H' G' (wOut as T.length W W') := by
  obtain ⟨hl2, hi2⟩ := back_get hb hn
  -- a cell that is not lent: kept
  have kn : ∀ b x, H b = some x → wIn as W b = none → kIn as W H b = some x := fun b x e w => by unfold kIn; rw [w]; exact e
  have keepH : ∀ b x, H b = some x → wIn as W b = none → H' b = some x := fun b x e w => h'.kh b x (kn b x e w)
  have noW' : ∀ b x, H b = some x → wIn as W b = none → W' b = none := fun b x e w => by
    cases q : W' b with
    | none => rfl
    | some l =>
      have := (h'.wl b l q).2.1
      rw [show (Gs.mk (kIn as W H) G vs).kp b = kIn as W H b from rfl, kn b x e w] at this
      cases this
  have stay : ∀ b l, W b = some l → wIn as W b = none → H' b = H b ∧ wOut as T.length W W' b = some l := fun b l w wi => by
    cases e : H b with
    | none => exact absurd e (h.wl b l w).2.2
    | some x =>
      refine ⟨keepH b x e wi, ?_⟩
      unfold wOut
      rw [noW' b x e wi, wi]; exact w
  have kpW : ∀ b, g.kp b ≠ none → ∃ x, H b = some x ∧ wIn as W b = none ∧ W b = none := fun b hb => by
    cases e : g.kp b with
    | none => exact absurd e hb
    | some x =>
      have e2 := h.kh b x e
      have : W b = none := by
        cases q : W b with
        | none => rfl
        | some l => rw [(h.wl b l q).2.1] at e; cases e
      exact ⟨x, e2, by unfold wIn; rw [this], this⟩
  refine ⟨h'.gh, fun b x q => ?_, h.gg.trans eg, fun b x y => ?_, fun b l w => ?_, hl2.trans h.len, fun i s q => ?_, fun k o v q => ?_⟩
  · obtain ⟨z, e, wi, _⟩ := kpW b (by rw [q]; exact fun z => nomatch z)
    have := h.kh b x q
    rw [e] at this
    rw [← this]
    exact keepH b z e wi
  · obtain ⟨z, e, wi, _⟩ := kpW b y
    refine h.sep b ?_ y
    exact h'.sep b x (by
      show kIn as W H b ≠ none
      rw [kn b z e wi]; exact fun z => nomatch z)
  · -- labels
    unfold wOut at w
    cases q : W' b with
    | some l' =>
      rw [q] at w
      have hw := h'.wl b l' q
      refine ⟨hw.1, ?_, hw.2.2⟩
      cases e : g.kp b with
      | none => rfl
      | some x =>
        obtain ⟨z, e1, wi, _⟩ := kpW b (by rw [e]; exact fun z => nomatch z)
        have := hw.2.1
        rw [show (Gs.mk (kIn as W H) G vs).kp b = kIn as W H b from rfl, kn b z e1 wi] at this
        cases this
    | none =>
      rw [q] at w
      cases wi : wIn as W b with
      | some l' => rw [wi] at w; cases w
      | none =>
        rw [wi] at w
        have hw := h.wl b l w
        refine ⟨?_, hw.2.1, ?_⟩
        · cases e : G' b with
          | none => rfl
          | some x =>
            cases e2 : H b with
            | none => exact absurd e2 hw.2.2
            | some y =>
              have := h'.sep b (by rw [e]; exact fun z => nomatch z) (by
                show kIn as W H b ≠ none
                rw [kn b y e2 wi]; exact fun z => nomatch z)
              exact absurd hw.1 this
        · cases e2 : H b with
          | none => exact absurd e2 hw.2.2
          | some y => rw [keepH b y e2 wi]; exact fun z => nomatch z
  · rcases hi2 i with ⟨hn1, hq⟩ | ⟨j, o, s0, hj, ho, hs0, hs1⟩
    · rw [hq] at q
      refine (h.sl i s q).keep eg (fun a z w => stay a _ w ?_) rfl
      unfold wIn
      rw [w]
      show (lentAt as i).map _ = none
      cases e : lentAt as i with
      | none => rfl
      | some j => exact absurd (lentAt_some e) (hn1 j)
    · rw [hs1] at q
      cases q
      obtain ⟨v, hv1, hv2, how⟩ := h'.sl j _ ho
      have how' : Ow K G' H' (wOut as T.length W W') o v (.s i) [] := Ow.move (q := []) (q' := []) (Same.refl G') [] (fun a z w => ⟨rfl, by
        have w2 : W' a = some (.s j, z) := w
        show wOut as T.length W W' a = some (.s i, z)
        unfold wOut
        rw [w2]
        show (match (lents as)[j]? with | some (some i) => some (Rt.s i, z) | _ => none) = _
        rw [hj]⟩) how
      -- the caller's slot holds v
      have hvs : σ[i]? = some (some v) := by
        have key : ∀ {as : List Ag} {vs : List V} {j : Nat}, AgOk K G σ as vs → (lents as)[j]? = some (some i) → ∀ v, vs[j]? = some v → σ[i]? = some (some v) := by
          intro as
          induction as with
          | nil => intro vs j _ e; simp [lents] at e
          | cons a as ih =>
            intro vs j hag e v hv
            cases a with
            | v d =>
              obtain ⟨x, xr, rfl, _, h2⟩ := hag
              cases j with
              | zero => simp [lents] at e
              | succ j => exact ih h2 (by simpa [lents] using e) v (by simpa using hv)
            | l m =>
              obtain ⟨x, xr, rfl, h1, h2⟩ := hag
              cases j with
              | zero =>
                have e1 : m = i := by simpa [lents] using e
                subst e1
                simp at hv; subst hv; exact h1
              | succ j => exact ih h2 (by simpa [lents] using e) v (by simpa using hv)
        exact key ha hj v hv2
      cases s0 with
      | no => trivial
      | ow o0 => exact ⟨v, hvs, how'⟩
      | le o0 =>
        obtain ⟨v', hv3, hv4, _⟩ := h.sl i _ hs0
        rw [hvs] at hv3; cases hv3
        exact ⟨v, hvs, hv4, how'⟩
  · by_cases hk : k < T.length
    · rw [List.getElem?_append_left hk] at q
      refine (h.tm k o v q).keep eg fun a z w => stay a _ w ?_
      unfold wIn
      rw [w]
    · rw [List.getElem?_append_right (by omega)] at q
      have hk0 : k - T.length = 0 := by
        have : k - T.length < T'.length := by
          by_cases z : k - T.length < T'.length
          · exact z
          · rw [List.getElem?_eq_none (by omega)] at q; cases q
        omega
      rw [hk0] at q
      have := h'.tm 0 o v q
      have ek : k = T.length := by omega
      subst ek
      exact Ow.move (q := []) (q' := []) (Same.refl G') [] (fun a z w => ⟨rfl, by
        have w2 : W' a = some (.t 0, z) := w
        show wOut as T.length W W' a = some (.t T.length, z)
        unfold wOut
        rw [w2]
        rfl⟩) this
end
section
variable {X : Cx} {e a b c : Expr} {es : List Expr} {Wx : WX} {pos p : Pos} {ga : Mo D} {fa : Mo (List Ag)}
/-! ### argument lists of calls -/
def agN : Mo (List Ag) := fun ρ => some (.ok [] ρ)
def agV (f : Mo D) (r : Mo (List Ag)) : Mo (List Ag) := fun ρ => match f ρ with
  | some (.ok d ρ1) => (match r ρ1 with
    | some (.ok as ρ2) => some (.ok (.v d :: as) ρ2)
    | some (.ex c fs ρ2) => some (.ex c fs ρ2)
    | none => none)
  | some (.ex c fs ρ1) => some (.ex c fs ρ1)
  | none => none
def agL (i : Nat) (r : Mo (List Ag)) : Mo (List Ag) := fun ρ => match ρ[i]?.bind Sl.tr with
  | some _ => (match r ρ with
    | some (.ok as ρ2) => some (.ok (.l i :: as) ρ2)
    | some (.ex c fs ρ2) => some (.ex c fs ρ2)
    | none => none)
  | none => none
theorem ag_nil : PA X [] (tAg X.K X.mg Wx agN) := pa_nil.wk fun σ H Q ⟨g, ρ, T, G, W, hR, k⟩ => k [] H G W hR (Same.refl G) rfl
theorem ag_v {r : Mo (List Ag)} (ha : PE X a (tV X.K X.mg Wx ga)) (hr : PA X es (tAg X.K X.mg Wx r)) (hs : starEach (a :: es) X.env = (false, eval a X.env) :: starEach es X.env := by rfl) : PA X (a :: es) (tAg X.K X.mg Wx (agV ga r)) := (pa_cons ha hr hs).wk fun σ H Q ⟨g, ρ, T, G, W, hR, k⟩ => by
  refine ⟨g, ρ, T, G, W, hR, ?_⟩
  unfold agV at k
  cases h1 : ga ρ with
  | none => rw [h1] at k; exact k.elim
  | some rr =>
    rw [h1] at k
    cases rr with
    | ex c fs ρ1 => exact k
    | ok d ρ1 =>
      intro v H1 G1 W1 R1 eg1 r1
      refine ⟨g, ρ1, T, G1, W1, R1, ?_⟩
      dsimp only at k
      cases h2 : r ρ1 with
      | none => rw [h2] at k; exact k.elim
      | some rr =>
        rw [h2] at k
        cases rr with
        | ex c fs ρ2 => exact WE'.mono eg1 k
        | ok as ρ2 => exact fun vs H2 G2 W2 R2 eg2 r2 => k (v :: vs) H2 G2 W2 R2 (eg1.trans eg2) ⟨v, vs, rfl, r1.mono eg2, r2⟩
theorem ag_l {i : Nat} {r : Mo (List Ag)} (ha : PE X a (tVar i)) (hr : PA X es (tAg X.K X.mg Wx r)) (hs : starEach (a :: es) X.env = (false, eval a X.env) :: starEach es X.env := by rfl) : PA X (a :: es) (tAg X.K X.mg Wx (agL i r)) := (pa_cons ha hr hs).wk fun σ H Q ⟨g, ρ, T, G, W, hR, k⟩ => by
  unfold agL at k
  cases e0 : ρ[i]? with
  | none => rw [e0] at k; exact k.elim
  | some s =>
    rw [e0, Option.bind_some] at k
    cases e1 : s.tr with
    | none => rw [e1] at k; exact k.elim
    | some o =>
      rw [e1] at k
      obtain ⟨v, hv, _⟩ := hR.slo e0 e1
      refine ⟨v, hv, g, ρ, T, G, W, hR, ?_⟩
      dsimp only at k
      cases h2 : r ρ with
      | none => rw [h2] at k; exact k.elim
      | some rr =>
        rw [h2] at k
        cases rr with
        | ex c fs ρ2 => exact k
        | ok as ρ2 => exact fun vs H2 G2 W2 R2 eg2 r2 => k (v :: vs) H2 G2 W2 R2 eg2 ⟨v, vs, rfl, hv, r2⟩
theorem tCall_ok {K : PySem.W.Frag} {mg : MG} {F : FS} {n : Nat} : ∀ σ H Q, tX K mg Wx (callM n F fa) σ H Q → tCallSD (spF K mg n F) [] (WE Wx) (tAg K mg Wx fa) σ H Q := fun σ H Q ⟨g, ρ, T, G, W, hR, k⟩ => by
  refine ⟨g, ρ, T, G, W, hR, ?_⟩
  unfold callM at k
  cases h1 : fa ρ with
  | none => rw [h1] at k; exact k.elim
  | some r =>
    rw [h1] at k
    cases r with
    | ex c fs ρ1 => exact k
    | ok as ρ1 =>
      intro vs H1 G1 W1 R1 eg1 ha
      dsimp only at k
      by_cases hnl : noDup as = true ∧ as.length = n
      · rw [if_pos hnl] at k
        obtain ⟨hn, hlen⟩ := hnl
        cases h2 : toSl ρ1 as with
        | none => rw [h2] at k; exact k.elim
        | some args =>
          rw [h2] at k
          rw [List.append_nil]
          refine ⟨by rw [ha.len]; exact hlen, kIn as W1 H1, G1, wIn as W1, args, toSl_all h2, R1.enter ha h2 hn, ?_⟩
          dsimp only at k
          cases h3 : F args with
          | none => rw [h3] at k; exact k.elim
          | some fr =>
            rw [h3] at k
            cases fr with
            | ret o outs =>
              dsimp only at k
              cases h4 : back as outs ρ1 with
              | none => rw [h4] at k; exact k.elim
              | some ρ2 =>
                rw [h4] at k
                exact fun v H' G' W' R' eg => k v H' G' _ (R1.leave hn R' eg ha h4 (Nat.le_refl 1)) (eg1.trans eg)
            | ex c fs outs =>
              dsimp only at k
              cases h4 : back as outs ρ1 with
              | none => rw [h4] at k; exact k.elim
              | some ρ2 =>
                rw [h4] at k
                intro C d fv H' G' W' hm R' eg hd hf
                have R2 := R1.leave hn R' eg ha h4 (Nat.zero_le 1)
                rw [List.append_nil] at R2
                exact k C d fv σ H' G' _ hm R2 (eg1.trans eg) hd hf
      · rw [if_neg hnl] at k; exact k.elim
theorem x_call {x : Str} {k : Nat} {f : Addr} {fd : FuncData} {ps : List Str} {F : FS} (tk : Takes X Wx) (FO : FnOk X.prog X.w X.K X.mg X.base (L2.CX X.prog X.w) k f fd ps (spF X.K X.mg ps.length F)) (hr : Room k X.A) (hg : Gl X x) (hm : X.mg x = some (.ref f)) (hk : PySem.W.keepIn X.K (.ref f) = true) (hb : Binds X.K fd ps [])
    (ha : PA X (e :: es) (tAg X.K X.mg Wx fa)) (hdb : (x == ("__debug__" : Str)) = false := by decide) (he : starEach (e :: es) X.env = (false, eval e X.env) :: starEach es X.env := by rfl) (hpl : (backTo pos (starEach es X.env)).any (·.1) = false := by rfl) :
    PE X (.Call (.Name x p) (e :: es) [] pos) (tX X.K X.mg Wx (callM ps.length F fa)) := (pe_callSD FO hr hg hm hk hb .nil (fun σ => passAt tk σ) ha hdb he hpl).wk fun σ H Q h => tCall_ok σ H Q h
end
end Tr
namespace Tr
open PySem PySem.Spec PyProof.Rows L2
section
variable {X : Cx} {e a b c elt tg iter : Expr} {ifs es : List Expr} {Wx : WX} {pos : Pos} {mi : Mo (List D)} {t : D → Rho → Option Rho} {q : Mo Bool} {fe gx : Mo O} {is vs : List Nat} {ga : Mo D}
/-- name = e, what comes is frozen -/
abbrev setF (i : Nat) (f : Mo O) : MS := setS i (frM (frzM f))
theorem tSetF {K : PySem.W.Frag} {mg : MG} {i : Nat} : ∀ D σ H, tS K mg Wx (setF i gx) D σ H → tAsg (tX K mg Wx gx) (gName i) D σ H := fun D σ H ⟨g, ρ, T, G, W, hR, k⟩ => by
  refine ⟨g, ρ, T, G, W, hR, ?_⟩
  unfold setF setS frM frzM at k
  cases h1 : gx ρ with
  | none => rw [h1] at k; exact k.elim
  | some r =>
    rw [h1] at k
    cases r with
    | ex c fs ρ' => exact k
    | ok o ρ' =>
      intro v H' G' W' R' eg
      dsimp only at k
      by_cases hs : stb i ρ' = true
      · rw [if_pos hs] at k
        obtain ⟨R2, rp⟩ := R'.frzT
        exact k _ H' _ _ ((R2.addT rp).setS (stb_lt hs)) (eg.trans (frz_same R' _))
      · rw [if_neg hs] at k; exact k.elim
theorem s_setF {i : Nat} {x : Str} {pos' : Pos} (hN : X.N.Nodup) (hi : X.N[i]? = some x) (hx : Loc X.env.scope x) (he : PE X e (tX X.K X.mg Wx gx)) (hs : swapsWith e (some (.Name x pos')) pos.line X.env = pure false := by rfl) (hf : X.fn x = true ∨ X.env.scope.names.lookup x = some .local := by first | exact .inl rfl | exact .inr rfl | assumption) :
    PS X (.Assign [.Name x pos'] e pos) (tS X.K X.mg Wx (setF i gx)) := (ps_set hN hi hx he hs hf).wk tSetF
theorem s_setLcF {i : Nat} {y : Str} {py spos : Pos} {scope : Scope} {own : List (Str × Nat)} (hc : X.calm = true) (hN : X.N.Nodup) (hy : X.N[i]? = some y) (hyl : X.env.scope.names.lookup y = some .local)
    (hsw : swapsWith (.ListComp elt [⟨tg, iter, ifs, 0⟩] scope pos) (some (.Name y py)) spos.line X.env = pure true) (hi : PI X tg iter (tI X.K X.mg Wx mi)) (ok : BlkOk X.N X.env.scope scope own)
    (hg : ∀ (s : Shared) (H : Hp) (C : Addr) (cl : List (Str × Addr)) (fp : List Addr), PG (X.blk s H scope (compEnvC scope cl C X.env) fp) tg (tG X.K is t)) (ht : ∀ (s : Shared) (H : Hp) (C : Addr) (cl : List (Str × Addr)) (fp : List Addr), PTs (X.blk s H scope (compEnvC scope cl C X.env) fp) ifs (tY X.K X.mg W0 q))
    (he : ∀ (s : Shared) (H : Hp) (C : Addr) (cl : List (Str × Addr)) (fp : List Addr), PE (X.blk s H scope (compEnvC scope cl C X.env) fp) elt (tX X.K X.mg W0 fe)) (his : ∀ i ∈ is, i ∈ own.map (·.2)) (hs : ∀ x, foldedSetIterable iter X.env x = pure x := by intro _; rfl) :
    PS X (.Assign [.Name y py] (.ListComp elt [⟨tg, iter, ifs, 0⟩] scope pos) spos) (tS X.K X.mg Wx (setF i (lcM mi t q fe (own.map (·.2))))) := (ps_setLc hc hN hy hyl hsw hi ok hg ht he hs).wk fun D0 σ H h => tLc_ok his σ H _ (tSetF D0 σ H h)
/-- a list or a tuple walked -/
def itS (f : Mo D) : Mo (List D) := fun ρ => match f ρ with
  | some (.ok d ρ') => (match d.sq with
    | some ds => some (.ok ds ρ')
    | none => none)
  | some (.ex c fs ρ') => some (.ex c fs ρ')
  | none => none
theorem i_seq (h : PE X e (tV X.K X.mg Wx ga)) : PI X tg e (tI X.K X.mg Wx (itS ga)) := ⟨fun pins s σ H Q I ⟨g, ρ, T, G, W, hR, k⟩ => by
  unfold itS at k
  have hl : ∀ d ρ' ds, ga ρ = some (.ok d ρ') → d.lsq = some ds → wpAny (model X.prog X.w) X.A (eval e X.env) (fun v s1 => wpAny (model X.prog X.w) X.A (pyIter v) (PIE X pins σ tg Q) X.xe s1) X.xe s := fun d ρ' ds h1 h2 => by
    refine (i_list (tg := tg) h).run pins s σ H Q I ⟨g, ρ, T, G, W, hR, ?_⟩
    rw [h1] at k
    dsimp only at k
    rw [D.sq_of_lsq h2] at k
    unfold itL
    rw [h1]
    dsimp only
    rw [h2]; exact k
  cases h1 : ga ρ with
  | none => rw [h1] at k; exact k.elim
  | some r =>
    cases r with
    | ex c fs ρ' =>
      rw [h1] at k
      refine (i_list (tg := tg) h).run pins s σ H Q I ⟨g, ρ, T, G, W, hR, ?_⟩
      unfold itL; rw [h1]; exact k
    | ok d ρ' =>
      cases d with
      | lst ds => exact hl _ _ _ h1 rfl
      | scr ns => exact hl _ _ _ h1 rfl
      | tup ds =>
        rw [h1] at k
        refine (i_tup (tg := tg) h).run pins s σ H Q I ⟨g, ρ, T, G, W, hR, ?_⟩
        unfold itT; rw [h1]; exact k
      | _ => rw [h1] at k; exact k.elim⟩
end
/-! ### enumerate of a tuple -/
def IteT (K : PySem.W.Frag) (a : Addr) : It :=
  ⟨fun i H => ∃ (xs : List V) (x : V), SqT K H a xs ∧ xs[i]? = some x, fun i H v H' => ∃ T x o, v = .ref T ∧ H T = none ∧ o.dict = none ∧ H' = upd H T (.frz o (.tup [.int (i : Nat), x])) ∧ ∀ xs, SqT K H a xs → xs[i]? = some x, fun i H => ∃ xs : List V, SqT K H a xs ∧ xs.length ≤ i⟩
end Tr
namespace PySem
open Sem (wp)
open AutoSeq1 (wpAny_loadPart')
set_option maxHeartbeats 1000000 in
theorem tr_meets_enumT (l : Addr) (items : Array Value) :
    Meets (Builtin.«enumerate.__new__» ⟨[.type "enumerate", .ref l], []⟩) (fun _ R s => s.heap.IsTuple l items ∧
      R (.ok (.ret (.ref (s.heap.push { cls := .type "tuple_iterator", data := .fields #[.ref l, .int 0 0] }).objs.size)))
        { s with heap := (s.heap.push { cls := .type "tuple_iterator", data := .fields #[.ref l, .int 0 0] }).push { cls := .type "enumerate", data := .fields #[.none, .bool false, .ref s.heap.objs.size, rawInt 0, .none, .none] } }) :=
  .of_wp fun prog w A R s h => by
    obtain ⟨hp, g, d, tk, os⟩ := s; obtain ⟨hL, h⟩ := h
    have hsub := sub_enumerate
    wp_walk using wpAny_pyIter_tuple hL
    refine wpAny_stack_any fun st => wpAny_pure ?_
    split
    · rename_i c _ _ _ _ _
      cases (c == Value.type "enumerate")
      · wp_walk using wpAny_pyIter_tuple hL
        exact ⟨_, rfl, h⟩
      · wp_walk using wpAny_pyIter_tuple hL
        exact ⟨_, rfl, h⟩
    · wp_walk using wpAny_pyIter_tuple hL
      exact ⟨_, rfl, h⟩
section
variable {prog : Program} {w : World} {A : Around} {E : Value → Shared → Prop} {s : Shared}
theorem tr_call_enumT {l : Addr} {items : Array Value} {Q : Value → Shared → Prop} (hL : s.heap.IsTuple l items)
    (h : ∀ h', IsEnum h' (s.heap.objs.size + 1) s.heap.objs.size 0 .none → h'.IsTupleIter s.heap.objs.size l 0 → h'.objs.size = s.heap.objs.size + 2 →
      (∀ b o, s.heap.get? b = some o → h'.get? b = some o) → Q (.ref (s.heap.objs.size + 1)) { s with heap := h' }) :
    wpAny (model prog w) A (call (.type "enumerate") [.ref l]) Q E s := by
  refine callType_new F.called_enumerate (by decide) (F.typeCall_enumerate_1 _) (F.newCall_enumerate_1 _) (fun obj => F.args_object_init_2 obj _) F.entry_enumerate_new
    (tr_meets_enumT l items) ⟨hL, ?_⟩
  have hz : (s.heap.push { cls := .type "tuple_iterator", data := .fields #[.ref l, .int 0 0] }).objs.size = s.heap.objs.size + 1 := Heap.size_push ..
  show _ ∧ _
  rw [hz]
  have he : IsEnum ((s.heap.push { cls := .type "tuple_iterator", data := .fields #[.ref l, .int 0 0] }).push
      { cls := .type "enumerate", data := .fields #[.none, .bool false, .ref s.heap.objs.size, rawInt 0, .none, .none] }) (s.heap.objs.size + 1) s.heap.objs.size 0 .none := by
    have := Heap.get?_push_size (s.heap.push { cls := .type "tuple_iterator", data := .fields #[.ref l, .int 0 0] })
      (o := { cls := .type "enumerate", data := .fields #[.none, .bool false, .ref s.heap.objs.size, rawInt 0, .none, .none] }) rfl
    rw [hz] at this; exact this
  refine ⟨⟨_, he, rfl⟩, h _ he ⟨_, Heap.get?_push_of_some _ (Heap.get?_push_size _ rfl), rfl, rfl⟩ (by rw [Heap.size_push, hz]) fun b o x => Heap.get?_push_of_some _ (Heap.get?_push_of_some _ x)⟩
end
end PySem
namespace Tr
open PySem PySem.Spec PyProof.Rows L2
theorem turn_enumT {P : Program} {w : World} {K : PySem.W.Frag} {elts : List Expr} {kk : Nat} {tpos : Pos} (a e it : Addr) :
    Turn P w K (.Tuple elts kk tpos) (IteT K a) [e, it] e (fun i h => (∃ old, IsEnum h e it ((i : Nat) : Int) old) ∧ h.IsTupleIter it a i ∧ e ≠ it) where
  mem := by simp
  obj := fun i h st b hb => by
    obtain ⟨⟨old, he⟩, ⟨o, ho, hc, hd⟩, _⟩ := st
    have e' : b = e ∨ b = it := by simpa using hb
    rcases e' with z | z
    · rw [z]; exact ⟨_, he, fun v q => nomatch q⟩
    · rw [z]; exact ⟨o, ho, fun v q => by rw [hd] at q; cases q⟩
  keep := fun i h h' st k => let ⟨⟨old, he⟩, hi, hne⟩ := st; ⟨⟨old, k e (by simp) _ he⟩, hi.at fun o q => k it (by simp) o q, hne⟩
  item := by
    intro X hP hw hK hc i pins s σ H E I hf st hg
    subst hP hw hK
    obtain ⟨⟨old, he⟩, hit, hne⟩ := st
    obtain ⟨xs, x, hq, hx⟩ := hg
    obtain ⟨its, rv, p, hz⟩ := I.tuple hq
    obtain ⟨u, hu, ru⟩ := rv.get hx
    have hel : e < s.heap.objs.size := Heap.lt_size he
    have hil : it < s.heap.objs.size := by obtain ⟨_, q, _⟩ := hit; exact Heap.lt_size q
    have hae : e ≠ a := fun z => by
      obtain ⟨o, ho, hcl, _⟩ := p
      rw [← z, he] at ho
      cases ho
      exact absurd hcl (by intro q; injection q with q; exact absurd q (by decide))
    have hai : a ≠ it := fun z => by
      obtain ⟨o, ho, hcl, _⟩ := p
      obtain ⟨o2, ho2, hcl2, _⟩ := hit
      rw [z, ho2] at ho
      cases ho
      rw [hcl2] at hcl
      exact absurd hcl (by intro q; injection q with q; exact absurd q (by decide))
    have hxl : i < its.toArray.size := by
      have := (List.getElem?_eq_some_iff.mp hu).1
      simpa using this
    refine wpAny_pyNext_enum_itemD (Draws.tuple (A := X.A.in1) (show X.A.in1.handled = none from I.ok.hd hc) it a hai its.toArray) he ⟨hit, p⟩ hxl hne (fun z => by
      rcases List.mem_cons.mp z with z | z
      · exact hne z
      · exact hae (List.mem_singleton.mp z)) fun x' h' tk hx' ho hst hT hsz hk => ?_
    have hxu : x' = u := by
      have : its[i]? = some x' := by simpa using hx'
      rw [hu] at this; cases this; rfl
    subst hxu
    obtain ⟨hit', _⟩ := hst
    refine ⟨_, rfl, wpAny_letOwnedTupleGo_enum (s := { s with heap := h', toks := tk + 1 }) ho fun h'' he' sb => ?_⟩
    have hT2 : h''.get? s.heap.objs.size = some { cls := .type "tuple", data := .seq #[.int i tk, x'] } := (sb.2 _ (Nat.ne_of_gt hel)).trans hT
    have new : ObjOk X.prog X.w (upd H s.heap.objs.size (.frz { cls := .type "tuple", data := .seq #[.int i tk, x'] } (.tup [.int (i : Nat), x]))) h'' s.heap.objs.size (.frz { cls := .type "tuple", data := .seq #[.int i tk, x'] } (.tup [.int (i : Nat), x])) :=
      ⟨hT2, by show 2 ≤ sizeLine; decide, [.int i tk, x'], .cons ⟨_, rfl⟩ (.cons ru .nil), ⟨_, hT2, rfl, _, rfl⟩⟩
    have I1 : Inv X pins σ (upd H s.heap.objs.size (.frz { cls := .type "tuple", data := .seq #[.int i tk, x'] } (.tup [.int (i : Nat), x]))) { s with heap := h'', toks := tk + 1 } :=
      I.turnedNew (ch := [e, it]) (fun b ob hb q => (sb.2 b (fun z => hb (by simp [z]))).trans (hk b ob (fun z => hb (by simp [z])) (fun z => hb (by simp [z])) q)) hf (Nat.le_refl _) new
    refine ⟨.ref s.heap.objs.size, _, I1, rfl, ⟨_, x, _, rfl, I.hok.fresh (Nat.le_refl _), rfl, rfl, fun ys hy => by rw [I.tuple_inj hy hq]; exact hx⟩, ⟨⟨x', ?_⟩, hit'.at fun o q => (sb.2 it (Ne.symm hne)).trans q, hne⟩, fun b hb => ?_⟩
    · have e1 : ((i + 1 : Nat) : Int) = (i : Int) + 1 := by omega
      rw [e1]; exact he'
    · have hb' : b < s.heap.objs.size := by
        have e' : b = e ∨ b = it := by simpa using hb
        rcases e' with z | z
        · rw [z]; exact hel
        · rw [z]; exact hil
      rw [upd_ne (Nat.ne_of_lt hb')]
      exact (hf b hb).1
  done := by
    intro X hP hw hK hc i pins s σ H E I hf st hg
    subst hP hw hK
    obtain ⟨⟨old, he⟩, hit, hne⟩ := st
    obtain ⟨xs, hq, hx⟩ := hg
    obtain ⟨its, rv, p, hz⟩ := I.tuple hq
    obtain ⟨f0, f1, f2, f3, f4, f5⟩ := hf it (by simp)
    have hl := rv.length
    have hai : a ≠ it := fun z => by
      obtain ⟨o, ho, hcl, _⟩ := p
      obtain ⟨o2, ho2, hcl2, _⟩ := hit
      rw [z, ho2] at ho
      cases ho
      rw [hcl2] at hcl
      exact absurd hcl (by intro q; injection q with q; exact absurd q (by decide))
    have hA : X.A.in1.handled = none := I.ok.hd hc
    refine wpAny_pyNext_enum_endD (St := fun j h => (h.IsTupleIter it a i ∧ h.IsTuple a its.toArray) ∧ its.toArray.size ≤ j) (P := fun j v => False) (n := its.toArray.size) (fp := [it, a]) ?_ he ⟨⟨hit, p⟩, Nat.le_refl _⟩ fun h' eb => ⟨rfl, I.turned (t' := s.toks) (fun b o hb q => eb b o hb q) f0 f1 f3 f4 f5⟩
    exact {
      live := fun _ _ st => let ⟨o, ho, _⟩ := st.1.1; ⟨o, ho⟩
      frame := fun _ _ _ st hk => ⟨⟨st.1.1.at fun o e => hk it (by simp) o e, st.1.2.at fun o e => hk a (by simp) o e⟩, st.2⟩
      item := fun j s Q E hi st hQ => absurd st.2 (by omega)
      done := fun s Q E st hE => wpAny_nextOf_tuple_end hA st.1.1 st.1.2 (by simp; omega) hE }
  self := fun A i s Q E st h => let ⟨⟨_, he⟩, _⟩ := st; wpAny_pyIter_enum he h
end Tr
namespace Tr
open PySem PySem.Spec PyProof.Rows L2
section
variable {X : Cx} {e a b c elt tg iter : Expr} {ifs es : List Expr} {Wx : WX} {p pos tpos : Pos} {ga : Mo D} {elts : List Expr} {kk : Nat}
def iEnT (K : PySem.W.Frag) (ta : TA) : TI := fun σ H R => ta σ H fun vs H1 => ∃ a xs, vs = [.ref a] ∧ SqT K H1 a xs ∧ R (IteT K a) H1
theorem pi_enumT (hg : Gl X "enumerate") (hm : X.mg "enumerate" = none) {ta : TA} (ha : PA X [e] ta) (hs : starEach [e] X.env = [(false, eval e X.env)] := by rfl) :
    PI X (.Tuple elts kk tpos) (.Call (.Name "enumerate" p) [e] [] pos) (iEnT X.K ta) := by
  refine ⟨fun pins s σ H R I h => ?_⟩
  refine Call_ (ld_blt I hg hm boot_enumerate (PyProof.Rows.callWith_type1 (thn (ha.run pos pins s σ H _ I h) fun us s1 ⟨vs, H1, I1, r1, q1⟩ => ?_) hs rfl))
  obtain ⟨a, xs, ex, hq, q⟩ := q1
  subst ex
  cases r1 with
  | cons r rr =>
    cases rr
    cases r
    obtain ⟨its, rv, p', hz⟩ := I1.tuple hq
    refine tr_call_enumT p' fun h' he hit hsz hk => wpAny_pyIter_enum he ?_
    have I2 : Inv X pins σ H1 { s1 with heap := h' } := I1.kept (t' := s1.toks) hk
    refine ⟨s1.heap.objs.size + 1, [s1.heap.objs.size + 1, s1.heap.objs.size], _, _, H1, rfl, I2, turn_enumT a (s1.heap.objs.size + 1) s1.heap.objs.size, ⟨⟨.none, he⟩, hit, Nat.succ_ne_self _⟩, fun b hb => ?_, q⟩
    have e' : b = s1.heap.objs.size + 1 ∨ b = s1.heap.objs.size := by simpa using hb
    have hle : s1.heap.objs.size ≤ b := by
      rcases e' with z | z
      · rw [z]; exact Nat.le_add_right _ _
      · rw [z]; exact Nat.le_refl _
    exact I1.fpOk hle (I1.hok.fresh hle)
/-- the items with their places -/
def enumD (ds : List D) : List D := ds.mapIdx fun i d => .tup [.int (i : Nat), d]
def itE (f : Mo D) : Mo (List D) := fun ρ => match f ρ with
  | some (.ok (.tup ds) ρ') => some (.ok (enumD ds) ρ')
  | some (.ex c fs ρ') => some (.ex c fs ρ')
  | _ => none
theorem wk_enumT {K : PySem.W.Frag} {G : Hp} {a : Addr} {ds : List D} {xs : List V} (h : SqT K G a xs) (r : Reps K G ds xs) (hz : ds.length ≤ sizeLine) : Wk K (IteT K a) G (enumD ds) where
  len := by simpa [enumD] using hz
  go := fun i H e hi => by
    have hi' : i < ds.length := by simpa [enumD] using hi
    obtain ⟨x, hx, _⟩ := r.get (List.getElem?_eq_getElem hi')
    exact ⟨xs, x, SqT_same e h, hx⟩
  stop := fun i H e hi => ⟨xs, SqT_same e h, by rw [← r.len]; simpa [enumD] using hi⟩
  yld := fun i H x H' d e hd hy G0 eg eh => by
    obtain ⟨T, x, o, rfl, hT, ho, rfl, hy⟩ := hy
    rw [enumD, List.getElem?_mapIdx] at hd
    cases h1 : ds[i]? with
    | none => rw [h1] at hd; cases hd
    | some d0 =>
      rw [h1] at hd
      cases hd
      obtain ⟨y, hy2, ry⟩ := r.get h1
      have := hy xs (SqT_same e h)
      rw [hy2] at this; cases this
      exact ⟨_, .nw T _ hT, Rep.newT ho (by rw [Reps]; exact ⟨_, _, rfl, Rep.i.mpr rfl, by rw [Reps]; exact ⟨_, _, rfl, ry.mono eg, by rw [Reps]⟩⟩) (eh.free hT) (by show 2 ≤ sizeLine; decide)⟩
theorem i_enumT (hg : Gl X "enumerate") (hm : X.mg "enumerate" = none) (h : PE X e (tV X.K X.mg Wx ga)) (hs : starEach [e] X.env = [(false, eval e X.env)] := by rfl) :
    PI X (.Tuple elts kk tpos) (.Call (.Name "enumerate" p) [e] [] pos) (tI X.K X.mg Wx (itE ga)) := (pi_enumT hg hm (pa_cons h pa_nil (by rw [hs]; rfl)) hs).wk fun σ H Q ⟨g, ρ, T, G, W, hR, k⟩ => by
  refine ⟨g, ρ, T, G, W, hR, ?_⟩
  unfold itE at k
  cases h1 : ga ρ with
  | none => rw [h1] at k; exact k.elim
  | some r =>
    rw [h1] at k
    cases r with
    | ex c fs ρ' => exact k
    | ok d ρ' =>
      intro v H' G' W' R' eg r
      cases d with
      | tup ds =>
        obtain ⟨a, xs, rfl, hs, hr⟩ := r.tp
        exact ⟨a, xs, rfl, SqT_same R'.gh hs, k _ H' G' W' R' eg (wk_enumT hs hr (r.sql rfl))⟩
      | _ => exact k.elim
end
end Tr
namespace PySem.W
open PySem PySem.Calls PyProof.Rows
section
variable {prog : Program} {w : World} {A : Around} {E : Value → Shared → Prop} {s : Shared} {h₀ : Heap} {L : Addr} {m mg mb : Str → Option Value} {news : List (Addr × Obj)} {K : Frag} {x C D f cc cda : Addr} {ox : Obj} {odx : Option Obj}
theorem tr_node {body : List Stmt} {q : Str} {scope : Scope} {p0 p1 : Pos} {attr : Str} {whole : Sem Value} {fd : FuncData} {ar : Arg} {vs : Array Value} {file : Str} {tf : Tok} {oc ccl cl : Value} {od cdd cld : Option Addr} {osl ccs csl : Array (Option Value)} {cdD : ClassData} {Q : Value → Shared → Prop}
    (F : Fr h₀ L s.heap m) (X₀ : K.In h₀) (N : News h₀ L s.heap news) (G : h₀.Ns mainGlobals mg) (B : h₀.Ns builtinsNs mb) (hmb : mb "super" = some (.type "super")) (hmg : mg "super" = none)
    (hf : K.lookup f = some ⟨oc, od, .func fd, osl⟩) (hp : (fd.params.posonlyargs ++ fd.params.args).head? = some ar) (hv : m ar.arg = some (.ref x)) (I : InstAt s.heap x ox C odx)
    (hcode : K.lookup cda = some ⟨ccl, cdd, .fields vs, ccs⟩) (hvs : vs[2]? = some (.str file tf)) (hfile : ((prog.main.file : Str) == file) = true)
    (hcell : K.lookup cc = some ⟨cl, cld, .cell (some (.ref D)), csl⟩) (hD : clsIn K D = some cdD) (hsub : mroIn K C (.ref D) = some true)
    (hat : (attr == ("__class__" : Str)) = false) (hks : scope.names.lookup ("super" : Str) = some .globalImplicit) (hkc : scope.names.lookup ("__class__" : Str) = some .free) (hka : scope.names.lookup ar.arg = some .local) (hk : scope.kind = .function)
    (htop : (prog.main.scope.names.lookup ("super" : Str)).isSome = false)
    (h : ∀ so h', Fr h₀ L h' m → News h₀ L h' ((so, ks_superObj D x C) :: news) → (∀ p ∈ news, p.1 < so) → Q (.ref so) { s with heap := h' }) :
    _root_.PySem.wpAt (model prog w) A (.func body (ksEnv q scope L f (.ref cda) cc)) (attributeBase (.Call (.Name "super" p0) [] [] p1) attr (ksEnv q scope L f (.ref cda) cc) whole) Q E s := by
  have X : K.In s.heap := X₀.keeps F.keep
  obtain ⟨hh, g, d, t, os⟩ := s
  obtain ⟨oD, hD1, hD2⟩ : ∃ oD, hh.get? D = some oD ∧ oD.data = .cls cdD := by
    unfold clsIn at hD
    split at hD
    · rename_i c d cd' sl ho
      cases hD
      exact ⟨_, X _ _ ho, rfl⟩
    · cases hD
  refine ks_wpAt_super_base (env := ksEnv q scope L f (.ref cda) cc) hks hkc hat rfl (X _ _ hf) rfl hp rfl (X _ _ hcode) rfl hvs hfile htop ?_
  refine ks_loadName_global hk hks (loadGlobal_builtin (env := ksEnv q scope L f (.ref cda) cc) (G.keeps F.keep) hmg (B.keeps F.keep) hmb ⟨rfl, ?_⟩)
  refine wpAny_loadName_free hk hkc rfl ⟨_, X _ _ hcell, rfl⟩ ?_
  refine wpAny_loadName_local hk hka F.ns hv ?_
  refine ks_wpAny_isType_cls hD1 hD2 ⟨rfl, ?_⟩
  refine ks_wpAny_call_super hD1 hD2 I.at_ I.cls (fun c e => ?_) (looks_mroIn X hsub) (fun h' e k => ?_)
  · have := I.no
    unfold notCls at this
    rw [e] at this
    exact Bool.noConfusion this
  · obtain ⟨F', N', l'⟩ := ks_newsPush (s := ⟨hh, g, d, t, os⟩) F N rfl e k
    exact h _ _ F' N' l'
end
end PySem.W
namespace Tr
open PySem PySem.Spec PyProof.Rows L2
/-- an exception class whose __init__ hands a text upwards, then keeps its argument -/
def spI (C : Addr) (fl : Str) : Sp := fun vs H Q _ => ∃ (a : Addr) (v : V), vs = [.ref a, v] ∧ H a = some (exo a C none) ∧ ∀ dx, H dx = none → dx ≠ a → Q .non (upd (upd H dx (exd dx [(fl, v)])) a (exo a C (some dx)))
theorem init_ok {CX : CXT} {P : Program} {w : World} {K : PySem.W.Frag} {mg : Str → Option Value} {base : Heap} {k : Nat} {f C cc cda : Addr} {name qual fl z : Str} {params : Arguments} {scope : Scope} {dV kV doc pm ct oc ccl cl : Value} {an od cdd cld : Option Addr}
    {osl ccs csl : Array (Option Value)} {cd : ClassData} {p0 p1 p2 p3 p4 p5 p6 p7 p8 pz : Pos} {kz : Nat} {vs : Array Value} {file : Str} {tf : Tok} {ar : Arg} (T : OexC K C)
    (lk : K.lookup f = some ⟨oc, od, .func (PySem.W.ksFn name qual params [.Expr (.Call (.Attribute (.Call (.Name "super" p0) [] [] p1) "__init__" p2) [.Constant (.str z) kz pz] [] p3) p4, .Assign [.Attribute (.Name "self" p5) fl p6] (.Name fl p7) p8] scope dV kV doc pm an (.ref cda) ct cc), osl⟩)
    (hcd : PySem.W.codeIn K (.ref cda) qual = true)
    (hp : (params.posonlyargs ++ params.args).head? = some ar) (har : ar.arg = "self")
    (hcode : K.lookup cda = some ⟨ccl, cdd, .fields vs, ccs⟩) (hvs : vs[2]? = some (.str file tf)) (hfile : ((P.main.file : Str) == file) = true)
    (hcell : K.lookup cc = some ⟨cl, cld, .cell (some (.ref C)), csl⟩) (hC : PySem.W.clsIn K C = some cd) (hsub : PySem.W.mroIn K C (.ref C) = some true)
    (ho : PySem.W.nsIn K cStatics "thirdparty.any" = some none) (hm : PySem.W.ks_superIn K C C "__init__" = some (some (.builtin "ValueError.__init__"))) (hB : PySem.W.subIn K (.ref C) (.type "ValueError") = some true)
    (hx : PySem.W.excInitIn K C [.type "ValueError", .type "Exception", .type "BaseException", .type "object"] "ValueError.__new__" = true) (hno : PySem.W.findIn K (.ref C) fl = some none) (hmg : mg "super" = none)
    (hks : scope.names.lookup ("super" : Str) = some .globalImplicit) (hkc : scope.names.lookup ("__class__" : Str) = some .free) (hka : scope.names.lookup ("self" : Str) = some .local) (hkf : scope.names.lookup fl = some .local) (hk : scope.kind = .function)
    (htop : (P.main.scope.names.lookup ("super" : Str)).isSome = false) (hcl : ∀ x ∈ scope.names, x.2 ≠ .cell) (hco : scope.isCoroutine = false) (hgen : scope.isGenerator = false) (hfd : (fl == ("__debug__" : Str)) = false) (hfs : fl ≠ ("self" : Str)) {pl : Sem Bool}
    (hev : ∀ L, eval (.Call (.Attribute (.Call (.Name "super" p0) [] [] p1) "__init__" p2) [.Constant (.str z) kz pz] [] p3) (PySem.W.ksEnv qual scope L f (.ref cda) cc) = (do
      let ov ← attributeBase (.Call (.Name "super" p0) [] [] p1) "__init__" (PySem.W.ksEnv qual scope L f (.ref cda) cc) (eval (.Call (.Name "super" p0) [] [] p1) (PySem.W.ksEnv qual scope L f (.ref cda) cc))
      standAt p2.atName
      let (f1, first) ← holding [ov] (getMethod ov "__init__" pl)
      callWith p3 f1 first (backTo p3 (starEach [.Constant (.str z) kz pz] (PySem.W.ksEnv qual scope L f (.ref cda) cc))) []))
    (hin : ∀ L, interactive (PySem.W.ksEnv qual scope L f (.ref cda) cc) = false)
    (hs1 : ∀ L, swapsWith (.Call (.Attribute (.Call (.Name "super" p0) [] [] p1) "__init__" p2) [.Constant (.str z) kz pz] [] p3) none p4.line (PySem.W.ksEnv qual scope L f (.ref cda) cc) = pure false)
    (hs2 : ∀ L, swapsWith (.Name fl p7) (some (.Attribute (.Name "self" p5) fl p6)) p8.line (PySem.W.ksEnv qual scope L f (.ref cda) cc) = pure false)
    (hst : ∀ L, starEach [.Constant (.str z) kz pz] (PySem.W.ksEnv qual scope L f (.ref cda) cc) = [(false, eval (.Constant (.str z) kz pz) (PySem.W.ksEnv qual scope L f (.ref cda) cc))]) :
    FnOk P w K mg base CX (k + 1) f (PySem.W.ksFn name qual params [.Expr (.Call (.Attribute (.Call (.Name "super" p0) [] [] p1) "__init__" p2) [.Constant (.str z) kz pz] [] p3) p4, .Assign [.Attribute (.Name "self" p5) fl p6] (.Name fl p7) p8] scope dV kV doc pm an (.ref cda) ct cc) ["self", fl] (spI C fl) := by
  refine ⟨fun vs H Q E ⟨a, v, e, _⟩ => by rw [e]; rfl, fun A outer s H args us vs Q E hr e0 hb r hsp => ?_⟩
  have md := e0.mod
  obtain ⟨a, v, rfl, ea, hq⟩ := hsp
  obtain ⟨u0, u, rfl, ra, rv⟩ : ∃ u0 u, us = [u0, u] ∧ RelV (.ref a) u0 ∧ RelV v u := by
    cases r with
    | cons r1 rr => cases rr with | cons r2 r3 => cases r3; exact ⟨_, _, rfl, r1, r2⟩
  obtain rfl : u0 = Value.ref a := ra
  obtain ⟨t0, hoe⟩ := exo_at e0.hok ea
  obtain ⟨mb, hbn, hbb⟩ := md.blt
  have bas : ∀ b o, base.get? b = some o → s.heap.get? b = some o ∧ b ≠ a := fun b o q => ⟨(e0.bs b o q).1, fun z => by have := (e0.bs b o q).2; rw [z, ea] at this; cases this⟩
  have KX : K.In s.heap := md.kin.keeps fun b o q => (bas b o q).1
  have hidk : ∀ b o, base.get? b = some o → (PySem.W.hideAll s.heap [a]).get? b = some o := fun b o q => PySem.W.hideAll_get _ (bas b o q).1 (by simpa using (bas b o q).2)
  have hme : ∀ y, (([(("self" : Str), Value.ref a), (fl, u)] : List (Str × Value)).reverse.lookup y) = if y = fl then some u else if y = ("self" : Str) then some (.ref a) else none := fun y => by
    show List.lookup y [(fl, u), (("self" : Str), Value.ref a)] = _
    rw [List.lookup_cons]
    by_cases h1 : y = fl
    · simp [h1]
    · rw [if_neg h1]
      have : (y == fl) = false := by simpa using h1
      rw [this]
      simp only [List.lookup_cons]
      by_cases h2 : y = ("self" : Str)
      · simp [h2]
      · have : (y == ("self" : Str)) = false := by simpa using h2
        rw [this, if_neg h2]; rfl
  refine PySem.ks_codeAny_call_defAt (binds := [(("self" : Str), .ref a), (fl, u)]) hr.depth (KX _ _ lk) rfl (md.nolimit.keeps fun b o q => (bas b o q).1) (PySem.W.codeRec_of KX hcd) rfl hb hcl (fun x hx => ?_) (fun h1 hns hk1 => ?_) hco hgen hk
  · simp only [List.mem_cons, List.mem_nil_iff, or_false] at hx
    rcases hx with rfl | rfl
    · exact hka
    · exact hkf
  obtain ⟨hp0, g, d, t, os⟩ := s
  have al : a < hp0.objs.size := Heap.lt_size hoe
  have F1 : Fr (PySem.W.hideAll hp0 [a]) hp0.objs.size h1 (fun y => ([(("self" : Str), Value.ref a), (fl, u)] : List (Str × Value)).reverse.lookup y) := ⟨hns, fun b o q => hk1 b o (PySem.W.of_hideAll _ q), Nat.le_of_eq (PySem.W.hideAll_size _ _)⟩
  have X0 : K.In (PySem.W.hideAll hp0 [a]) := md.kin.keeps hidk
  have N1 : News (PySem.W.hideAll hp0 [a]) hp0.objs.size h1 [(a, PySem.W.excObj C t0 none .none)] := by
    intro p hp
    simp only [List.mem_cons, List.mem_nil_iff, or_false] at hp
    subst hp
    exact ⟨hk1 _ _ hoe, Nat.ne_of_lt al, PySem.W.hideAll_none _ (List.mem_cons_self ..)⟩
  have X1 : K.In h1 := X0.keeps F1.keep
  show PySem.wpAt _ _ (.func _ (PySem.W.ksEnv qual scope hp0.objs.size f (.ref cda) cc)) (execs _ (PySem.W.ksEnv qual scope hp0.objs.size f (.ref cda) cc)) _ _ _
  refine PySem.ks_wpAt_execs_cons (PySem.ks_wpAt_Expr_any (PySem.ks_wpAt_MethodCall (pl := pl) ?_ (hev _)) (hin _) (hs1 _))
  refine PySem.W.tr_node F1 X0 N1 (md.glob.keeps hidk) (hbn.keeps hidk) (hbb _ (by decide)) hmg lk hp ?_ (PySem.W.InstAt.of_exc0 N1 (List.mem_cons_self ..)) hcode hvs hfile hcell hC hsub (by decide) hks hkc (by rw [har]; exact hka) hk htop ?_
  · rw [har]; exact (hme _).trans (by rw [if_neg (Ne.symm hfs), if_pos rfl])
  intro so h2 F2 N2 l2
  refine PySem.W.kxs_method PySem.W.kxs_ValueError F2 X0 N2 (List.mem_cons_self ..) (PySem.W.InstAt.of_exc0 N2 (List.mem_cons_of_mem _ (List.mem_cons_self ..))) ho hm hB (by decide) ?_
  intro q h3 F3 N3 l3
  refine PySem.W.kxs_callWith1 (i := "ValueError.__init__") (x := a) N3 (List.mem_cons_self ..) ?_ (hst _) rfl
  rw [hst]
  show wpAny _ _ (spliced ((false, eval (.Constant (.str z) kz pz) (PySem.W.ksEnv qual scope hp0.objs.size f (.ref cda) cc)) :: [])) _ _ _
  refine Calls.spliced_cons (Calls.Constant_str (x := z) (k := kz) (pos := pz) (Calls.spliced_nil ⟨PySem.W.kxs_at N3 (List.mem_cons_self ..), ?_⟩))
  have d1 : (so, PySem.W.ks_superObj C a C).1 ≠ a := Nat.ne_of_gt (l2 _ (List.mem_cons_self ..))
  have d2 : (q, PySem.W.kxs_mw "ValueError.__init__" a).1 ≠ a := Nat.ne_of_gt (l3 _ (List.mem_cons_of_mem _ (List.mem_cons_self ..)))
  refine PySem.W.kxs_call F3 X0 N3 PySem.F.excBase_ValueError hx (List.mem_cons_self ..) (.tail d2 (.tail d1 (.head fun p hp => nomatch hp))) (by show 1 ≤ sizeLine; decide) ?_
  intro t' h4 F4 N4 l4
  refine PySem.ks_wpAt_execs_cons (PySem.wpAt_of_wpAny ?_)
  refine plainObj_wpAny_Assign_Attribute ?_ (hs2 _)
  have ha4 : h4.get? a = some (PySem.W.excObj C t' none .none) := (N4 (a, PySem.W.excObj C t' none .none) (by simp)).1
  refine wpAny_Name (wpAny_loadName_local hk hkf F4.ns ((hme _).trans (if_pos rfl)) ?_) hfd
  refine wpAny_Name (wpAny_loadName_local hk hka F4.ns ((hme _).trans (by rw [if_neg (Ne.symm hfs), if_pos rfl])) ?_) (by decide)
  have X4 : K.In h4 := X0.keeps F4.keep
  obtain ⟨nm, q', N', bs, bm, sn, sub, ab, col, dd, k0, k1, k2, k3, k5, hCC, hbm⟩ := T.cls
  have hcl' : PySem.W.clsIn K C = some { name := nm, bases := bs, mro := .ref C :: bm, ns := N', qualname := q', hasDict := true, slotNames := sn, subclasses := sub, abstract := ab, collection := col, hasDel := false } := by unfold PySem.W.clsIn; rw [hCC] <;> rfl
  refine PySem.W.set_plain X4 (ox := { cls := .ref C, dict := none, data := .fields #[.ref t', .none, .none, .none, .bool false, .none] }) (od := none) ⟨ha4, rfl, rfl, trivial⟩ T.sa ?_
  refine PySem.HandSPX.exc_osa X4 ha4 hcl' (show PySem.HandSPX.refsVE (.ref C :: bm) = true from hbm) rfl hno (fun h' tk' dx k dn dne hx' hn => ?_)
  have hnd : H dx = none := by
    cases z : H dx with
    | none => rfl
    | some o' =>
      obtain ⟨o2, z2⟩ := objOk_get (e0.hok dx o' z)
      have := F4.keep dx o2 (PySem.W.hideAll_get _ z2 (by simpa using dne))
      exact absurd (Heap.lt_size this) (Nat.not_lt.mpr dn)
  have kall : ∀ b o, b ≠ a → hp0.get? b = some o → h'.get? b = some o := fun b o hb q => k b o hb (F4.keep b o (PySem.W.hideAll_get _ q (by simpa using hb)))
  have nd : ∀ {b : Addr} {o : Obj}, hp0.get? b = some o → b ≠ a → b ≠ dx := fun {b o} q hb => Nat.ne_of_lt (Nat.lt_of_lt_of_le (Heap.lt_size (F4.keep b o (PySem.W.hideAll_get _ q (by simpa using hb)))) dn)
  have na : ∀ {b : Addr}, H b = none → b ≠ a := fun {b} n z => by
    rw [z, ea] at n
    cases n
  refine PySem.wpAt_of_wpAny (wpAny_execs_nil ?_)
  show CE outer P w H _ Q Value.none _
  refine ⟨.non, upd (upd H dx (exd dx [(fl, v)])) a (exo a C (some dx)), rfl, e0.bare, ?_, ?_, rfl, hq dx hnd dne⟩
  · exact {
      keep := fun b o q n _ _ => kall b o (na n) q
      slot := fun b o q n _ _ => ⟨o.slots, kall b o (na n) q⟩
      free := fun b o q n _ => by rw [upd_ne (na n), upd_ne (nd q (na n))]; exact n
      there := fun b o q _ => by
        by_cases hb : b = a
        · exact ⟨_, by rw [hb]; exact hx'⟩
        · exact ⟨o, kall b o hb q⟩
      tups := fun b xs q => by rw [upd_ne (at_ne ea q exo_tup), upd_ne (ne_of_none q hnd)]; exact q
      frzs := fun b o v q => by rw [upd_ne (at_ne ea q exo_frz), upd_ne (ne_of_none q hnd)]; exact q
      tbls := fun b ps q => ⟨#[], by rw [upd_ne (at_ne ea q exo_tbl), upd_ne (ne_of_none q hnd), q]; simp⟩ }
  · intro b o q
    by_cases hb : b = a
    · subst hb
      rw [upd_same] at q
      cases q
      exact exo_ok hx'
    · rw [upd_ne hb] at q
      by_cases hd : b = dx
      · subst hd
        rw [upd_same] at q
        cases q
        exact exd_ok hn (relO_put (fs := []) rv fun g => True.intro)
      · rw [upd_ne hd] at q
        exact (e0.hok b o q).stay (fun c v hc z => kall c v (by
            rcases hc with hc | hc
            · rw [hc]
              exact hb
            · exact at_ne ea hc exo_own) z)
          (fun c hc => by rw [upd_ne (at_ne ea hc exo_own), upd_ne (ne_of_none hc hnd)]; exact hc) (fun c xs hc => by rw [upd_ne (at_ne ea hc exo_tup), upd_ne (ne_of_none hc hnd)]; exact hc)
end Tr
namespace Tr
open PySem PySem.Spec PyProof.Rows L2
theorem FsRep.rf {K : PySem.W.Frag} {G : Hp} : ∀ {fs : List (Str × D)} {fv : List (Str × V)}, FsRep K G fs fv → RepF K G fs fv
  | [], fv, ⟨h1, _⟩ => by
    cases fv with
    | nil => rw [RepF]
    | cons a b => cases h1
  | (k, d) :: fs, fv, ⟨h1, h2⟩ => by
    cases fv with
    | nil => cases h1
    | cons a b =>
      obtain ⟨k2, x⟩ := a
      simp only [List.map_cons, List.cons.injEq] at h1
      obtain ⟨rfl, h1⟩ := h1
      rw [List.map_cons, List.map_cons, Reps] at h2
      obtain ⟨y, r, e, r1, r2⟩ := h2
      cases e
      rw [RepF]
      exact ⟨_, _, rfl, r1, FsRep.rf ⟨h1, r2⟩⟩
theorem RepF.look {K : PySem.W.Frag} {G : Hp} {f : Str} {d : D} : ∀ {fs : List (Str × D)} {fv : List (Str × V)}, RepF K G fs fv → fs.lookup f = some d → ∃ v, fv.lookup f = some v ∧ Rep K G d v
  | [], _, _, e => by cases e
  | (k, d0) :: fs, fv, h, e => by
    rw [RepF] at h
    obtain ⟨x, r, rfl, r1, r2⟩ := h
    rw [List.lookup_cons] at e ⊢
    cases hk : (f == k) with
    | true => rw [hk] at e; cases e; exact ⟨x, rfl, r1⟩
    | false => rw [hk] at e; exact RepF.look r2 e
theorem Rep.er {K : PySem.W.Frag} {G : Hp} {a c dd : Addr} {fs : List (Str × D)} {v : V} : Rep K G (.er a c dd fs) v ↔ v = .ref a ∧ ∃ ys, G dd = some (.xd ys) ∧ RepF K G fs ys := by rw [Rep]
section
variable {X : Cx} {e a : Expr} {Wx : WX} {p pos : Pos} {ga : Mo D}
/-! ### raise -/
def raiS (c fl : Str) (f : Mo D) : MS := fun ρ => match f ρ with
  | some (.ok d ρ') => some (.ex c [(fl, d)] ρ')
  | some (.ex c fs ρ') => some (.ex c fs ρ')
  | none => none
theorem s_raise {x fl : Str} {C fI : Addr} {k : Nat} {fd : FuncData} {p2 : Pos} (hc : X.calm = true) (tk : Takes X Wx) (T : OexC X.K C) (iC : PySem.W.findIn X.K (.ref C) "__init__" = some (some (.ref fI))) (tI : PySem.W.typeIn X.K (.ref fI) = some (.type "function"))
    (F1 : FnOk X.prog X.w X.K X.mg X.base (fun _ _ _ _ _ _ => False) k fI fd ["self", fl] (spI C fl)) (hr : Room (k + 1) X.A) (hb : Binds X.K fd ["self", fl] []) (hg : Gl X x) (hm : X.mg x = some (.ref C)) (ha : PE X e (tV X.K X.mg Wx ga))
    (hdb : (x == ("__debug__" : Str)) = false := by decide) (he : starEach (e :: []) X.env = (false, eval e X.env) :: starEach [] X.env := by rfl) (hpl : (backTo pos (starEach [] X.env)).any (·.1) = false := by rfl) :
    PS X (.Raise (some (.Call (.Name x p) [e] [] pos)) none p2) (tS X.K X.mg Wx (raiS x fl ga)) :=
  (ps_raise hc tk (pmk_oex (ds := []) (dvs := []) T iC tI F1 hr hb .nil (fun _ _ _ _ _ _ _ h => h.elim) hg hm (pa_cons ha pa_nil he) hdb he hpl)).wk fun D σ H ⟨g, ρ, T, G, W, hR, k⟩ => by
    refine ⟨g, ρ, T, G, W, hR, ?_⟩
    unfold raiS at k
    cases h1 : ga ρ with
    | none => rw [h1] at k; exact k.elim
    | some r =>
      rw [h1] at k
      cases r with
      | ex c fs ρ' => exact k
      | ok d ρ' =>
        intro v H1 G1 W1 R1 eg1 rv
        refine ⟨by show 1 ≤ 1000; decide, fun a ea => ⟨a, v, rfl, upd_same, fun dx hdx hne => ⟨rfl, dx, [(fl, v)], upd_same, ?_, ?_, ?_⟩⟩⟩
        · rw [upd_ne hne, upd_same]
        · rw [upd_ne hne] at hdx; exact hdx
        · rw [upd_ne hne] at hdx
          have eH : upd (del (upd (upd (upd H1 a (exo a C none)) dx (exd dx [(fl, v)])) a (exo a C (some dx))) a) dx (.xd [(fl, v)]) = upd H1 dx (.xd [(fl, v)]) := by
            funext b
            by_cases hb : b = dx
            · subst hb; rw [upd_same, upd_same]
            · rw [upd_ne hb, upd_ne hb]
              by_cases hba : b = a
              · subst hba; rw [del_same]; exact ea.symm
              · rw [del_ne hba, upd_ne hba, upd_ne hb, upd_ne hba]
          rw [eH]
          exact k C dx [(fl, v)] σ _ (upd G1 dx (.xd [(fl, v)])) W1 hm (R1.new hdx) (eg1.trans (same_upd (R1.gh.free hdx))) upd_same ⟨rfl, Reps.one (rv.mono (same_upd (R1.gh.free hdx)))⟩
/-! ### try: .. except C as n: .. -/
open Classical in
noncomputable def uni (f : Addr → Addr → Option So) : Option So := if h : ∃ r, ∀ a d, f a d = some r then some h.choose else none
theorem uni_eq {f : Addr → Addr → Option So} {r : So} (h : ∀ a d, f a d = some r) : uni f = some r := by
  unfold uni
  have hx : ∃ r, ∀ a d, f a d = some r := ⟨r, h⟩
  rw [dif_pos hx]
  have := hx.choose_spec 0 0
  rw [h] at this
  exact this.symm
theorem uni_all {f : Addr → Addr → Option So} {r : So} (h : uni f = some r) : ∀ a d, f a d = some r := by
  unfold uni at h
  split at h
  · rename_i hx
    intro a d
    have := hx.choose_spec a d
    rw [this]; exact h
  · cases h
/-- the slot of the error is emptied -/
def So.clr (i : Nat) : So → So
  | .nx ρ => .nx (ρ.set i .no)
  | .bk ρ => .bk (ρ.set i .no)
  | .ct ρ => .ct (ρ.set i .no)
  | .rt o ρ => .rt o (ρ.set i .no)
  | r => r
/-- a suite's end, the slot of the error emptied; no error leaves it -/
def clrO (i : Nat) : Option So → Option So
  | some (.ex _ _ _) => none
  | some r => some (r.clr i)
  | none => none
noncomputable def tryS (mt : Str → Option (Option Addr)) (i : Nat) (mb : MS) (m : Addr → Addr → Addr → MS) : MS := fun ρ => match mb ρ with
  | some (.ex c fs ρ1) => (match mt c with
    | some none => some (.ex c fs ρ1)
    | some (some C) => if stb i ρ1 = true then uni (fun a d => clrO i (m a C d (ρ1.set i (.ow (.fr (.er a C d fs)))))) else none
    | none => none)
  | r => r
theorem R.noS' {K : PySem.W.Frag} {g : Gs} {ρ : Rho} {T : List (O × V)} {σ : L2.St} {H G : Hp} {W : Own} {i : Nat} (h : R K g ρ T σ H G W) : R K g (ρ.set i .no) T σ H G W := by
  have := h.noS (i := i) (x := (σ[i]?).join)
  have e : σ.set i (σ[i]?).join = σ := by
    apply List.ext_getElem?
    intro j
    by_cases hj : i = j
    · subst hj
      by_cases hi : i < σ.length
      · rw [List.getElem?_set_self hi, List.getElem?_eq_getElem hi]; rfl
      · rw [List.getElem?_eq_none (by rw [List.length_set]; omega), List.getElem?_eq_none (by omega)]
    · rw [List.getElem?_set_ne hj]
  rw [e] at this
  exact this
theorem s_try {x n : Str} {c : Value} {i : Nat} {body suite : List Stmt} {b₀ : Stmt} {np pos' : Pos} {mt : Str → Option (Option Addr)} {mb : MS} {m : Addr → Addr → Addr → MS} (hs : X.stack = X.env :: X.outer) (hf : X.env.frame = some X.env.locals) (hN : X.N.Nodup) (hi : X.N[i]? = some n) (hln : X.env.kindOf n = some .local) (hc : Names X x c) (tk : Takes X Wx)
    (hmt : ∀ cn C, X.mg cn = some (.ref C) → (mt cn = some none → PySem.W.exmOne X.K (.ref C) c = some false) ∧ ∀ C0, mt cn = some (some C0) → C = C0 ∧ PySem.W.exmOne X.K (.ref C) c = some true)
    (hb : ∀ (W : WX) (pn : List (Addr × Obj)) (xe : Value → Shared → Prop), Takes (X.tr pn xe) W → PassesOwn (model X.prog X.w) X.A X.env xe → PSs (X.tr pn xe) body (tS X.K X.mg W mb))
    (hsu : ∀ (a : Addr) (oe : Obj) (C dd : Addr) (pn : List (Addr × Obj)), Zc (.ref C) (some dd) oe → (∃ vs, oe.data = .fields vs) → PSs (X.suite a ((a, oe) :: pn)) (b₀ :: suite) (tS X.K X.mg W0 (m a C dd))) :
    PS X (.Try body [.ExceptHandler (some (.Name x np)) (some n) (b₀ :: suite) pos'] [] [] pos) (tS X.K X.mg Wx (tryS mt i mb m)) := by
  refine (ps_try_as (tb := fun W => tS X.K X.mg W mb) (ts := fun a cls d D σ H => ∃ C dd, cls = .ref C ∧ d = some dd ∧ tS X.K X.mg W0 (m a C dd) D σ H) hs hf hN hi hln hc tk hb (fun a oe cls d pn hz hfs => ⟨fun pins s σ H D I ⟨C, dd, e1, e2, h⟩ => ?_⟩)).wk fun D σ H ⟨g, ρ, T, G, W, hR, k⟩ => ?_
  · subst e1 e2
    exact (hsu a oe C dd pn hz hfs).run pins s σ H D I h
  refine ⟨g, ρ, T, G, W, hR, ?_⟩
  unfold tryS at k
  cases h1 : mb ρ with
  | none => rw [h1] at k; exact k.elim
  | some r =>
    rw [h1] at k
    cases r with
    | nx ρ1 => exact k
    | bk ρ1 => exact k
    | ct ρ1 => exact k
    | rt o ρ1 => exact k
    | ex cn fs ρ1 =>
      intro C d fv σ1 H1 G1 W1 hm R1 eg1 hd hfs
      dsimp only at k
      obtain ⟨m1, m2⟩ := hmt cn C hm
      cases h2 : mt cn with
      | none => rw [h2] at k; exact k.elim
      | some oc =>
        rw [h2] at k
        cases oc with
        | none => exact ⟨false, m1 h2, (fun z => nomatch z), fun _ => k C d fv σ1 H1 G1 W1 hm R1 eg1 hd hfs⟩
        | some C0 =>
          obtain ⟨rfl, hm2⟩ := m2 C0 h2
          refine ⟨true, hm2, fun _ a na => ⟨C, d, rfl, rfl, ?_⟩, fun z => nomatch z⟩
          dsimp only at k
          by_cases hst : stb i ρ1 = true
          · rw [if_pos hst] at k
            have er : Rep X.K G1 (.er a C d fs) (.ref a) := Rep.er.mpr ⟨rfl, fv, hd, hfs.rf⟩
            have R2 := (R1.addT er).setS (i := i) (stb_lt hst)
            cases h3 : uni (fun a d => clrO i (m a C d (ρ1.set i (.ow (.fr (.er a C d fs)))))) with
            | none => rw [h3] at k; exact k.elim
            | some r =>
              rw [h3] at k
              have h4 := uni_all h3 a d
              refine ⟨g, _, T, G1, _, R2, ?_⟩
              cases h5 : m a C d (ρ1.set i (.ow (.fr (.er a C d fs)))) with
              | none => rw [h5] at h4; cases h4
              | some r0 =>
                rw [h5] at h4
                cases r0 with
                | nx ρ2 => cases h4; exact fun σ' H' G' W' R' eg => k _ H' G' W' (R'.noS (x := none)) (eg1.trans eg)
                | bk ρ2 => cases h4; exact fun σ' H' G' W' R' eg => k _ H' G' W' (R'.noS (x := none)) (eg1.trans eg)
                | ct ρ2 => cases h4; exact fun σ' H' G' W' R' eg => k _ H' G' W' (R'.noS (x := none)) (eg1.trans eg)
                | rt o ρ2 => cases h4; exact fun v σ' H' G' W' R' eg => k v _ H' G' W' R'.noS' (eg1.trans eg)
                | ex c2 fs2 ρ2 => cases h4
          · rw [if_neg hst] at k; exact k.elim

/-- error.f in the suite -/
def xfF (a C dd C0 : Addr) (f : Str) (i : Nat) : Pu D := fun ρ => match var i ρ with
  | some (.er a' _ d' fs) => if a' = a ∧ d' = dd ∧ C = C0 then fs.lookup f else none
  | _ => none
theorem p_xf {i : Nat} {n : Str} {a0 C dd C0 : Addr} {oe : Obj} {pn : List (Addr × Obj)} (TC : XfC X.K C0) (hno : PySem.W.findIn X.K (.ref C0) n = some none) (hz : Zc (.ref C) (some dd) oe) (hf : ∃ vs, oe.data = .fields vs)
    (he : PE (X.suite a0 ((a0, oe) :: pn)) e (tVar i)) (hb : attributeBase e n X.env (eval e X.env) = eval e X.env := by rfl) : PE (X.suite a0 ((a0, oe) :: pn)) (.Attribute e n pos) (tP X.K (xfF a0 C dd C0 n i)) := by
  by_cases hC : C = C0
  · subst hC
    refine (pe_xf (pos := pos) TC hno hz hf he hb).wk fun σ H Q ⟨g, ρ, T, G, W, d, hR, hF, k⟩ => ?_
    unfold xfF at hF
    split at hF
    · rename_i a' c' d' fs e1
      split at hF
      · rename_i hc
        obtain ⟨rfl, rfl, _⟩ := hc
        obtain ⟨s, e1, e2⟩ := var_some e1
        obtain ⟨v, h1, h2⟩ := hR.slo e1 e2
        rw [Ow] at h2
        obtain ⟨rfl, ys, h3, h4⟩ := Rep.er.mp h2
        obtain ⟨y, h5, h6⟩ := h4.look hF
        exact ⟨_, h1, rfl, rfl, d', ys, y, rfl, hR.gh _ _ h3, h5, k y H G hR (Same.refl _) (Same.refl _) h6⟩
      · cases hF
    · cases hF
  · exact ⟨fun pins s σ H Q I ⟨g, ρ, T, G, W, d, hR, hF, k⟩ => by
      unfold xfF at hF
      split at hF
      · rw [if_neg (fun h => hC h.2.2)] at hF; cases hF
      · cases hF⟩
/-- isinstance(error, C) in the suite -/
def rIsD (K : PySem.W.Frag) (C dd a : Addr) : List V → Hp → VK → Prop := fun xs H Q => ∃ (c : V) (cv : Value) (b : Bool), xs = [.ref a, c] ∧ (∀ u, RelV c u → u = cv) ∧ PySem.W.kitOne K (.ref C) cv = some b ∧ (∃ fs, H dd = some (.xd fs)) ∧ Q (.bl b) H
theorem call_isD {a0 C dd : Addr} {oe : Obj} {pn : List (Addr × Obj)} (E : ExcC X.K C) (hz : Zc (.ref C) (some dd) oe) (hf : ∃ vs, oe.data = .fields vs) : CallR (X.suite a0 ((a0, oe) :: pn)) (.builtin "isinstance") (rIsD X.K C dd a0) := by
  intro pins s σ H xs us Q I r h
  obtain ⟨c, cv, b, rfl, hcv, e, ⟨fs, hdd⟩, q⟩ := h
  cases r with
  | cons rx rr =>
    cases rr with
    | cons rt rr =>
      cases rr
      cases rx
      have ec := hcv _ rt
      subst ec
      obtain ⟨hget, _⟩ := I.pin (a0, oe) (List.mem_append.mpr (.inl List.mem_cons_self))
      obtain ⟨vs, hv⟩ := hf
      obtain ⟨od, hod⟩ := objOk_get (I.hok dd _ hdd)
      have J : PySem.W.InstAt s.heap a0 oe C (some od) := by
        obtain ⟨oc, od', oda, osl⟩ := oe
        obtain ⟨h1, h2⟩ := hz
        dsimp only at h1 h2 hv
        subst h1 h2 hv
        exact ⟨hget, rfl, rfl, hod⟩
      have hcl : (PySem.W.clsIn X.K C).isSome = true := by
        have := E.hd
        unfold PySem.W.hasDictIn at this
        cases hh : PySem.W.clsIn X.K C with
        | none => rw [hh] at this; cases this
        | some _ => rfl
      exact PySem.W.kia_one (PySem.W.kitx_exc hcl E.hg E.hk E.hs E.ha E.hn E.ht E.hm) I.kIn J e (fun z => nomatch z) fun tk => ⟨.bl b, H, I.kept (t' := tk) fun _ _ z => z, rfl, q⟩
def isF (a C dd C0 : Addr) (b : Bool) (i : Nat) : Pu D := fun ρ => match var i ρ with
  | some (.er a' _ d' fs) => if a' = a ∧ d' = dd ∧ C = C0 then some (.bl b) else none
  | _ => none
theorem p_isE {i : Nat} {y : Str} {a0 C dd C0 D0 : Addr} {b : Bool} {oe : Obj} {pn : List (Addr × Obj)} {e : Expr} {q : Pos} (E : ExcC X.K C0) (hk : PySem.W.kitOne X.K (.ref C0) (.ref D0) = some b) (hz : Zc (.ref C) (some dd) oe) (hf : ∃ vs, oe.data = .fields vs) (hg : Gl X "isinstance") (hm : X.mg "isinstance" = none)
    (he : PE (X.suite a0 ((a0, oe) :: pn)) e (tVar i)) (hgT : Gl X y) (hmT : X.mg y = some (.ref D0)) (hd : (y == ("__debug__" : Str)) = false := by decide)
    (hs : starEach [e, .Name y q] X.env = (false, eval e X.env) :: starEach [.Name y q] X.env := by rfl) (hs2 : starEach [.Name y q] X.env = (false, eval (.Name y q) X.env) :: starEach [] X.env := by rfl) (hpl : (backTo pos (starEach [.Name y q] X.env)).any (·.1) = false := by rfl) :
    PE (X.suite a0 ((a0, oe) :: pn)) (.Call (.Name "isinstance" p) [e, .Name y q] [] pos) (tP X.K (isF a0 C dd C0 b i)) := by
  by_cases hC : C = C0
  · subst hC
    refine (pe_callB (X := X.suite a0 ((a0, oe) :: pn)) (call_isD E hz hf) hg hm (by decide +kernel) (pa_cons he (pa_cons (pe_glob (v := .ref D0) hgT hmT rfl hd) pa_nil hs2) hs) (by decide) (by decide) hs hpl).wk fun σ H Q ⟨g, ρ, T, G, W, d, hR, hF, k⟩ => ?_
    unfold isF at hF
    split at hF
    · rename_i a' c' d' fs e1
      split at hF
      · rename_i hc
        obtain ⟨rfl, rfl, _⟩ := hc
        cases hF
        obtain ⟨s, e1, e2⟩ := var_some e1
        obtain ⟨v, h1, h2⟩ := hR.slo e1 e2
        rw [Ow] at h2
        obtain ⟨rfl, ys, h3, h4⟩ := Rep.er.mp h2
        exact ⟨_, h1, .ref D0, .ref D0, b, rfl, fun u hu => hu, hk, ⟨_, hR.gh _ _ h3⟩, k _ H G hR (Same.refl _) (Same.refl _) (Rep.b.mpr rfl)⟩
      · cases hF
    · cases hF
  · exact ⟨fun pins s σ H Q I ⟨g, ρ, T, G, W, d, hR, hF, k⟩ => by
      unfold isF at hF
      split at hF
      · rw [if_neg (fun h => hC h.2.2)] at hF; cases hF
      · cases hF⟩
end
end Tr
namespace Tr
open PySem PySem.Spec PyProof.Rows L2
/-! ### own defs as one fact -/
inductive Cal (P : Program) (w : World) (K : PySem.W.Frag) (mg : MG) (base : Heap) (k : Nat) (x : Str) (n : Nat) (F : FS) : Prop
  | mk (f : Addr) (fd : FuncData) (ps : List Str) (hn : ps.length = n) (FO : FnOk P w K mg base (L2.CX P w) k f fd ps (spF K mg ps.length F)) (hm : mg x = some (.ref f)) (hk : PySem.W.keepIn K (.ref f) = true) (hb : Binds K fd ps [])
theorem Cal.mono {P : Program} {w : World} {K : PySem.W.Frag} {mg : MG} {base : Heap} {k k' : Nat} {x : Str} {n : Nat} {F : FS} (h : Cal P w K mg base k x n F) (l : k ≤ k') : Cal P w K mg base k' x n F := by
  obtain ⟨f, fd, ps, hn, FO, hm, hk, hb⟩ := h
  exact ⟨f, fd, ps, hn, FO.mono l, hm, hk, hb⟩
theorem Cal.imp {P : Program} {w : World} {K : PySem.W.Frag} {mg : MG} {base : Heap} {k : Nat} {x : Str} {n : Nat} {F F' : FS} (h : Cal P w K mg base k x n F) (l : ∀ a r, F' a = some r → F a = some r) : Cal P w K mg base k x n F' := by
  obtain ⟨f, fd, ps, hn, FO, hm, hk, hb⟩ := h
  exact ⟨f, fd, ps, hn, FO.imp (spF_imp l), hm, hk, hb⟩
section
variable {X : Cx} {e a b c : Expr} {es : List Expr} {Wx : WX} {p q pos : Pos} {ga : Mo D} {fa fb : Pu D}
theorem x_callC {x : Str} {k n : Nat} {F : FS} {fa : Mo (List Ag)} (C : Cal X.prog X.w X.K X.mg X.base k x n F) (tk : Takes X Wx) (hr : Room k X.A) (hg : Gl X x) (ha : PA X (e :: es) (tAg X.K X.mg Wx fa))
    (hdb : (x == ("__debug__" : Str)) = false := by decide) (he : starEach (e :: es) X.env = (false, eval e X.env) :: starEach es X.env := by rfl) (hpl : (backTo pos (starEach es X.env)).any (·.1) = false := by rfl) :
    PE X (.Call (.Name x p) (e :: es) [] pos) (tX X.K X.mg Wx (callM n F fa)) := by
  obtain ⟨f, fd, ps, hn, FO, hm, hk, hb⟩ := C
  subst hn
  exact x_call tk FO hr hg hm hk hb ha hdb he hpl
/-- f(y = e) -/
theorem x_callK1 {x y : Str} {k : Nat} {f : Addr} {fd : FuncData} {F : FS} {kpos : Pos} (tk : Takes X Wx) (FO : FnOk X.prog X.w X.K X.mg X.base (L2.CX X.prog X.w) k f fd [y] (spF X.K X.mg 1 F)) (hr : Room k X.A) (hg : Gl X x) (hm : X.mg x = some (.ref f)) (hk : PySem.W.keepIn X.K (.ref f) = true)
    (hb : ∀ (s : Shared) (u : Value), BindsTo s fd ⟨[], [(y, u)]⟩ [(y, u)]) (ha : PE X e (tV X.K X.mg Wx ga))
    (hdb : (x == ("__debug__" : Str)) = false := by decide) :
    PE X (.Call (.Name x p) [] [⟨some y, e, kpos⟩] pos) (tX X.K X.mg Wx (callM 1 F (agV ga agN))) := by
  refine PE.wk (t := tCallSD (spF X.K X.mg 1 F) [] (WE Wx) (tCons (tV X.K X.mg Wx ga) tNil)) ⟨fun pins s σ H Q I h => ?_⟩ fun σ H Q h => ?_
  · refine wpAny_Call_Name_kw (ld_glob I hg hm ?_ hdb)
    refine PySem.W.callWith_KW0 (h₀ := X.base) I.ok.mod.kin hk rfl (thn ((pk_cons (nm := some y) (kpos := kpos) ha pk_nil).run pos pins s σ H _ I h) fun us s1 ⟨vs, H1, I1, r1, q1⟩ => ⟨I1.kIn, ?_⟩) rfl
    have hlen : vs.length = 1 := q1.1.symm ▸ by have := q1.1; simpa using this
    obtain ⟨v, rfl⟩ : ∃ v, vs = [v] := by
      match vs, hlen with
      | [v], _ => exact ⟨v, rfl⟩
    obtain ⟨u, rfl, rv⟩ : ∃ u, us = [u] ∧ RelV v u := by
      cases r1 with
      | cons r2 r3 => cases r3; exact ⟨_, rfl, r2⟩
    have hb' : BindsTo s1 fd ⟨[], [(y, u)]⟩ (([y] : List Str).zip [u]) := hb s1 u
    show wpAny _ _ (call (.ref f) [] [(y, u)]) _ _ _
    refine wpAny_call (codeAny_mono (FO.run X.A X.stack s1 H1 ⟨[], [(y, u)]⟩ [u] [v] Q (WE Wx σ) hr I1.env0 hb' (.cons rv .nil) q1) fun r s' hq => ?_)
    cases r with
    | error e => exact passAt tk σ pins H1 s1 e s' I1 hq
    | ok fl =>
      cases fl with
      | ret u => exact I1.after hq
      | next => exact False.elim hq
      | brk => exact False.elim hq
      | cont => exact False.elim hq
  · have h1 := tCall_ok (K := X.K) (mg := X.mg) (Wx := Wx) (F := F) (n := 1) (fa := agV ga agN) σ H Q h
    obtain ⟨g, ρ, T, G, W, hR, k⟩ := h1
    refine ⟨g, ρ, T, G, W, hR, ?_⟩
    unfold agV at k
    cases h1 : ga ρ with
    | none => rw [h1] at k; exact k.elim
    | some r =>
      rw [h1] at k
      cases r with
      | ex c fs ρ' => exact k
      | ok d ρ' => exact fun v H' G' W' R' eg rv => k [v] H' G' W' R' eg ⟨v, [], rfl, rv, rfl⟩
/-! ### constants of the modules -/
theorem p_gint {x : Str} {i : Int} {t : Tok} (hg : Gl X x) (hm : X.mg x = some (.int i t)) (hd : (x == ("__debug__" : Str)) = false := by decide) : PE X (.Name x pos) (tP X.K (cst (.int i))) := p_cst (pe_glob (v := .int i) hg hm ⟨t, rfl⟩ hd) fun G => by rw [Rep]
/-! ### len(set(tuple of ints)) -/
def dedI : List Int → List Int
  | [] => []
  | x :: xs => if x ∈ xs then dedI xs else x :: dedI xs
theorem dedI_mem : ∀ (ns : List Int) (k : Int), k ∈ dedI ns ↔ k ∈ ns
  | [], k => Iff.rfl
  | x :: xs, k => by
    unfold dedI
    split
    · rename_i h
      rw [dedI_mem xs k, List.mem_cons]
      exact ⟨.inr, fun e => e.elim (fun e => e ▸ h) id⟩
    · rw [List.mem_cons, List.mem_cons, dedI_mem xs k]
theorem dedI_nodup : ∀ ns : List Int, (dedI ns).Nodup
  | [] => List.nodup_nil
  | x :: xs => by
    unfold dedI
    split
    · exact dedI_nodup xs
    · rename_i h
      exact List.nodup_cons.mpr ⟨fun m => h ((dedI_mem xs x).mp m), dedI_nodup xs⟩
theorem dedI_le : ∀ ns : List Int, (dedI ns).length ≤ ns.length
  | [] => Nat.le_refl _
  | x :: xs => by
    have := dedI_le xs
    unfold dedI
    split
    · rw [List.length_cons]; omega
    · rw [List.length_cons, List.length_cons]; omega
theorem dedI_eq : ∀ {ns : List Int}, (dedI ns).length = ns.length ↔ ns.Nodup
  | [] => by simp [dedI]
  | x :: xs => by
    have h := dedI_le xs
    have ih := dedI_eq (ns := xs)
    rw [List.nodup_cons]
    unfold dedI
    split
    · rename_i hm
      rw [List.length_cons]
      exact ⟨fun e => absurd e (by omega), fun e => absurd hm e.1⟩
    · rename_i hm
      rw [List.length_cons, List.length_cons, ← ih]
      exact ⟨fun e => ⟨hm, by omega⟩, fun e => by rw [e.2]⟩
def lenSetD (d : D) : Option D := match d with
  | .tup ds => (match intsO ds with
    | some ns => if ns.length ≤ 4000 then some (.int (dedI ns).length) else none
    | none => none)
  | _ => none
theorem v_lenSet {p2 : Pos} (hc : X.calm = true) (hg : Gl X "len") (hm : X.mg "len" = none) (hg2 : Gl X "set") (hm2 : X.mg "set" = none) (ha : PE X a (tP X.K fa))
    (na : starEach [a] X.env = (false, eval a X.env) :: starEach [] X.env := by rfl) : PE X (.Call (.Name "len" p) [.Call (.Name "set" p2) [a] [] q] [] pos) (tP X.K (pu1 lenSetD fa)) := ⟨fun pins s σ H Q I ⟨g, ρ, T, G, W, d, hR, hf, k⟩ => by
  unfold pu1 at hf
  split at hf
  · rename_i x0 e1
    unfold lenSetD at hf
    split at hf
    · rename_i ds
      cases hi : intsO ds with
      | none => rw [hi] at hf; cases hf
      | some ns =>
        rw [hi] at hf
        dsimp only at hf
        split at hf
        · rename_i hl
          cases hf
          refine Call_ (ld_blt I hg hm boot_len ?_)
          refine PyProof.Rows.callWith_builtin1 (PyProof.Rows.args_cons ?_ rfl) rfl rfl
          refine Call_ (ld_blt I hg2 hm2 boot_set ?_)
          refine PyProof.Rows.callWith_type1 (PyProof.Rows.args_cons (thn (ha.run pins s σ H (fun v H1 => ∃ G1, R X.K g ρ T σ H1 G1 W ∧ Same G G1 ∧ Same H H1 ∧ Rep X.K G1 (.tup ds) v) I ⟨g, ρ, T, G, W, .tup ds, hR, e1, fun v H1 G1 R1 eg eh r => ⟨G1, R1, eg, eh, r⟩⟩) fun v s1 ⟨x, H1, I1, r1, G1, R1, eg, eh, rx⟩ => PyProof.Rows.args_nil ?_) na) na rfl
          obtain ⟨l, xs, rfl, hq, hr⟩ := rx.tp
          have exs := hr.intsV hi
          subst exs
          cases r1
          obtain ⟨its, r, pl, hz⟩ := I1.tuple (SqT_same R1.gh hq)
          refine call_set_tupI ns (I1.ok.hd hc) pl (by simpa using r.ints) (by unfold scanBound; omega) fun h' tk cc hS hcl hk => ?_
          refine PyProof.Rows.args_nil ?_
          obtain ⟨o, es, ep, t, ho, hex, hd, hge, hnd, hmem, hsz, hfit, hn, _, _⟩ := hS
          have I2 : Inv X pins σ H1 { s1 with heap := h', toks := tk } := I1.kept fun b o e => hk b o e
          have hcnt : es.size = (dedI ns).length := by
            have h1 : (es.toList.map keyOf).length = (dedI ns).length := by
              refine List.Perm.length_eq ((List.perm_ext_iff_of_nodup hnd (dedI_nodup ns)).mpr fun z => ?_)
              rw [dedI_mem, ← hmem z, decide_eq_true_eq]
            rw [List.length_map, Array.length_toList] at h1
            exact h1
          exact call_len_set ho hex hd hfit (by have := dedI_le ns; omega) ⟨.int (dedI ns).length, H1, I2.tok _, ⟨_, by rw [hcnt]⟩, k _ H1 G1 R1 eg eh (Rep.i.mpr rfl)⟩
        · cases hf
    · cases hf
  · cases hf⟩
end
end Tr
namespace HT
open PySem PyProof.Rows L2
section
variable {prog : Program} {w : World} {A : Around} {E : Value → Shared → Prop} {s : Shared}
theorem tr_places (n : Nat) : Builtin.Slice.slicePlaces ((n : Int) - 1) (-1) (-1) = n := by
  unfold Builtin.Slice.slicePlaces
  have h1 : ¬ ((-1 : Int) > 0) := by omega
  simp only [h1, if_false]
  split
  · show (((n : Int) - 1 - (-1) - 1) / 1 + 1).toNat = n
    rw [Int.ediv_one]; omega
  · rename_i h; simp at h; omega
theorem tr_sliceApplied_rev {sl : Addr} {vs : Value} {n : Nat} {Q : Int × Int × Nat → Shared → Prop} (hs : s.heap.IsSliceOf sl .none .none vs) (ps : IsPart vs (some (-1)))
    (h : Q (((n : Int) - 1), -1, n) s) : wpAny (model prog w) A (Builtin.Slice.sliceApplied (.ref sl) (pure (n : Int))) Q E s := by
  obtain ⟨os, hos, hcs, hds⟩ := id hs
  unfold Builtin.Slice.sliceApplied Builtin.Slice.sliceFields
  refine wpAny_bind (wpAny_bind (wpAny_field hos hds (x := .none) rfl (wpAny_bind (wpAny_field hos hds (x := .none) rfl (wpAny_bind (wpAny_field hos hds (x := vs) rfl (wpAny_pure ?_)))))))
  refine wpAny_bind (slicePart_ ps ?_)
  show wpAny _ _ (if ((-1 : Int) == 0) = true then _ else _) _ _ s
  rw [if_neg (by decide)]
  refine wpAny_bind (slicePart_none (wpAny_bind (slicePart_none (wpAny_bind (wpAny_pure ?_)))))
  show wpAny _ _ (pure (((n : Int) - 1), (-1 : Int), Builtin.Slice.slicePlaces ((n : Int) - 1) (-1) (-1))) _ _ s
  rw [tr_places]
  exact wpAny_pure h
theorem tr_fm {α β : Type} {f : α → Option β} {g : α → β} : ∀ {l : List α}, (∀ m ∈ l, f m = some (g m)) → l.filterMap f = l.map g
  | [], _ => rfl
  | a :: l, h => by
    rw [List.filterMap_cons, h a (List.mem_cons_self ..), List.map_cons, tr_fm fun m hm => h m (List.mem_cons_of_mem _ hm)]
theorem tr_pick_rev (xs : Array Value) : ((List.range xs.size).filterMap fun (m : Nat) => xs[(((xs.size : Int) - 1) + (m : Int) * (-1)).toNat]?).toArray = xs.toList.reverse.toArray := by
  congr 1
  apply List.ext_getElem?
  intro i
  have e : (List.range xs.size).filterMap (fun (m : Nat) => xs[(((xs.size : Int) - 1) + (m : Int) * (-1)).toNat]?) = (List.range xs.size).map fun m => (xs[xs.size - 1 - m]?).getD .none := by
    refine tr_fm fun m hm => ?_
    rw [List.mem_range] at hm
    have h1 : (((xs.size : Int) - 1) + (m : Int) * (-1)).toNat = xs.size - 1 - m := by omega
    have h2 : xs.size - 1 - m < xs.size := by omega
    rw [h1, Array.getElem?_eq_getElem h2]
    rfl
  rw [e, List.getElem?_map]
  by_cases hi : i < xs.size
  · have h2 : xs.size - 1 - i < xs.size := by omega
    rw [List.getElem?_range hi, List.getElem?_reverse (by simpa using hi)]
    simp [h2]
  · rw [List.getElem?_eq_none (by simpa using hi), List.getElem?_eq_none (by simpa using hi)]; rfl
theorem tr_getItem_tuple_rev {t sl : Addr} {items : Array Value} {vs : Value} {Q : Value → Shared → Prop} (ht : IsTup s.heap t items) (hs : s.heap.IsSliceOf sl .none .none vs) (ps : IsPart vs (some (-1)))
    (h : Q (.ref s.heap.objs.size) { s with heap := s.heap.push { cls := .type "tuple", data := .seq items.toList.reverse.toArray } })
    (hsz : items.size ≤ sizeLine) : wpAny (model prog w) A (getItem (.ref t) (.ref sl)) Q E s := by
  have htake : sizeOk (.seq items.toList.reverse.toArray) := by
    show items.toList.reverse.toArray.size ≤ sizeLine
    rw [List.size_toArray, List.length_reverse, Array.length_toList]
    exact hsz
  obtain ⟨os, hos, hcs, hds⟩ := id hs
  have hTs : s.TypeIs (.ref sl) "slice" := ⟨os, hos, hcs⟩
  unfold getItem
  try with_reducible refine wpAny_holding ?_
  first | refine wpAny_bind (wpAny_pure ?_) | skip
  refine wpAny_bind (wpAny_sequenceKey ht.typeIs (by decide) ?_)
  refine wpAny_bind (wpAny_callSpecial?_slot (name := Str.ofString "__getitem__") ht.typeIs PyProof.Rows.slot_tuple_getitem
    (wpAny_call_entry PyProof.Rows.slot_tuple_getitem ht.typeIs entry_tuple_getitem ?_ (args_tuple_getitem _ _)))
  show wpAny _ _ (Builtin.Tuple.tupleItemsOf (.ref t) >>= _) _ _ s
  refine wpAny_bind (tupleItemsOf_ ht ?_)
  refine wpAny_bind (wpAny_typeOf hTs ?_)
  rw [if_pos (by decide)]
  refine wpAny_bind (tr_sliceApplied_rev hs ps ?_)
  have hno : ¬ ((((items.size : Int) - 1) == 0 && (-1 : Int) == 1 && items.size == items.size) = true) := by simp
  show wpAny _ _ (if (((items.size : Int) - 1) == 0 && (-1 : Int) == 1 && items.size == items.size) = true then _ else _) _ _ s
  rw [if_neg hno, tr_pick_rev]
  first
    | exact wpAny_bind (m := Builtin.Tuple.tupleExact _) (wpAny_newObj_type (wpAny_pure ⟨_, rfl, wpAny_pure h⟩) htake)
    | exact wpAny_bind (m := Builtin.Tuple.tupleExact _) (wpAny_newObj_type (wpAny_bind (wpAny_pure (wpAny_pure ⟨_, rfl, wpAny_pure h⟩))) htake)
    | exact wpAny_bind (wpAny_bind (m := Builtin.Tuple.tupleExact _) (wpAny_newObj_type (wpAny_pure (wpAny_pure ⟨_, rfl, wpAny_pure h⟩)) htake))
    | exact wpAny_bind (wpAny_bind (m := Builtin.Tuple.tupleExact _) (wpAny_newObj_type (wpAny_pure ⟨_, rfl, wpAny_pure h⟩) htake))
end
end HT
namespace L2
open PySem PySem.Spec PyProof.Rows
section
variable {X : Cx}
def tRevT (K : PySem.W.Frag) (te : TE) : TE := fun σ H Q => te σ H fun x H1 => ∃ a xs, x = .ref a ∧ SqT K H1 a xs ∧ Tr.NewT H1 xs.reverse Q
theorem pe_revT {e : Expr} {te : TE} {k : Nat} {p1 p2 p3 pos : Pos} (he : PE X e te) : PE X (.Subscript e (.Slice none none (some (.UnaryOp .USub (.Constant (.int 1) k p1) p2)) p3) pos) (tRevT X.K te) := by
  refine ⟨fun pins s σ H Q I h => ?_⟩
  refine Subscript_ (thn (he.run pins s σ H _ I h) fun v s1 ⟨x, H1, I1, r1, q1⟩ => ?_)
  obtain ⟨a, xs, ex, hx, q⟩ := q1
  subst ex
  cases r1
  have hst : PO X (some (.UnaryOp .USub (.Constant (.int 1) k p1) p2)) (tPart (tUn (rU fun i => .int (-i)) (tC (.int 1)))) := po_some (pe_un un_neg pe_int)
  refine wpAny_Slice (thn (po_none.run pins s1 σ H1 (fun o H2 => o = none ∧ H2 = H1) I1 ⟨rfl, rfl⟩) fun vl s2 ⟨l, H2, I2, pl, el, e2⟩ => ?_)
  subst el e2
  refine thn (po_none.run pins s2 σ H2 (fun o H3 => o = none ∧ H3 = H2) I2 ⟨rfl, rfl⟩) fun vu s3 ⟨u, H3, I3, pu, eu, e3⟩ => ?_
  subst eu e3
  refine thn (hst.run pins s3 σ H3 (fun o H4 => o = some (-1) ∧ H4 = H3) I3 ⟨1, rfl, -1, rfl, rfl, rfl⟩) fun vs s4 ⟨o, H4, I4, ps, eo, e4⟩ => ?_
  subst eo e4
  have I5 : Inv X pins σ H4 { s4 with heap := s4.heap.push { cls := .type "slice", data := .fields #[vl, vu, vs] } } := I4.kept (t' := s4.toks) fun b ob q => Heap.get?_push_of_some _ q
  obtain ⟨its, r, ht, hz⟩ := I5.tuple hx
  have hlen := r.length
  cases pl
  cases pu
  show wpAny (model X.prog X.w) X.A (subscriptTail e (.Slice none none (some (.UnaryOp .USub (.Constant (.int 1) k p1) p2)) p3) (.ref a) (.ref s4.heap.objs.size)) (EP X pins σ Q) X.xe { s4 with heap := s4.heap.push { cls := .type "slice", data := .fields #[.none, .none, vs] } }
  refine tail_any (ops := [.ref a, .ref s4.heap.objs.size]) ht.typeIs (PyProof.Rows.slot_tuple_getitem.lookup) ?_ (by with_unfolding_all rfl)
  refine HT.tr_getItem_tuple_rev ht (Heap.IsSliceOf.new _ .none .none vs) ps ?_ (by rw [List.size_toArray]; omega)
  exact Tr.lay_tup I5 r.reverse (by rw [List.length_reverse]; exact hz) q
end
end L2
namespace SrtO
open PySem PySem.Builtin.List PySem.Calls PyProof.Rows
section
variable {prog : Program} {w : World} {A : Around} {E : Value → Shared → Prop} {s : Shared}
theorem tr_sorted_tup {l : Addr} {vs : List Value} {ltv : Value → Value → Bool} {Q : Value → Shared → Prop} (O : Swo ltv) (hl : s.heap.IsTuple l vs.toArray) (hz : vs.length ≤ sizeLine)
    (hS : 2 ≤ vs.length → ∀ (h₁ : Heap) (a : Addr), SortableO prog w A.in1.in1 { s with heap := h₁ } a vs ltv)
    (h : ∀ (out : List Value) (h1 h' : Heap) (e : Nat), Srtd ltv out → Stb ltv out vs → (∀ b o, s.heap.get? b = some o → h1.get? b = some o) → (∀ b o, h1.get? b = some o → h'.get? b = some o) → h'.get? h1.objs.size = some (seqObj "list" out.toArray e) → Q (.ref h1.objs.size) { s with heap := h' }) :
    wpAny (model prog w) A (call (.builtin "sorted") [.ref l]) Q E s := by
  refine Calls.call_function_entry kind_sorted plain_sorted entry_sorted (args_sorted1 _) ?_
  unfold Builtin.«sorted»
  refine wpAny_bind (m := checkCount "sorted" 1 1 _) (wpAny_pure ?_)
  obtain ⟨o, ho, hc, n, hd⟩ := hl
  refine wpAny_bind (wpAny_collect_seq l (.inr rfl) ho hc hd (fun h1 hk => ?_) (by rw [List.size_toArray]; exact hz))
  show wpAny _ _ _ _ _ _
  refine wpAny_bind (wpAny_newList ?_ (by simpa using hz))
  have hoL : (h1.push (seqObj "list" vs.toArray 0)).get? h1.objs.size = some (seqObj "list" vs.toArray 0) := Heap.get?_push_size _ rfl
  refine wpAny_bind (wpAny_holding (wpAny_call_entry slot_list_sort ⟨_, hoL, rfl⟩ entry_list_sort (list_sort_ord O hoL hz (fun h2 => hS h2 _ _) fun out hs hb => ⟨_, rfl, ?_⟩) (args_list_sort _)))
  obtain ⟨e, he⟩ := sortedHeap_at (out := out.toArray) hoL
  refine wpAny_pure ⟨_, rfl, h out h1 _ e hs hb hk (fun b o q => ?_) he⟩
  rw [sortedHeap_old (Nat.ne_of_lt (Heap.lt_size q)) (by rw [size_push']; exact Nat.lt_succ_of_lt (Heap.lt_size q))]
  exact Heap.get?_push_of_some _ q
end
end SrtO
namespace Tr
open PySem PySem.Spec PyProof.Rows L2
section
variable {X : Cx} {e a b c : Expr} {es : List Expr} {Wx : WX} {p q pos : Pos} {ga : Mo D} {fa fb : Pu D}
def rSortT (K : PySem.W.Frag) : List V → Hp → VK → Prop := fun vs H Q => ∃ (a : Addr) (ns : List Int), vs = [V.ref a] ∧ (SqL K H a (ns.map V.int) ∨ SqT K H a (ns.map V.int)) ∧
  ∀ (ns' : List Int) (p : Addr), ns'.Perm ns → ns'.Pairwise (· ≤ ·) → H p = none → Q (.ref p) (upd H p (.lst (ns'.map V.int)))
theorem call_sortT : CallR X (.builtin "sorted") (rSortT X.K) := by
  intro pins s σ H vs us Q I r h
  obtain ⟨a, ns, rfl, hs, q⟩ := h
  rcases hs with hs | hs
  · exact cr_sortedI pins s σ H _ us Q I r ⟨a, ns, rfl, hs, q⟩
  obtain ⟨its, rv, hl, hz⟩ := I.tuple hs
  rw [Vals.ref1 r]
  have hi := rv.ints
  refine SrtO.tr_sorted_tup SrtO.swo_int hl (by rw [← rv.length]; exact hz) (fun h2 h₁ a' => SrtO.ints_sortable hi h2) fun out h1 h' e s1 s2 k1 k2 he => ?_
  obtain ⟨j1, j2, j3⟩ := SrtO.ints_out hi s1 s2
  have I1 : Inv X pins σ H { s with heap := h1 } := I.kept (t' := s.toks) k1
  have hn : H h1.objs.size = none := I1.hok.fresh (Nat.le_refl _)
  have hlen : ((out.map SrtO.iv).map V.int).length ≤ sizeLine := by
    rw [List.length_map, j2.length_eq]
    rw [List.length_map] at hz
    exact hz
  exact ⟨.ref _, upd H h1.objs.size (.lst ((out.map SrtO.iv).map V.int)), I1.laid (t' := s.toks) (fun b o q => k2 b o q) (Nat.le_refl _) ⟨hlen, out, e, vals_of_ints j1, he⟩, rfl, q _ _ j2 j3 hn⟩
def sortTD (d : D) : Option (List D) := match d.sq with
  | some ds => (intsO ds).map fun ns => (sortI ns).map .int
  | none => none
theorem sortTD_ok {K : PySem.W.Frag} : C1L K (rSortT K) sortTD := fun d zs x H G Q hz e r k => by
  unfold sortTD at hz
  cases hd : d.sq with
  | none => rw [hd] at hz; cases hz
  | some ds =>
    rw [hd] at hz
    replace hz : (intsO ds).map (fun ns => (sortI ns).map D.int) = some zs := hz
    cases hi : intsO ds with
    | none => rw [hi] at hz; cases hz
    | some ns =>
      rw [hi] at hz; cases hz
      obtain ⟨a, xs, rfl, h1, h2⟩ := r.sq e hd
      have hn := r.sql hd
      have e2 := h2.intsV hi
      have e3 := ints_some hi
      subst e2 e3
      refine ⟨a, ns, rfl, h1, fun ns' p hp hs hf => ?_⟩
      have e4 : ns' = sortI ns := sorted_uniq (hp.trans (sortI_perm ns).symm) hs (sortI_pw ns)
      subst e4
      exact k _ p hf (Reps.ints.mpr rfl) (by rw [List.length_map, (sortI_perm ns).length_eq]; simpa using hn)
/-! ### t[::-1] -/
def revTD : D → Option D
  | .tup ds => some (.tup ds.reverse)
  | _ => none
theorem p_revT {k : Nat} {p1 p2 p3 : Pos} (he : PE X e (tP X.K fa)) : PE X (.Subscript e (.Slice none none (some (.UnaryOp .USub (.Constant (.int 1) k p1) p2)) p3) pos) (tP X.K (pu1 revTD fa)) := (pe_revT he).wk fun σ H Q ⟨g, ρ, T, G, W, d, hR, hf, k⟩ => by
  unfold pu1 at hf
  split at hf
  · rename_i x0 e1
    cases x0 with
    | tup ds =>
      cases hf
      refine ⟨g, ρ, T, G, W, _, hR, e1, fun v H1 G1 R1 eg eh r => ?_⟩
      obtain ⟨a, xs, rfl, hs, hr⟩ := r.tp
      exact ⟨a, xs, rfl, SqT_same R1.gh hs, fun p o hp ho => k _ _ _ (R1.new hp) (eg.trans (same_upd (R1.gh.free hp))) (eh.trans (same_upd hp)) (Rep.newT ho hr.rev (R1.gh.free hp) (by rw [List.length_reverse]; exact r.sql rfl))⟩
    | _ => cases hf
  · cases hf
/-! ### tuple(range(n)), list(range(n)) -/
def rngOk (n : Int) : Bool := decide (-(2 ^ 62) ≤ n ∧ n ≤ 16777216)
def tupRgD : D → Option D
  | .int n => if rngOk n = true then some (.tup (rngD 0 n.toNat)) else none
  | _ => none
def lstRgD : D → Option (List D)
  | .int n => if rngOk n = true then some (rngD 0 n.toNat) else none
  | _ => none
theorem rng_reps {K : PySem.W.Frag} {G : Hp} (n : Int) : Reps K G (rngD 0 n.toNat) (rgV 0 n) := by
  have e1 : rngD 0 n.toNat = ((List.range n.toNat).map fun i => ((i : Nat) : Int)).map D.int := by
    unfold rngD
    rw [List.map_map]
    apply List.map_congr_left
    intro i _
    simp
  have e2 : rgV 0 n = ((List.range n.toNat).map fun i => ((i : Nat) : Int)).map V.int := by
    unfold rgV
    rw [List.map_map, Int.sub_zero]
    apply List.map_congr_left
    intro i _
    simp
  rw [e1, e2]
  exact Reps.ints.mpr rfl
theorem rng_len (n : Int) : (rngD 0 n.toNat).length = n.toNat := by unfold rngD; rw [List.length_map, List.length_range]
theorem rngOk_ok {n : Int} (h : rngOk n = true) : RgOk 0 n ∧ (rngD 0 n.toNat).length ≤ sizeLine := by
  have h' := of_decide_eq_true h
  rw [rng_len, sizeLine_eq]
  exact ⟨⟨by omega, by omega, by omega, by omega, by omega⟩, by omega⟩
/-- tuple(range(..)) -/
theorem pe_tupRgB {p pos : Pos} {e : Expr} {te} (hc : X.calm = true) (hg : Gl X "tuple") (hm : X.mg "tuple" = none) (he : PRg X e te) (na : starEach [e] X.env = (false, eval e X.env) :: starEach [] X.env := by rfl) :
    PE X (.Call (.Name "tuple" p) [e] [] pos) (fun σ H Q => te σ H fun a b H1 => RgOk a b ∧ NewT H1 (rgV a b) Q) := ⟨fun pins s σ H Q I want =>
  Call_ (ld_blt I hg hm boot_tuple (PyProof.Rows.callWith_type1 (args_cons (thn (he pins s σ H _ I want) fun x s1 ⟨r, a, b, t, u, v, H1, ex, hr, I1, ⟨b1, b2, b3, b4, b5⟩, q⟩ => args_nil (by
    subst ex
    exact call_tuple_range (n := (b - a).toNat) (I1.ok.hd hc) hr (small_one b1 b2 b3 b4) (rangeSize_nat a b) b5 fun h' tk acc hk hi => (by
      have := lay_tup (s := { s1 with heap := h', toks := tk }) (us := acc.toList) (I1.kept hk) (vals_rg hi) (by rw [rgV_length, sizeLine_eq]; omega) q
      rw [Array.toArray_toList] at this
      exact this))) na) na))⟩
theorem p_tupRg {p3 : Pos} (hc : X.calm = true) (hg : Gl X "tuple") (hm : X.mg "tuple" = none) (hg2 : Gl X "range") (hm2 : X.mg "range" = none) (ha : PE X a (tP X.K fa)) (na : starEach [a] X.env = (false, eval a X.env) :: starEach [] X.env := by rfl)
    (nb : starEach [.Call (.Name "range" q) [a] [] p] X.env = (false, eval (.Call (.Name "range" q) [a] [] p) X.env) :: starEach [] X.env := by rfl) :
    PE X (.Call (.Name "tuple" p3) [.Call (.Name "range" q) [a] [] p] [] pos) (tP X.K (pu1 tupRgD fa)) := (pe_tupRgB hc hg hm (prg_1 hg2 hm2 ha na) nb).wk fun σ H Q ⟨g, ρ, T, G, W, d, hR, hf, k⟩ => by
  unfold pu1 at hf
  split at hf
  · rename_i x0 e1
    cases x0 with
    | int n =>
      unfold tupRgD at hf
      dsimp only at hf
      split at hf
      · rename_i hn
        cases hf
        obtain ⟨h1, h2⟩ := rngOk_ok hn
        refine ⟨g, ρ, T, G, W, _, hR, e1, fun v H1 G1 R1 eg eh r => ⟨n, Rep.i.mp r, h1, fun p o hp ho => ?_⟩⟩
        exact k _ _ _ (R1.new hp) (eg.trans (same_upd (R1.gh.free hp))) (eh.trans (same_upd hp)) (Rep.newT ho (rng_reps n) (R1.gh.free hp) h2)
      · cases hf
    | _ => cases hf
  · cases hf
theorem x_lstRg {p3 : Pos} (hc : X.calm = true) (hg : Gl X "list") (hm : X.mg "list" = none) (hg2 : Gl X "range") (hm2 : X.mg "range" = none) (ha : PE X a (tP X.K fa)) (na : starEach [a] X.env = (false, eval a X.env) :: starEach [] X.env := by rfl)
    (nb : starEach [.Call (.Name "range" q) [a] [] p] X.env = (false, eval (.Call (.Name "range" q) [a] [] p) X.env) :: starEach [] X.env := by rfl) :
    PE X (.Call (.Name "list" p3) [.Call (.Name "range" q) [a] [] p] [] pos) (tX X.K X.mg Wx (moL lstRgD fa)) := (pe_listRg hc hg hm (prg_1 hg2 hm2 ha na) nb).wk fun σ H Q ⟨g, ρ, T, G, W, hR, k⟩ => by
  unfold moL at k
  cases h1 : fa ρ with
  | none => rw [h1] at k; exact k.elim
  | some d =>
    rw [h1] at k
    dsimp only at k
    cases h2 : lstRgD d with
    | none => rw [h2] at k; exact k.elim
    | some zs =>
      rw [h2] at k
      cases d with
      | int n =>
        unfold lstRgD at h2
        dsimp only at h2
        split at h2
        · rename_i hn
          cases h2
          obtain ⟨g1, g2⟩ := rngOk_ok hn
          exact ⟨g, ρ, T, G, W, _, hR, h1, fun v H1 G1 R1 eg eh r => ⟨n, Rep.i.mp r, g1, fun p hp => k _ _ _ _ (R1.newF hp (rng_reps n) g2) eg⟩⟩
        · cases h2
      | _ => cases h2
/-! ### a, b, c = x, y, z -/
def par3 (i j l : Nat) (f : Mo (List O)) : MS := fun ρ => match f ρ with
  | some (.ok [o1, o2, o3] ρ') => if stb i ρ' = true ∧ stb j ρ' = true ∧ stb l ρ' = true then some (.nx (((ρ'.set i (.ow o1)).set j (.ow o2)).set l (.ow o3))) else none
  | some (.ex c fs ρ') => some (.ex c fs ρ')
  | _ => none
theorem R.setS3 {K : PySem.W.Frag} {g : Gs} {ρ : Rho} {T : List (O × V)} {σ : L2.St} {H G : Hp} {W : Own} {o1 o2 o3 : O} {v1 v2 v3 : V} {i j l : Nat} (h : R K g ρ (T ++ [(o1, v1), (o2, v2), (o3, v3)]) σ H G W) (hi : i < ρ.length) (hj : j < ρ.length) (hl : l < ρ.length) (hij : i ≠ j) (hil : i ≠ l) (hjl : j ≠ l) :
    ∃ W', R K g (((ρ.set i (.ow o1)).set j (.ow o2)).set l (.ow o3)) T (((σ.set i (some v1)).set j (some v2)).set l (some v3)) H G W' := by
  have h1 : R K g ρ ((T ++ [(o1, v1), (o2, v2)]) ++ [(o3, v3)]) σ H G W := by simpa using h
  have h2 := h1.setS hl
  obtain ⟨W', h3⟩ := h2.setS2 (by rw [List.length_set]; exact hi) (by rw [List.length_set]; exact hj) hij
  refine ⟨W', ?_⟩
  rw [List.set_comm _ _ (Ne.symm hil), List.set_comm _ _ (Ne.symm hjl)] at h3
  rw [List.set_comm _ _ (Ne.symm hil), List.set_comm _ _ (Ne.symm hjl)] at h3
  exact h3
theorem s_par3 {i j l : Nat} {x y z : Str} {f : Mo (List O)} {px py pz pt : Pos} {kt k2 pt2} (hc : X.calm = true) (hN : X.N.Nodup) (hi : X.N[i]? = some x) (hj : X.N[j]? = some y) (hl : X.N[l]? = some z) (hij : i ≠ j) (hil : i ≠ l) (hjl : j ≠ l)
    (hx : X.env.scope.names.lookup x = some .local) (hy : X.env.scope.names.lookup y = some .local) (hz : X.env.scope.names.lookup z = some .local) (ha : PA X [a, b, c] (tA X.K X.mg Wx f))
    (hw : swappedStores [.Tuple [.Name x px, .Name y py, .Name z pz] kt pt] (.Tuple [a, b, c] k2 pt2) X.env = pure (some [x, y, z]))
    (hs : swapsWithSole [.Tuple [.Name x px, .Name y py, .Name z pz] kt pt] (.Tuple [a, b, c] k2 pt2) pos.line X.env = pure false := by rfl) :
    PS X (.Assign [.Tuple [.Name x px, .Name y py, .Name z pz] kt pt] (.Tuple [a, b, c] k2 pt2) pos) (tS X.K X.mg Wx (par3 i j l f)) := (ps_par3 hc hN hi hj hl hij hil hjl hx hy hz ha hw hs).wk fun D σ H ⟨g, ρ, T, G, W, hR, k⟩ => by
  refine ⟨g, ρ, T, G, W, hR, ?_⟩
  unfold par3 at k
  split at k
  · rename_i o1 o2 o3 ρ' h1
    rw [h1]
    intro vs H' G' W' hl R' eg
    obtain ⟨v1, v2, v3, rfl⟩ : ∃ v1 v2 v3, vs = [v1, v2, v3] := by
      match vs, hl with
      | [v1, v2, v3], _ => exact ⟨v1, v2, v3, rfl⟩
    split at k
    · rename_i hs
      obtain ⟨W2, R2⟩ := R'.setS3 (stb_lt hs.1) (stb_lt hs.2.1) (stb_lt hs.2.2) hij hil hjl
      exact ⟨v1, v2, v3, rfl, k _ H' G' W2 R2 eg⟩
    · exact k.elim
  · rename_i h1; rw [h1]; exact k
  · exact k.elim
end
end Tr
namespace Tr
open PySem PySem.Spec PyProof.Rows L2
section
variable {X : Cx} {e a b c : Expr} {es : List Expr} {Wx : WX} {p q pos : Pos} {ga : Mo D} {fa fb : Pu D}
/-- an item of a list that stands -/
def ixC : D → D → Option D
  | .lst ds, .int i => atI ds i
  | .scr ns, .int i => (atI ns i).map .int
  | .tup ds, .int i => atI ds i
  | _, _ => none
theorem p_ixC (ha : PE X a (tC X.K fa)) (hb : PE X b (tP X.K fb)) (hs : PlainIx b) : PE X (.Subscript a b pos) (tP X.K (pu2 ixC fa fb)) := (pe_ix ix_seq ha hb hs).wk fun σ H Q ⟨g, ρ, T, G, W, d, hR, hf, k⟩ => by
  unfold pu2 at hf
  split at hf
  · rename_i d1 d2 e1 e2
    refine ⟨g, ρ, T, G, W, d1, hR, e1, fun v H1 G1 R1 eg1 eh1 r1 => ⟨g, ρ, T, G1, W, d2, R1, e2, fun u H2 G2 R2 eg2 eh2 r2 => ?_⟩⟩
    have eg := eg1.trans eg2
    have eh := eh1.trans eh2
    have key : ∀ ds i, d1.sq = some ds → d2 = .int i → atI ds i = some d → rIx X.K v u H2 Q := fun ds i h1 h2 h3 => by
      obtain ⟨x, xs, rfl, hsq, hr⟩ := (r1.mono eg2 eh2).sq R2.gh h1
      obtain ⟨y, e3, r3⟩ := hr.at h3
      subst h2
      have e4 := Rep.i.mp r2
      subst e4
      rcases hsq with hsq | hsq
      · exact .inl ⟨x, xs, i, y, rfl, rfl, hsq, e3, k _ H2 G2 R2 eg eh r3⟩
      · exact .inr (.inl ⟨x, xs, i, y, rfl, rfl, hsq, e3, k _ H2 G2 R2 eg eh r3⟩)
    unfold ixC at hf
    split at hf
    · exact key _ _ rfl rfl hf
    · rename_i ns i
      refine key (ns.map .int) i rfl rfl ?_
      rw [atI_map, hf]
    · exact key _ _ rfl rfl hf
    · cases hf
  · cases hf
/-- what was read is flat -/
def flD (f : Pu D) : Pu D := fun ρ => match f ρ with
  | some (.int i) => some (.int i)
  | some (.bl i) => some (.bl i)
  | some (.str i) => some (.str i)
  | some .non => some .non
  | some (.tup ds) => some (.tup ds)
  | _ => none
theorem p_flat (ha : PE X a (tC X.K fa)) : PE X a (tP X.K (flD fa)) := ha.wk fun σ H Q ⟨g, ρ, T, G, W, d, hR, hf, k⟩ => by
  unfold flD at hf
  have key : ∀ d', fa ρ = some d' → (∀ v H' G', CRep X.K G' H' d' v → Rep X.K G' d v) → tC X.K fa σ H Q := fun d' h1 h2 => ⟨g, ρ, T, G, W, d', hR, h1, fun v H1 G1 R1 eg eh r => k v H1 G1 R1 eg eh (h2 v H1 G1 r)⟩
  split at hf
  all_goals first
    | (rename_i h1; cases hf; refine key _ h1 fun v H' G' r => ?_; rcases r with r | ⟨_, _, _, e, _⟩ | ⟨_, _, _, e, _⟩; exact r; cases e; cases e)
    | cases hf
/-- [x] * n, owned -/
def mulLX (f g : Pu D) : Mo O := fun ρ => match f ρ, g ρ with
  | some (.lst ds), some (.int i) => if 0 ≤ i ∧ i ≤ 100000 ∧ ds.length ≤ 100 then some (.ok (.fl (List.replicate i.toNat ds).flatten) ρ) else none
  | _, _ => none
theorem x_mulL (ha : PE X a (tP X.K fa)) (hb : PE X b (tP X.K fb)) : PE X (.BinOp a .Mult b pos) (tX X.K X.mg Wx (mulLX fa fb)) := (pe_op op_rep ha hb).wk fun σ H Q ⟨g, ρ, T, G, W, hR, k⟩ => by
  unfold mulLX at k
  split at k
  · rename_i ds i e1 e2
    refine ⟨g, ρ, T, G, W, _, hR, e1, fun v H1 G1 R1 eg1 eh1 r1 => ⟨g, ρ, T, G1, W, _, R1, e2, fun u H2 G2 R2 eg2 eh2 r2 => ?_⟩⟩
    split at k
    · rename_i c
      obtain ⟨p, xs, rfl, h1, q1⟩ := (r1.mono eg2).ls
      have hz : ds.length * i.toNat ≤ sizeLine := by
        rw [sizeLine_eq]
        have : ds.length * i.toNat ≤ 100 * 100000 := Nat.mul_le_mul c.2.2 (by omega)
        omega
      refine ⟨p, i, xs, rfl, Rep.i.mp r2, R2.gh _ _ h1, by omega, by omega, by rw [← q1.len]; exact hz, fun p3 hp => k _ _ _ _ (R2.newF hp (q1.rep _) ?_) (eg1.trans eg2)⟩
      rw [PyProof.Rows.lm_len_rep_flat, Nat.mul_comm]; exact hz
    · exact k.elim
  · exact k.elim
end
end Tr
namespace Tr
open PySem PySem.Spec PyProof.Rows L2
section
variable {X : Cx} {e a b c : Expr} {es : List Expr} {Wx : WX} {p q pos : Pos} {ga : Mo D} {fa fb : Pu D}
def negD : D → Option D
  | .int i => some (.int (-i))
  | _ => none
theorem p_neg (ha : PE X a (tP X.K fa)) : PE X (.UnaryOp .USub a pos) (tP X.K (pu1 negD fa)) := (pe_un un_neg ha).wk fun σ H Q ⟨g, ρ, T, G, W, d, hR, hf, k⟩ => by
  unfold pu1 at hf
  split at hf
  · rename_i x0 e1
    cases x0 with
    | int i =>
      cases hf
      exact ⟨g, ρ, T, G, W, _, hR, e1, fun v H1 G1 R1 eg eh r => ⟨i, Rep.i.mp r, k _ H1 G1 R1 eg eh (Rep.i.mpr rfl)⟩⟩
    | _ => cases hf
  · cases hf
end
/-- sizes, for the loops' measures -/
def O.w : O → Nat
  | .fl ds => ds.length + 1
  | _ => 1
def O.sz : O → Nat
  | .fl ds => ds.length + 1
  | .ol os => (os.map O.w).sum + 1
  | _ => 1
def Sl.sz : Sl → Nat
  | .ow o => o.sz
  | .le o => o.sz
  | .no => 0
def szR (ρ : Rho) : Nat := (ρ.map Sl.sz).sum + 1
/-- one class of errors -/
def mt1 (c : Str) (A : Addr) : Str → Option (Option Addr) := fun cn => if cn = c then some (some A) else none
theorem mt1_ok {K : PySem.W.Frag} {mg : MG} {c : Str} {A : Addr} (g : mg c = some (.ref A)) (em : PySem.W.exmOne K (.ref A) (.ref A) = some true) : ∀ cn C, mg cn = some (.ref C) → (mt1 c A cn = some none → PySem.W.exmOne K (.ref C) (.ref A) = some false) ∧ ∀ C0, mt1 c A cn = some (some C0) → C = C0 ∧ PySem.W.exmOne K (.ref C) (.ref A) = some true := fun cn C hm => by
  unfold mt1
  by_cases h : cn = c
  · subst h
    rw [if_pos rfl]
    rw [g] at hm
    cases hm
    exact ⟨(fun e => nomatch e), fun C0 e => by cases e; exact ⟨rfl, em⟩⟩
  · rw [if_neg h]
    exact ⟨(fun e => nomatch e), fun C0 e => nomatch e⟩
/-- an error class that is raised -/
structure XC (P : Program) (w : World) (K : PySem.W.Frag) (mg : MG) (base : Heap) (x fl : Str) (C fI : Addr) (fd : FuncData) : Prop where
  oc : OexC K C
  iC : PySem.W.findIn K (.ref C) "__init__" = some (some (.ref fI))
  tI : PySem.W.typeIn K (.ref fI) = some (.type "function")
  F1 : FnOk P w K mg base (fun _ _ _ _ _ _ => False) 1 fI fd ["self", fl] (spI C fl)
  hb : Binds K fd ["self", fl] []
  g : mg x = some (.ref C)
/-- a def called by a keyword -/
structure KC (P : Program) (w : World) (K : PySem.W.Frag) (mg : MG) (base : Heap) (k : Nat) (x y : Str) (F : FS) (f : Addr) (fd : FuncData) : Prop where
  fo : FnOk P w K mg base (L2.CX P w) k f fd [y] (spF K mg 1 F)
  g : mg x = some (.ref f)
  kp : PySem.W.keepIn K (.ref f) = true
  hb : ∀ (s : Shared) (u : Value), BindsTo s fd ⟨[], [(y, u)]⟩ [(y, u)]
theorem Fun.kb1 {K : PySem.W.Frag} {x qual y : Str} {st : Stmt} {f : Addr} {fd : FuncData} (F : Fun K x qual st f fd)
    (h : ∀ (kV doc pm : Value) (an : Option Addr) (cdv ct u : Value), bindArgs (PySem.W.fnOf x qual (defArgs st) (defBody st) (defScope st) .none kV doc pm an cdv ct) ⟨[], [(y, u)]⟩ = pure [(y, u)]) (s : Shared) (u : Value) : BindsTo s fd ⟨[], [(y, u)]⟩ [(y, u)] := by
  obtain ⟨oc, od, kV, doc, pm, an, cdv, ct, osl, rfl, lk, hcd⟩ := F.ex
  exact .of_eq (h kV doc pm an cdv ct u)
end Tr
namespace Tr
open PySem PySem.Spec PyProof.Rows L2
/-- the law's own promise, from its function -/
theorem law_sp {K : PySem.W.Frag} {mg : MG} {F : FS} {H : Hp} {a : Addr} {ns : List Int} (hl : ns.length ≤ 63) (hS : SqL K H a (ns.map V.int)) (h : ∃ outs, F [.ow (.fr (.scr ns))] = some (.ret (.fr (.bl true)) outs)) :
    spF K mg 1 F [.ref a] H (fun v _ => v = .bl true) fun _ _ _ => False := by
  obtain ⟨outs, h⟩ := h
  refine ⟨rfl, fun _ => none, H, fun _ => none, [.ow (.fr (.scr ns))], rfl, ⟨Same.refl _, (fun b x e => nomatch e), Same.refl _, (fun b _ e => absurd rfl e), (fun b l e => nomatch e), rfl, fun i s e => ?_, fun k o v e => by simp at e⟩, ?_⟩
  · cases i with
    | zero =>
      cases e
      refine ⟨.ref a, rfl, ?_⟩
      rw [Ow, Rep]
      exact ⟨a, rfl, hS, by rw [sizeLine_eq]; omega⟩
    | succ i => simp at e
  · rw [h]
    intro v H' G' W' R' eg
    have := R'.tm 0 _ v rfl
    rw [Ow] at this
    exact Rep.b.mp this
/-- the methods of a class of the text -/
def clsDef (s : Stmt) (i : Nat) : Stmt := match s with
  | .ClassDef _ _ _ body .. => body.getD i (.Pass ⟨0, 0, 0, 0⟩)
  | _ => .Pass ⟨0, 0, 0, 0⟩
theorem oex_mk {K : PySem.W.Frag} {C : Addr} {nm q : Str} {N : Addr} {bs bm : List Value} {sn : List Str} {sub : List Value} {ab : Bool} {col : Option Bool} {dd : Option Addr} {k0 k1 k2 k3 k5 : Option Value}
    (xL : K.lookup C = some (excClassObj nm q C N bs bm true sn sub ab col dd k0 k1 k2 k3 k5 "ValueError.__new__")) (hb : PySem.HandSPX.refsVE bm = true) (sa : PySem.W.findIn K (.ref C) "__setattr__" = some (some (.builtin "object.__setattr__")))
    (exC : PySem.W.subIn K (.ref C) (.type "BaseException") = some true) (tyC : PySem.W.typeIn K (.ref C) = some (.type "type")) (kC : PySem.W.keepIn K (.ref C) = true) : OexC K C := ⟨⟨nm, q, N, bs, bm, sn, sub, ab, col, dd, k0, k1, k2, k3, k5, xL, hb⟩, sa, exC, tyC, kC⟩
end Tr
namespace Tr
open PySem PySem.Spec PyProof.Rows L2
theorem cx_no {P : Program} {w : World} {H : Hp} {s : Shared} {e : Value} {s' : Shared} (h : L2.CX P w [] H s (fun _ _ _ => False) e s') : False := by
  obtain ⟨_, _, _, _, _, _, _, _, _, _, _, _, h⟩ := h
  exact h
end Tr
namespace Tr
open PySem PySem.Spec PyProof.Rows L2
/-! ### promises where no repr is under way (guards known to be none) -/
structure RoomG (k : Nat) (A : Around) : Prop extends Room k A where
  gd : A.guards = some []
theorem RoomG.le {j k : Nat} {A : Around} (r : RoomG k A) (h : j ≤ k) : RoomG j A := ⟨r.toRoom.mono h, r.gd⟩
theorem RoomG.down {k : Nat} {A : Around} (r : RoomG (k + 1) A) (v : Env) : RoomG k (A.deeper v) := ⟨r.toRoom.deeper v, r.gd⟩
structure FnG (P : Program) (w : World) (K : PySem.W.Frag) (mg : MG) (base : Heap) (k : Nat) (f : Addr) (fd : FuncData) (ps : List Str) (sp : Sp) : Prop where
  ln : ∀ vs H Q E, sp vs H Q E → vs.length = ps.length
  go : ∀ (A : Around) (out : List Env) (s : Shared) (H : Hp) (ar : Args) (us : List Value) (vs : List V) (Q : VK) (E : XK), RoomG k A → Env0 P w K mg base A out s H → BindsTo s fd ar (ps.zip us) → Vals vs us → sp vs H Q E → codeAny (model P w) A (.call (.ref f) ar) (CR (L2.CX P w) out P w H s Q E) s
section
variable {P : Program} {w : World} {K : PySem.W.Frag} {mg : MG} {base : Heap}
theorem FnG.le {j k : Nat} {f : Addr} {fd : FuncData} {ps : List Str} {sp : Sp} (F : FnG P w K mg base j f fd ps sp) (h : j ≤ k) : FnG P w K mg base k f fd ps sp := ⟨F.ln, fun A out s H ar us vs Q E r => F.go A out s H ar us vs Q E (r.le h)⟩
theorem FnG.weak {k : Nat} {f : Addr} {fd : FuncData} {ps : List Str} {sp sp' : Sp} (F : FnG P w K mg base k f fd ps sp) (h : ∀ vs H Q E, sp' vs H Q E → sp vs H Q E) : FnG P w K mg base k f fd ps sp' :=
  ⟨fun vs H Q E q => F.ln vs H Q E (h _ _ _ _ q), fun A out s H ar us vs Q E r e b v q => F.go A out s H ar us vs Q E r e b v (h _ _ _ _ q)⟩
/-- a def's promise by its body -/
theorem fng_ok {x qual : Str} {st : Stmt} {f : Addr} {fd : FuncData} {N ps : List Str} {k : Nat} {ms : MS} (F : Fun K x qual st f fd) (S : FnScope N ps (defScope st)) (hn : ps.length ≤ N.length)
    (body : ∀ (cdv : Value) (A : Around) (out : List Env) (s : Shared) (H : Hp) (E : XK), RoomG k (A.deeper (envOfC qual (defScope st) s.heap.objs.size f cdv)) →
      PSs (cxOf (L2.CX P w) P w K mg base N qual (defScope st) f cdv A out s H E) (defBody st) (tS K mg (fun cls d _ H => E cls d H) ms)) : FnG P w K mg base (k + 1) f fd ps (spF K mg ps.length (runF N.length ps.length ms)) := by
  obtain ⟨_, _, kV, doc, pm, an, cdv, ct, osl, rfl, look, code⟩ := F.ex
  refine ⟨fun vs H Q E h => h.1, fun A out s H ar us vs Q E room env bind rel want => ?_⟩
  have kin : K.In s.heap := env.mod.kin.keeps fun b o e => (env.bs b o e).1
  refine codeAny_call_function room.toRoom.depth (kin _ _ look) rfl S.co S.gen rfl (PySem.W.codeRec_of kin code) (bind _ _ _ _ ?_)
  refine wpAny_newFunctionEnv_cells S.kind (fun ⟨n, v⟩ m => (S.par n (List.of_mem_zip m).1).elim .inl fun q => .inr ⟨q, PySem.W.cellsFrom_some _ _ _ (.inl q)⟩) fun e2 eq2 s1 there => ?_
  subst eq2
  refine ⟨(env.mod.nolimit.keeps fun b o e => (env.bs b o e).1).keeps there.toInCall.keep, codeAny_func ?_⟩
  have start1 : Inv (cxOf (L2.CX P w) P w K mg base N qual (defScope st) f cdv A out s H E) [] (L2.start N vs) H s1 := inv_start S room.toRoom.hd env want.1 rel there
  obtain ⟨hv, kp, G, W, args, _, hR, k⟩ := want
  have la : args.length = vs.length := by have := hR.len; rw [List.length_map] at this; exact this
  have R1 := hR.begin (N := N) (by omega)
  rw [la, hv] at R1
  have ends : ∀ {σ' : L2.St} {H' : Hp} {v : V} {u : Value} {s' : Shared}, Inv (cxOf (L2.CX P w) P w K mg base N qual (defScope st) f cdv A out s H E) [] σ' H' s' → RelV v u → Q v H' → CE out P w H s Q u s' := fun J rv q => ⟨_, _, J.os, J.bare, J.base, J.hok, rv, q⟩
  refine wpAny_mono ((body cdv A out s H E (room.down _)).run [] s1 (L2.start N vs) H { nx := fun _ H' => Q .non H', rt := Q } start1 ⟨⟨kp, G, vs⟩, _, [], G, W, R1, ?_⟩) (fun fl s' hs => ?_) fun e s' hs => hs
  · unfold runF at k
    cases h1 : ms (args ++ List.replicate (N.length - ps.length) .no) with
    | none => rw [h1] at k; exact k.elim
    | some r =>
      rw [h1] at k
      cases r with
      | nx ρ =>
        dsimp only at k
        by_cases hl : ps.length ≤ ρ.length
        · rw [if_pos hl] at k
          exact fun σ' H' G' W' R' eg => k .non H' G' W' ((R'.out rfl hv hl).addT (T := []) (Rep.nn.mpr rfl)) eg
        · rw [if_neg hl] at k; exact k.elim
      | rt o ρ =>
        dsimp only at k
        by_cases hl : ps.length ≤ ρ.length
        · rw [if_pos hl] at k
          exact fun v σ' H' G' W' R' eg => k v H' G' W' (R'.out rfl hv hl) eg
        · rw [if_neg hl] at k; exact k.elim
      | ex c fs ρ =>
        dsimp only at k
        by_cases hl : ps.length ≤ ρ.length
        · rw [if_pos hl] at k
          exact fun C d fv σ' H' G' W' hm R' eg hd hf => k C d fv H' G' W' hm (R'.out rfl hv hl) eg hd hf
        · rw [if_neg hl] at k; exact k.elim
      | bk ρ => exact k.elim
      | ct ρ => exact k.elim
  · cases fl with
    | ret u => obtain ⟨v, σ', H', J, rv, q⟩ := hs; exact ends J rv q
    | next => obtain ⟨σ', H', J, q⟩ := hs; exact ends (v := V.non) (u := Value.none) J rfl q
    | brk => exact hs.elim fun _ h => h.elim fun _ h => h.2.elim
    | cont => exact hs.elim fun _ h => h.elim fun _ h => h.2.elim
end
/-- an own def as one fact -/
inductive CalG (P : Program) (w : World) (K : PySem.W.Frag) (mg : MG) (base : Heap) (k : Nat) (x : Str) (n : Nat) (F : FS) : Prop
  | mk (f : Addr) (fd : FuncData) (ps : List Str) (hn : ps.length = n) (FO : FnG P w K mg base k f fd ps (spF K mg ps.length F)) (hm : mg x = some (.ref f)) (hk : PySem.W.keepIn K (.ref f) = true) (hb : Binds K fd ps [])
theorem CalG.le {P : Program} {w : World} {K : PySem.W.Frag} {mg : MG} {base : Heap} {k k' : Nat} {x : Str} {n : Nat} {F : FS} (h : CalG P w K mg base k x n F) (l : k ≤ k') : CalG P w K mg base k' x n F := by
  obtain ⟨f, fd, ps, hn, FO, hm, hk, hb⟩ := h
  exact ⟨f, fd, ps, hn, FO.le l, hm, hk, hb⟩
section
variable {X : Cx} {e a b c : Expr} {es : List Expr} {Wx : WX} {p q pos : Pos} {ga : Mo D} {fa fb : Pu D}
/-- f(e, ..) -/
theorem x_callG {x : Str} {k n : Nat} {F : FS} {fa : Mo (List Ag)} (C : CalG X.prog X.w X.K X.mg X.base k x n F) (tk : Takes X Wx) (hr : RoomG k X.A) (hg : Gl X x) (ha : PA X (e :: es) (tAg X.K X.mg Wx fa))
    (hdb : (x == ("__debug__" : Str)) = false := by decide) (he : starEach (e :: es) X.env = (false, eval e X.env) :: starEach es X.env := by rfl) (hpl : (backTo pos (starEach es X.env)).any (·.1) = false := by rfl) :
    PE X (.Call (.Name x p) (e :: es) [] pos) (tX X.K X.mg Wx (callM n F fa)) := by
  obtain ⟨f, fd, ps, rfl, FO, hm, hk, hb⟩ := C
  refine PE.wk (t := tCallSD (spF X.K X.mg ps.length F) [] (WE Wx) (tAg X.K X.mg Wx fa)) ⟨fun pins s σ H Q I h => ?_⟩ fun σ H Q h => tCall_ok σ H Q h
  refine wpAny_Call_Name_kw (ld_glob I hg hm ?_ hdb)
  refine PySem.W.callWith_K (h₀ := X.base) I.ok.mod.kin hk (thn (ha.run pos pins s σ H _ I h) fun us s1 ⟨vs, H1, I1, rel, want⟩ => ⟨I1.kIn, ?_⟩) he hpl
  have same : us.length = ps.length := by
    have h1 := FO.ln _ _ _ _ want
    rw [← rel.length]; simpa using h1
  have bd := hb s1 us I1.kIn (by rw [List.append_nil]; exact same)
  have want1 : spF X.K X.mg ps.length F vs H1 Q (WE Wx σ) := by have h2 : spF X.K X.mg ps.length F (vs ++ []) H1 Q (WE Wx σ) := want; rw [List.append_nil] at h2; exact h2
  rw [List.append_nil] at bd
  show wpAny _ _ (call (.ref f) us) _ _ _
  refine wpAny_call (codeAny_mono (FO.go X.A X.stack s1 H1 ⟨us, []⟩ us vs Q (WE Wx σ) hr I1.env0 bd rel want1) fun r s' hq => ?_)
  cases r with
  | error e => exact passAt tk σ pins H1 s1 e s' I1 hq
  | ok fl =>
    cases fl with
    | ret u => exact I1.after hq
    | next => exact hq.elim
    | brk => exact hq.elim
    | cont => exact hq.elim
/-! ### f(y = e, ..), the values pure -/
def perG (per : List Nat) (f : Pu (List D)) : Mo (List Ag) := fun ρ => match f ρ with
  | some ds => some (.ok (per.map fun i => .v (ds.getD i .non)) ρ)
  | none => none
/-- a def that is called by keywords ks; per: for each parameter the place of its keyword -/
inductive KwG (P : Program) (w : World) (K : PySem.W.Frag) (mg : MG) (base : Heap) (k : Nat) (x : Str) (ks : List Str) (per : List Nat) (n : Nat) (F : FS) : Prop
  | mk (f : Addr) (fd : FuncData) (ps : List Str) (hn : ps.length = n) (fo : FnG P w K mg base k f fd ps (spF K mg ps.length F)) (g : mg x = some (.ref f)) (kp : PySem.W.keepIn K (.ref f) = true)
    (hb : ∀ (s : Shared) (us : List Value), us.length = ks.length → BindsTo s fd ⟨[], ks.zip us⟩ (ps.zip (per.map fun i => us.getD i .none))) (hq : per.all (decide <| · < ks.length) = true)
theorem kp_nil : PK X [] (tLP X.K lpN) := ⟨fun pos pins s σ H Q I ⟨g, ρ, T, G, W, ds, hR, hf, k⟩ => pk_nil.run pos pins s σ H Q I (by
  cases hf
  exact k [] H G hR (Same.refl _) (Same.refl _) (by rw [Reps]))⟩
theorem kp_cons {kws : List Keyword} {nm : Option Str} {kpos : Pos} {fr : Pu (List D)} (ha : PE X a (tP X.K fa)) (hr : PK X kws (tLP X.K fr)) : PK X (⟨nm, a, kpos⟩ :: kws) (tLP X.K (lpC fa fr)) := ⟨fun pos pins s σ H Q I ⟨g, ρ, T, G, W, ds, hR, hf, k⟩ => (pk_cons (nm := nm) (kpos := kpos) ha hr).run pos pins s σ H Q I (by
  unfold lpC at hf
  split at hf
  · rename_i d ds' e1 e2
    cases hf
    refine ⟨g, ρ, T, G, W, d, hR, e1, fun x H1 G1 R1 eg1 eh1 r1 => ⟨g, ρ, T, G1, W, ds', R1, e2, fun xs H2 G2 R2 eg2 eh2 r2 => ?_⟩⟩
    refine k _ H2 G2 R2 (eg1.trans eg2) (eh1.trans eh2) ?_
    rw [Reps]
    exact ⟨x, xs, rfl, r1.mono eg2, r2⟩
  · cases hf)⟩
theorem Reps.at0 {K : PySem.W.Frag} {G : Hp} : ∀ {ds : List D} {xs : List V} {i : Nat}, Reps K G ds xs → i < ds.length → ∃ x, xs[i]? = some x ∧ Rep K G (ds.getD i .non) x := fun {ds xs i} h hi => by
  rw [List.getD_eq_getElem?_getD, List.getElem?_eq_getElem hi]
  exact h.get (List.getElem?_eq_getElem hi)
theorem vals_at {vs : List V} {us : List Value} (h : Vals vs us) {i : Nat} {x : V} (e : vs[i]? = some x) : ∃ u, us[i]? = some u ∧ RelV x u := by
  induction h generalizing i with
  | nil => simp at e
  | cons r t ih =>
    cases i with
    | zero => simp at e; subst e; exact ⟨_, rfl, r⟩
    | succ i => simp at e; obtain ⟨u, h1, h2⟩ := ih e; exact ⟨u, by simpa using h1, h2⟩
theorem per_ok {K : PySem.W.Frag} {G : Hp} {σ : L2.St} {ds : List D} {vs : List V} {us : List Value} (r : Reps K G ds vs) (v : Vals vs us) : ∀ {per : List Nat}, per.all (decide <| · < ds.length) = true →
    ∃ ws, AgOk K G σ (per.map fun i => .v (ds.getD i .non)) ws ∧ Vals ws (per.map fun i => us.getD i .none)
  | [], _ => ⟨[], rfl, .nil⟩
  | i :: per, h => by
    rw [List.all_cons, Bool.and_eq_true] at h
    have hi : i < ds.length := of_decide_eq_true h.1
    obtain ⟨x, e1, r1⟩ := Reps.at0 r hi
    obtain ⟨u, e2, r2⟩ := vals_at v e1
    obtain ⟨ws, a1, a2⟩ := per_ok (σ := σ) r v h.2
    refine ⟨x :: ws, ⟨x, ws, rfl, r1, a1⟩, ?_⟩
    rw [List.map_cons, List.getD_eq_getElem?_getD, e2]
    exact .cons r2 a2
theorem GE.grow {K : PySem.W.Frag} {mg : MG} {g : Gs} {T : List (O × V)} {G G' : Hp} {Q : VK} {σ : L2.St} (eg : Same G G') : ∀ {r : Option (Re O)}, GE K mg Wx g T G (fun o ρ' => ∀ v H' G2 W', R K g ρ' (T ++ [(o, v)]) σ H' G2 W' → Same G G2 → Q v H') r → GE K mg Wx g T G' (fun o ρ' => ∀ v H' G2 W', R K g ρ' (T ++ [(o, v)]) σ H' G2 W' → Same G' G2 → Q v H') r
  | none, h => h
  | some (.ok o ρ'), h => fun v H' G2 W' R' e2 => h v H' G2 W' R' (eg.trans e2)
  | some (.ex c fs ρ'), h => fun C d fv σ' H' G2 W' hm R' e2 hd hf => h C d fv σ' H' G2 W' hm R' (eg.trans e2) hd hf
theorem tCall_at {K : PySem.W.Frag} {mg : MG} {F : FS} {n : Nat} {g : Gs} {ρ1 : Rho} {T : List (O × V)} {σ : L2.St} {H1 G1 : Hp} {W1 : Own} {as : List Ag} {vs : List V} {Q : VK} (R1 : R K g ρ1 T σ H1 G1 W1) (ha : AgOk K G1 σ as vs)
    (k : GE K mg Wx g T G1 (fun o ρ' => ∀ v H' G' W', R K g ρ' (T ++ [(o, v)]) σ H' G' W' → Same G1 G' → Q v H') (callM n F (fun ρ => some (.ok as ρ)) ρ1)) : spF K mg n F vs H1 Q (WE Wx σ) := by
  unfold callM at k
  dsimp only at k
  by_cases hnl : noDup as = true ∧ as.length = n
  · rw [if_pos hnl] at k
    obtain ⟨hn, hlen⟩ := hnl
    cases h2 : toSl ρ1 as with
    | none => rw [h2] at k; exact k.elim
    | some args =>
      rw [h2] at k
      refine ⟨by rw [ha.len]; exact hlen, kIn as W1 H1, G1, wIn as W1, args, toSl_all h2, R1.enter ha h2 hn, ?_⟩
      dsimp only at k
      cases h3 : F args with
      | none => rw [h3] at k; exact k.elim
      | some fr =>
        rw [h3] at k
        cases fr with
        | ret o outs =>
          dsimp only at k
          cases h4 : back as outs ρ1 with
          | none => rw [h4] at k; exact k.elim
          | some ρ2 =>
            rw [h4] at k
            exact fun v H' G' W' R' eg => k v H' G' _ (R1.leave hn R' eg ha h4 (Nat.le_refl 1)) eg
        | ex c fs outs =>
          dsimp only at k
          cases h4 : back as outs ρ1 with
          | none => rw [h4] at k; exact k.elim
          | some ρ2 =>
            rw [h4] at k
            intro C d fv H' G' W' hm R' eg hd hf
            have R2 := R1.leave hn R' eg ha h4 (Nat.zero_le 1)
            rw [List.append_nil] at R2
            exact k C d fv σ H' G' _ hm R2 eg hd hf
  · rw [if_neg hnl] at k; exact k.elim
theorem x_callKG {x : Str} {k n : Nat} {F : FS} {kws : List Keyword} {ks : List Str} {per : List Nat} {fs : Pu (List D)} (C : KwG X.prog X.w X.K X.mg X.base k x ks per n F) (tk : Takes X Wx) (hr : RoomG k X.A) (hg : Gl X x) (ha : PK X kws (tLP X.K fs))
    (hl : ∀ ρ ds, fs ρ = some ds → ds.length = ks.length)
    (hks : (backToKw pos (keywordEach kws X.env)).filterMap (·.1) = ks := by rfl) (hall : (backToKw pos (keywordEach kws X.env)).all (·.1.isSome) = true := by rfl)
    (hpl : ((backTo pos (starEach [] X.env)).any (·.1) || (backToKw pos (keywordEach kws X.env)).any (·.1.isNone)) = false := by rfl)
    (hdb : (x == ("__debug__" : Str)) = false := by decide) :
    PE X (.Call (.Name x p) [] kws pos) (tX X.K X.mg Wx (callM n F (perG per fs))) := by
  obtain ⟨f, fd, ps, rfl, fo, hm, hk, hb, hq0⟩ := C
  refine ⟨fun pins s σ H Q I ⟨g, ρ, T, G, W, hR, k⟩ => ?_⟩
  cases hfs : fs ρ with
  | none =>
    unfold callM perG at k
    rw [hfs] at k
    exact k.elim
  | some ds =>
    refine wpAny_Call_Name_kw (ld_glob I hg hm ?_ hdb)
    refine PySem.W.callWith_KW0 (h₀ := X.base) I.ok.mod.kin hk hall (thn (ha.run pos pins s σ H (fun vs H1 => ∃ G1, R X.K g ρ T σ H1 G1 W ∧ Same G G1 ∧ Reps X.K G1 ds vs) I ⟨g, ρ, T, G, W, ds, hR, hfs, fun vs H1 G1 R1 eg eh r => ⟨G1, R1, eg, r⟩⟩) fun us s1 ⟨vs, H1, I1, rel, G1, R1, eg, rr⟩ => ⟨I1.kIn, ?_⟩) hpl
    rw [hks]
    have l1 : ds.length = ks.length := hl ρ ds hfs
    have hq : per.all (decide <| · < ds.length) = true := by rw [l1]; exact hq0
    obtain ⟨ws, a1, a2⟩ := per_ok (σ := σ) rr rel hq
    have lus : us.length = ks.length := by rw [← rel.length, ← rr.len, l1]
    have want : spF X.K X.mg ps.length F ws H1 Q (WE Wx σ) := by
      refine tCall_at R1 a1 ?_
      unfold callM perG at k
      rw [hfs] at k
      unfold callM
      exact k.grow eg
    have bd := hb s1 us lus
    show wpAny _ _ (call (.ref f) [] (ks.zip us)) _ _ _
    refine wpAny_call (codeAny_mono (fo.go X.A X.stack s1 H1 ⟨[], ks.zip us⟩ (per.map fun i => us.getD i .none) ws Q (WE Wx σ) hr I1.env0 bd a2 want) fun r s' hq => ?_)
    cases r with
    | error e => exact passAt tk σ pins H1 s1 e s' I1 hq
    | ok fl =>
      cases fl with
      | ret u => exact I1.after hq
      | next => exact hq.elim
      | brk => exact hq.elim
      | cont => exact hq.elim
end
end Tr
namespace Tr
open PySem PySem.Spec PyProof.Rows L2
/-- the tracked part at the law's start: the script alone -/
theorem law_at {P : Program} {w : World} {K : PySem.W.Frag} {mg m2 : MG} {k : Nat} {fa sc : Addr} {fd : FuncData} {x : Str} {sp : Sp} {z : Shared} {items : Array Value} {H : Hp} {gd : ∀ b u, H b = some u → b = sc}
    (kin : K.In z.heap) (gs : z.heap.Ns mainGlobals mg) (bs : z.heap.Ns builtinsNs m2) (bb : ∀ x : Str, x ≠ "__name__" → m2 x = bootBuiltins x) (nl : z.heap.NoLimit) (gn : z.gens = #[])
    (here : z.heap.get? sc = some { cls := .type "list", data := .seq items }) (hr : RoomG k callerA) (F : ∀ base : Heap, K.In base → base.Ns mainGlobals mg → FnG P w K mg base k fa fd [x] sp) (bind : ∀ (s : Shared) (u : Value), BindsTo s fd ⟨[u], []⟩ [(x, u)])
    (ok : HOk P w H z.heap) (only : Only H) (free : H sc ≠ none → K.lookup sc = none) (want : sp [.ref sc] H (fun v _ => v = .bl true) fun _ _ _ => False) :
    codeAny (model P w) callerA (.call (.ref fa) ⟨[.ref sc], []⟩) (fun r s' => r = .ok (.ret (.bool true)) ∧ OldK z.heap s'.heap ∧ s'.os = z.os ∧ AllBare s'.gens) z := by
  have none_or : ∀ b, H b = none ∨ b = sc := fun b => by
    cases e : H b with
    | none => exact .inl rfl
    | some u => exact .inr (gd b u e)
  have dict_free : ∀ {b : Addr} {o : Obj} {es : Array DictEntry} {ep : Nat}, z.heap.get? b = some o → o.data = .dict es ep → H b = none := fun {b o es ep} e1 e2 => (none_or b).elim id fun eb => by
    subst eb
    rw [here] at e1
    cases e1
    exact absurd e2 (by intro q; cases q)
  have ns_hid : ∀ {b : Addr} {m : MG}, z.heap.Ns b m → (hidT z.heap H).Ns b m := fun {b m} ⟨o, es, ep, e1, e2, r⟩ => ⟨o, es, ep, hidT_get e1 (dict_free e1 e2), e2, r⟩
  have k_hid : K.In (hidT z.heap H) := fun b o e => hidT_get (kin b o e) ((none_or b).elim id fun eb => by
    subst eb
    cases q : H b with
    | none => rfl
    | some u => rw [free (by rw [q]; exact fun c => nomatch c)] at e; cases e)
  have modk : Mod K mg (hidT z.heap H) := ⟨k_hid, ns_hid gs, ⟨m2, ns_hid bs, bb⟩, nl.elim fun mc h => ⟨mc, ns_hid h.1, h.2⟩⟩
  have env : Env0 P w K mg (hidT z.heap H) callerA [] z H := { frames := rfl, mod := modk, bs := fun b o e => of_hidT e, bsz := Nat.le_of_eq (hidT_size _ _), funs := trivial, frf := fun b hb => absurd hb List.not_mem_nil, hok := ok, bare := .of_eq gn }
  have run := (F _ k_hid (ns_hid gs)).go callerA [] z H ⟨[.ref sc], []⟩ [.ref sc] [.ref sc] _ _ hr env (bind z (.ref sc)) (.cons rfl .nil) want
  refine codeAny_mono run fun r s' h => ?_
  match r, h with
  | .error e, h => exact (L2.CX P w [] H z (fun _ _ _ => False) e s' |> fun _ => by obtain ⟨_, _, _, _, _, _, _, _, _, _, _, _, h⟩ := h; exact h.elim)
  | .ok (.ret u), h =>
    obtain ⟨v, H', os, bare, un, ok', rv, (q : v = .bl true)⟩ := h
    subst q
    have eu : u = Value.bool true := rv
    subst eu
    refine ⟨rfl, OldK.of_keep fun b o e => ?_, os, bare⟩
    cases q : H b with
    | none => exact un.keep b o e q (fun c => absurd c List.not_mem_nil) (by simp)
    | some u =>
      rcases only b with c | ⟨ob, xs, c⟩
      · rw [q] at c; cases c
      · have e1 := (ok b _ c).1
        have e2 := (ok' b _ (un.frzs b ob _ c)).1
        rw [e] at e1
        cases e1
        exact e2
/-- the law's run, from its function's promise -/
theorem walkG {l : PySem.W.OpenLaw} {n k : Nat} {q : Program} {loose : List Str} {XP : (Str → Option Value) → Heap → Prop} {YP : World → Heap → Prop} {d : DefRec} {K : Params → PySem.W.Frag} {sp : World → Sp} {x : Str}
    (hn : l.most = some n) (hn2 : n ≤ sizeLine) (hdf : d.params.defaults = []) (hr : RoomG k callerA) (hY : ∀ (w : World) (h : Heap), YP w h → (K w.params).In h)
    (F : ∀ (w : World) (mg : MG) (fa : Addr) (h : Heap), (K w.params).In h → h.Ns mainGlobals mg → mg d.name = some (.ref fa) →
      ∃ fd : FuncData, (∀ (s : Shared) (u : Value), BindsTo s fd ⟨[u], []⟩ [(x, u)]) ∧ ∀ base : Heap, (K w.params).In base → base.Ns mainGlobals mg → FnG l.prog w (K w.params) mg base k fa fd [x] (sp w))
    (want : ∀ (w : World) (H : Hp) (a : Addr) (ns : List Int), ns.length ≤ n → Only H → SqL (K w.params) H a (ns.map V.int) → sp w [.ref a] H (fun v _ => v = .bl true) fun _ _ _ => False) :
    PySem.W.WalkO q loose XP YP l.row.toRowW d [] (fun f vs => PySem.call f vs) := by
  refine Att.attach_call hn hdf fun w s0 z mg mb fa o pm cd doc sc vs ns G Y ho hd hcd hmg here hints len gn => ?_
  have kin := hY w _ Y
  obtain ⟨fd, bind, hF⟩ := F w mg fa _ kin G.T.g hmg
  have rel := vals_ints hints
  have size : ns.length ≤ sizeLine := Nat.le_trans len hn2
  cases own : (K w.params).lookup sc with
  | some ob =>
    have same := kin sc ob own
    rw [here] at same
    cases same
    exact law_at (gd := fun b u c => nomatch c) kin G.T.g G.T.b G.T.builtins G.T.nolimit gn here hr hF bind (H := fun _ => none) (fun b u c => nomatch c) (fun _ => .inl rfl) (fun c => absurd rfl c)
      (want w _ sc ns len (fun _ => .inl rfl) (.inr ⟨_, vs.toArray, _, own, rfl, rfl, rfl, by rw [List.size_toArray, hints.length]; exact size, by simpa using rel⟩))
  | none =>
    have at_ : ∀ b, (fun b => if b = sc then some (HO.frz { cls := .type "list", data := .seq vs.toArray } (.lst (ns.map V.int))) else none : Hp) b ≠ none → b = sc := fun b c => Classical.byContradiction fun hb => c (if_neg hb)
    have only : Only (fun b => if b = sc then some (HO.frz { cls := .type "list", data := .seq vs.toArray } (.lst (ns.map V.int))) else none) := fun b => by
      by_cases hb : b = sc
      · exact .inr ⟨_, _, if_pos hb⟩
      · exact .inl (if_neg hb)
    refine law_at (gd := fun b u c => at_ b (fun e => by have c' := c.symm.trans e; cases c')) kin G.T.g G.T.b G.T.builtins G.T.nolimit gn here hr hF bind (fun b u c => ?_) only (fun _ => own) (want w _ sc ns len only (.inl (.inr ⟨_, if_pos rfl⟩)))
    have hb := at_ b (fun e => by have c' := c.symm.trans e; cases c')
    subst hb
    have c1 := (if_pos rfl).symm.trans c
    cases c1
    exact ⟨here, by rw [List.length_map]; exact size, vs, _, rel, here⟩
end Tr
namespace Tr
open PySem PySem.Spec PyProof.Rows L2
section
variable {X : Cx} {e a b c : Expr} {es : List Expr} {Wx : WX} {p q pos : Pos} {ga : Mo D} {fa fb : Pu D}
/-! ### repr of plain data -/
def rReprD (K : PySem.W.Frag) : List V → Hp → VK → Prop := fun xs H Q => ∃ x d, xs = [x] ∧ Dp K H x d ∧ SeqAt.shaped d = true ∧ d.showable = true ∧ d.shown.length ≤ sizeLine ∧ Q (.str d.shown) H
theorem call_reprD {k : Nat} (hr : RoomG k X.A) : CallR X (.builtin "repr") (rReprD X.K) := by
  intro pins s σ H xs us Q I r h
  obtain ⟨x, d, rfl, hd, hsh, hs, hz, q⟩ := h
  cases r with
  | cons rx rt =>
    cases rt
    obtain ⟨as, rd⟩ := Dp.reads I d x _ hd rx
    have lay := SeqAt.canLay_of_shaped hsh
    have dep := SeqAt.depth_of_shaped hsh
    have un := hr.toRoom.un
    have ref : ∀ {a0 : Addr}, Reads s.heap (.ref a0) d as → wpAny (model X.prog X.w) X.A (call (.builtin "repr") [.ref a0]) (EP X pins σ Q) X.xe s := fun {a0} rd =>
      repr_of_reads' rd hs (PyData.noDict_hsm (PyData.hasDict_of_canLay d lay)) hr.gd (by omega) (fun _ _ z => z) (fun h' u tk hk => ⟨.str d.shown, H, I.kept (t' := tk) fun b o e => hk b o e, ⟨u, rfl⟩, q⟩) hz
    cases rd with
    | none => exact PySem.P.repr_of_none ⟨.str _, H, I.tok _, ⟨_, rfl⟩, q⟩
    | bool => exact PySem.P.repr_of_bool ⟨.str _, H, I.tok _, ⟨_, rfl⟩, q⟩
    | int i t => exact PySem.P.repr_of_int (of_decide_eq_true hs) ⟨.str _, H, I.tok _, ⟨_, rfl⟩, q⟩
    | str x t => exact PySem.P.repr_of_str ⟨.str _, H, I.tok _, ⟨_, rfl⟩, q⟩ hz
    | list h1 h2 h3 h4 => exact ref (.list h1 h2 h3 h4)
    | tuple h1 h2 h3 h4 => exact ref (.tuple h1 h2 h3 h4)
    | dict h1 h2 h3 h4 h5 => exact ref (.dict h1 h2 h3 h4 h5)
def reprOk (d : D) : Bool := okPy d && d.py.showable && decide (d.py.shown.length ≤ sizeLine)
def reprD (d : D) : Option D := if reprOk d = true then some (.str d.py.shown) else none
theorem reprD_ok {K : PySem.W.Frag} : C1 K (rReprD K) reprD := fun d z x H G Q hz e r k => by
  unfold reprD at hz
  split at hz
  · rename_i h
    cases hz
    unfold reprOk okPy at h
    simp only [Bool.and_eq_true, decide_eq_true_eq] at h
    exact ⟨x, d.py, rfl, Rep.dp h.1.1.1 (r.rep e), h.1.1.2, h.1.2, h.2, k _ H G .st (Rep.st.mpr rfl)⟩
  · cases hz
/-! ### texts compared as texts -/
def eqS (a b : D) : Option D := match a, b with
  | .str x, .str y => some (.bl (decide (x = y)))
  | a, b => eqD a b
def neS (a b : D) : Option D := match a, b with
  | .str x, .str y => some (.bl (!decide (x = y)))
  | a, b => neD a b
abbrev rEqS (K : PySem.W.Frag) : R2 := fun x y H Q => rEqD K x y H Q ∨ rEq x y H Q
abbrev rNeS (K : PySem.W.Frag) : R2 := fun x y H Q => rNeD K x y H Q ∨ rNe x y H Q
theorem op_eqS (hu : X.A.units + 64 < cLine) : OpR X (compareOp .Eq) (rEqS X.K) := (op_eqD hu).or op_eq
theorem op_neS (hu : X.A.units + 64 < cLine) : OpR X (compareOp .NotEq) (rNeS X.K) := (op_neD hu).or op_ne
theorem eqS_ok {K : PySem.W.Frag} : OpB K (rEqS K) eqS := fun d1 d2 d x y H Q hf r1 r2 k => by
  unfold eqS at hf
  split at hf
  · cases hf
    have e1 := Rep.st.mp r1
    have e2 := Rep.st.mp r2
    subst e1 e2
    refine .inr ⟨rfl, ?_⟩
    rename_i a b
    have : decide ((V.str a) = V.str b) = decide (a = b) := by
      by_cases h : a = b <;> simp [h]
    rw [this]
    exact k _ fun G => Rep.b.mpr rfl
  · exact .inl (eqD_ok d1 d2 d x y H Q hf r1 r2 k)
theorem neS_ok {K : PySem.W.Frag} : OpB K (rNeS K) neS := fun d1 d2 d x y H Q hf r1 r2 k => by
  unfold neS at hf
  split at hf
  · cases hf
    have e1 := Rep.st.mp r1
    have e2 := Rep.st.mp r2
    subst e1 e2
    refine .inr ⟨rfl, ?_⟩
    rename_i a b
    have : (!decide ((V.str a) = V.str b)) = (!decide (a = b)) := by
      by_cases h : a = b <;> simp [h]
    rw [this]
    exact k _ fun G => Rep.b.mpr rfl
  · exact .inl (neD_ok d1 d2 d x y H Q hf r1 r2 k)
/-! ### x in a list or tuple of flat things -/
def flatD : D → Bool
  | .non => true
  | .bl _ => true
  | .int _ => true
  | .str _ => true
  | _ => false
def eqF : D → D → Bool
  | .non, .non => true
  | .bl a, .bl b => a == b
  | .bl a, .int b => (if a then 1 else 0) == b
  | .int a, .bl b => a == (if b then 1 else 0)
  | .int a, .int b => a == b
  | .str a, .str b => a == b
  | _, _ => false
theorem Rep.flat {K : PySem.W.Frag} {G : Hp} {d : D} {v : V} (h : Rep K G d v) (f : flatD d = true) : flatV v = true := by
  cases d with
  | non => rw [Rep] at h; subst h; rfl
  | bl b => rw [Rep] at h; subst h; rfl
  | int i => rw [Rep] at h; subst h; rfl
  | str x => rw [Rep] at h; subst h; rfl
  | _ => cases f
theorem Rep.eqF {K : PySem.W.Frag} {G : Hp} {d d' : D} {v v' : V} (h : Rep K G d v) (h' : Rep K G d' v') (f : flatD d = true) (f' : flatD d' = true) : eqV v v' = Tr.eqF d d' := by
  cases d <;> first | (cases f; done) | (rw [Rep] at h; subst h; cases d' <;> first | (cases f'; done) | (rw [Rep] at h'; subst h'; rfl))
theorem Reps.flat {K : PySem.W.Frag} {G : Hp} : ∀ {ds : List D} {xs : List V}, Reps K G ds xs → ds.all flatD = true → xs.all flatV = true
  | [], _, h, _ => by rw [Reps] at h; subst h; rfl
  | d :: ds, _, h, f => by
    rw [Reps] at h
    obtain ⟨x, r, rfl, r1, r2⟩ := h
    rw [List.all_cons, Bool.and_eq_true] at f
    rw [List.all_cons, r1.flat f.1, Reps.flat r2 f.2]; rfl
theorem Reps.inF {K : PySem.W.Frag} {G : Hp} {d : D} {v : V} (h : Rep K G d v) (f : flatD d = true) : ∀ {ds : List D} {xs : List V}, Reps K G ds xs → ds.all flatD = true → inV v xs = ds.any (fun y => Tr.eqF y d)
  | [], _, h, _ => by rw [Reps] at h; subst h; rfl
  | y :: ds, _, h2, f2 => by
    rw [Reps] at h2
    obtain ⟨x, r, rfl, r1, r2⟩ := h2
    rw [List.all_cons, Bool.and_eq_true] at f2
    unfold inV
    rw [List.any_cons, List.any_cons, r1.eqF h f2.1 f]
    have := Reps.inF h f r2 f2.2
    unfold inV at this
    rw [this]
def inD (neg : Bool) (d e : D) : Option D := match e.sq with
  | some ds => if flatD d = true ∧ ds.all flatD = true then some (.bl (if neg then !ds.any (fun y => eqF y d) else ds.any (fun y => eqF y d))) else none
  | none => none
theorem inD_ok {K : PySem.W.Frag} {neg : Bool} : OpB K (rIn K neg) (inD neg) := fun d1 d2 d x y H Q hf r1 r2 k => by
  unfold inD at hf
  split at hf
  · rename_i ds es
    split at hf
    · rename_i h
      cases hf
      obtain ⟨p, xs, rfl, hs, hr⟩ := (CRep.of (G := H) (H := H) r2).sq (Same.refl _) es
      refine ⟨p, xs, rfl, hs, r1.flat h.1, hr.flat h.2, ?_⟩
      rw [Reps.inF r1 h.1 hr h.2]
      exact k _ fun G => Rep.b.mpr rfl
    · cases hf
  · cases hf
/-! ### t.index(n) -/
def rIxT (K : PySem.W.Frag) : V → List V → Hp → VK → Prop := fun x xs H Q => ∃ (t : Addr) (ns : List Int) (n : Int), x = .ref t ∧ xs = [.int n] ∧ SqT K H t (ns.map V.int) ∧ n ∈ ns ∧ Q (.int (ns.idxOf n : Nat)) H
theorem mt_ixT {k : Nat} (hr : RoomG k X.A) : MtR X "tuple.index" (rIxT X.K) := by
  intro pins s σ H x xs v us Q I rx rs h
  obtain ⟨t, ns, n, rfl, rfl, hq, hn, q⟩ := h
  cases rx
  obtain ⟨u, rfl, tn, rfl⟩ := vals1 rs
  obtain ⟨its, r, pl, hz⟩ := I.tuple hq
  have un := hr.toRoom.un
  exact PySem.W.index_tuple_datum (α := Int) pl (PySem.W.HoldAll.of_ints r.ints) (PySem.W.holds_int n tn) (by show X.A.units + 1 + 0 < cLine; omega) hn ⟨.int _, H, I.tok _, ⟨_, rfl⟩, q⟩
def ixTD : D → D → Option D
  | .tup ds, .int n => (match intsO ds with
    | some ns => if n ∈ ns then some (.int (ns.idxOf n : Nat)) else none
    | none => none)
  | _, _ => none
/-- a method of a tuple that has no dict of its own -/
theorem pe_tm {o : Expr} {to : TE} {t : TA} {name : Str} {apos cpos : Pos} {id : String} {r : V → List V → Hp → VK → Prop} (slot : Slot "tuple" name id) (ty : typeOf (.builtin id) = pure (.type "method_descriptor")) (hm : MtR X id r) (ho : PE X o to) (ha : PA X (e :: es) t)
    (base : attributeBase o name X.env (eval o X.env) = eval o X.env) (few : ((backTo cpos (starEach (e :: es) X.env)).all (fun x => !x.1) && (backToKw cpos (keywordEach [] X.env)).all (fun x => x.1.isSome) && decide ((e :: es).length + ([] : List Keyword).length + (if ([] : List Keyword).isEmpty then 0 else 1) < 30)) = true)
    (line : (apos.endLine == cpos.line) = true) (st : starEach (e :: es) X.env = (false, eval e X.env) :: starEach es X.env) (pl : (backTo cpos (starEach es X.env)).any (·.1) = false) :
    PE X (.Call (.Attribute o name apos) (e :: es) [] cpos) (fun σ H Q => to σ H fun x H1 => (∃ p ys, x = .ref p ∧ TupB H1 p ys) ∧ t σ H1 fun xs H2 => r x xs H2 Q) := ⟨fun pins s σ H Q I want =>
  wpAny_Call_method_late base few line rfl (thn (ho.run pins s σ H _ I want) fun v s1 ⟨x, H1, I1, rx, ⟨p, ys, ex, ob, nd, there⟩, q⟩ => by
    subst ex
    have ev : v = Value.ref p := rx
    subst ev
    obtain ⟨h1, _, its, _, h2⟩ := I1.hok p _ there
    refine ⟨"tuple", id, PySem.F.plainAttrs_tuple, slot, ty, h2.typeIs, fun a ea => ?_, ?_⟩
    · cases ea; exact ⟨ob, h1, nd⟩
    · have hA := ha.run cpos pins s1 σ H1 _ I1 q
      rw [st] at hA ⊢
      exact Calls.callWith_builtin (by show (false || (backTo cpos (starEach es X.env)).any (·.1)) = false; rw [pl] <;> rfl) (Calls.evalArgs_plain (thn hA fun us s2 ⟨vs, H2, I2, r2, q2⟩ => hm pins s2 σ H2 (.ref p) vs (.ref p) us Q I2 rfl r2 q2)))⟩
theorem p_ixT {o : Expr} {k : Nat} {apos cpos : Pos} (hr : RoomG k X.A) (ho : PE X o (tP X.K fa)) (hb : PE X e (tP X.K fb)) (hbase : attributeBase o "index" X.env (eval o X.env) = eval o X.env := by rfl)
    (hs : starEach [e] X.env = (false, eval e X.env) :: starEach [] X.env := by rfl)
    (hfew : ((backTo cpos (starEach [e] X.env)).all (fun x => !x.1) && (backToKw cpos (keywordEach [] X.env)).all (fun x => x.1.isSome) && decide ([e].length + ([] : List Keyword).length + (if ([] : List Keyword).isEmpty then 0 else 1) < 30)) = true := by rfl)
    (hline : (apos.endLine == cpos.line) = true := by rfl) (hplain : (backTo cpos (starEach [] X.env)).any (·.1) = false := by rfl) :
    PE X (.Call (.Attribute o "index" apos) [e] [] cpos) (tP X.K (pu2 ixTD fa fb)) := (pe_tm PySem.F.slot_tuple_index PySem.F.type_tuple_index (mt_ixT hr) ho (pa_cons hb pa_nil hs) hbase hfew hline hs hplain).wk fun σ H Q ⟨g, ρ, T, G, W, d, hR, hf, k⟩ => by
  unfold pu2 at hf
  split at hf
  · rename_i d1 d2 e1 e2
    unfold ixTD at hf
    split at hf
    · rename_i ds n
      cases hi : intsO ds with
      | none => rw [hi] at hf; cases hf
      | some ns =>
        rw [hi] at hf
        dsimp only at hf
        split at hf
        · rename_i hm
          cases hf
          refine ⟨g, ρ, T, G, W, _, hR, e1, fun v H1 G1 R1 eg1 eh1 r1 => ?_⟩
          obtain ⟨l, xs, rfl, hq, hr'⟩ := r1.tr
          have exs := hr'.intsV hi
          subst exs
          exact ⟨⟨l, _, rfl, hq.same R1.gh⟩, g, ρ, T, G1, W, _, R1, e2, fun u H2 G2 R2 eg2 eh2 r2 => ⟨l, ns, n, rfl, by rw [Rep.i.mp r2], (hq.same (R1.gh.trans eh2)).sq, hm, k _ H2 G2 R2 (eg1.trans eg2) (eh1.trans eh2) (Rep.i.mpr rfl)⟩⟩
        · cases hf
    · cases hf
  · cases hf
end
end Tr
namespace Tr
open PySem PySem.Spec PyProof.Rows L2
theorem RoomG.u1 {k : Nat} {A : Around} (r : RoomG k A) : A.units + 1 < cLine := by have := r.toRoom.un; omega
/-! ### dicts with keys ints and texts -/
def keyD : D → Option Key
  | .int i => some (.inl i)
  | .str x => some (.inr x)
  | _ => none
theorem Rep.key {K : PySem.W.Frag} {G : Hp} {d : D} {v : V} {k : Key} (h : Rep K G d v) (e : keyD d = some k) : v = kV k := by
  cases d with
  | int i => cases e; exact Rep.i.mp h
  | str x => cases e; exact Rep.st.mp h
  | _ => cases e
def putD (kvs : List (Key × D)) (k : Key) (d : D) : List (Key × D) :=
  if (kvs.any fun kv => decide (kv.1 = k)) = true then kvs.map (fun kv => if kv.1 = k then (kv.1, d) else kv) else kvs ++ [(k, d)]
def valD (kvs : List (Key × D)) (k : Key) : Option D := (kvs.find? fun kv => decide (kv.1 = k)).map (·.2)
theorem RepK.keys {K : PySem.W.Frag} {G : Hp} : ∀ {kvs : List (Key × D)} {ys : List (Key × V)}, RepK K G kvs ys → ys.map (·.1) = kvs.map (·.1)
  | [], _, h => by rw [RepK] at h; subst h; rfl
  | (k, d) :: kvs, _, h => by
    rw [RepK] at h
    obtain ⟨x, r, rfl, _, h2⟩ := h
    rw [List.map_cons, List.map_cons, h2.keys]
theorem RepK.any {K : PySem.W.Frag} {G : Hp} {kvs : List (Key × D)} {ys : List (Key × V)} (h : RepK K G kvs ys) (p : Key → Bool) : (ys.any fun kv => p kv.1) = kvs.any fun kv => p kv.1 := by
  have e := h.keys
  have h1 : (ys.any fun kv => p kv.1) = (ys.map (·.1)).any p := by rw [List.any_map]; rfl
  have h2 : (kvs.any fun kv => p kv.1) = (kvs.map (·.1)).any p := by rw [List.any_map]; rfl
  rw [h1, h2, e]
theorem RepK.app {K : PySem.W.Frag} {G : Hp} : ∀ {a b : List (Key × D)} {xs ys : List (Key × V)}, RepK K G a xs → RepK K G b ys → RepK K G (a ++ b) (xs ++ ys)
  | [], _, _, _, h, h2 => by rw [RepK] at h; subst h; exact h2
  | (k, d) :: a, b, _, ys, h, h2 => by
    rw [RepK] at h
    obtain ⟨x, r, rfl, h3, h4⟩ := h
    rw [List.cons_append, RepK]
    exact ⟨x, r ++ ys, rfl, h3, h4.app h2⟩
theorem RepK.upd {K : PySem.W.Frag} {G : Hp} {k : Key} {d : D} {v : V} (r : Rep K G d v) : ∀ {a : List (Key × D)} {xs : List (Key × V)}, RepK K G a xs → RepK K G (a.map fun kv => if kv.1 = k then (kv.1, d) else kv) (xs.map fun kv => if kv.1 = k then (kv.1, v) else kv)
  | [], _, h => by rw [RepK] at h; subst h; rw [List.map_nil, List.map_nil, RepK]
  | (k', d') :: a, _, h => by
    rw [RepK] at h
    obtain ⟨x, r', rfl, h3, h4⟩ := h
    rw [List.map_cons, List.map_cons]
    by_cases hk : k' = k
    · rw [if_pos hk, if_pos hk, RepK]
      exact ⟨v, _, rfl, r, h4.upd r⟩
    · rw [if_neg hk, if_neg hk, RepK]
      exact ⟨x, _, rfl, h3, h4.upd r⟩
theorem RepK.put {K : PySem.W.Frag} {G : Hp} {k : Key} {d : D} {v : V} {a : List (Key × D)} {xs : List (Key × V)} (h : RepK K G a xs) (r : Rep K G d v) : RepK K G (putD a k d) (putK xs k v) := by
  unfold putD putK
  rw [h.any fun k' => decide (k' = k)]
  split
  · exact h.upd r
  · exact h.app (by rw [RepK]; exact ⟨v, [], rfl, r, by rw [RepK]⟩)
theorem RepK.val {K : PySem.W.Frag} {G : Hp} {k : Key} : ∀ {a : List (Key × D)} {xs : List (Key × V)}, RepK K G a xs → (∀ d, valD a k = some d → ∃ v, valV xs k = some v ∧ Rep K G d v) ∧ (valD a k = none → valV xs k = none)
  | [], _, h => by rw [RepK] at h; subst h; exact ⟨fun d e => (nomatch e), fun _ => rfl⟩
  | (k', d') :: a, _, h => by
    rw [RepK] at h
    obtain ⟨x, r', rfl, h3, h4⟩ := h
    unfold valD valV
    rw [List.find?_cons, List.find?_cons]
    by_cases hk : k' = k
    · rw [show decide (((k', d') : Key × D).1 = k) = true from decide_eq_true hk]
      exact ⟨fun d e => by cases e; exact ⟨x, rfl, h3⟩, fun e => (nomatch e)⟩
    · rw [show decide (((k', d') : Key × D).1 = k) = false from decide_eq_false hk]
      exact h4.val
theorem RepK.len {K : PySem.W.Frag} {G : Hp} {a : List (Key × D)} {xs : List (Key × V)} (h : RepK K G a xs) : a.length = xs.length := by
  have := congrArg List.length h.keys
  rw [List.length_map, List.length_map] at this
  exact this.symm
theorem valD_any : ∀ (a : List (Key × D)) (k : Key), (valD a k).isSome = a.any fun kv => decide (kv.1 = k)
  | [], _ => rfl
  | (k', d') :: a, k => by
    unfold valD
    rw [List.find?_cons, List.any_cons]
    by_cases hk : k' = k
    · rw [show decide (((k', d') : Key × D).1 = k) = true from decide_eq_true hk]; rfl
    · rw [show decide (((k', d') : Key × D).1 = k) = false from decide_eq_false hk, Bool.false_or]
      exact valD_any a k
section
variable {X : Cx} {e a b c : Expr} {es : List Expr} {Wx : WX} {p q pos : Pos} {ga : Mo D} {fa fb : Pu D}
/-- a dict that stands: owned, or frozen -/
theorem CRep.dic {K : PySem.W.Frag} {G H : Hp} {kvs : List (Key × D)} {v : V} (e : Same G H) (h : CRep K G H (.dic kvs) v) : ∃ a ys, v = .ref a ∧ H a = some (.dK ys) ∧ RepK K G kvs ys := by
  rcases h with h | ⟨_, _, _, e0, _⟩ | ⟨kvs', a, ys, e0, h1, h2, h3⟩
  · rw [Rep] at h
    obtain ⟨a, ys, h1, h2, h3⟩ := h
    exact ⟨a, ys, h1, e _ _ h2, h3⟩
  · cases e0
  · cases e0
    exact ⟨a, ys, h1, h2, h3⟩
/-- k in d -/
def inK (neg : Bool) (k d : D) : Option D := match keyD k, d with
  | some k, .dic kvs => some (.bl (if neg then !(kvs.any fun kv => decide (kv.1 = k)) else kvs.any fun kv => decide (kv.1 = k)))
  | _, _ => none
theorem inK_key {K : PySem.W.Frag} {g : Gs} {ρ : Rho} {T : List (O × V)} {σ : L2.St} {H G : Hp} {W : Own} {neg : Bool} {d1 d2 d : D} {x y : V} (hR : R K g ρ T σ H G W) (hf : inK neg d1 d2 = some d) (r1 : Rep K G d1 y) (r2 : CRep K G H d2 x) :
    ∃ a o, x = .ref a ∧ DGet H a y o ∧ d = .bl (if neg then !o.isSome else o.isSome) := by
  unfold inK at hf
  split at hf
  · rename_i k kvs e1
    cases hf
    obtain ⟨a, ys, rfl, h1, h2⟩ := r2.dic hR.gh
    refine ⟨a, valV ys k, rfl, .inl ⟨ys, k, .inl h1, r1.key e1, rfl⟩, ?_⟩
    have h3 := h2.val (k := k)
    have h4 := valD_any kvs k
    have h5 : (valV ys k).isSome = (valD kvs k).isSome := by
      cases hv : valD kvs k with
      | none => rw [h3.2 hv]; rfl
      | some d0 => obtain ⟨v, h6, _⟩ := h3.1 d0 hv; rw [h6]; rfl
    rw [h5, h4]
  · cases hf
theorem p_inK (hu : X.A.units + 1 < cLine) (ha : PE X a (tP X.K fa)) (hb : PE X b (tC X.K fb)) (hm : behindInMarks .In b = false := by rfl) : PE X (.Compare a [.In] [b] pos) (tP X.K (pu2 (inK false) fa fb)) := (pe_cmp (pc_din hu ha hb) hm).wk fun σ H Q ⟨g, ρ, T, G, W, d, hR, hf, k⟩ => by
  unfold pu2 at hf
  split at hf
  · rename_i d1 d2 e1 e2
    refine ⟨g, ρ, T, G, W, d1, hR, e1, fun y H1 G1 R1 eg1 eh1 r1 => ⟨g, ρ, T, G1, W, d2, R1, e2, fun x H2 G2 R2 eg2 eh2 r2 => ?_⟩⟩
    obtain ⟨a0, o, rfl, hg, rfl⟩ := inK_key R2 hf (r1.mono eg2) r2
    exact ⟨a0, o, rfl, hg, k _ H2 G2 R2 (eg1.trans eg2) (eh1.trans eh2) (Rep.b.mpr rfl)⟩
  · cases hf
theorem p_notInK (hu : X.A.units + 1 < cLine) (ha : PE X a (tP X.K fa)) (hb : PE X b (tC X.K fb)) (hm : behindInMarks .NotIn b = false := by rfl) : PE X (.Compare a [.NotIn] [b] pos) (tP X.K (pu2 (inK true) fa fb)) := (pe_cmp (pc_dnotin hu ha hb) hm).wk fun σ H Q ⟨g, ρ, T, G, W, d, hR, hf, k⟩ => by
  unfold pu2 at hf
  split at hf
  · rename_i d1 d2 e1 e2
    refine ⟨g, ρ, T, G, W, d1, hR, e1, fun y H1 G1 R1 eg1 eh1 r1 => ⟨g, ρ, T, G1, W, d2, R1, e2, fun x H2 G2 R2 eg2 eh2 r2 => ?_⟩⟩
    obtain ⟨a0, o, rfl, hg, rfl⟩ := inK_key R2 hf (r1.mono eg2) r2
    exact ⟨a0, o, rfl, hg, k _ H2 G2 R2 (eg1.trans eg2) (eh1.trans eh2) (Rep.b.mpr rfl)⟩
  · cases hf
theorem q_inK (hu : X.A.units + 1 < cLine) (ha : PE X a (tP X.K fa)) (hb : PE X b (tC X.K fb)) (hm : behindInMarks .In b = false := by rfl) : PT X (.Compare a [.In] [b] pos) (tQ X.K (tb (pu2 (inK false) fa fb))) := (pt_cmp (pc_din hu ha hb) hm).wk fun σ H Q h => by
  obtain ⟨g, ρ, T, G, W, d, hR, hf, k⟩ := tQ_P σ H Q h
  unfold pu2 at hf
  split at hf
  · rename_i d1 d2 e1 e2
    refine ⟨g, ρ, T, G, W, d1, hR, e1, fun y H1 G1 R1 eg1 eh1 r1 => ⟨g, ρ, T, G1, W, d2, R1, e2, fun x H2 G2 R2 eg2 eh2 r2 => ?_⟩⟩
    obtain ⟨a0, o, rfl, hg, rfl⟩ := inK_key R2 hf (r1.mono eg2) r2
    exact ⟨a0, o, rfl, hg, k _ H2 G2 R2 (eg1.trans eg2) (eh1.trans eh2) (Rep.b.mpr rfl)⟩
  · cases hf
theorem q_notInK (hu : X.A.units + 1 < cLine) (ha : PE X a (tP X.K fa)) (hb : PE X b (tC X.K fb)) (hm : behindInMarks .NotIn b = false := by rfl) : PT X (.Compare a [.NotIn] [b] pos) (tQ X.K (tb (pu2 (inK true) fa fb))) := (pt_cmp (pc_dnotin hu ha hb) hm).wk fun σ H Q h => by
  obtain ⟨g, ρ, T, G, W, d, hR, hf, k⟩ := tQ_P σ H Q h
  unfold pu2 at hf
  split at hf
  · rename_i d1 d2 e1 e2
    refine ⟨g, ρ, T, G, W, d1, hR, e1, fun y H1 G1 R1 eg1 eh1 r1 => ⟨g, ρ, T, G1, W, d2, R1, e2, fun x H2 G2 R2 eg2 eh2 r2 => ?_⟩⟩
    obtain ⟨a0, o, rfl, hg, rfl⟩ := inK_key R2 hf (r1.mono eg2) r2
    exact ⟨a0, o, rfl, hg, k _ H2 G2 R2 (eg1.trans eg2) (eh1.trans eh2) (Rep.b.mpr rfl)⟩
  · cases hf
/-- d[k] = v, d in a slot -/
def stoD (i : Nat) (f : Mo D) (fk : Pu D) : MS := fun ρ => match f ρ with
  | some (.ok d ρ1) => (match ρ1[i]?, fk ρ1 with
    | some s, some kd => (match s.tr, keyD kd with
      | some (.od kvs), some k => if kvs.length < sizeLine then some (.nx (ρ1.set i (s.put (.od (putD kvs k d))))) else none
      | _, _ => none)
    | _, _ => none)
  | some (.ex c fs ρ1) => some (.ex c fs ρ1)
  | none => none
theorem s_stoD {i : Nat} {o ek : Expr} {fk : Pu D} {p1 : Pos} (hu : X.A.units + 1 < cLine) (he : PE X e (tV X.K X.mg Wx ga)) (ho : PE X o (tVar i)) (hk : PE X ek (tP X.K fk)) (hs : swapsWith e (some (.Subscript o ek p1)) pos.line X.env = pure false := by rfl) :
    PS X (.Assign [.Subscript o ek p1] e pos) (tS X.K X.mg Wx (stoD i ga fk)) := (ps_dput hu ho hk he hs).wk fun D0 σ H ⟨g, ρ, T, G, W, hR, k⟩ => by
  refine ⟨g, ρ, T, G, W, hR, ?_⟩
  unfold stoD at k
  cases h1 : ga ρ with
  | none => rw [h1] at k; exact k.elim
  | some r =>
    rw [h1] at k
    cases r with
    | ex c fs ρ1 => exact k
    | ok d ρ1 =>
      intro v H1 G1 W1 R1 eg1 rv
      dsimp only at k
      split at k
      · rename_i s kd e0 ek
        split at k
        · rename_i kvs key et ekey
          split at k
          · rename_i hl
            obtain ⟨v0, hv0, _⟩ := R1.slo e0 et
            refine ⟨v0, hv0, g, ρ1, T, G1, W1, kd, R1, ek, fun y H2 G2 R2 eg2 eh2 ry => ?_⟩
            obtain ⟨a0, ys, hv, ha, hga, hr, wr⟩ := R2.wrD e0 et
            rw [hv0] at hv; cases hv
            have hy := ry.key ekey
            subst hy
            refine ⟨a0, _, rfl, DPut.k ha (by rw [← hr.len]; exact hl), ?_⟩
            exact k σ _ G2 _ (wr G2 _ _ (Same.refl _) R2 (hr.put (rv.mono eg2))) (eg1.trans eg2)
          · exact k.elim
        · exact k.elim
      · exact k.elim
/-! ### a new dict -/
/-- something new that is owned -/
theorem R.newO {K : PySem.W.Frag} {g : Gs} {ρ : Rho} {T : List (O × V)} {σ : L2.St} {H G : Hp} {W : Own} {p : Addr} {u : HO} {o : O} (h : R K g ρ T σ H G W) (hp : H p = none) (ho : Ow K G (upd H p u) (wJoin W T.length p) o (.ref p) (.t T.length) []) :
    R K g ρ (T ++ [(o, .ref p)]) σ (upd H p u) G (wJoin W T.length p) := by
  have ne : ∀ {b l}, W b = some l → b ≠ p := fun {b l} w e => (h.wl b l w).2.2 (by rw [e]; exact hp)
  have hu : Same H (upd H p u) := same_upd hp
  refine ⟨h.gh.trans hu, h.kh.trans hu, h.gg, h.sep, fun b l w => ?_, h.len, fun j s q => ?_, fun k o' v q => ?_⟩
  · by_cases hb : b = p
    · subst hb
      exact ⟨h.gh.free hp, h.kh.free hp, by rw [upd_same]; exact fun z => nomatch z⟩
    · have : ∃ l', W b = some l' := by
        unfold wJoin at w
        rw [if_neg hb] at w
        cases e : W b with
        | none => rw [e] at w; cases w
        | some l' => exact ⟨l', rfl⟩
      obtain ⟨l', w'⟩ := this
      rw [upd_ne hb]
      exact h.wl b l' w'
  · exact (h.sl j s q).keep (Same.refl G) (fun a z w => ⟨upd_ne (ne w), wJoin_s w (ne w)⟩) rfl
  · rcases getElem?_snoc q with ⟨q2, hk⟩ | ⟨ek, q2⟩
    · exact (h.tm k o' v q2).keep (Same.refl G) fun a z w => ⟨upd_ne (ne w), wJoin_lt w (ne w) hk⟩
    · cases q2
      subst ek
      exact ho
theorem R.newD {K : PySem.W.Frag} {g : Gs} {ρ : Rho} {T : List (O × V)} {σ : L2.St} {H G : Hp} {W : Own} {p : Addr} (h : R K g ρ T σ H G W) (hp : H p = none) :
    R K g ρ (T ++ [(.od [], .ref p)]) σ (upd H p (.dK [])) G (wJoin W T.length p) := h.newO hp (by
  rw [Ow]
  exact ⟨p, [], rfl, upd_same, if_pos rfl, by rw [RepK]⟩)
/-- the last temporary, a dict, is written -/
theorem R.wrT {K : PySem.W.Frag} {g : Gs} {ρ : Rho} {T : List (O × V)} {σ : L2.St} {H G : Hp} {W : Own} {p : Addr} {kvs kvs' : List (Key × D)} {ys' : List (Key × V)} (h : R K g ρ (T ++ [(.od kvs, .ref p)]) σ H G W) (r : RepK K G kvs' ys') :
    (∃ ys, H p = some (.dK ys) ∧ RepK K G kvs ys) ∧ R K g ρ (T ++ [(.od kvs', .ref p)]) σ (upd H p (.dK ys')) G W := by
  have last := h.tm T.length _ _ snoc_last
  rw [Ow] at last
  obtain ⟨a, ys, e, h1, h2, h3⟩ := last
  cases e
  have hw := h.wl p _ h2
  have ne : ∀ {b : Addr} {l : Lab}, W b = some l → l.1 ≠ .t T.length → b ≠ p := fun {b l} w hn e => by
    subst e
    rw [h2] at w
    cases w
    exact hn rfl
  refine ⟨⟨ys, h1, h3⟩, ?_, ?_, h.gg, h.sep, fun b l w => ?_, h.len, fun j s q => ?_, fun k o' v q => ?_⟩
  · exact fun b x e => by
      have hb : b ≠ p := fun z => by subst z; rw [hw.1] at e; cases e
      rw [upd_ne hb]; exact h.gh b x e
  · exact fun b x e => by
      have hb : b ≠ p := fun z => by subst z; rw [hw.2.1] at e; cases e
      rw [upd_ne hb]; exact h.kh b x e
  · obtain ⟨w1, w2, w3⟩ := h.wl b l w
    refine ⟨w1, w2, ?_⟩
    by_cases hb : b = p
    · subst hb; rw [upd_same]; exact fun z => nomatch z
    · rw [upd_ne hb]; exact w3
  · exact (h.sl j s q).keep (Same.refl G) (fun a z w => ⟨upd_ne (ne w fun z => nomatch z), w⟩) rfl
  · rcases getElem?_snoc q with ⟨q2, hk⟩ | ⟨ek, q2⟩
    · refine (h.tm k o' v (by rw [List.getElem?_append_left hk]; exact q2)).keep (Same.refl G) fun a z w => ⟨upd_ne (ne w fun z => ?_), w⟩
      injection z with z
      omega
    · cases q2
      subst ek
      rw [Ow]
      exact ⟨p, ys', rfl, upd_same, h2, r⟩
/-- {} -/
def dic0 : Mo O := fun ρ => some (.ok (.od []) ρ)
theorem x_dic0 : PE X (.Dict [] [] pos) (tX X.K X.mg Wx dic0) := pe_dnewK.wk fun σ H Q ⟨g, ρ, T, G, W, hR, k⟩ => fun p hp => k _ _ G _ (hR.newD hp) (Same.refl _)
/-- {k: v} -/
def dic1 (fk fv : Pu D) : Mo O := fun ρ => match fk ρ, fv ρ with
  | some k, some d => (match keyD k with
    | some k => some (.ok (.od [(k, d)]) ρ)
    | none => none)
  | _, _ => none
theorem x_dic1 (ha : PE X a (tP X.K fa)) (hb : PE X b (tP X.K fb)) : PE X (.Dict [some a] [b] pos) (tX X.K X.mg Wx (dic1 fa fb)) := (pe_disp (pps_cons ha hb pps_nil) rfl rfl (by simp) (by simp)).wk fun σ H Q ⟨g, ρ, T, G, W, hR, k⟩ => by
  intro p hp
  unfold dic1 at k
  split at k
  · rename_i d1 d2 e1 e2
    split at k
    · rename_i key ek
      refine ⟨g, ρ, _, G, _, d1, hR.newD hp, e1, fun x H1 G1 R1 eg1 eh1 r1 => ⟨g, ρ, _, G1, _, d2, R1, e2, fun y H2 G2 R2 eg2 eh2 r2 => ?_⟩⟩
      obtain ⟨⟨ys, h1, h2⟩, R3⟩ := R2.wrT (kvs' := [(key, d2)]) (ys' := [(key, y)]) (by rw [RepK]; exact ⟨y, [], rfl, r2, by rw [RepK]⟩)
      rw [RepK] at h2
      subst h2
      refine ⟨h1, [(key, y)], by rw [(r1.mono eg2).key ek]; rfl, by simp, ?_⟩
      exact k _ _ G2 _ R3 (eg1.trans eg2)
    · exact k.elim
  · exact k.elim
end
end Tr
namespace Tr
open PySem PySem.Spec PyProof.Rows L2
/-! ### calls by keywords: what the head gives -/
theorem ll_n : ∀ (ρ : Rho) ds, lpN ρ = some ds → ds.length = 0 := fun ρ ds e => by cases e; rfl
theorem ll_c {n : Nat} {fa : Pu D} {fr : Pu (List D)} (h : ∀ (ρ : Rho) ds, fr ρ = some ds → ds.length = n) : ∀ (ρ : Rho) ds, lpC fa fr ρ = some ds → ds.length = n + 1 := fun ρ ds e => by
  unfold lpC at e
  split at e
  · rename_i d ds' e1 e2
    cases e
    rw [List.length_cons, h ρ ds' e2]
  · cases e
theorem kb_mk {K : PySem.W.Frag} {x qual : Str} {st : Stmt} {f : Addr} {fd : FuncData} {ks ps : List Str} {per : List Nat} (F : Fun K x qual st f fd)
    (h : ∀ (kV doc pm : Value) (an : Option Addr) (cdv ct : Value) (us : List Value), us.length = ks.length → bindArgs (PySem.W.fnOf x qual (defArgs st) (defBody st) (defScope st) .none kV doc pm an cdv ct) ⟨[], ks.zip us⟩ = pure (ps.zip (per.map fun i => us.getD i .none))) (s : Shared) (us : List Value) (hl : us.length = ks.length) : BindsTo s fd ⟨[], ks.zip us⟩ (ps.zip (per.map fun i => us.getD i .none)) := by
  obtain ⟨oc, od, kV, doc, pm, an, cdv, ct, osl, rfl, lk, hcd⟩ := F.ex
  exact .of_eq (h kV doc pm an cdv ct us hl)
section
variable {X : Cx} {e : Expr} {Wx : WX} {pos pos' : Pos} {ga : Mo D}
theorem s_augAdd {i : Nat} {x : Str} (hN : X.N.Nodup) (hi : X.N[i]? = some x) (hx : Loc X.env.scope x) (he : PE X e (tV X.K X.mg Wx ga)) (hf : X.fn x = true ∨ X.env.scope.names.lookup x = some .local := by first | exact .inl rfl | exact .inr rfl | assumption) :
    PS X (.AugAssign (.Name x pos') .Add e pos) (tS X.K X.mg Wx (augS i (fun i j => i + j) ga)) := (ps_aug hN hi hx he ip_add hf).wk fun D0 σ H h => tAug_ok D0 σ H h
theorem s_augSub {i : Nat} {x : Str} (hN : X.N.Nodup) (hi : X.N[i]? = some x) (hx : Loc X.env.scope x) (he : PE X e (tV X.K X.mg Wx ga)) (hf : X.fn x = true ∨ X.env.scope.names.lookup x = some .local := by first | exact .inl rfl | exact .inr rfl | assumption) :
    PS X (.AugAssign (.Name x pos') .Sub e pos) (tS X.K X.mg Wx (augS i (fun i j => i - j) ga)) := (ps_aug hN hi hx he ip_sub hf).wk fun D0 σ H h => tAug_ok D0 σ H h
end
end Tr
namespace Tr
open PySem PySem.Spec PyProof.Rows L2
/-! ### objects of an own class: two fields, set by __init__ behind a check of both -/
theorem pu1_some {g : D → Option D} {fa : Pu D} {ρ : Rho} {d : D} (h : pu1 g fa ρ = some d) : ∃ x, fa ρ = some x ∧ g x = some d := by
  unfold pu1 at h
  split at h
  · rename_i x e; exact ⟨x, e, h⟩
  · cases h
def fldD (C0 : Addr) (f : Str) : D → Option D
  | .ob C fs => if C = C0 then fs.lookup f else none
  | _ => none
theorem Rep.ob {K : PySem.W.Frag} {G : Hp} {C : Addr} {fs : List (Str × D)} {v : V} : Rep K G (.ob C fs) v ↔ ∃ a dx ys, v = .ref a ∧ G a = some (.ins C dx ys) ∧ RepF K G fs ys := by rw [Rep]
section
variable {X : Cx} {e a b c : Expr} {es : List Expr} {Wx : WX} {p q pos : Pos} {ga : Mo D} {fa fb : Pu D}
theorem p_fld {C0 : Addr} {n : Str} (cl : Cls X.K C0) (na : NoAttr X.K C0 n) (he : PE X e (tP X.K fa)) (hb : attributeBase e n X.env (eval e X.env) = eval e X.env := by rfl) : PE X (.Attribute e n pos) (tP X.K (pu1 (fldD C0 n) fa)) :=
  (pe_fld (pos := pos) he hb).wk fun σ H Q ⟨g, ρ, T, G, W, d, hR, hf, k⟩ => by
    obtain ⟨x, e1, e2⟩ := pu1_some hf
    cases x with
    | ob C fs =>
      replace e2 : (if C = C0 then fs.lookup n else none) = some d := e2
      split at e2
      · rename_i hC
        subst hC
        refine ⟨g, ρ, T, G, W, .ob C fs, hR, e1, fun v H' G' R' eg eh r => ?_⟩
        obtain ⟨a, dx, ys, rfl, h1, h2⟩ := Rep.ob.mp r
        obtain ⟨y, l1, l2⟩ := h2.look e2
        exact ⟨a, C, dx, ys, y, rfl, R'.gh _ _ h1, cl, na, l1, k y H' G' R' eg eh l2⟩
      · cases e2
    | _ => cases e2
end
/-! ### a def by its body's plain transformer -/
section
variable {P : Program} {w : World} {K : PySem.W.Frag} {mg : MG} {base : Heap}
theorem fng_of {x qual : Str} {st : Stmt} {f : Addr} {fd : FuncData} {N ps : List Str} {k : Nat} {t : XK → TS} (F : Fun K x qual st f fd) (S : FnScope N ps (defScope st))
    (body : ∀ (cdv : Value) (A : Around) (out : List Env) (s : Shared) (H : Hp) (E : XK), RoomG k (A.deeper (envOfC qual (defScope st) s.heap.objs.size f cdv)) →
      PSs (cxOf (L2.CX P w) P w K mg base N qual (defScope st) f cdv A out s H E) (defBody st) (t E)) :
    FnG P w K mg base (k + 1) f fd ps (fun vs H Q E => vs.length = ps.length ∧ t E { nx := fun _ H' => Q .non H', rt := Q } (L2.start N vs) H) := by
  obtain ⟨_, _, kV, doc, pm, an, cdv, ct, osl, rfl, look, code⟩ := F.ex
  refine ⟨fun vs H Q E h => h.1, fun A out s H ar us vs Q E room env bind rel want => ?_⟩
  have kin : K.In s.heap := env.mod.kin.keeps fun b o e => (env.bs b o e).1
  refine codeAny_call_function room.toRoom.depth (kin _ _ look) rfl S.co S.gen rfl (PySem.W.codeRec_of kin code) (bind _ _ _ _ ?_)
  refine wpAny_newFunctionEnv_cells S.kind (fun ⟨n, v⟩ m => (S.par n (List.of_mem_zip m).1).elim .inl fun q => .inr ⟨q, PySem.W.cellsFrom_some _ _ _ (.inl q)⟩) fun e2 eq2 s1 there => ?_
  subst eq2
  refine ⟨(env.mod.nolimit.keeps fun b o e => (env.bs b o e).1).keeps there.toInCall.keep, codeAny_func ?_⟩
  have start1 : Inv (cxOf (L2.CX P w) P w K mg base N qual (defScope st) f cdv A out s H E) [] (L2.start N vs) H s1 := inv_start S room.toRoom.hd env want.1 rel there
  have ends : ∀ {σ' : L2.St} {H' : Hp} {v : V} {u : Value} {s' : Shared}, Inv (cxOf (L2.CX P w) P w K mg base N qual (defScope st) f cdv A out s H E) [] σ' H' s' → RelV v u → Q v H' → CE out P w H s Q u s' := fun J rv q => ⟨_, _, J.os, J.bare, J.base, J.hok, rv, q⟩
  refine wpAny_mono ((body cdv A out s H E (room.down _)).run [] s1 (L2.start N vs) H { nx := fun _ H' => Q .non H', rt := Q } start1 want.2) (fun fl s' hs => ?_) fun e s' hs => hs
  cases fl with
  | ret u => obtain ⟨v, σ', H', J, rv, q⟩ := hs; exact ends J rv q
  | next => obtain ⟨σ', H', J, q⟩ := hs; exact ends (v := V.non) (u := Value.none) J rfl q
  | brk => exact hs.elim fun _ h => h.elim fun _ h => h.2.elim
  | cont => exact hs.elim fun _ h => h.elim fun _ h => h.2.elim
/-- what __init__ does: the check, then the fields -/
def spMk (K : PySem.W.Frag) (mg : MG) (C : Addr) (f1 f2 : Str) (Fc : FS) : Sp := fun vs H Q E => ∃ x dx v1 v2, vs = [.ref x, v1, v2] ∧ spF K mg 2 Fc [v1, v2] H (fun _ H' => H' x = some (.ins C dx []) ∧ Q .non (upd H' x (.ins C dx [(f1, v1), (f2, v2)]))) E
end
section
variable {X : Cx} {e a b c : Expr} {es : List Expr} {Wx : WX} {p q pos : Pos}
/-- f(e, ..), as HandS reads it -/
theorem pe_callG {x : Str} {k n : Nat} {F : FS} {t : TA} (C : CalG X.prog X.w X.K X.mg X.base k x n F) (tk : Takes X Wx) (hr : RoomG k X.A) (hg : Gl X x) (ha : PA X (e :: es) t)
    (hdb : (x == ("__debug__" : Str)) = false := by decide) (he : starEach (e :: es) X.env = (false, eval e X.env) :: starEach es X.env := by rfl) (hpl : (backTo pos (starEach es X.env)).any (·.1) = false := by rfl) :
    PE X (.Call (.Name x p) (e :: es) [] pos) (tCallSD (spF X.K X.mg n F) [] (WE Wx) t) := by
  obtain ⟨f, fd, ps, rfl, FO, hm, hk, hb⟩ := C
  refine ⟨fun pins s σ H Q I h => ?_⟩
  refine wpAny_Call_Name_kw (ld_glob I hg hm ?_ hdb)
  refine PySem.W.callWith_K (h₀ := X.base) I.ok.mod.kin hk (thn (ha.run pos pins s σ H _ I h) fun us s1 ⟨vs, H1, I1, rel, want⟩ => ⟨I1.kIn, ?_⟩) he hpl
  have same : us.length = ps.length := by
    have h1 := FO.ln _ _ _ _ want
    rw [← rel.length]; simpa using h1
  have bd := hb s1 us I1.kIn (by rw [List.append_nil]; exact same)
  have want1 : spF X.K X.mg ps.length F vs H1 Q (WE Wx σ) := by have h2 : spF X.K X.mg ps.length F (vs ++ []) H1 Q (WE Wx σ) := want; rw [List.append_nil] at h2; exact h2
  rw [List.append_nil] at bd
  show wpAny _ _ (call (.ref f) us) _ _ _
  refine wpAny_call (codeAny_mono (FO.go X.A X.stack s1 H1 ⟨us, []⟩ us vs Q (WE Wx σ) hr I1.env0 bd rel want1) fun r s' hq => ?_)
  cases r with
  | error e => exact passAt tk σ pins H1 s1 e s' I1 hq
  | ok fl =>
    cases fl with
    | ret u => exact I1.after hq
    | next => exact hq.elim
    | brk => exact hq.elim
    | cont => exact hq.elim
theorem RoomG.make {k : Nat} {A : Around} (r : RoomG (k + 1) A) (C : Addr) (us : List Value) (kw : List (Str × Value)) : RoomG k (A.under (.builtin "type.__call__" ⟨.ref C :: us, kw⟩)) := ⟨r.toRoom.make C us kw, r.gd⟩
end
end Tr
namespace Tr
open PySem PySem.Spec PyProof.Rows L2
section
variable {K : PySem.W.Frag} {g : Gs} {ρ : Rho} {T : List (O × V)} {σ : L2.St} {H G : Hp} {W : Own} {x : Addr} {u : HO}
/-- a cell that nothing speaks of is written for the last time: frozen -/
theorem R.put (h : R K g ρ T σ H G W) (hg : G x = none) (hk : g.kp x = none) (hw : W x = none) : R K g ρ T σ (upd H x u) (upd G x u) W where
  gh := fun b y q => by
    by_cases hb : b = x
    · subst hb; rw [upd_same] at q ⊢; exact q
    · rw [upd_ne hb] at q ⊢; exact h.gh _ _ q
  kh := fun b y q => by
    have hb : b ≠ x := fun e => by rw [e, hk] at q; cases q
    rw [upd_ne hb]; exact h.kh _ _ q
  gg := h.gg.trans (same_upd hg)
  sep := fun b y q => by
    by_cases hb : b = x
    · subst hb; exact absurd hk q
    · rw [upd_ne hb] at y; exact h.sep b y q
  wl := fun b l w => by
    have hb : b ≠ x := fun e => by rw [e, hw] at w; cases w
    rw [upd_ne hb, upd_ne hb]; exact h.wl b l w
  len := h.len
  sl := fun i s q => (h.sl i s q).keep (same_upd hg) (fun a z w => ⟨upd_ne (fun e => by rw [e, hw] at w; cases w), w⟩) rfl
  tm := fun k o v q => (h.tm k o v q).keep (same_upd hg) fun a z w => ⟨upd_ne (fun e => by rw [e, hw] at w; cases w), w⟩
end
/-- C(a, b): the check, then the object -/
def mkM (C : Addr) (f1 f2 : Str) (Fc : FS) (fa : Mo (List Ag)) : Mo O := fun ρ => match fa ρ with
  | some (.ok [.v d1, .v d2] ρ1) => (match Fc [.ow (.fr d1), .ow (.fr d2)] with
    | some (.ret _ _) => some (.ok (.fr (.ob C [(f1, d1), (f2, d2)])) ρ1)
    | some (.ex c fs _) => some (.ex c fs ρ1)
    | none => none)
  | some (.ok _ _) => none
  | some (.ex c fs ρ1) => some (.ex c fs ρ1)
  | none => none
def tMkS (sp : Sp) (C : Addr) (E : L2.St → XK) (t : TA) : TE := fun σ H Q => t σ H fun vs H1 => ∀ x dx, H1 x = none → H1 dx = none → dx ≠ x → sp (.ref x :: vs) (upd (upd H1 dx (.own x)) x (.ins C dx [])) (fun v H2 => v = .non ∧ Q (.ref x) H2) (E σ)
section
variable {K : PySem.W.Frag} {mg : MG} {Wx : WX} {C : Addr} {f1 f2 : Str} {Fc : FS} {fa : Mo (List Ag)}
theorem tMk_ok : ∀ σ H Q, tX K mg Wx (mkM C f1 f2 Fc fa) σ H Q → tMkS (spMk K mg C f1 f2 Fc) C (WE Wx) (tAg K mg Wx fa) σ H Q := fun σ H Q ⟨g, ρ, T, G, W, hR, k⟩ => by
  refine ⟨g, ρ, T, G, W, hR, ?_⟩
  unfold mkM at k
  cases h1 : fa ρ with
  | none => rw [h1] at k; exact k.elim
  | some r =>
    rw [h1] at k
    cases r with
    | ex c fs ρ1 => exact k
    | ok as ρ1 =>
      intro vs H1 G1 W1 R1 eg1 ha x dx hx hdx hne
      obtain ⟨d1, d2, rfl⟩ : ∃ d1 d2, as = [.v d1, .v d2] := by
        match as, k with
        | [.v d1, .v d2], _ => exact ⟨d1, d2, rfl⟩
        | [], k => exact k.elim
        | [.v _], k => exact k.elim
        | [.l _], k => exact k.elim
        | .l _ :: _ :: _, k => exact k.elim
        | .v _ :: .l _ :: _, k => exact k.elim
        | .v _ :: .v _ :: _ :: _, k => exact k.elim
      dsimp only at k
      obtain ⟨v1, r1, rfl, p1, v2, r2, rfl, p2, p3⟩ := ha
      have p3 : r2 = [] := p3
      subst p3
      have ha : AgOk K G1 σ [.v d1, .v d2] [v1, v2] := ⟨v1, _, rfl, p1, v2, _, rfl, p2, rfl⟩
      have hx2 : upd H1 dx (.own x) x = none := by rw [upd_ne (fun e => hne e.symm)]; exact hx
      have R2 : R K g ρ1 T σ (upd (upd H1 dx (.own x)) x (.ins C dx [])) G1 W1 := (R1.ext (same_upd hdx)).ext (same_upd hx2)
      refine ⟨x, dx, v1, v2, rfl, rfl, kIn [.v d1, .v d2] W1 (upd (upd H1 dx (.own x)) x (.ins C dx [])), G1, wIn [.v d1, .v d2] W1, [.ow (.fr d1), .ow (.fr d2)], rfl, R2.enter ha rfl rfl, ?_⟩
      have wi : ∀ b, wIn [.v d1, .v d2] W1 b = none := fun b => by
        unfold wIn
        split
        · rfl
        · rfl
      have kp : kIn [.v d1, .v d2] W1 (upd (upd H1 dx (.own x)) x (.ins C dx [])) x = some (.ins C dx []) := by
        unfold kIn; rw [wi]; exact upd_same
      cases h3 : Fc [.ow (.fr d1), .ow (.fr d2)] with
      | none => rw [h3] at k; exact k.elim
      | some fr =>
        rw [h3] at k
        cases fr with
        | ret o outs =>
          intro v H' G' W' R' eg
          have hxi : H' x = some (.ins C dx []) := R'.kh _ _ kp
          refine ⟨hxi, rfl, ?_⟩
          obtain ⟨a1, a2, rfl⟩ : ∃ a1 a2, outs = [a1, a2] := by
            have hl := R'.len
            match outs, hl with
            | [a1, a2], _ => exact ⟨a1, a2, rfl⟩
          have hb : back [.v d1, .v d2] [a1, a2] ρ1 = some ρ1 := by cases a1 <;> cases a2 <;> rfl
          have R3 := R2.leave rfl R' eg ha hb (Nat.le_refl 1)
          have R4 := R3.dropT
          have gx1 : G1 x = none := R1.gh.free hx
          have kx : g.kp x = none := R1.kh.free hx
          have gx : G' x = none := by
            cases e : G' x with
            | none => rfl
            | some y => exact absurd gx1 (R'.sep x (by rw [e]; exact fun z => nomatch z) (by show kIn _ _ _ x ≠ none; rw [kp]; exact fun z => nomatch z))
          have wx1 : W1 x = none := by
            cases e : W1 x with
            | none => rfl
            | some l => exact absurd hx (R1.wl x l e).2.2
          have wx' : W' x = none := by
            cases e : W' x with
            | none => rfl
            | some l =>
              have := (R'.wl x l e).2.1
              rw [show (Gs.mk (kIn [.v d1, .v d2] W1 (upd (upd H1 dx (.own x)) x (.ins C dx []))) G1 [v1, v2]).kp x = _ from kp] at this
              cases this
          have wx : wOut [.v d1, .v d2] T.length W1 W' x = none := by
            unfold wOut
            rw [wx', wi]; exact wx1
          have R5 := R4.put (u := .ins C dx [(f1, v1), (f2, v2)]) gx kx wx
          have eg2 : Same G1 (upd G' x (.ins C dx [(f1, v1), (f2, v2)])) := eg.trans (same_upd gx)
          refine k (.ref x) _ _ _ (R5.addT ?_) (eg1.trans eg2)
          rw [Rep]
          refine ⟨x, dx, _, rfl, upd_same, ?_⟩
          rw [RepF]
          refine ⟨v1, _, rfl, p1.mono eg2, ?_⟩
          rw [RepF]
          refine ⟨v2, _, rfl, p2.mono eg2, ?_⟩
          rw [RepF]
        | ex c fs outs =>
          intro CE d fv H' G' W' hm R' eg hd hf
          obtain ⟨a1, a2, rfl⟩ : ∃ a1 a2, outs = [a1, a2] := by
            have hl := R'.len
            match outs, hl with
            | [a1, a2], _ => exact ⟨a1, a2, rfl⟩
          have hb : back [.v d1, .v d2] [a1, a2] ρ1 = some ρ1 := by cases a1 <;> cases a2 <;> rfl
          have R3 := R2.leave rfl R' eg ha hb (Nat.zero_le 1)
          rw [List.append_nil] at R3
          exact k CE d fv σ H' G' _ hm R3 (eg1.trans eg) hd hf
/-- the body of __init__ keeps the promise -/
theorem spMk_ok {N : List Str} {Wx : XK → WX} (hN : N.length = 3) (cl : Cls K C) (n1 : NoAttr K C f1) (n2 : NoAttr K C f2) (ne : f1 ≠ f2) (hW : ∀ E σ, WE (Wx E) σ = E) : ∀ vs H Q E, spMk K mg C f1 f2 Fc vs H Q E →
    vs.length = 3 ∧ tSeq (tDrop (tCallSD (spF K mg 2 Fc) [] (WE (Wx E)) (tCons (tVar 1) (tCons (tVar 2) tNil)))) (tSeq (sFld K (tVar 0) (tVar 1) f1) (sFld K (tVar 0) (tVar 2) f2)) { nx := fun _ H' => Q .non H', rt := Q } (L2.start N vs) H := fun vs H Q E ⟨x, dx, v1, v2, e, h⟩ => by
  subst e
  refine ⟨rfl, v1, by simp [L2.start], v2, by simp [L2.start], ?_⟩
  obtain ⟨hl, kp, G, W, args, ha, hR, k⟩ := h
  refine ⟨hl, kp, G, W, args, ha, hR, ?_⟩
  rw [hW]
  cases h3 : Fc args with
  | none => rw [h3] at k; exact k.elim
  | some fr =>
    rw [h3] at k
    cases fr with
    | ex c fs outs => exact k
    | ret o outs =>
      intro v H' G' W' R' eg
      obtain ⟨k1, k2⟩ := k v H' G' W' R' eg
      refine ⟨v1, by simp [L2.start], .ref x, by simp [L2.start], x, C, dx, [], rfl, k1, cl, n1, by decide, ?_⟩
      refine ⟨v2, by simp [L2.start], .ref x, by simp [L2.start], x, C, dx, [(f1, v1)], rfl, upd_same, cl, n2, by simp, ?_⟩
      have : putF f2 v2 [(f1, v1)] = [(f1, v1), (f2, v2)] := by
        unfold putF
        rw [if_neg ne]; rfl
      show Q .non (upd (upd H' x (.ins C dx [(f1, v1)])) x (.ins C dx (putF f2 v2 [(f1, v1)])))
      rw [this, show upd (upd H' x (.ins C dx [(f1, v1)])) x (.ins C dx [(f1, v1), (f2, v2)]) = upd H' x (.ins C dx [(f1, v1), (f2, v2)]) from by
        funext b
        by_cases hb : b = x
        · subst hb; rw [upd_same, upd_same]
        · rw [upd_ne hb, upd_ne hb, upd_ne hb]]
      exact k2
end
inductive MkG (P : Program) (w : World) (K : PySem.W.Frag) (mg : MG) (base : Heap) (k : Nat) (x f1 f2 : Str) (Fc : FS) (C : Addr) : Prop
  | mk (f : Addr) (fd : FuncData) (M : Mk K C f) (FO : FnG P w K mg base k f fd ["self", f1, f2] (spMk K mg C f1 f2 Fc)) (hb : Binds K fd ["self", f1, f2] []) (g : mg x = some (.ref C))
theorem MkG.le {P : Program} {w : World} {K : PySem.W.Frag} {mg : MG} {base : Heap} {k k' : Nat} {x f1 f2 : Str} {Fc : FS} {C : Addr} (h : MkG P w K mg base k x f1 f2 Fc C) (l : k ≤ k') : MkG P w K mg base k' x f1 f2 Fc C := by
  obtain ⟨f, fd, M, FO, hb, g⟩ := h
  exact ⟨f, fd, M, FO.le l, hb, g⟩
section
variable {X : Cx} {e a b c : Expr} {es : List Expr} {Wx : WX} {p q pos : Pos}
theorem x_makeG {x f1 f2 : Str} {k : Nat} {C : Addr} {Fc : FS} {fa : Mo (List Ag)} (MG : MkG X.prog X.w X.K X.mg X.base k x f1 f2 Fc C) (tk : Takes X Wx) (hr : RoomG (k + 1) X.A) (hg : Gl X x) (ha : PA X (e :: es) (tAg X.K X.mg Wx fa))
    (hdb : (x == ("__debug__" : Str)) = false := by decide) (he : starEach (e :: es) X.env = (false, eval e X.env) :: starEach es X.env := by rfl) (hpl : (backTo pos (starEach es X.env)).any (·.1) = false := by rfl) :
    PE X (.Call (.Name x p) (e :: es) [] pos) (tX X.K X.mg Wx (mkM C f1 f2 Fc fa)) := by
  obtain ⟨f, fd, M, FO, hb, hm⟩ := MG
  refine PE.wk (t := tMkS (spMk X.K X.mg C f1 f2 Fc) C (WE Wx) (tAg X.K X.mg Wx fa)) ⟨fun pins s σ H Q I h => ?_⟩ fun σ H Q h => tMk_ok σ H Q h
  refine wpAny_Call_Name_kw (ld_glob I hg hm ?_ hdb)
  refine PySem.W.callWith_K (h₀ := X.base) I.ok.mod.kin M.kp (thn (ha.run pos pins s σ H _ I h) fun us s1 ⟨vs, H1, I1, r, q⟩ => ⟨I1.kIn, ?_⟩) he hpl
  have hq := q (s1.heap.objs.size + 1) s1.heap.objs.size (I1.hok.fresh (Nat.le_succ _)) (I1.hok.fresh (Nat.le_refl _)) (Nat.ne_of_lt (Nat.lt_succ_self _))
  have I2 := Inv.made (C := C) I1
  have r2 : Vals (V.ref (s1.heap.objs.size + 1) :: vs) (Value.ref (s1.heap.objs.size + 1) :: us) := .cons rfl r
  have hl : (Value.ref (s1.heap.objs.size + 1) :: us).length = (["self", f1, f2] : List Str).length := by
    have e := r2.length
    rw [FO.ln _ _ _ _ hq] at e
    exact e.symm
  have bd := hb _ (Value.ref (s1.heap.objs.size + 1) :: us) I2.kIn (by rw [List.append_nil]; exact hl)
  rw [List.append_nil] at bd
  refine wpAny_call (make_map (f := f) I1.kIn M.makes M.init (beq_iff_eq.mp M.fn) (codeAny_mono (FO.go _ X.stack _ _ ⟨Value.ref (s1.heap.objs.size + 1) :: us, []⟩ (Value.ref (s1.heap.objs.size + 1) :: us) _ _ (WE Wx σ) (hr.make C us [])
    (I2.env0.make C us []) bd r2 hq) fun r s' hq' => ?_))
  cases r with
  | error e => exact passAt tk σ pins _ _ e s' I2 hq'
  | ok fl =>
    cases fl with
    | ret u =>
      obtain ⟨v, H', I3, rv, ev, q3⟩ := I2.after hq'
      subst ev
      exact ⟨rv, ⟨V.ref (s1.heap.objs.size + 1), H', I3, rfl, q3⟩⟩
    | next => exact False.elim hq'
    | brk => exact False.elim hq'
    | cont => exact False.elim hq'
end
end Tr
set_option maxHeartbeats 4000000
/-! sorted of tuples that begin with texts, no two alike -/
namespace SrtO
open PySem PySem.W PySem.Calls PyProof.Rows Srt
section
variable {prog : Program} {w : World} {A : Around} {s : Shared} {E : Value → Shared → Prop}
def IsOpn (h : Heap) (v : Value) (z : PySem.Str) : Prop := ∃ a o t its n r, v = .ref a ∧ h.get? a = some o ∧ o.cls = .type "tuple" ∧ o.data = .seq its n ∧ its.toList = .str z t :: r
theorem IsOpn.keeps {h h' : Heap} {v : Value} {z : PySem.Str} (p : IsOpn h v z) (k : ∀ b o, h.get? b = some o → o.cls = .type "tuple" → h'.get? b = some o) : IsOpn h' v z := by
  obtain ⟨a, o, t, its, n, r, e, ho, hc, hd, hr⟩ := p
  exact ⟨a, o, t, its, n, r, e, k _ _ ho hc, hc, hd, hr⟩
def ltS (a b : PySem.Str) : Bool := decide (a.cps.toList < b.cps.toList)
theorem ltS_asym {a b : PySem.Str} (h : ltS a b = true) : ltS b a = false := decide_eq_false fun g => List.lt_asymm (of_decide_eq_true h) g
theorem ltS_tr {a b c : PySem.Str} (h1 : ltS b a = false) (h2 : ltS c b = false) : ltS c a = false := decide_eq_false fun g =>
  List.not_lt.mpr (List.le_trans (List.not_lt.mp (of_decide_eq_false h1)) (List.not_lt.mp (of_decide_eq_false h2))) g
theorem ltS_eq {a b : PySem.Str} (h1 : ltS a b = false) (h2 : ltS b a = false) : a = b := by
  have h := List.le_antisymm (List.not_lt.mp (of_decide_eq_false h2)) (List.not_lt.mp (of_decide_eq_false h1))
  obtain ⟨x⟩ := a
  obtain ⟨y⟩ := b
  congr
  exact Array.toList_inj.mp h
theorem swo_ltS {α : Type} (k : α → PySem.Str) : Swo fun v u => ltS (k v) (k u) := ⟨fun _ _ h => ltS_asym h, fun _ _ _ h1 h2 => ltS_tr h1 h2⟩
theorem kat_same {b fin : Bool} {Q : Bool → Shared → Prop} (h : Q fin s) : ∀ (l : List Value) (i : Nat), PySem.W.KatLex prog w A b fin Q (l.zip l) i s
  | [], _ => PySem.W.kat_nil h
  | v :: l, i => PySem.W.kat_cons (SeqAt.EqAt.same v prog w _ _ (PySem.W.kat_yes (kat_same h l (i + 1))))
theorem opn_cmp {vs : List Value} {k : Value → PySem.Str} (hp : ∀ v ∈ vs, IsOpn s.heap v (k v)) (hi : ∀ v ∈ vs, ∀ u ∈ vs, k v = k u → v = u) : Cmp prog w A s (tuples' true) (fun p => p.1 ∈ vs) (lt2 fun v u => ltS (k v) (k u)) := by
  intro p q hm hm'
  have h1 := hp _ hm
  have h2 := hp _ hm'
  show wpAny (model prog w) A (keyLt' (tuples' true) p.1 q.1) (fun r s' => s' = s ∧ r = ltS (k p.1) (k q.1)) (fun _ _ => False) s
  by_cases e : k p.1 = k q.1
  · have e' := hi _ hm _ hm' e
    rw [e, e']
    obtain ⟨a, o, t, its, n, r, ev, ho, hc, hd, hr⟩ := h2
    rw [show ltS (k q.1) (k q.1) = false from (swo_ltS id).refl _, ev]
    refine PySem.W.kat_lt ho hd ho hd (kat_same ⟨rfl, ?_⟩ _ _)
    exact decide_eq_false (Nat.lt_irrefl _)
  · obtain ⟨a, o, t, its, n, r, ev, ho, hc, hd, hr⟩ := h1
    obtain ⟨a', o', t', its', n', r', ev', ho', hc', hd', hr'⟩ := h2
    generalize k p.1 = z at *
    generalize k q.1 = z' at *
    rw [ev, ev']
    refine PySem.W.kat_lt ho hd ho' hd' ?_
    rw [hr, hr']
    refine PySem.W.kat_cons (SeqAt.EqAt.str_str z t z' t' prog w _ _ ?_)
    refine PySem.W.kat_go (fun e1 => absurd (eq_of_beq e1) e) (fun e1 => ?_)
    exact PySem.W.kat_no (oneLt_str ⟨rfl, rfl⟩)
theorem firstsO {h : Heap} {k : Value → PySem.Str} : ∀ {vs : List Value}, (∀ v ∈ vs, IsOpn h v (k v)) → ∃ fs : List Value, PySem.W.KatTups h vs fs ∧ fs.length = vs.length ∧ ∀ f ∈ fs, ∃ x t, f = Value.str x t
  | [], _ => ⟨[], PySem.W.KatTups.nil, rfl, fun _ hm => by simp at hm⟩
  | v :: vs, hp => by
    obtain ⟨fs, h1, h2, h3⟩ := firstsO (vs := vs) fun v' hm => hp v' (List.mem_cons_of_mem _ hm)
    obtain ⟨a, o, t, its, n, r, e, ho, hc, hd, hr⟩ := hp v (List.mem_cons_self ..)
    rw [e]
    refine ⟨.str (k v) t :: fs, PySem.W.KatTups.cons ho hc hd (by rw [← Array.getElem?_toList, hr]; rfl) h1, by rw [List.length_cons, List.length_cons, h2], fun f hm => ?_⟩
    rcases List.mem_cons.mp hm with rfl | hm
    · exact ⟨_, t, rfl⟩
    · exact h3 f hm
theorem opn_sortableO {a : Addr} {vs : List Value} {k : Value → PySem.Str} (h0 : 0 < vs.length) (hp : ∀ v ∈ vs, IsOpn s.heap v (k v)) (hi : ∀ v ∈ vs, ∀ u ∈ vs, k v = k u → v = u) (ha : ∀ o, s.heap.get? a = some o → o.cls ≠ .type "tuple") : SortableO prog w A s a vs fun v u => ltS (k v) (k u) := by
  intro h' keep
  have hp' : ∀ v ∈ vs, IsOpn h' v (k v) := fun v hm => (hp v hm).keeps fun b o e c => keep b o (fun z => by subst z; exact ha o e c) e
  obtain ⟨fs, h1, h2, h3⟩ := firstsO hp'
  refine ⟨tuples' true, fun Q E hq => ?_, opn_cmp hp' hi⟩
  refine PySem.W.kat_kind (T := .type "str") h1 (by omega) (fun f hm => ?_) (by rfl) ?_
  · obtain ⟨x, t, rfl⟩ := h3 f hm
    exact PySem.W.Looks.now
  · have e : (Value.type "str" != Value.type "tuple") = true := by first | decide +kernel | rfl | decide
    rw [e]
    exact hq
theorem sorted_opn {l : Addr} {vs : List Value} {k : Value → PySem.Str} {Q : Value → Shared → Prop} (hl : s.heap.IsList l vs.toArray) (hz : vs.length ≤ sizeLine) (hp : ∀ v ∈ vs, IsOpn s.heap v (k v)) (hi : ∀ v ∈ vs, ∀ u ∈ vs, k v = k u → v = u)
    (h : ∀ (h' : Heap) (d : Addr) (out : List Value), Srtd (fun v u => ltS (k v) (k u)) out → Stb (fun v u => ltS (k v) (k u)) out vs → (∀ b o, s.heap.get? b = some o → h'.get? b = some o) → s.heap.objs.size ≤ d → (∃ n, h'.get? d = some (seqObj "list" out.toArray n)) → Q (.ref d) { s with heap := h' }) :
    wpAny (model prog w) A (call (.builtin "sorted") [.ref l]) Q E s := by
  refine sorted_ord (swo_ltS k) hl hz (fun h2 h₁ a ha kk => ?_) fun out hs hb => ?_
  · refine opn_sortableO (s := { s with heap := h₁ }) (by omega) (fun v hm => (hp v hm).keeps fun b o e _ => (kk b o e).2) hi fun o e => ?_
    have e' : some o = some (seqObj "list" vs.toArray 0) := e.symm.trans ha
    cases e'
    intro c
    exact absurd (Value.type.inj c) (by decide)
  · exact h _ _ out hs hb (fun b o e => sortedAll_old e) (Nat.le_succ _) (sortedAll_at s.heap vs out.toArray)
end
end SrtO
namespace L2
open PySem PySem.Spec PyProof.Rows
def rSortO (K : PySem.W.Frag) : List V → Hp → VK → Prop := fun vs H Q => ∃ (a : Addr) (L : List (V × Str)), vs = [V.ref a] ∧ SqL K H a (L.map (·.1)) ∧ (∀ p ∈ L, ∃ t ys, p.1 = V.ref t ∧ SqT K H t (.str p.2 :: ys)) ∧ (L.map (·.2)).Nodup ∧
  ∀ (k : V → Str), (∀ p ∈ L, k p.1 = p.2) → ∀ ys p, SrtO.Srtd (fun x y => SrtO.ltS (k x) (k y)) ys → ys.Perm (L.map (·.1)) → H p = none → Q (.ref p) (upd H p (.lst ys))
theorem nodup_snd {L : List (V × Str)} (h : (L.map (·.2)).Nodup) : ∀ p ∈ L, ∀ q ∈ L, p.2 = q.2 → p = q := by
  induction L with
  | nil => intro p hp; cases hp
  | cons a L ih =>
    rw [List.map_cons, List.nodup_cons] at h
    intro p hp q hq e
    rcases List.mem_cons.mp hp with e1 | hp1
    · rcases List.mem_cons.mp hq with e2 | hq1
      · rw [e1, e2]
      · exact (h.1 (List.mem_map.mpr ⟨q, hq1, by rw [← e, e1]⟩)).elim
    · rcases List.mem_cons.mp hq with e2 | hq1
      · exact (h.1 (List.mem_map.mpr ⟨p, hp1, by rw [e, e2]⟩)).elim
      · exact ih h.2 p hp1 q hq1 e
section
variable {X : Cx}
theorem cr_sortO : CallR X (.builtin "sorted") (rSortO X.K) := by
  intro pins s σ H vs us Q I r h
  obtain ⟨a, L, rfl, hs, hx0, hnd, q0⟩ := h
  have uni : ∀ p ∈ L, ∀ q ∈ L, p.1 = q.1 → p.2 = q.2 := fun p hp q hq e => by
    obtain ⟨t, ys, e1, h1⟩ := hx0 p hp
    obtain ⟨t', ys', e2, h2⟩ := hx0 q hq
    have e3 : V.ref t = V.ref t' := e1.symm.trans (e.trans e2)
    cases e3
    exact V.str.inj (List.cons.inj (I.tuple_inj h1 h2)).1
  obtain ⟨k, hk⟩ : ∃ k : V → Str, ∀ p ∈ L, k p.1 = p.2 := by
    classical
    refine ⟨fun v => if h : ∃ p, p ∈ L ∧ p.1 = v then h.choose.2 else Str.empty, fun p hp => ?_⟩
    have h : ∃ q, q ∈ L ∧ q.1 = p.1 := ⟨p, hp, rfl⟩
    show (if h : ∃ q, q ∈ L ∧ q.1 = p.1 then h.choose.2 else Str.empty) = p.2
    rw [dif_pos h]
    exact uni _ h.choose_spec.1 _ hp h.choose_spec.2
  have q := q0 k hk
  generalize hxs : L.map (·.1) = xs at hs q
  have hx : ∀ x ∈ xs, ∃ t ys, x = V.ref t ∧ SqT X.K H t (.str (k x) :: ys) := fun x m => by
    rw [← hxs] at m
    obtain ⟨p, hp, rfl⟩ := List.mem_map.mp m
    rw [hk p hp]
    exact hx0 p hp
  have hi : ∀ x ∈ xs, ∀ y ∈ xs, k x = k y → x = y := fun x m y n e => by
    rw [← hxs] at m n
    obtain ⟨p, hp, rfl⟩ := List.mem_map.mp m
    obtain ⟨p', hp', rfl⟩ := List.mem_map.mp n
    rw [hk p hp, hk p' hp'] at e
    rw [nodup_snd hnd p hp p' hp' e]
  obtain ⟨its, rv, hl, hz⟩ := I.list hs
  obtain ⟨u, rfl, ru⟩ := vals1 r
  obtain rfl : u = Value.ref a := ru
  obtain ⟨e1, e2⟩ := refs_back rv fun x m => by
    obtain ⟨t, _, e, _⟩ := hx x m
    exact ⟨t, e⟩
  have back_inj : ∀ u ∈ its, ∀ v ∈ its, backV u = backV v → u = v := fun u hu v hv e => by
    obtain ⟨a1, rfl⟩ := e2 u hu
    obtain ⟨a2, rfl⟩ := e2 v hv
    have e : V.ref a1 = V.ref a2 := e
    cases e; rfl
  refine SrtO.sorted_opn (k := fun u => k (backV u)) hl.isList (by rw [← rv.length]; exact hz) (fun v hv => ?_) (fun v hv u hu e => ?_) fun h' d out h1 h2 kp hd hn => ?_
  · obtain ⟨t, rfl⟩ := e2 v hv
    have hm : V.ref t ∈ xs := by rw [e1]; exact List.mem_map.mpr ⟨_, hv, rfl⟩
    obtain ⟨t', ys, e, ht⟩ := hx _ hm
    cases e
    obtain ⟨its2, r2, ⟨o, ho, hc, n, hd⟩, _⟩ := I.tuple ht
    cases r2 with
    | cons rs rr =>
      obtain ⟨t1, rfl⟩ := (show ∃ t1, _ = Value.str _ t1 from rs)
      exact ⟨t, o, t1, _, n, _, rfl, ho, hc, hd, rfl⟩
  · have hm1 : backV v ∈ xs := by rw [e1]; exact List.mem_map.mpr ⟨_, hv, rfl⟩
    have hm2 : backV u ∈ xs := by rw [e1]; exact List.mem_map.mpr ⟨_, hu, rfl⟩
    exact back_inj v hv u hu (hi _ hm1 _ hm2 e)
  · have h3 : ∀ u ∈ out, ∃ a, u = Value.ref a := fun u hu => e2 u (h2.perm.mem_iff.mp hu)
    obtain ⟨n, hn⟩ := hn
    have hb : (out.map backV).Perm xs := by
      rw [e1]
      exact h2.perm.map backV
    refine ⟨.ref d, upd H d (.lst (out.map backV)), I.laid (t' := s.toks) kp hd ⟨?_, out, n, vals_back h3, hn⟩, rfl, q _ d (SrtO.srtd_map h1) hb (I.hok.fresh hd)⟩
    rw [hb.length_eq]
    exact hz
end
end L2
namespace Tr
open PySem PySem.Spec PyProof.Rows L2
/-! ### sorted of tuples that begin with texts -/
def fstS : D → Option Str
  | .tup (.str z :: _) => some z
  | _ => none
def fstK (d : D) : Str := (fstS d).getD Str.empty
section
variable {α β : Type}
def insG (f : α → Str) (x : α) : List α → List α
  | [] => [x]
  | y :: r => if SrtO.ltS (f y) (f x) = true then y :: insG f x r else x :: y :: r
def srtG (f : α → Str) : List α → List α
  | [] => []
  | x :: r => insG f x (srtG f r)
theorem insG_perm (f : α → Str) (x : α) : ∀ l : List α, (insG f x l).Perm (x :: l)
  | [] => .refl _
  | y :: r => by
    unfold insG
    split
    · exact ((insG_perm f x r).cons y).trans (.swap ..)
    · exact .refl _
theorem srtG_perm (f : α → Str) : ∀ l : List α, (srtG f l).Perm l
  | [] => .refl _
  | x :: r => (insG_perm f x (srtG f r)).trans ((srtG_perm f r).cons x)
theorem insG_srt (f : α → Str) (x : α) : ∀ l : List α, SrtO.Srtd (fun a b => SrtO.ltS (f a) (f b)) l → SrtO.Srtd (fun a b => SrtO.ltS (f a) (f b)) (insG f x l)
  | [], _ => List.pairwise_singleton _ _
  | y :: r, h => by
    unfold insG
    have h1 := List.pairwise_cons.mp h
    split
    · rename_i c
      refine List.pairwise_cons.mpr ⟨fun z hz => ?_, insG_srt f x r h1.2⟩
      rcases List.mem_cons.mp ((insG_perm f x r).mem_iff.mp hz) with rfl | hz
      · exact SrtO.ltS_asym c
      · exact h1.1 z hz
    · rename_i c
      have c : SrtO.ltS (f y) (f x) = false := by simpa using c
      refine List.pairwise_cons.mpr ⟨fun z hz => ?_, h⟩
      rcases List.mem_cons.mp hz with rfl | hz
      · exact c
      · exact SrtO.ltS_tr c (h1.1 z hz)
theorem srtG_srt (f : α → Str) : ∀ l : List α, SrtO.Srtd (fun a b => SrtO.ltS (f a) (f b)) (srtG f l)
  | [] => List.Pairwise.nil
  | x :: r => insG_srt f x _ (srtG_srt f r)
theorem insG_map (f : β → Str) (g : α → β) (x : α) : ∀ l : List α, (insG (fun a => f (g a)) x l).map g = insG f (g x) (l.map g)
  | [] => rfl
  | y :: r => by
    unfold insG
    rw [List.map_cons]
    dsimp only
    by_cases c : SrtO.ltS (f (g y)) (f (g x)) = true
    · rw [if_pos c, if_pos c, List.map_cons, insG_map f g x r]
    · rw [if_neg c, if_neg c, List.map_cons, List.map_cons]
theorem srtG_map (f : β → Str) (g : α → β) : ∀ l : List α, (srtG (fun a => f (g a)) l).map g = srtG f (l.map g)
  | [] => rfl
  | x :: r => by
    show (insG _ x (srtG _ r)).map g = insG f (g x) (srtG f (r.map g))
    rw [insG_map, srtG_map f g r]
/-- sorted rearrangements by a key that tells all apart are one -/
theorem srt_uniq {k : α → Str} : ∀ {l m : List α}, (∀ x ∈ l, ∀ y ∈ l, k x = k y → x = y) → l.Nodup → l.Perm m → SrtO.Srtd (fun a b => SrtO.ltS (k a) (k b)) l → SrtO.Srtd (fun a b => SrtO.ltS (k a) (k b)) m → l = m
  | [], m, _, _, p, _, _ => (List.Perm.eq_nil p.symm).symm
  | x :: l, [], _, _, p, _, _ => absurd p.length_eq (by simp)
  | x :: l, y :: m, inj, nd, p, hl, hm => by
    have h1 := List.pairwise_cons.mp hl
    have h2 := List.pairwise_cons.mp hm
    have e : x = y := by
      rcases List.mem_cons.mp (p.mem_iff.mp (List.mem_cons_self (a := x) (l := l))) with e | hx
      · exact e
      · rcases List.mem_cons.mp (p.mem_iff.mpr (List.mem_cons_self (a := y) (l := m))) with e | hy
        · exact e.symm
        · exact inj x (List.mem_cons_self ..) y (List.mem_cons_of_mem _ hy) (SrtO.ltS_eq (h2.1 x hx) (h1.1 y hy))
    subst e
    rw [srt_uniq (fun a ha b hb => inj a (List.mem_cons_of_mem _ ha) b (List.mem_cons_of_mem _ hb)) (List.nodup_cons.mp nd).2 p.cons_inv h1.2 h2.2]
end
theorem inj_of_nodup {α β : Type} {f : α → β} : ∀ {l : List α}, (l.map f).Nodup → ∀ x ∈ l, ∀ y ∈ l, f x = f y → x = y
  | [], _, x, hx, _, _, _ => by cases hx
  | a :: l, h, x, hx, y, hy, e => by
    rw [List.map_cons, List.nodup_cons] at h
    rcases List.mem_cons.mp hx with e1 | hx1
    · rcases List.mem_cons.mp hy with e2 | hy1
      · rw [e1, e2]
      · exact (h.1 (List.mem_map.mpr ⟨y, hy1, by rw [← e, e1]⟩)).elim
    · rcases List.mem_cons.mp hy with e2 | hy1
      · exact (h.1 (List.mem_map.mpr ⟨x, hx1, by rw [e, e2]⟩)).elim
      · exact inj_of_nodup h.2 x hx1 y hy1 e
theorem nodup_of_map {α β : Type} {f : α → β} : ∀ {l : List α}, (l.map f).Nodup → l.Nodup
  | [], _ => List.nodup_nil
  | a :: l, h => by
    rw [List.map_cons, List.nodup_cons] at h
    exact List.nodup_cons.mpr ⟨fun m => h.1 (List.mem_map.mpr ⟨a, m, rfl⟩), nodup_of_map h.2⟩
def sortOD (d : D) : Option (List D) := match d.lsq with
  | some ds => if (ds.all fun d => (fstS d).isSome) = true ∧ (ds.map fstK).Nodup then some (srtG fstK ds) else none
  | none => none
theorem Reps.prs {K : PySem.W.Frag} {G : Hp} : ∀ {ds : List D} {xs : List V}, Reps K G ds xs → ∃ M : List (D × V), M.map (·.1) = ds ∧ M.map (·.2) = xs ∧ ∀ p ∈ M, Rep K G p.1 p.2
  | [], _, h => by rw [Reps] at h; subst h; exact ⟨[], rfl, rfl, fun p m => by cases m⟩
  | d :: ds, _, h => by
    rw [Reps] at h
    obtain ⟨x, r, rfl, h1, h2⟩ := h
    obtain ⟨M, e1, e2, e3⟩ := Reps.prs h2
    refine ⟨(d, x) :: M, by rw [List.map_cons, e1], by rw [List.map_cons, e2], fun p m => ?_⟩
    rcases List.mem_cons.mp m with rfl | m
    · exact h1
    · exact e3 p m
theorem Reps.of_prs {K : PySem.W.Frag} {G : Hp} : ∀ {M : List (D × V)}, (∀ p ∈ M, Rep K G p.1 p.2) → Reps K G (M.map (·.1)) (M.map (·.2))
  | [], _ => by rw [List.map_nil, List.map_nil, Reps]
  | p :: M, h => by
    rw [List.map_cons, List.map_cons, Reps]
    exact ⟨p.2, _, rfl, h p (List.mem_cons_self ..), Reps.of_prs fun q m => h q (List.mem_cons_of_mem _ m)⟩
theorem Rep.fst {K : PySem.W.Frag} {G : Hp} {d : D} {v : V} (h : Rep K G d v) (e : (fstS d).isSome = true) : ∃ t ys, v = .ref t ∧ SqT K G t (.str (fstK d) :: ys) := by
  unfold fstK
  cases hz : fstS d with
  | none => rw [hz] at e; cases e
  | some z =>
    unfold fstS at hz
    split at hz
    · cases hz
      obtain ⟨a, xs, rfl, h1, h2⟩ := h.tp
      rw [Reps] at h2
      obtain ⟨x, r, rfl, h3, _⟩ := h2
      have := Rep.st.mp h3
      subst this
      exact ⟨a, r, rfl, h1⟩
    · cases hz
theorem sortOD_ok {K : PySem.W.Frag} : C1L K (rSortO K) sortOD := fun d zs x H G Q hz e r k => by
  unfold sortOD at hz
  cases hd : d.lsq with
  | none => rw [hd] at hz; cases hz
  | some ds =>
    rw [hd] at hz
    dsimp only at hz
    split at hz
    · rename_i hc
      cases hz
      obtain ⟨hall, hnd⟩ := hc
      obtain ⟨a, xs, rfl, h1, h2⟩ := r.lsq e hd
      have hsq : d.sq = some ds := by
        cases d <;> first | (cases hd; done) | exact hd
      have hn := r.sql hsq
      obtain ⟨M, m1, m2, m3⟩ := h2.prs
      have hf : ∀ p ∈ M, (fstS p.1).isSome = true := fun p m => List.all_eq_true.mp hall p.1 (by rw [← m1]; exact List.mem_map.mpr ⟨p, m, rfl⟩)
      have f1 : (M.map fun p => (p.2, fstK p.1)).map (·.1) = xs := by rw [List.map_map, ← m2]; rfl
      have f2 : (M.map fun p => (p.2, fstK p.1)).map (·.2) = ds.map fstK := by rw [List.map_map, ← m1, List.map_map]; rfl
      refine ⟨a, M.map fun p => (p.2, fstK p.1), rfl, by rw [f1]; exact h1, fun q m => ?_, by rw [f2]; exact hnd, fun kk hk ys p hs hp hf2 => ?_⟩
      · obtain ⟨p, mp, rfl⟩ := List.mem_map.mp m
        obtain ⟨t, ys, e1, e2⟩ := (m3 p mp).fst (hf p mp)
        exact ⟨t, ys, e1, SqT_same e e2⟩
      · have hkM : ∀ p ∈ M, kk p.2 = fstK p.1 := fun p m => hk _ (List.mem_map.mpr ⟨p, m, rfl⟩)
        have pM := srtG_perm (fun p : D × V => fstK p.1) M
        have sM := srtG_srt (fun p : D × V => fstK p.1) M
        have e1 : (srtG (fun p : D × V => fstK p.1) M).map (·.1) = srtG fstK ds := by rw [srtG_map fstK (fun p : D × V => p.1) M, m1]
        have hs2 : SrtO.Srtd (fun a b => SrtO.ltS (kk a) (kk b)) ((srtG (fun p : D × V => fstK p.1) M).map (·.2)) := by
          refine List.pairwise_map.mpr (sM.imp_of_mem fun {a b} ha hb q => ?_)
          show SrtO.ltS (kk b.2) (kk a.2) = false
          rw [hkM _ (pM.mem_iff.mp ha), hkM _ (pM.mem_iff.mp hb)]
          exact q
        rw [f1] at hp
        have p2 : ys.Perm ((srtG (fun p : D × V => fstK p.1) M).map (·.2)) := hp.trans (by rw [← m2]; exact (pM.map _).symm)
        have ndk : (M.map fun p => kk p.2).Nodup := by
          rw [List.map_congr_left hkM]
          have : (M.map fun p => fstK p.1) = ds.map fstK := by rw [← m1, List.map_map]; rfl
          rw [this]; exact hnd
        have ndx : (xs.map kk).Nodup := by rw [← m2, List.map_map]; exact ndk
        have inj : ∀ x ∈ ys, ∀ y ∈ ys, kk x = kk y → x = y := fun x hx y hy q => by
          exact inj_of_nodup ndx x (hp.mem_iff.mp hx) y (hp.mem_iff.mp hy) q
        have ndy : ys.Nodup := hp.nodup_iff.mpr (nodup_of_map ndx)
        have := srt_uniq inj ndy p2 hs hs2
        subst this
        refine k _ p hf2 ?_ ?_
        · rw [← e1]
          exact Reps.of_prs fun q m => m3 q (pM.mem_iff.mp m)
        · rw [(srtG_perm fstK ds).length_eq]; exact hn
    · cases hz
end Tr
namespace Tr
open PySem PySem.Spec PyProof.Rows L2
section
variable {X : Cx} {e a b c tg : Expr} {es : List Expr} {lo hi : Option Expr} {Wx : WX} {p pos p2 : Pos} {ga gb : Mo D} {fa fb f : Pu D} {fl fh : Pu (Option Int)} {st : Stmt}
/-! ### what is never reached -/
def nvS : MS := fun _ => none
theorem s_never : PS X st (tS X.K X.mg Wx nvS) := ⟨fun _ _ _ _ _ _ ⟨_, _, _, _, _, _, k⟩ => k.elim⟩
def nvX : Mo O := fun _ => none
theorem x_never : PE X e (tX X.K X.mg Wx nvX) := ⟨fun _ _ _ _ _ _ ⟨_, _, _, _, _, _, k⟩ => k.elim⟩
/-! ### slices of texts, too -/
theorem CRep.str {K : PySem.W.Frag} {G H : Hp} {z : Str} {v : V} (h : CRep K G H (.str z) v) : v = .str z := by
  rcases h with r | ⟨ds', a, xs, e0, _⟩ | ⟨ds', a, xs, e0, _⟩
  · exact Rep.st.mp r
  · cases e0
  · cases e0
def slAD (d : D) (lo hi : Option Int) : Option D := match d with
  | .str z => if z.length ≤ sizeLine then some (.str (cutS z lo hi)) else none
  | d => slD d lo hi
abbrev rSlAll (K : PySem.W.Frag) : V → Option Int → Option Int → Hp → VK → Prop := fun x lo hi H Q => rSlS x lo hi H Q ∨ rSlB K x lo hi H Q
theorem sl_all : SlR X (rSlAll X.K) := sl_str.or sl_both
theorem slAD_ok {K : PySem.W.Frag} {d z : D} {v : V} {lo hi : Option Int} {H G : Hp} {Q : VK} (hz : slAD d lo hi = some z) (e : Same G H) (r : CRep K G H d v) (k : ∀ v H' G', Grow H G H' G' → Rep K G' z v → Q v H') : rSlAll K v lo hi H Q := by
  unfold slAD at hz
  split at hz
  · rename_i z0
    split at hz
    · rename_i hl
      cases hz
      exact .inl ⟨z0, r.str, hl, k _ H G .st (Rep.st.mpr rfl)⟩
    · cases hz
  · exact .inr (slD_ok hz e r k)
def slA (f : Pu D) (fl fh : Pu (Option Int)) : Pu D := fun ρ => match f ρ, fl ρ, fh ρ with
  | some d, some l, some h => slAD d l h
  | _, _, _ => none
theorem p_sliceA (he : PE X e (tC X.K f)) (hl : PO X lo (tPO X.K fl)) (hu : PO X hi (tPO X.K fh)) : PE X (.Subscript e (.Slice lo hi none p2) pos) (tP X.K (slA f fl fh)) := (pe_slice sl_all he hl hu).wk fun σ H Q ⟨g, ρ, T, G, W, d, hR, hf, k⟩ => by
  unfold slA at hf
  split at hf
  · rename_i d0 l h e1 e2 e3
    refine ⟨g, ρ, T, G, W, d0, hR, e1, fun v H1 G1 R1 eg1 eh1 r1 => ⟨g, ρ, T, G1, W, l, R1, e2, fun H2 G2 R2 eg2 eh2 => ⟨g, ρ, T, G2, W, h, R2, e3, fun H3 G3 R3 eg3 eh3 => ?_⟩⟩⟩
    refine slAD_ok hf R3.gh (r1.mono (eg2.trans eg3) (eh2.trans eh3)) fun v' H' G' w rv => ?_
    obtain ⟨R4, x, y⟩ := R3.grow w
    exact k v' H' G' R4 ((eg1.trans (eg2.trans eg3)).trans y) ((eh1.trans (eh2.trans eh3)).trans x) rv
  · cases hf
/-- .. of a value that a call gives -/
def slM (f : Mo D) (fl fh : Pu (Option Int)) : Mo D := fun ρ => match f ρ with
  | some (.ok d ρ1) => (match fl ρ1, fh ρ1 with
    | some l, some h => (match slAD d l h with
      | some z => some (.ok z ρ1)
      | none => none)
    | _, _ => none)
  | some (.ex c fs ρ1) => some (.ex c fs ρ1)
  | none => none
theorem v_slice (he : PE X e (tV X.K X.mg Wx ga)) (hl : PO X lo (tPO X.K fl)) (hu : PO X hi (tPO X.K fh)) : PE X (.Subscript e (.Slice lo hi none p2) pos) (tV X.K X.mg Wx (slM ga fl fh)) := (pe_slice sl_all he hl hu).wk fun σ H Q ⟨g, ρ, T, G, W, hR, k⟩ => by
  refine ⟨g, ρ, T, G, W, hR, ?_⟩
  unfold slM at k
  cases h1 : ga ρ with
  | none => rw [h1] at k; exact k.elim
  | some r =>
    rw [h1] at k
    cases r with
    | ex c fs ρ1 => exact k
    | ok d ρ1 =>
      intro v H1 G1 W1 R1 eg1 rv
      dsimp only at k
      split at k
      · rename_i l h e2 e3
        cases hz : slAD d l h with
        | none => rw [hz] at k; exact k.elim
        | some z =>
          rw [hz] at k
          refine ⟨g, ρ1, T, G1, W1, l, R1, e2, fun H2 G2 R2 eg2 eh2 => ⟨g, ρ1, T, G2, W1, h, R2, e3, fun H3 G3 R3 eg3 eh3 => ?_⟩⟩
          refine slAD_ok hz R3.gh (.inl (rv.mono (eg2.trans eg3))) fun v' H' G' w rv' => ?_
          obtain ⟨R4, x, y⟩ := R3.grow w
          exact k v' H' G' W1 R4 ((eg1.trans (eg2.trans eg3)).trans y) rv'
      · exact k.elim
/-! ### texts walked -/
def sgn (c : Nat) : D := .str ⟨#[c]⟩
def itC (f : Mo D) : Mo (List D) := fun ρ => match f ρ with
  | some (.ok (.str z) ρ') => if z.length ≤ sizeLine then some (.ok (z.cps.toList.map sgn) ρ') else none
  | _ => itS f ρ
theorem wk_str {K : PySem.W.Frag} {G : Hp} {z : Str} (hz : z.length ≤ sizeLine) : Wk K (Its z) G (z.cps.toList.map sgn) where
  len := by rw [List.length_map]; exact hz
  go := fun i H _ h => by
    rw [List.length_map] at h
    exact h
  stop := fun i H _ h => by
    rw [List.length_map] at h
    exact h
  yld := fun i H x H' d _ hd hy G0 _ _ => by
    obtain ⟨rfl, c, hc, rfl⟩ := hy
    refine ⟨G0, .st, ?_⟩
    rw [List.getElem?_map, Array.getElem?_toList, hc] at hd
    cases hd
    exact Rep.st.mpr rfl
theorem i_all (h : PE X e (tV X.K X.mg Wx ga)) : PI X tg e (tI X.K X.mg Wx (itC ga)) := ⟨fun pins s σ H Q I ⟨g, ρ, T, G, W, hR, k⟩ => by
  unfold itC at k
  split at k
  · rename_i z ρ' h1
    split at k
    · rename_i hz
      refine (pi_str (tg := tg) h).run pins s σ H Q I ⟨g, ρ, T, G, W, hR, ?_⟩
      rw [h1]
      exact fun v H' G' W' R' eg r => ⟨z, Rep.st.mp r, k _ H' G' W' R' eg (wk_str hz)⟩
    · exact k.elim
  · exact (i_seq (tg := tg) h).run pins s σ H Q I ⟨g, ρ, T, G, W, hR, k⟩⟩
/-! ### a sign in a text -/
def inAD (neg : Bool) (d e : D) : Option D := match d, e with
  | .str x, .str z => (match x.cps.toList with
    | [c] => some (.bl (if neg then !decide (c ∈ z.cps.toList) else decide (c ∈ z.cps.toList)))
    | _ => none)
  | d, e => inD neg d e
theorem inAD_cases {neg : Bool} {d1 d2 d : D} (h : inAD neg d1 d2 = some d) : (∃ c z, d1 = .str ⟨#[c]⟩ ∧ d2 = .str z ∧ d = .bl (if neg then !decide (c ∈ z.cps.toList) else decide (c ∈ z.cps.toList))) ∨ inD neg d1 d2 = some d := by
  unfold inAD at h
  split at h
  · rename_i x z
    split at h
    · rename_i c hc
      cases h
      obtain ⟨cs⟩ := x
      have : cs = #[c] := Array.toList_inj.mp hc
      subst this
      exact .inl ⟨c, z, rfl, rfl, rfl⟩
    · cases h
  · exact .inr h
theorem op_inA : OpR X (compareOp .In) (fun x y H Q => rInS x y H Q ∨ rIn X.K false x y H Q) := op_in_sign.or op_in_seq
theorem op_notInA : OpR X (compareOp .NotIn) (fun x y H Q => rNotInS x y H Q ∨ rIn X.K true x y H Q) := op_notIn_sign.or op_notIn_seq
theorem inAD_ok {K : PySem.W.Frag} : OpB K (fun x y H Q => rInS x y H Q ∨ rIn K false x y H Q) (inAD false) := fun d1 d2 d x y H Q hf r1 r2 k => by
  rcases inAD_cases hf with ⟨c, z, rfl, rfl, rfl⟩ | h
  · exact .inl ⟨c, z, Rep.st.mp r1, Rep.st.mp r2, k _ fun G => Rep.b.mpr rfl⟩
  · exact .inr (inD_ok d1 d2 d x y H Q h r1 r2 k)
theorem notInAD_ok {K : PySem.W.Frag} : OpB K (fun x y H Q => rNotInS x y H Q ∨ rIn K true x y H Q) (inAD true) := fun d1 d2 d x y H Q hf r1 r2 k => by
  rcases inAD_cases hf with ⟨c, z, rfl, rfl, rfl⟩ | h
  · exact .inl ⟨c, z, Rep.st.mp r1, Rep.st.mp r2, k _ fun G => Rep.b.mpr rfl⟩
  · exact .inr (inD_ok d1 d2 d x y H Q h r1 r2 k)
/-! ### d[k] -/
def ixKD : D → D → Option D
  | .dic kvs, k => (match keyD k with
    | some k => valD kvs k
    | none => none)
  | _, _ => none
theorem ixKD_key {K : PySem.W.Frag} {G H : Hp} {d1 d2 d : D} {x y : V} (e : Same G H) (hf : ixKD d1 d2 = some d) (r1 : CRep K G H d1 x) (r2 : Rep K G d2 y) : ∃ a v, x = .ref a ∧ DGet H a y (some v) ∧ Rep K G d v := by
  unfold ixKD at hf
  split at hf
  · rename_i kvs k0
    split at hf
    · rename_i k ek
      obtain ⟨a, ys, rfl, h1, h2⟩ := r1.dic e
      obtain ⟨v, h3, h4⟩ := (h2.val (k := k)).1 d hf
      exact ⟨a, v, rfl, .inl ⟨ys, k, .inl h1, r2.key ek, h3.symm⟩, h4⟩
    · cases hf
  · cases hf
theorem p_ixK (hu : X.A.units + 1 < cLine) (ha : PE X a (tC X.K fa)) (hb : PE X b (tP X.K fb)) (hs : NoSl b) : PE X (.Subscript a b pos) (tP X.K (pu2 ixKD fa fb)) := (pe_dget hu ha hb hs).wk fun σ H Q ⟨g, ρ, T, G, W, d, hR, hf, k⟩ => by
  obtain ⟨d1, d2, e1, e2, e3⟩ := pu2_some hf
  refine ⟨g, ρ, T, G, W, d1, hR, e1, fun x H1 G1 R1 eg1 eh1 r1 => ⟨g, ρ, T, G1, W, d2, R1, e2, fun y H2 G2 R2 eg2 eh2 r2 => ?_⟩⟩
  obtain ⟨a0, v, rfl, hg, hr⟩ := ixKD_key R2.gh e3 (r1.mono eg2 eh2) r2
  exact ⟨a0, v, rfl, hg, k v H2 G2 R2 (eg1.trans eg2) (eh1.trans eh2) hr⟩
/-! ### f(e, ..), the rest by default -/
def apD (dds : List D) (fa : Mo (List Ag)) : Mo (List Ag) := fun ρ => match fa ρ with
  | some (.ok as ρ1) => some (.ok (as ++ dds.map .v) ρ1)
  | r => r
theorem AgOk.app {K : PySem.W.Frag} {G : Hp} {σ : L2.St} : ∀ {as : List Ag} {vs : List V} {dds : List D} {dvs : List V}, AgOk K G σ as vs → Reps K G dds dvs → AgOk K G σ (as ++ dds.map .v) (vs ++ dvs)
  | [], vs, dds, dvs, h, r => by
    have h' : vs = [] := h
    subst h'
    rw [List.nil_append, List.nil_append]
    induction dds generalizing dvs with
    | nil => rw [Reps] at r; exact r
    | cons d dds ih =>
      rw [Reps] at r
      obtain ⟨x, r0, rfl, h1, h2⟩ := r
      exact ⟨x, r0, rfl, h1, ih _ h2⟩
  | .v d :: as, _, _, _, ⟨x, xr, e1, h1, h2⟩, r => by subst e1; exact ⟨x, _, rfl, h1, h2.app r⟩
  | .l i :: as, _, _, _, ⟨x, xr, e1, h1, h2⟩, r => by subst e1; exact ⟨x, _, rfl, h1, h2.app r⟩
theorem tCallD_ok {K : PySem.W.Frag} {mg : MG} {F : FS} {n : Nat} {dds : List D} {dvs : List V} {fa : Mo (List Ag)} (hd : ∀ G, Reps K G dds dvs) : ∀ σ H Q, tX K mg Wx (callM n F (apD dds fa)) σ H Q → tCallSD (spF K mg n F) dvs (WE Wx) (tAg K mg Wx fa) σ H Q := fun σ H Q ⟨g, ρ, T, G, W, hR, k⟩ => by
  refine ⟨g, ρ, T, G, W, hR, ?_⟩
  unfold callM apD at k
  cases h1 : fa ρ with
  | none => rw [h1] at k; exact k.elim
  | some r =>
    rw [h1] at k
    cases r with
    | ex c fs ρ1 => exact k
    | ok as0 ρ1 =>
      intro vs0 H1 G1 W1 R1 eg1 ha0
      dsimp only at k
      have ha := ha0.app (hd G1)
      generalize as0 ++ dds.map Ag.v = as at k ha
      show spF K mg n F (vs0 ++ dvs) H1 Q (WE Wx σ)
      generalize vs0 ++ dvs = vs at ha
      by_cases hnl : noDup as = true ∧ as.length = n
      · rw [if_pos hnl] at k
        obtain ⟨hn, hlen⟩ := hnl
        cases h2 : toSl ρ1 as with
        | none => rw [h2] at k; exact k.elim
        | some args =>
          rw [h2] at k
          refine ⟨by rw [ha.len]; exact hlen, kIn as W1 H1, G1, wIn as W1, args, toSl_all h2, R1.enter ha h2 hn, ?_⟩
          dsimp only at k
          cases h3 : F args with
          | none => rw [h3] at k; exact k.elim
          | some fr =>
            rw [h3] at k
            cases fr with
            | ret o outs =>
              dsimp only at k
              cases h4 : back as outs ρ1 with
              | none => rw [h4] at k; exact k.elim
              | some ρ2 =>
                rw [h4] at k
                exact fun v H' G' W' R' eg => k v H' G' _ (R1.leave hn R' eg ha h4 (Nat.le_refl 1)) (eg1.trans eg)
            | ex c fs outs =>
              dsimp only at k
              cases h4 : back as outs ρ1 with
              | none => rw [h4] at k; exact k.elim
              | some ρ2 =>
                rw [h4] at k
                intro C d fv H' G' W' hm R' eg hd hf
                have R2 := R1.leave hn R' eg ha h4 (Nat.zero_le 1)
                rw [List.append_nil] at R2
                exact k C d fv σ H' G' _ hm R2 (eg1.trans eg) hd hf
      · rw [if_neg hnl] at k; exact k.elim
/-- an own def some of whose parameters stand by default -/
inductive CalD (P : Program) (w : World) (K : PySem.W.Frag) (mg : MG) (base : Heap) (k : Nat) (x : Str) (n : Nat) (F : FS) (dds : List D) : Prop
  | mk (f : Addr) (fd : FuncData) (ps : List Str) (ds : List Value) (dvs : List V) (hn : ps.length = n) (FO : FnG P w K mg base k f fd ps (spF K mg ps.length F)) (hm : mg x = some (.ref f)) (hk : PySem.W.keepIn K (.ref f) = true) (hb : Binds K fd ps ds) (hd : Vals dvs ds) (hr : ∀ G, Reps K G dds dvs)
theorem x_callGD {x : Str} {k n : Nat} {F : FS} {dds : List D} {fa : Mo (List Ag)} (C : CalD X.prog X.w X.K X.mg X.base k x n F dds) (tk : Takes X Wx) (hr : RoomG k X.A) (hg : Gl X x) (ha : PA X (e :: es) (tAg X.K X.mg Wx fa))
    (hdb : (x == ("__debug__" : Str)) = false := by decide) (he : starEach (e :: es) X.env = (false, eval e X.env) :: starEach es X.env := by rfl) (hpl : (backTo pos (starEach es X.env)).any (·.1) = false := by rfl) :
    PE X (.Call (.Name x p) (e :: es) [] pos) (tX X.K X.mg Wx (callM n F (apD dds fa))) := by
  obtain ⟨f, fd, ps, ds, dvs, rfl, FO, hm, hk, hb, hd, hrep⟩ := C
  refine PE.wk (t := tCallSD (spF X.K X.mg ps.length F) dvs (WE Wx) (tAg X.K X.mg Wx fa)) ⟨fun pins s σ H Q I h => ?_⟩ fun σ H Q h => tCallD_ok hrep σ H Q h
  refine wpAny_Call_Name_kw (ld_glob I hg hm ?_ hdb)
  refine PySem.W.callWith_K (h₀ := X.base) I.ok.mod.kin hk (thn (ha.run pos pins s σ H _ I h) fun us s1 ⟨vs, H1, I1, rel, want⟩ => ⟨I1.kIn, ?_⟩) he hpl
  have want1 : spF X.K X.mg ps.length F (vs ++ dvs) H1 Q (WE Wx σ) := want
  have rel2 : Vals (vs ++ dvs) (us ++ ds) := rel.append hd
  have same : (us ++ ds).length = ps.length := by
    have h1 := FO.ln _ _ _ _ want1
    rw [← rel2.length]; exact h1
  have bd := hb s1 us I1.kIn same
  show wpAny _ _ (call (.ref f) us) _ _ _
  refine wpAny_call (codeAny_mono (FO.go X.A X.stack s1 H1 ⟨us, []⟩ (us ++ ds) (vs ++ dvs) Q (WE Wx σ) hr I1.env0 bd rel2 want1) fun r s' hq => ?_)
  cases r with
  | error e => exact passAt tk σ pins H1 s1 e s' I1 hq
  | ok fl =>
    cases fl with
    | ret u => exact I1.after hq
    | next => exact hq.elim
    | brk => exact hq.elim
    | cont => exact hq.elim
end
end Tr
namespace Tr
open PySem PySem.Spec PyProof.Rows L2
section
variable {X : Cx} {e a b c elt tg iter tg1 iter1 : Expr} {ifs ifs1 es : List Expr} {Wx : WX} {pos : Pos} {mi mi1 : Mo (List D)} {t t1 : D → Rho → Option Rho} {q q1 : Mo Bool} {fe : Mo O} {is is1 vs vs1 : List Nat} {ga : Mo D}
/-! ### [e for x in xs for y in ys] -/
def lcL2 (t : D → Rho → Option Rho) (q : Mo Bool) (mi1 : Mo (List D)) (t1 : D → Rho → Option Rho) (q1 : Mo Bool) (fe : Mo O) (vs vs1 : List Nat) : List D → Rho → Option (List O × Rho)
  | [], ρ => some ([], ρ)
  | d :: ds, ρ => match t d ρ with
    | none => none
    | some ρ1 => (match q ρ1 with
      | some (.ok true ρ2) => (match mi1 ρ2 with
        | some (.ok ds1 ρ3) => (match lcL t1 q1 fe vs1 ds1 (wipeR ρ3 vs1) with
          | some (os1, ρ4) => (match lcL2 t q mi1 t1 q1 fe vs vs1 ds (wipeR ρ4 vs) with
            | some (os, ρ5) => some (os1 ++ os, ρ5)
            | none => none)
          | none => none)
        | _ => none)
      | some (.ok false ρ2) => lcL2 t q mi1 t1 q1 fe vs vs1 ds (wipeR ρ2 vs)
      | _ => none)
def lcM2 (mi : Mo (List D)) (t : D → Rho → Option Rho) (q : Mo Bool) (mi1 : Mo (List D)) (t1 : D → Rho → Option Rho) (q1 : Mo Bool) (fe : Mo O) (vs vs1 : List Nat) : Mo O := fun ρ => match mi ρ with
  | some (.ok ds ρ0) => if frOk ρ0 vs = true then (match lcL2 t q mi1 t1 q1 fe vs vs1 ds (wipeR ρ0 vs) with
    | some (os, ρ1) => if os.length ≤ sizeLine then some (.ok (mkL os) (unw ρ0 ρ1 vs)) else none
    | none => none) else none
  | some (.ex c fs ρ0) => some (.ex c fs ρ0)
  | none => none
theorem wipe_sub {σ : L2.St} : ∀ {vs vs1 : List Nat}, (∀ i ∈ vs1, i ∈ vs) → wipe (wipe σ vs1) vs = wipe σ vs := fun {vs vs1} h => by
  apply List.ext_getElem?
  intro j
  by_cases hj : j ∈ vs
  · by_cases hl : j < σ.length
    · have h1 : (wipe (wipe σ vs1) vs)[j]? = some none := by
        have hl' : j < (wipe (wipe σ vs1) vs).length := by rw [wipe_length, wipe_length]; exact hl
        rw [List.getElem?_eq_getElem hl']
        cases e : (wipe (wipe σ vs1) vs)[j] with
        | none => rfl
        | some v =>
          have := (wipe_some (σ := wipe σ vs1) (vs := vs) (i := j) (x := v) (by rw [List.getElem?_eq_getElem hl', e])).2
          exact absurd hj this
      have h2 : (wipe σ vs)[j]? = some none := by
        have hl' : j < (wipe σ vs).length := by rw [wipe_length]; exact hl
        rw [List.getElem?_eq_getElem hl']
        cases e : (wipe σ vs)[j] with
        | none => rfl
        | some v =>
          have := (wipe_some (σ := σ) (vs := vs) (i := j) (x := v) (by rw [List.getElem?_eq_getElem hl', e])).2
          exact absurd hj this
      rw [h1, h2]
    · rw [List.getElem?_eq_none (by rw [wipe_length, wipe_length]; omega), List.getElem?_eq_none (by rw [wipe_length]; omega)]
  · rw [wipe_out hj, wipe_out hj, wipe_out fun z => hj (h j z)]
theorem tLc2_ok {K : PySem.W.Frag} {mg : MG} (his : ∀ i ∈ is, i ∈ vs) (his1 : ∀ i ∈ is1, i ∈ vs1) (hv : ∀ i ∈ vs1, i ∈ vs) :
    ∀ σ H Q, tX K mg Wx (lcM2 mi t q mi1 t1 q1 fe vs vs1) σ H Q → tLc2 (tI K mg Wx mi) (tG K is t) (tY K mg W0 q) (tI K mg W0 mi1) (tG K is1 t1) (tY K mg W0 q1) (tX K mg W0 fe) vs vs1 σ H Q := fun σ H Q ⟨g, ρ, T, G, W, hR, k⟩ => by
  refine ⟨g, ρ, T, G, W, hR, ?_⟩
  unfold lcM2 at k
  cases h1 : mi ρ with
  | none => rw [h1] at k; exact k.elim
  | some r =>
    rw [h1] at k
    cases r with
    | ex c fs ρ0 => exact k
    | ok ds ρ0 =>
      intro J H1 G1 W1 R1 eg1 wk a ha
      dsimp only at k
      by_cases hf : frOk ρ0 vs = true
      · rw [if_pos hf] at k
        cases h2 : lcL2 t q mi1 t1 q1 fe vs vs1 ds (wipeR ρ0 vs) with
        | none => rw [h2] at k; exact k.elim
        | some pr =>
          obtain ⟨osE, ρE⟩ := pr
          rw [h2] at k
          dsimp only at k
          by_cases hlen : osE.length ≤ sizeLine
          · rw [if_pos hlen] at k
            have R0 : R K g (wipeR ρ0 vs) (T ++ [(.ol [], .ref a)]) (wipe σ vs) (upd H1 a (.lst [])) G1 (wJoin W1 T.length a) := by
              have hw0 : R K g (wipeR ρ0 vs) (T ++ []) (wipe σ vs) H1 G1 W1 := by
                rw [List.append_nil]; exact R1.wipe vs
              exact hw0.newL (ts := []) ha (Nat.zero_le _)
            refine ⟨fun i m H => m = ds.length - i ∧ i ≤ ds.length ∧ ∃ ρ2 G2 W2 acc os, R K g ρ2 (T ++ [(.ol acc, .ref a)]) (wipe σ vs) H G2 W2 ∧ Same G1 G2 ∧ lcL2 t q mi1 t1 q1 fe vs vs1 (ds.drop i) ρ2 = some (os, ρE) ∧ acc ++ os = osE,
              ⟨ds.length, by simp, Nat.zero_le _, _, G1, _, [], osE, R0, Same.refl _, by rw [List.drop_zero]; exact h2, rfl⟩, fun i m H2 hW => ?_⟩
            obtain ⟨rfl, hi, ρ2, G2, W2, acc, os, R2, eg2, hl, ho⟩ := hW
            have hH : Same G1 H2 := eg2.trans R2.gh
            by_cases hlt : i < ds.length
            · refine .inr ⟨wk.go i H2 hH hlt, fun H' => ∃ ρ3 G3 W3 acc os, R K g ρ3 (T ++ [(.ol acc, .ref a)]) (wipe σ vs) H' G3 W3 ∧ Same G1 G3 ∧ lcL2 t q mi1 t1 q1 fe vs vs1 (ds.drop (i + 1)) ρ3 = some (os, ρE) ∧ acc ++ os = osE, fun H' hn => ⟨ds.length - (i + 1), by omega, rfl, by omega, hn⟩, fun x H' hy => ?_⟩
              have hd : ds[i]? = some ds[i] := List.getElem?_eq_getElem hlt
              rw [List.drop_eq_getElem_cons hlt] at hl
              unfold lcL2 at hl
              obtain ⟨G3, gr, rx⟩ := wk.yld i H2 x H' _ hH hd hy G2 eg2 R2.gh
              obtain ⟨R3, _, eg3⟩ := R2.grow gr
              cases h3 : t ds[i] ρ2 with
              | none => rw [h3] at hl; cases hl
              | some ρ3 =>
                rw [h3] at hl
                refine ⟨g, ρ2, T ++ [(.ol acc, .ref a)], G3, W2, ds[i], ρ3, R3, rx, h3, fun σ4 H4 G4 W4 R4 eg4 off => ?_⟩
                have ew : wipe σ4 vs = wipe σ vs := (wipe_eq off his).trans wipe_wipe
                refine ⟨ew, g, ρ3, T ++ [(.ol acc, .ref a)], G4, W4, R4, ?_⟩
                dsimp only at hl
                have e24 := eg3.trans eg4
                cases h4 : q ρ3 with
                | none => rw [h4] at hl; cases hl
                | some r =>
                  rw [h4] at hl
                  cases r with
                  | ex c fs ρ5 => cases hl
                  | ok bb ρ5 =>
                    intro H5 G5 W5 R5 eg5
                    cases bb with
                    | false =>
                      refine iteF ⟨_, G5, W5, acc, os, ?_, eg2.trans (e24.trans eg5), hl, ho⟩
                      have := R5.wipe vs
                      rw [ew] at this
                      exact this
                    | true =>
                      refine iteT ⟨g, ρ5, T ++ [(.ol acc, .ref a)], G5, W5, R5, ?_⟩
                      dsimp only at hl
                      cases h6 : mi1 ρ5 with
                      | none => rw [h6] at hl; cases hl
                      | some r =>
                        rw [h6] at hl
                        cases r with
                        | ex c fs ρ6 => cases hl
                        | ok ds1 ρ6 =>
                          intro J1 H6 G6 W6 R6 eg6 wk1
                          dsimp only at hl
                          cases h7 : lcL t1 q1 fe vs1 ds1 (wipeR ρ6 vs1) with
                          | none => rw [h7] at hl; cases hl
                          | some pr1 =>
                            obtain ⟨os1, ρ7⟩ := pr1
                            rw [h7] at hl
                            dsimp only at hl
                            cases h8 : lcL2 t q mi1 t1 q1 fe vs vs1 (ds.drop (i + 1)) (wipeR ρ7 vs) with
                            | none => rw [h8] at hl; cases hl
                            | some pr2 =>
                              obtain ⟨os2, ρ8⟩ := pr2
                              rw [h8] at hl
                              cases hl
                              have e16 : Same G1 G6 := eg2.trans (e24.trans (eg5.trans eg6))
                              refine ⟨fun j m H => m = ds1.length - j ∧ j ≤ ds1.length ∧ ∃ ρ9 G9 W9 acc9 os9, R K g ρ9 (T ++ [(.ol acc9, .ref a)]) (wipe σ4 vs1) H G9 W9 ∧ Same G6 G9 ∧ lcL t1 q1 fe vs1 (ds1.drop j) ρ9 = some (os9, ρ7) ∧ acc9 ++ os9 = acc ++ os1,
                                ⟨ds1.length, by simp, Nat.zero_le _, _, G6, W6, acc, os1, R6.wipe vs1, Same.refl _, by rw [List.drop_zero]; exact h7, rfl⟩, fun j m H9 hW9 => ?_⟩
                              obtain ⟨rfl, hj, ρ9, G9, W9, acc9, os9, R9, eg9, hl9, ho9⟩ := hW9
                              have hH9 : Same G6 H9 := eg9.trans R9.gh
                              by_cases hlt1 : j < ds1.length
                              · refine .inr ⟨wk1.go j H9 hH9 hlt1, fun H' => ∃ ρ10 G10 W10 acc10 os10, R K g ρ10 (T ++ [(.ol acc10, .ref a)]) (wipe σ4 vs1) H' G10 W10 ∧ Same G6 G10 ∧ lcL t1 q1 fe vs1 (ds1.drop (j + 1)) ρ10 = some (os10, ρ7) ∧ acc10 ++ os10 = acc ++ os1, fun H' hn => ⟨ds1.length - (j + 1), by omega, rfl, by omega, hn⟩, fun x1 H' hy1 => ?_⟩
                                have hd1 : ds1[j]? = some ds1[j] := List.getElem?_eq_getElem hlt1
                                rw [List.drop_eq_getElem_cons hlt1] at hl9
                                unfold lcL at hl9
                                obtain ⟨G10, gr1, rx1⟩ := wk1.yld j H9 x1 H' _ hH9 hd1 hy1 G9 eg9 R9.gh
                                obtain ⟨R10, _, eg10⟩ := R9.grow gr1
                                cases h10 : t1 ds1[j] ρ9 with
                                | none => rw [h10] at hl9; cases hl9
                                | some ρ10 =>
                                  rw [h10] at hl9
                                  refine ⟨g, ρ9, T ++ [(.ol acc9, .ref a)], G10, W9, ds1[j], ρ10, R10, rx1, h10, fun σ11 H11 G11 W11 R11 eg11 off1 => ?_⟩
                                  have ew1 : wipe σ11 vs1 = wipe σ4 vs1 := (wipe_eq off1 his1).trans wipe_wipe
                                  refine ⟨ew1, g, ρ10, T ++ [(.ol acc9, .ref a)], G11, W11, R11, ?_⟩
                                  dsimp only at hl9
                                  have e911 := eg10.trans eg11
                                  cases h11 : q1 ρ10 with
                                  | none => rw [h11] at hl9; cases hl9
                                  | some r =>
                                    rw [h11] at hl9
                                    cases r with
                                    | ex c fs ρ12 => cases hl9
                                    | ok bb ρ12 =>
                                      intro H12 G12 W12 R12 eg12
                                      cases bb with
                                      | false =>
                                        refine iteF ⟨_, G12, W12, acc9, os9, ?_, eg9.trans (e911.trans eg12), hl9, ho9⟩
                                        have := R12.wipe vs1
                                        rw [ew1] at this
                                        exact this
                                      | true =>
                                        refine iteT ⟨g, ρ12, T ++ [(.ol acc9, .ref a)], G12, W12, R12, ?_⟩
                                        dsimp only at hl9
                                        cases h13 : fe ρ12 with
                                        | none => rw [h13] at hl9; cases hl9
                                        | some r =>
                                          rw [h13] at hl9
                                          cases r with
                                          | ex c fs ρ13 => cases hl9
                                          | ok o ρ13 =>
                                            intro y H13 G13 W13 R13 eg13
                                            dsimp only at hl9
                                            cases h14 : lcL t1 q1 fe vs1 (ds1.drop (j + 1)) (wipeR ρ13 vs1) with
                                            | none => rw [h14] at hl9; cases hl9
                                            | some pr3 =>
                                              obtain ⟨os14, ρ14⟩ := pr3
                                              rw [h14] at hl9
                                              cases hl9
                                              have hz : acc9.length < sizeLine := by
                                                have h15 := congrArg List.length ho9
                                                have h16 := congrArg List.length ho
                                                simp only [List.length_append, List.length_cons] at h15 h16
                                                omega
                                              obtain ⟨xs, W14, hx, hxl, R14⟩ := R13.pushT hz
                                              refine ⟨xs, hx, by rw [hxl]; exact hz, ?_⟩
                                              refine ⟨_, G13, W14, acc9 ++ [o], os14, ?_, eg9.trans (e911.trans (eg12.trans eg13)), h14, by rw [List.append_assoc]; exact ho9⟩
                                              have := R14.wipe vs1
                                              rw [ew1] at this
                                              exact this
                              · refine .inl ⟨wk1.stop j H9 hH9 (by omega), ?_⟩
                                rw [List.drop_eq_nil_of_le (by omega)] at hl9
                                cases hl9
                                rw [List.append_nil] at ho9
                                subst ho9
                                refine ⟨_, G9, W9, acc ++ os1, os2, ?_, e16.trans eg9, h8, by rw [List.append_assoc]; exact ho⟩
                                have := R9.wipe vs
                                rw [wipe_sub hv, ew] at this
                                exact this
            · refine .inl ⟨wk.stop i H2 hH (by omega), ?_⟩
              rw [List.drop_eq_nil_of_le (by omega)] at hl
              cases hl
              rw [List.append_nil] at ho
              subst ho
              exact k _ H2 G2 W2 ((R1.unwipe hf R2 eg2).mkT) (eg1.trans eg2)
          · rw [if_neg hlen] at k; exact k.elim
      · rw [if_neg hf] at k; exact k.elim
theorem x_lc2 {scope : Scope} {own : List (Str × Nat)} (hc : X.calm = true) (hN : X.N.Nodup) (hi : PI X tg iter (tI X.K X.mg Wx mi)) (ok : BlkOk X.N X.env.scope scope own) (hv : ∀ i ∈ vs1, i ∈ own.map (·.2))
    (hg : ∀ (s : Shared) (H : Hp) (C : Addr) (cl : List (Str × Addr)) (fp : List Addr), PG (X.blk s H scope (compEnvC scope cl C X.env) fp) tg (tG X.K is t)) (ht : ∀ (s : Shared) (H : Hp) (C : Addr) (cl : List (Str × Addr)) (fp : List Addr), PTs (X.blk s H scope (compEnvC scope cl C X.env) fp) ifs (tY X.K X.mg W0 q))
    (hi1 : ∀ (s : Shared) (H : Hp) (C : Addr) (cl : List (Str × Addr)) (fp : List Addr), PI (X.blk s H scope (compEnvC scope cl C X.env) fp) tg1 iter1 (tI X.K X.mg W0 mi1))
    (hg1 : ∀ (s : Shared) (H : Hp) (C : Addr) (cl : List (Str × Addr)) (fp : List Addr), PG (X.blk s H scope (compEnvC scope cl C X.env) fp) tg1 (tG X.K is1 t1)) (ht1 : ∀ (s : Shared) (H : Hp) (C : Addr) (cl : List (Str × Addr)) (fp : List Addr), PTs (X.blk s H scope (compEnvC scope cl C X.env) fp) ifs1 (tY X.K X.mg W0 q1))
    (he : ∀ (s : Shared) (H : Hp) (C : Addr) (cl : List (Str × Addr)) (fp : List Addr), PE (X.blk s H scope (compEnvC scope cl C X.env) fp) elt (tX X.K X.mg W0 fe)) (his : ∀ i ∈ is, i ∈ own.map (·.2)) (his1 : ∀ i ∈ is1, i ∈ vs1) (hs : ∀ x, foldedSetIterable iter X.env x = pure x := by intro _; rfl) (hs1 : ∀ env x, foldedSetIterable iter1 env x = pure x := by intro _ _; rfl) :
    PE X (.ListComp elt [⟨tg, iter, ifs, 0⟩, ⟨tg1, iter1, ifs1, 0⟩] scope pos) (tX X.K X.mg Wx (lcM2 mi t q mi1 t1 q1 fe (own.map (·.2)) vs1)) := (pe_lc2 hc hN hi ok hv hg ht hi1 hg1 ht1 he hs hs1).wk (tLc2_ok his his1 hv)
end
end Tr
namespace Tr
open PySem PySem.Spec PyProof.Rows L2
section
variable {X : Cx} {e a b c kx vx tg iter : Expr} {ifs es : List Expr} {Wx : WX} {pos : Pos} {mi : Mo (List D)} {t : D → Rho → Option Rho} {q : Mo Bool} {fk fe : Mo D} {is vs : List Nat} {ga : Mo D}
/-! ### {k: v for x in xs}, keys ints or texts -/
def dcL (t : D → Rho → Option Rho) (q : Mo Bool) (fk fe : Mo D) (vs : List Nat) : List (Key × D) → List D → Rho → Option (List (Key × D) × Rho)
  | acc, [], ρ => some (acc, ρ)
  | acc, d :: ds, ρ => match t d ρ with
    | none => none
    | some ρ1 => (match q ρ1 with
      | some (.ok true ρ2) => (match fk ρ2 with
        | some (.ok kd ρ3) => (match fe ρ3, keyD kd with
          | some (.ok z ρ4), some k => if acc.length < sizeLine then dcL t q fk fe vs (putD acc k z) ds (wipeR ρ4 vs) else none
          | _, _ => none)
        | _ => none)
      | some (.ok false ρ2) => dcL t q fk fe vs acc ds (wipeR ρ2 vs)
      | _ => none)
def dcM (mi : Mo (List D)) (t : D → Rho → Option Rho) (q : Mo Bool) (fk fe : Mo D) (vs : List Nat) : Mo O := fun ρ => match mi ρ with
  | some (.ok ds ρ0) => if frOk ρ0 vs = true then (match dcL t q fk fe vs [] ds (wipeR ρ0 vs) with
    | some (kvs, ρ1) => some (.ok (.od kvs) (unw ρ0 ρ1 vs))
    | none => none) else none
  | some (.ex c fs ρ0) => some (.ex c fs ρ0)
  | none => none
/-- a dict, the last temporary, gets a pair -/
theorem R.putT {K : PySem.W.Frag} {g : Gs} {ρ : Rho} {T : List (O × V)} {σ : L2.St} {H G : Hp} {W : Own} {p : Addr} {kvs : List (Key × D)} {k : Key} {d : D} {v : V} (h : R K g ρ (T ++ [(.od kvs, .ref p)]) σ H G W) (r : Rep K G d v) :
    ∃ ys, H p = some (.dK ys) ∧ ys.length = kvs.length ∧ R K g ρ (T ++ [(.od (putD kvs k d), .ref p)]) σ (upd H p (.dK (putK ys k v))) G W := by
  have last := h.tm T.length _ _ snoc_last
  rw [Ow] at last
  obtain ⟨a, ys, e, h1, h2, h3⟩ := last
  cases e
  exact ⟨ys, h1, h3.len.symm, (h.wrT (h3.put (k := k) r)).2⟩
theorem tDc_ok {K : PySem.W.Frag} {mg : MG} (his : ∀ i ∈ is, i ∈ vs) : ∀ σ H Q, tX K mg Wx (dcM mi t q fk fe vs) σ H Q → tDc (tI K mg Wx mi) (tG K is t) (tY K mg W0 q) (tV K mg W0 fk) (tV K mg W0 fe) vs σ H Q := fun σ H Q ⟨g, ρ, T, G, W, hR, k⟩ => by
  refine ⟨g, ρ, T, G, W, hR, ?_⟩
  unfold dcM at k
  cases h1 : mi ρ with
  | none => rw [h1] at k; exact k.elim
  | some r =>
    rw [h1] at k
    cases r with
    | ex c fs ρ0 => exact k
    | ok ds ρ0 =>
      intro J H1 G1 W1 R1 eg1 wk a ha
      dsimp only at k
      by_cases hf : frOk ρ0 vs = true
      · rw [if_pos hf] at k
        cases h2 : dcL t q fk fe vs [] ds (wipeR ρ0 vs) with
        | none => rw [h2] at k; exact k.elim
        | some pr =>
          obtain ⟨kvE, ρE⟩ := pr
          rw [h2] at k
          have R0 := (R1.wipe vs).newD ha
          refine ⟨fun i m H => m = ds.length - i ∧ i ≤ ds.length ∧ ∃ ρ2 G2 W2 acc, R K g ρ2 (T ++ [(.od acc, .ref a)]) (wipe σ vs) H G2 W2 ∧ Same G1 G2 ∧ dcL t q fk fe vs acc (ds.drop i) ρ2 = some (kvE, ρE),
            ⟨ds.length, by simp, Nat.zero_le _, _, G1, _, [], R0, Same.refl _, by rw [List.drop_zero]; exact h2⟩, fun i m H2 hW => ?_⟩
          obtain ⟨rfl, hi, ρ2, G2, W2, acc, R2, eg2, hl⟩ := hW
          have hH : Same G1 H2 := eg2.trans R2.gh
          by_cases hlt : i < ds.length
          · refine .inr ⟨wk.go i H2 hH hlt, fun H' => ∃ ρ3 G3 W3 acc, R K g ρ3 (T ++ [(.od acc, .ref a)]) (wipe σ vs) H' G3 W3 ∧ Same G1 G3 ∧ dcL t q fk fe vs acc (ds.drop (i + 1)) ρ3 = some (kvE, ρE), fun H' hn => ⟨ds.length - (i + 1), by omega, rfl, by omega, hn⟩, fun x H' hy => ?_⟩
            have hd : ds[i]? = some ds[i] := List.getElem?_eq_getElem hlt
            rw [List.drop_eq_getElem_cons hlt] at hl
            unfold dcL at hl
            obtain ⟨G3, gr, rx⟩ := wk.yld i H2 x H' _ hH hd hy G2 eg2 R2.gh
            obtain ⟨R3, _, eg3⟩ := R2.grow gr
            cases h3 : t ds[i] ρ2 with
            | none => rw [h3] at hl; cases hl
            | some ρ3 =>
              rw [h3] at hl
              refine ⟨g, ρ2, T ++ [(.od acc, .ref a)], G3, W2, ds[i], ρ3, R3, rx, h3, fun σ4 H4 G4 W4 R4 eg4 off => ?_⟩
              have ew : wipe σ4 vs = wipe σ vs := (wipe_eq off his).trans wipe_wipe
              refine ⟨ew, g, ρ3, T ++ [(.od acc, .ref a)], G4, W4, R4, ?_⟩
              dsimp only at hl
              have e24 := eg3.trans eg4
              cases h4 : q ρ3 with
              | none => rw [h4] at hl; cases hl
              | some r =>
                rw [h4] at hl
                cases r with
                | ex c fs ρ5 => cases hl
                | ok bb ρ5 =>
                  intro H5 G5 W5 R5 eg5
                  cases bb with
                  | false =>
                    refine iteF ⟨_, G5, W5, acc, ?_, eg2.trans (e24.trans eg5), hl⟩
                    have := R5.wipe vs
                    rw [ew] at this
                    exact this
                  | true =>
                    refine iteT ⟨g, ρ5, T ++ [(.od acc, .ref a)], G5, W5, R5, ?_⟩
                    dsimp only at hl
                    cases h6 : fk ρ5 with
                    | none => rw [h6] at hl; cases hl
                    | some r =>
                      rw [h6] at hl
                      cases r with
                      | ex c fs ρ6 => cases hl
                      | ok kd ρ6 =>
                        intro y H6 G6 W6 R6 eg6 ry
                        refine ⟨g, ρ6, T ++ [(.od acc, .ref a)], G6, W6, R6, ?_⟩
                        dsimp only at hl
                        cases h7 : fe ρ6 with
                        | none => rw [h7] at hl; cases hl
                        | some r =>
                          rw [h7] at hl
                          cases r with
                          | ex c fs ρ7 => cases hl
                          | ok z ρ7 =>
                            intro v H7 G7 W7 R7 eg7 rv
                            cases h8 : keyD kd with
                            | none => rw [h8] at hl; cases hl
                            | some kk =>
                              rw [h8] at hl
                              dsimp only at hl
                              by_cases hz : acc.length < sizeLine
                              · rw [if_pos hz] at hl
                                obtain ⟨ys, hx, hxl, R8⟩ := R7.putT (k := kk) rv
                                refine ⟨ys, kk, (ry.mono eg7).key h8, hx, by rw [hxl]; exact hz, ?_⟩
                                refine ⟨_, G7, W7, _, ?_, eg2.trans (e24.trans (eg5.trans (eg6.trans eg7))), hl⟩
                                have := R8.wipe vs
                                rw [ew] at this
                                exact this
                              · rw [if_neg hz] at hl; cases hl
          · refine .inl ⟨wk.stop i H2 hH (by omega), ?_⟩
            rw [List.drop_eq_nil_of_le (by omega)] at hl
            cases hl
            exact k _ H2 G2 W2 (R1.unwipe hf R2 eg2) (eg1.trans eg2)
      · rw [if_neg hf] at k; exact k.elim
theorem x_dc {scope : Scope} {own : List (Str × Nat)} (hc : X.calm = true) (hN : X.N.Nodup) (hi : PI X tg iter (tI X.K X.mg Wx mi)) (ok : BlkOk X.N X.env.scope scope own)
    (hg : ∀ (s : Shared) (H : Hp) (C : Addr) (cl : List (Str × Addr)) (fp : List Addr), PG (X.blk s H scope (compEnvC scope cl C X.env) fp) tg (tG X.K is t)) (ht : ∀ (s : Shared) (H : Hp) (C : Addr) (cl : List (Str × Addr)) (fp : List Addr), PTs (X.blk s H scope (compEnvC scope cl C X.env) fp) ifs (tY X.K X.mg W0 q))
    (hk : ∀ (s : Shared) (H : Hp) (C : Addr) (cl : List (Str × Addr)) (fp : List Addr), PE (X.blk s H scope (compEnvC scope cl C X.env) fp) kx (tV X.K X.mg W0 fk))
    (he : ∀ (s : Shared) (H : Hp) (C : Addr) (cl : List (Str × Addr)) (fp : List Addr), PE (X.blk s H scope (compEnvC scope cl C X.env) fp) vx (tV X.K X.mg W0 fe)) (his : ∀ i ∈ is, i ∈ own.map (·.2)) (hs : ∀ x, foldedSetIterable iter X.env x = pure x := by intro _; rfl) :
    PE X (.DictComp kx vx [⟨tg, iter, ifs, 0⟩] scope pos) (tX X.K X.mg Wx (dcM mi t q fk fe (own.map (·.2)))) := (pe_dc hc hN hi ok hg ht hk he hs).wk (tDc_ok his)
end
end Tr
/-! {k: v for x in xs for y in ys}: no tests (its walk follows the library's way for lists) -/
namespace L2
open PySem PySem.Spec PyProof.Rows
section
variable {prog : Program} {w : World} {A : Around} {R : Result → Shared → Prop} {s : Shared} {kx vx t0 i0 t1 i1 : Expr} {scope : Scope} {pos : Pos} {it : Value} {D : Addr} {env : Env}
abbrev dcE (kx vx t0 i0 t1 i1 : Expr) (scope : Scope) (pos : Pos) : Expr := .DictComp kx vx [⟨t0, i0, [], 0⟩, ⟨t1, i1, [], 0⟩] scope pos
abbrev NB (prog : Program) (w : World) (A : Around) (env : Env) (R : Result → Shared → Prop) : Value → Shared → Prop := notedBy (model prog w) A env fun e s' => R (.error e) s'
theorem dc2_turn0 : compTurn (dcE kx vx t0 i0 t1 i1 scope pos) 0 it (.ref D) env = (do
      standAt i0.pos
      match ← pyNext it with
      | none => pure (.done .next)
      | some v =>
        letOwnedTupleGo t0 it v
        assign t0 env v
        let x ← eval i1 env
        standAt i1.pos
        let x ← foldedSetIterable i1 env x
        let _ ← runOwn (.compStart (dcE kx vx t0 i0 t1 i1 scope pos) 1 (← holding [x] (pyIter x)) (.ref D) env) env
        again (.compLoop (dcE kx vx t0 i0 t1 i1 scope pos) 0 it (.ref D) env)) := by rfl
theorem dc2_turn1 : compTurn (dcE kx vx t0 i0 t1 i1 scope pos) 1 it (.ref D) env = (do
      standAt i1.pos
      match ← pyNext it with
      | none => pure (.done .next)
      | some v =>
        letOwnedTupleGo t1 it v
        assign t1 env v
        (do
          let kv ← eval kx env
          let vv ← holding [kv] (eval vx env)
          standAt { kx.pos with endLine := vx.pos.endLine, endCol := vx.pos.endCol }
          holding [kv, vv] (dictSet D kv vv))
        again (.compLoop (dcE kx vx t0 i0 t1 i1 scope pos) 1 it (.ref D) env)) := by rfl
theorem dc2_loop0 (hs : ∀ x, foldedSetIterable i1 env x = pure x) (I : Nat → Shared → Prop)
    (turn : ∀ n s, I n s → wpAny (model prog w) A (pyNext it) (fun r s₁ => match r with
      | none => R (.ok .next) s₁
      | some v => wpAny (model prog w) A (letOwnedTupleGo t0 it v) (fun _ s₂ => wpAny (model prog w) A (assign t0 env v) (fun _ s₃ =>
          wpAny (model prog w) A (eval i1 env) (fun x s₄ => wpAny (model prog w) A (pyIter x) (fun it1 s₅ =>
            codeAny (model prog w) A (.compStart (dcE kx vx t0 i0 t1 i1 scope pos) 1 it1 (.ref D) env) (fun r s' => match r with
              | .ok _ => ∃ m, m < n ∧ I m s'
              | .error _ => False) s₅) (NB prog w A env R) s₄) (NB prog w A env R) s₃) (NB prog w A env R) s₂) (NB prog w A env R) s₁) (NB prog w A env R) s)
    (n : Nat) (h : I n s) : codeAny (model prog w) A (.compLoop (dcE kx vx t0 i0 t1 i1 scope pos) 0 it (.ref D) env) R s := by
  refine codeAny_loop rfl I (fun n s hI => ?_) n h
  show wpAny _ A ((compTurn (dcE kx vx t0 i0 t1 i1 scope pos) 0 it (.ref D) env).onRaise (fun x => do noteFrame x env; theTreesLotGoes x)) _ _ s
  refine wpAny_noted ?_
  rw [dc2_turn0]
  refine wpAny_bind (wpAny_standAt (wpAny_bind (wpAny_mono (turn n s hI) (fun r s₁ h₁ => ?_) fun _ _ h' => h')))
  cases r with
  | none => exact wpAny_pure h₁
  | some v =>
    refine wpAny_bind (wpAny_mono h₁ (fun _ s₂ h₂ => wpAny_bind (wpAny_mono h₂ (fun _ s₃ h₃ => wpAny_bind (wpAny_mono h₃ (fun x s₄ h₄ => ?_) fun _ _ h' => h')) fun _ _ h' => h')) fun _ _ h' => h')
    refine wpAny_bind (wpAny_standAt (wpAny_bind (wpAny_of_eq (hs x) (wpAny_bind (wpAny_holding (wpAny_mono h₄ (fun it1 s₅ h₅ => ?_) fun _ _ h' => h'))))))
    refine wpAny_bind (wpAny_runOwn ?_)
    rw [Around.mark_none]
    refine codeAny_mono h₅ fun r s' hr => ?_
    cases r with
    | ok f =>
      first
        | exact wpAny_pure ⟨rfl, hr⟩
        | exact wpAny_bind (wpAny_pure (wpAny_pure ⟨rfl, hr⟩))
    | error e => exact hr.elim
theorem dc2_loop1 (I : Nat → Shared → Prop)
    (turn : ∀ n s, I n s → wpAny (model prog w) A (pyNext it) (fun r s₁ => match r with
      | none => R (.ok .next) s₁
      | some v => wpAny (model prog w) A (letOwnedTupleGo t1 it v) (fun _ s₂ => wpAny (model prog w) A (assign t1 env v) (fun _ s₃ =>
          wpAny (model prog w) A (eval kx env) (fun kv s₄ => wpAny (model prog w) A (eval vx env) (fun vv s₅ =>
            wpAny (model prog w) A (dictSet D kv vv) (fun _ s₆ => ∃ m, m < n ∧ I m s₆) (NB prog w A env R) s₅) (NB prog w A env R) s₄) (NB prog w A env R) s₃) (NB prog w A env R) s₂) (NB prog w A env R) s₁) (NB prog w A env R) s)
    (n : Nat) (h : I n s) : codeAny (model prog w) A (.compLoop (dcE kx vx t0 i0 t1 i1 scope pos) 1 it (.ref D) env) R s := by
  refine codeAny_loop rfl I (fun n s hI => ?_) n h
  show wpAny _ A ((compTurn (dcE kx vx t0 i0 t1 i1 scope pos) 1 it (.ref D) env).onRaise (fun x => do noteFrame x env; theTreesLotGoes x)) _ _ s
  refine wpAny_noted ?_
  rw [dc2_turn1]
  refine wpAny_bind (wpAny_standAt (wpAny_bind (wpAny_mono (turn n s hI) (fun r s₁ h₁ => ?_) fun _ _ h' => h')))
  cases r with
  | none => exact wpAny_pure h₁
  | some v =>
    refine wpAny_bind (wpAny_mono h₁ (fun _ s₂ h₂ => wpAny_bind (wpAny_mono h₂ (fun _ s₃ h₃ => ?_) fun _ _ h' => h')) fun _ _ h' => h')
    exact wpAny_bind (wpAny_bind (wpAny_mono h₃ (fun kv s₄ h₄ => wpAny_bind (wpAny_holding (wpAny_mono h₄ (fun vv s₅ h₅ => wpAny_bind (wpAny_standAt (wpAny_holding (wpAny_mono h₅ (fun _ s₆ h₆ => wpAny_pure ⟨rfl, h₆⟩) fun _ _ h' => h')))) fun _ _ h' => h'))) fun _ _ h' => h'))
theorem dc2_start1 (h0 : codeAny (model prog w) A (.compLoop (dcE kx vx t0 i0 t1 i1 scope pos) 1 it (.ref D) env) R s)
    (h : wpAny (model prog w) A (pyIter it) (fun it' s' => codeAny (model prog w) A (.compLoop (dcE kx vx t0 i0 t1 i1 scope pos) 1 it' (.ref D) env) R s') (NB prog w A env R) s) :
    codeAny (model prog w) A (.compStart (dcE kx vx t0 i0 t1 i1 scope pos) 1 it (.ref D) env) R s := by
  refine codeAny_of_tree ?_
  show wpAny _ _ ((compStart (dcE kx vx t0 i0 t1 i1 scope pos) 1 it (.ref D) env).onRaise (fun x => do noteFrame x env; standAt theWindowsPlace)) _ _ s
  refine wpAny_notedAt ?_
  unfold compStart
  show wpAny _ _ (ask >>= _) _ _ s
  refine wpAny_bind (wpAny_askSetting (wpAny_ite ?_))
  split
  · first
      | exact wpAny_bind (wpAny_pure (wpAny_pure (And.intro rfl h0)))
      | exact wpAny_pure (And.intro rfl h0)
  · first
      | exact wpAny_bind (wpAny_rule (wpAny_bind (wpAny_standAt (wpAny_bind (wpAny_mono h (fun it' s' h' => wpAny_pure (And.intro rfl h')) fun _ _ x => x)))))
      | (refine wpAny_bind (wpAny_rule ?_); show wpAny _ _ (standAt i1.pos >>= _) _ _ s; exact wpAny_bind (wpAny_standAt (wpAny_bind (wpAny_mono h (fun it' s' h' => wpAny_pure (And.intro rfl h')) fun _ _ x => x))))
end
section
variable {X : Cx}
def tDc2 (wi : TI) (g : TG) (wi1 : TI) (g1 : TG) (tk tv : TE) (vs vs1 : List Nat) : TE := fun σ H Q => wi σ H fun J H1 => ∀ D, H1 D = none → ∃ W : Nat → Nat → Hp → Prop, (∃ m, W 0 m (upd H1 D (.dK []))) ∧ ∀ i m H, W i m H →
  (J.stop i H ∧ Q (.ref D) H) ∨ (J.go i H ∧ ∃ Nx : Hp → Prop, (∀ H', Nx H' → ∃ m', m' < m ∧ W (i + 1) m' H') ∧ ∀ x H', J.yld i H x H' → g x (wipe σ vs) H' fun σ2 H2 => wipe σ2 vs = wipe σ vs ∧
    wi1 σ2 H2 fun J1 H4 => ∃ W1 : Nat → Nat → Hp → Prop, (∃ m, W1 0 m H4) ∧ ∀ j k H, W1 j k H →
      (J1.stop j H ∧ Nx H) ∨ (J1.go j H ∧ ∃ Nx1 : Hp → Prop, (∀ H', Nx1 H' → ∃ k', k' < k ∧ W1 (j + 1) k' H') ∧ ∀ x H', J1.yld j H x H' → g1 x (wipe σ2 vs1) H' fun σ3 H5 => wipe σ3 vs1 = wipe σ2 vs1 ∧
        tk σ3 H5 fun y H6 => tv σ3 H6 fun z H7 => ∃ kvs k, y = kV k ∧ H7 D = some (.dK kvs) ∧ kvs.length < sizeLine ∧ Nx1 (upd H7 D (.dK (putK kvs k z)))))
theorem pe_dc2 {kx vx tg iter tg1 iter1 : Expr} {scope : Scope} {own : List (Str × Nat)} {vs1 : List Nat} {pos : Pos} {wi wi1 : TI} {g g1 : TG} {tk tv : TE} (hc : X.calm = true) (hN : X.N.Nodup) (hi : PI X tg iter wi) (ok : BlkOk X.N X.env.scope scope own) (hv : ∀ i ∈ vs1, i ∈ own.map (·.2))
    (hg : ∀ (s : Shared) (H : Hp) (C : Addr) (cl : List (Str × Addr)) (fp : List Addr), PG (X.blk s H scope (compEnvC scope cl C X.env) fp) tg g)
    (hi1 : ∀ (s : Shared) (H : Hp) (C : Addr) (cl : List (Str × Addr)) (fp : List Addr), PI (X.blk s H scope (compEnvC scope cl C X.env) fp) tg1 iter1 wi1)
    (hg1 : ∀ (s : Shared) (H : Hp) (C : Addr) (cl : List (Str × Addr)) (fp : List Addr), PG (X.blk s H scope (compEnvC scope cl C X.env) fp) tg1 g1)
    (hk : ∀ (s : Shared) (H : Hp) (C : Addr) (cl : List (Str × Addr)) (fp : List Addr), PE (X.blk s H scope (compEnvC scope cl C X.env) fp) kx tk)
    (he : ∀ (s : Shared) (H : Hp) (C : Addr) (cl : List (Str × Addr)) (fp : List Addr), PE (X.blk s H scope (compEnvC scope cl C X.env) fp) vx tv) (hs : ∀ x, foldedSetIterable iter X.env x = pure x := by intro _; rfl) (hs1 : ∀ env x, foldedSetIterable iter1 env x = pure x := by intro _ _; rfl) :
    PE X (.DictComp kx vx [⟨tg, iter, [], 0⟩, ⟨tg1, iter1, [], 0⟩] scope pos) (tDc2 wi g wi1 g1 tk tv (own.map (·.2)) vs1) := by
  refine ⟨fun pins s σ H Q I h => ?_⟩
  rw [arm_eval_DictComp]
  have hfree : ∀ y ∈ scope.names, y.2 = .free → ∃ c, X.env.cells.lookup y.1 = some c := fun y hy e => (ok.free y hy e).elim (fun k => I.ok.has _ (.inl k)) fun k => I.ok.has _ (.inr k)
  refine wpAny_comprehension_free (use := none) rfl hs (closure_ok hfree) ok.kind (fun y hy e => by rw [ok.uniq y hy, e]) (thn (hi.run pins s σ H _ I h) fun xv s1 hx => thn hx fun itv s2 h2 => ?_)
  obtain ⟨it, fp, tn, J, H2, e, I2, T, st2, f2, q⟩ := h2
  subst e
  refine wpAny_newObj_type (newEnv_comp ?_)
  generalize hD : s2.heap.objs.size = D
  obtain ⟨W, ⟨m0, w0⟩, turn⟩ := q D (I2.hok.fresh (Nat.le_of_eq hD))
  generalize hs3 : ({ s2 with heap := s2.heap.push { cls := .type "dict", data := .dict #[] } } : Shared) = s3
  have I3 : Inv X pins σ (upd H2 D (.dK [])) s3 := by
    rw [← hs3]
    refine I2.laid (t' := s2.toks) (fun b o e => Heap.get?_push_of_some _ e) (Nat.le_of_eq hD) ?_
    rw [← hD]
    exact dk_empty s2.heap I2.big
  have h3 : s3.heap = s2.heap.push { cls := .type "dict", data := .dict #[] } := by rw [← hs3]
  have f3 : ∀ b ∈ fp, FpOk X pins (upd H2 D (.dK [])) b ∧ b < s3.heap.objs.size := fun b hb => by
    obtain ⟨o, e, _⟩ := T.obj _ _ st2 b hb
    have hlt : b < s2.heap.objs.size := Heap.lt_size e
    refine ⟨⟨?_, (f2 b hb).2⟩, by rw [h3, Heap.size_push]; exact Nat.lt_succ_of_lt hlt⟩
    rw [upd_ne (by rw [← hD]; exact Nat.ne_of_lt hlt)]
    exact (f2 b hb).1
  have st3 : tn 0 s3.heap := T.keep _ _ _ st2 fun b _ o e => by rw [h3]; exact Heap.get?_push_of_some _ e
  have I4 := block_start I3 ok hN f3
  generalize hcl : cellsFrom (s3.heap.objs.size + 1) scope.names (cloFrom X.env.cells scope.names []) = cl at I4 ⊢
  have pg := hg s3 (upd H2 D (.dK [])) s3.heap.objs.size cl fp
  have pk := hk s3 (upd H2 D (.dK [])) s3.heap.objs.size cl fp
  have pe := he s3 (upd H2 D (.dK [])) s3.heap.objs.size cl fp
  have pi1 := hi1 s3 (upd H2 D (.dK [])) s3.heap.objs.size cl fp
  have pg1 := hg1 s3 (upd H2 D (.dK [])) s3.heap.objs.size cl fp
  show codeAny _ _ (.compStart (dcE kx vx tg iter tg1 iter1 scope pos) 0 (.ref it) (.ref D) (compEnvC scope cl s3.heap.objs.size X.env)) (compPost (model X.prog X.w) X.A X.xe none (EP X pins σ Q) (.ref D) s3.heap.objs.size) { s3 with heap := pushCells (s3.heap.push { cls := .type "dict", data := .dict #[] }) scope.names }
  have nfp : ∀ b ∈ fp, (upd H2 D (.dK [])) b = none := fun b hb => (f3 b hb).1.1
  generalize hce : compEnvC scope cl s3.heap.objs.size X.env = ce at I4 pg pk pe pi1 pg1 ⊢
  have cL : ce.locals = s3.heap.objs.size := by subst hce; rfl
  generalize hH3 : upd H2 D (.dK []) = H3 at I3 I4 pg pk pe pi1 pg1 w0 nfp f3
  generalize hs4 : ({ s3 with heap := pushCells (s3.heap.push { cls := .type "dict", data := .dict #[] }) scope.names } : Shared) = s4 at I4 ⊢
  have st4 : tn 0 s4.heap := T.keep _ _ _ st3 fun b _ o e => by rw [← hs4]; exact pushCells_keeps _ _ _ _ (Heap.get?_push_of_some _ e)
  have stat : ∀ {σ' : St} {H' : Hp} {s' : Shared}, Inv (X.blk s3 H3 scope ce fp) [] σ' H' s' → (∀ b ∈ fp, H' b = none) → ∀ b ∈ fp, FpOk (X.blk s3 H3 scope ce fp) [] H' b := fun {σ' H' s'} I' hn b hb =>
    ⟨hn b hb, (I'.ok.exf b hb).1, I'.ok.exfs b hb, .inl hb, fun x c e => (I'.ok.exf b hb).2 x c e, fun p hp => absurd (show p ∈ ([] : List (Addr × Obj)) ++ [] from hp) (by simp)⟩
  -- what holds at each turn of the outer loop
  have loop : codeAny (model X.prog X.w) X.A (.compLoop (dcE kx vx tg iter tg1 iter1 scope pos) 0 (.ref it) (.ref D) ce) (compPost (model X.prog X.w) X.A X.xe none (EP X pins σ Q) (.ref D) s3.heap.objs.size) s4 := by
    refine dc2_loop0 (hs1 ce) (fun n s' => ∃ i H', Inv (X.blk s3 H3 scope ce fp) [] (wipe σ (own.map (·.2))) H' s' ∧ tn i s'.heap ∧ (∀ b ∈ fp, H' b = none) ∧ W i n H') ?_ m0 ⟨0, H3, I4, st4, nfp, w0⟩
    rintro n s5 ⟨i, H5, I5, st5, n5, w5⟩
    rcases turn i n H5 w5 with ⟨stop, qq⟩ | ⟨go, Nx, hNx, step⟩
    · refine thnF (T.done (X.blk s3 H3 scope ce fp) rfl rfl rfl hc i [] s5 _ H5 (fun _ _ => False) I5 (stat I5 n5) st5 stop) fun r s6 ⟨hr, I6⟩ => ?_
      subst hr
      have I7 : Inv X pins σ H5 s6 := I3.call' (ch := fp) I6.os I6.base I6.hok I6.bare fun b hb => ⟨(f3 b hb).1.2.2.2.1, (f3 b hb).1.2.1, (f3 b hb).1.2.2.2.2.1, (f3 b hb).1.2.2.2.2.2⟩
      have nC : H5 s3.heap.objs.size = none := by
        have z : H5 ce.locals = none := I6.free
        rw [cL] at z
        exact z
      obtain ⟨m, hn, _⟩ := I6.loc
      have hn : s6.heap.Ns ce.locals m := hn
      rw [cL] at hn
      refine ⟨m, hn, fun h'' sb => ?_⟩
      obtain ⟨f0, f1, g2, g3, f4, f5⟩ := I3.fpOk (Nat.le_refl _) nC
      exact ⟨.ref D, H5, I7.turned (t' := s6.toks) (fun b o hb e => (sb.2 b hb).trans e) f0 f1 g3 f4 f5, rfl, qq⟩
    · refine thnF (T.item (X.blk s3 H3 scope ce fp) rfl rfl rfl hc i [] s5 _ H5 (fun _ _ => False) I5 (stat I5 n5) st5 go) fun r s6 ⟨u, hr, h6⟩ => ?_
      subst hr
      refine thnF h6 fun _ s7 ⟨x, H7, I7, r7, y7, st7, n7⟩ => ?_
      refine thnF (pg.run _ s7 _ H7 x u _ (I7.pinned (stat I7 n7) (T.obj _ _ st7)) r7 (step x H7 y7)) fun _ s8 ⟨σ8, H8, I8, hw8, q8⟩ => ?_
      have fin : ∀ {σ9 : St} {s' : Shared} {H' : Hp}, Inv (X.blk s3 H3 scope ce fp) ([] ++ pinsAt fp s7.heap) σ9 H' s' → (wipe σ (own.map (·.2))).length = σ9.length → (∀ (j : Nat) v, (wipe σ (own.map (·.2)))[j]? = some (some v) → σ9[j]? = some (some v)) → Nx H' →
          ∃ m, m < n ∧ ∃ i H', Inv (X.blk s3 H3 scope ce fp) [] (wipe σ (own.map (·.2))) H' s' ∧ tn i s'.heap ∧ (∀ b ∈ fp, H' b = none) ∧ W i m H' := fun {σ9 s' H'} I' hl hk' nx => by
        obtain ⟨m', hm, w'⟩ := hNx H' nx
        have pin' : ∀ b ∈ fp, ∀ o, s7.heap.get? b = some o → s'.heap.get? b = some o ∧ H' b = none := fun b hb o e =>
          let z := I'.pin (b, o) (List.mem_append_right _ (List.mem_append_right _ (mem_pinsAt hb e)))
          ⟨z.1, z.2.1⟩
        refine ⟨m', hm, i + 1, H', (I'.unpinned (pins := [])).weak hl hk', T.keep _ _ _ st7 fun b hb o e => (pin' b hb o e).1, fun b hb => ?_, w'⟩
        obtain ⟨o, e, _⟩ := T.obj _ _ st7 b hb
        exact (pin' b hb o e).2
      have hl8 : (wipe σ (own.map (·.2))).length = σ8.length := by rw [← hw8, wipe_length]
      have hk9 : ∀ (j : Nat) v, (wipe σ (own.map (·.2)))[j]? = some (some v) → (wipe σ8 vs1)[j]? = some (some v) := fun j v e => by
        rw [← hw8] at e
        obtain ⟨e1, e2⟩ := wipe_some e
        rw [wipe_out fun z => e2 (hv j z)]
        exact e1
      refine thnF (pi1.run _ s8 σ8 H8 _ I8 q8) fun xv s10 hx => thnF hx fun itv s11 h11 => ?_
      obtain ⟨it1, fp1, tn1, J1, H11, e1, I11, T1, st11, f11, W1, ⟨m1, w1⟩, turn1⟩ := h11
      subst e1
      have stat1 : ∀ {H' : Hp}, (∀ b ∈ fp1, H' b = none) → ∀ b ∈ fp1, FpOk (X.blk s3 H3 scope ce fp) ([] ++ pinsAt fp s7.heap) H' b := fun hn b hb => ⟨hn b hb, (f11 b hb).2⟩
      have loop1 : codeAny (model X.prog X.w) X.A (.compLoop (dcE kx vx tg iter tg1 iter1 scope pos) 1 (.ref it1) (.ref D) ce)
          (fun r s' => match r with
            | .ok _ => ∃ m, m < n ∧ ∃ i H', Inv (X.blk s3 H3 scope ce fp) [] (wipe σ (own.map (·.2))) H' s' ∧ tn i s'.heap ∧ (∀ b ∈ fp, H' b = none) ∧ W i m H'
            | .error _ => False) s11 := by
        refine dc2_loop1 (fun k s' => ∃ j H', Inv (X.blk s3 H3 scope ce fp) ([] ++ pinsAt fp s7.heap) (wipe σ8 vs1) H' s' ∧ tn1 j s'.heap ∧ (∀ b ∈ fp1, H' b = none) ∧ W1 j k H') ?_ m1 ⟨0, H11, I11.weak (wipe_length _ _) (fun j v e => (wipe_some e).1), st11, fun b hb => (f11 b hb).1, w1⟩
        rintro k s12 ⟨j, H12, I12, st12, n12, w12⟩
        rcases turn1 j k H12 w12 with ⟨stop1, nx1⟩ | ⟨go1, Nx1, hNx1, step1⟩
        · refine thnF (T1.done (X.blk s3 H3 scope ce fp) rfl rfl rfl hc j _ s12 (wipe σ8 vs1) H12 (fun _ _ => False) I12 (stat1 n12) st12 stop1) fun r s13 ⟨hr, I13⟩ => ?_
          subst hr
          exact fin I13 (hl8.trans (wipe_length σ8 vs1).symm) hk9 nx1
        · refine thnF (T1.item (X.blk s3 H3 scope ce fp) rfl rfl rfl hc j _ s12 (wipe σ8 vs1) H12 (fun _ _ => False) I12 (stat1 n12) st12 go1) fun r s13 ⟨u1, hr, h13⟩ => ?_
          subst hr
          refine thnF h13 fun _ s14 ⟨x1, H14, I14, r14, y14, st14, n14⟩ => ?_
          refine thnF (pg1.run _ s14 (wipe σ8 vs1) H14 x1 u1 _ (I14.pinned (stat1 n14) (T1.obj _ _ st14)) r14 (step1 x1 H14 y14)) fun _ s15 ⟨σ15, H15, I15, hw15, q15⟩ => ?_
          refine thnF (pk.run _ s15 σ15 H15 _ I15 q15) fun z s16 ⟨yk, H16, I16, r16, q16⟩ => ?_
          refine thnF (pe.run _ s16 σ15 H16 _ I16 q16) fun z2 s17 ⟨yv, H17, I17, r17, kvs, kk, ek, hD17, hz17, nx⟩ => ?_
          subst ek
          refine d_dictSet (X := X.blk s3 H3 scope ce fp) I17 hD17 hz17 r16 r17 fun s18 I18 => ?_
          obtain ⟨m', hm, w'⟩ := hNx1 _ nx
          have pin' : ∀ b ∈ fp1, ∀ o, s14.heap.get? b = some o → s18.heap.get? b = some o ∧ (upd H17 D (.dK (putK kvs kk yv))) b = none := fun b hb o e =>
            let z := I18.pin (b, o) (List.mem_append_right _ (List.mem_append_right _ (mem_pinsAt hb e)))
            ⟨z.1, z.2.1⟩
          refine ⟨m', hm, j + 1, _, I18.unpinned.weak (by rw [← hw15, wipe_length]) (fun j v e => by rw [← hw15] at e; exact (wipe_some e).1), T1.keep _ _ _ st14 fun b hb o e => (pin' b hb o e).1, fun b hb => ?_, w'⟩
          obtain ⟨o, e, _⟩ := T1.obj _ _ st14 b hb
          exact (pin' b hb o e).2
      exact dc2_start1 loop1 (T1.self X.A 0 _ _ _ st11 loop1)
  exact codeAny_compStart_dict loop (T.self X.A 0 _ _ _ st4 loop)
end
end L2
namespace Tr
open PySem PySem.Spec PyProof.Rows L2
section
variable {X : Cx} {e a b c kx vx tg iter tg1 iter1 : Expr} {es : List Expr} {Wx : WX} {pos : Pos} {mi mi1 : Mo (List D)} {t t1 : D → Rho → Option Rho} {fk fe : Mo D} {is is1 vs vs1 : List Nat} {ga : Mo D}
def dcL2 (t : D → Rho → Option Rho) (mi1 : Mo (List D)) (t1 : D → Rho → Option Rho) (fk fe : Mo D) (vs vs1 : List Nat) : List (Key × D) → List D → Rho → Option (List (Key × D) × Rho)
  | acc, [], ρ => some (acc, ρ)
  | acc, d :: ds, ρ => match t d ρ with
    | none => none
    | some ρ1 => (match mi1 ρ1 with
      | some (.ok ds1 ρ2) => (match dcL t1 yes fk fe vs1 acc ds1 (wipeR ρ2 vs1) with
        | some (acc', ρ3) => dcL2 t mi1 t1 fk fe vs vs1 acc' ds (wipeR ρ3 vs)
        | none => none)
      | _ => none)
def dcM2 (mi : Mo (List D)) (t : D → Rho → Option Rho) (mi1 : Mo (List D)) (t1 : D → Rho → Option Rho) (fk fe : Mo D) (vs vs1 : List Nat) : Mo O := fun ρ => match mi ρ with
  | some (.ok ds ρ0) => if frOk ρ0 vs = true then (match dcL2 t mi1 t1 fk fe vs vs1 [] ds (wipeR ρ0 vs) with
    | some (kvs, ρ1) => some (.ok (.od kvs) (unw ρ0 ρ1 vs))
    | none => none) else none
  | some (.ex c fs ρ0) => some (.ex c fs ρ0)
  | none => none
theorem tDc2_ok {K : PySem.W.Frag} {mg : MG} (his : ∀ i ∈ is, i ∈ vs) (his1 : ∀ i ∈ is1, i ∈ vs1) (hv : ∀ i ∈ vs1, i ∈ vs) :
    ∀ σ H Q, tX K mg Wx (dcM2 mi t mi1 t1 fk fe vs vs1) σ H Q → tDc2 (tI K mg Wx mi) (tG K is t) (tI K mg W0 mi1) (tG K is1 t1) (tV K mg W0 fk) (tV K mg W0 fe) vs vs1 σ H Q := fun σ H Q ⟨g, ρ, T, G, W, hR, k⟩ => by
  refine ⟨g, ρ, T, G, W, hR, ?_⟩
  unfold dcM2 at k
  cases h1 : mi ρ with
  | none => rw [h1] at k; exact k.elim
  | some r =>
    rw [h1] at k
    cases r with
    | ex c fs ρ0 => exact k
    | ok ds ρ0 =>
      intro J H1 G1 W1 R1 eg1 wk a ha
      dsimp only at k
      by_cases hf : frOk ρ0 vs = true
      · rw [if_pos hf] at k
        cases h2 : dcL2 t mi1 t1 fk fe vs vs1 [] ds (wipeR ρ0 vs) with
        | none => rw [h2] at k; exact k.elim
        | some pr =>
          obtain ⟨kvE, ρE⟩ := pr
          rw [h2] at k
          have R0 := (R1.wipe vs).newD ha
          refine ⟨fun i m H => m = ds.length - i ∧ i ≤ ds.length ∧ ∃ ρ2 G2 W2 acc, R K g ρ2 (T ++ [(.od acc, .ref a)]) (wipe σ vs) H G2 W2 ∧ Same G1 G2 ∧ dcL2 t mi1 t1 fk fe vs vs1 acc (ds.drop i) ρ2 = some (kvE, ρE),
            ⟨ds.length, by simp, Nat.zero_le _, _, G1, _, [], R0, Same.refl _, by rw [List.drop_zero]; exact h2⟩, fun i m H2 hW => ?_⟩
          obtain ⟨rfl, hi, ρ2, G2, W2, acc, R2, eg2, hl⟩ := hW
          have hH : Same G1 H2 := eg2.trans R2.gh
          by_cases hlt : i < ds.length
          · refine .inr ⟨wk.go i H2 hH hlt, fun H' => ∃ ρ3 G3 W3 acc, R K g ρ3 (T ++ [(.od acc, .ref a)]) (wipe σ vs) H' G3 W3 ∧ Same G1 G3 ∧ dcL2 t mi1 t1 fk fe vs vs1 acc (ds.drop (i + 1)) ρ3 = some (kvE, ρE), fun H' hn => ⟨ds.length - (i + 1), by omega, rfl, by omega, hn⟩, fun x H' hy => ?_⟩
            have hd : ds[i]? = some ds[i] := List.getElem?_eq_getElem hlt
            rw [List.drop_eq_getElem_cons hlt] at hl
            unfold dcL2 at hl
            obtain ⟨G3, gr, rx⟩ := wk.yld i H2 x H' _ hH hd hy G2 eg2 R2.gh
            obtain ⟨R3, _, eg3⟩ := R2.grow gr
            cases h3 : t ds[i] ρ2 with
            | none => rw [h3] at hl; cases hl
            | some ρ3 =>
              rw [h3] at hl
              refine ⟨g, ρ2, T ++ [(.od acc, .ref a)], G3, W2, ds[i], ρ3, R3, rx, h3, fun σ4 H4 G4 W4 R4 eg4 off => ?_⟩
              have ew : wipe σ4 vs = wipe σ vs := (wipe_eq off his).trans wipe_wipe
              refine ⟨ew, g, ρ3, T ++ [(.od acc, .ref a)], G4, W4, R4, ?_⟩
              dsimp only at hl
              have e24 := eg3.trans eg4
              cases h6 : mi1 ρ3 with
              | none => rw [h6] at hl; cases hl
              | some r =>
                rw [h6] at hl
                cases r with
                | ex c fs ρ6 => cases hl
                | ok ds1 ρ6 =>
                  intro J1 H6 G6 W6 R6 eg6 wk1
                  dsimp only at hl
                  cases h7 : dcL t1 yes fk fe vs1 acc ds1 (wipeR ρ6 vs1) with
                  | none => rw [h7] at hl; cases hl
                  | some pr1 =>
                    obtain ⟨acc1, ρ7⟩ := pr1
                    rw [h7] at hl
                    dsimp only at hl
                    have e16 : Same G1 G6 := eg2.trans (e24.trans eg6)
                    refine ⟨fun j m H => m = ds1.length - j ∧ j ≤ ds1.length ∧ ∃ ρ9 G9 W9 acc9, R K g ρ9 (T ++ [(.od acc9, .ref a)]) (wipe σ4 vs1) H G9 W9 ∧ Same G6 G9 ∧ dcL t1 yes fk fe vs1 acc9 (ds1.drop j) ρ9 = some (acc1, ρ7),
                      ⟨ds1.length, by simp, Nat.zero_le _, _, G6, W6, acc, R6.wipe vs1, Same.refl _, by rw [List.drop_zero]; exact h7⟩, fun j m H9 hW9 => ?_⟩
                    obtain ⟨rfl, hj, ρ9, G9, W9, acc9, R9, eg9, hl9⟩ := hW9
                    have hH9 : Same G6 H9 := eg9.trans R9.gh
                    by_cases hlt1 : j < ds1.length
                    · refine .inr ⟨wk1.go j H9 hH9 hlt1, fun H' => ∃ ρ10 G10 W10 acc10, R K g ρ10 (T ++ [(.od acc10, .ref a)]) (wipe σ4 vs1) H' G10 W10 ∧ Same G6 G10 ∧ dcL t1 yes fk fe vs1 acc10 (ds1.drop (j + 1)) ρ10 = some (acc1, ρ7), fun H' hn => ⟨ds1.length - (j + 1), by omega, rfl, by omega, hn⟩, fun x1 H' hy1 => ?_⟩
                      have hd1 : ds1[j]? = some ds1[j] := List.getElem?_eq_getElem hlt1
                      rw [List.drop_eq_getElem_cons hlt1] at hl9
                      unfold dcL at hl9
                      obtain ⟨G10, gr1, rx1⟩ := wk1.yld j H9 x1 H' _ hH9 hd1 hy1 G9 eg9 R9.gh
                      obtain ⟨R10, _, eg10⟩ := R9.grow gr1
                      cases h10 : t1 ds1[j] ρ9 with
                      | none => rw [h10] at hl9; cases hl9
                      | some ρ10 =>
                        rw [h10] at hl9
                        refine ⟨g, ρ9, T ++ [(.od acc9, .ref a)], G10, W9, ds1[j], ρ10, R10, rx1, h10, fun σ11 H11 G11 W11 R11 eg11 off1 => ?_⟩
                        have ew1 : wipe σ11 vs1 = wipe σ4 vs1 := (wipe_eq off1 his1).trans wipe_wipe
                        refine ⟨ew1, g, ρ10, T ++ [(.od acc9, .ref a)], G11, W11, R11, ?_⟩
                        dsimp only [yes] at hl9
                        have e911 := eg10.trans eg11
                        cases h12 : fk ρ10 with
                        | none => rw [h12] at hl9; cases hl9
                        | some r =>
                          rw [h12] at hl9
                          cases r with
                          | ex c fs ρ12 => cases hl9
                          | ok kd ρ12 =>
                            intro y H12 G12 W12 R12 eg12 ry
                            refine ⟨g, ρ12, T ++ [(.od acc9, .ref a)], G12, W12, R12, ?_⟩
                            dsimp only at hl9
                            cases h13 : fe ρ12 with
                            | none => rw [h13] at hl9; cases hl9
                            | some r =>
                              rw [h13] at hl9
                              cases r with
                              | ex c fs ρ13 => cases hl9
                              | ok z ρ13 =>
                                intro v H13 G13 W13 R13 eg13 rv
                                cases h14 : keyD kd with
                                | none => rw [h14] at hl9; cases hl9
                                | some kk =>
                                  rw [h14] at hl9
                                  dsimp only at hl9
                                  by_cases hz : acc9.length < sizeLine
                                  · rw [if_pos hz] at hl9
                                    obtain ⟨ys, hx, hxl, R14⟩ := R13.putT (k := kk) rv
                                    refine ⟨ys, kk, (ry.mono eg13).key h14, hx, by rw [hxl]; exact hz, ?_⟩
                                    refine ⟨_, G13, W13, _, ?_, eg9.trans (e911.trans (eg12.trans eg13)), hl9⟩
                                    have := R14.wipe vs1
                                    rw [ew1] at this
                                    exact this
                                  · rw [if_neg hz] at hl9; cases hl9
                    · refine .inl ⟨wk1.stop j H9 hH9 (by omega), ?_⟩
                      rw [List.drop_eq_nil_of_le (by omega)] at hl9
                      unfold dcL at hl9
                      cases hl9
                      refine ⟨_, G9, W9, _, ?_, e16.trans eg9, hl⟩
                      have := R9.wipe vs
                      rw [wipe_sub hv, ew] at this
                      exact this
          · refine .inl ⟨wk.stop i H2 hH (by omega), ?_⟩
            rw [List.drop_eq_nil_of_le (by omega)] at hl
            unfold dcL2 at hl
            cases hl
            exact k _ H2 G2 W2 (R1.unwipe hf R2 eg2) (eg1.trans eg2)
      · rw [if_neg hf] at k; exact k.elim
theorem x_dc2 {scope : Scope} {own : List (Str × Nat)} (hc : X.calm = true) (hN : X.N.Nodup) (hi : PI X tg iter (tI X.K X.mg Wx mi)) (ok : BlkOk X.N X.env.scope scope own) (hv : ∀ i ∈ vs1, i ∈ own.map (·.2))
    (hg : ∀ (s : Shared) (H : Hp) (C : Addr) (cl : List (Str × Addr)) (fp : List Addr), PG (X.blk s H scope (compEnvC scope cl C X.env) fp) tg (tG X.K is t))
    (hi1 : ∀ (s : Shared) (H : Hp) (C : Addr) (cl : List (Str × Addr)) (fp : List Addr), PI (X.blk s H scope (compEnvC scope cl C X.env) fp) tg1 iter1 (tI X.K X.mg W0 mi1))
    (hg1 : ∀ (s : Shared) (H : Hp) (C : Addr) (cl : List (Str × Addr)) (fp : List Addr), PG (X.blk s H scope (compEnvC scope cl C X.env) fp) tg1 (tG X.K is1 t1))
    (hk : ∀ (s : Shared) (H : Hp) (C : Addr) (cl : List (Str × Addr)) (fp : List Addr), PE (X.blk s H scope (compEnvC scope cl C X.env) fp) kx (tV X.K X.mg W0 fk))
    (he : ∀ (s : Shared) (H : Hp) (C : Addr) (cl : List (Str × Addr)) (fp : List Addr), PE (X.blk s H scope (compEnvC scope cl C X.env) fp) vx (tV X.K X.mg W0 fe)) (his : ∀ i ∈ is, i ∈ own.map (·.2)) (his1 : ∀ i ∈ is1, i ∈ vs1) (hs : ∀ x, foldedSetIterable iter X.env x = pure x := by intro _; rfl) (hs1 : ∀ env x, foldedSetIterable iter1 env x = pure x := by intro _ _; rfl) :
    PE X (.DictComp kx vx [⟨tg, iter, [], 0⟩, ⟨tg1, iter1, [], 0⟩] scope pos) (tX X.K X.mg Wx (dcM2 mi t mi1 t1 fk fe (own.map (·.2)) vs1)) := (pe_dc2 hc hN hi ok hv hg hi1 hg1 hk he hs hs1).wk (tDc2_ok his his1 hv)
/-! ### a module's text -/
theorem p_gstr {x : Str} {z : Str} {tk : Tok} {p : Pos} (hg : Gl X x) (hm : X.mg x = some (.str z tk)) (hdb : (x == ("__debug__" : Str)) = false := by decide) : PE X (.Name x p) (tP X.K (cst (.str z))) :=
  (pe_glob (v := .str z) hg hm ⟨_, rfl⟩ hdb).wk fun σ H Q ⟨g, ρ, T, G, W, d, hR, hf, k⟩ => by
    cases hf
    exact k _ H G hR (Same.refl _) (Same.refl _) (Rep.st.mpr rfl)
end
end Tr
set_option maxHeartbeats 4000000
/-! tuple * int: long ones, empty ones, once -/
namespace Tr
open PySem PySem.Spec PyProof.Rows L2
theorem tuple_mulSame (l : Addr) (items : Array Value) (n : Nat) (dd : Option Addr) (sl : Array (Option Value)) (x : Int) (u : Tok) (c0 : (decide (x < -(2 ^ 63)) || decide (x ≥ 2 ^ 63)) = false) (c1 : (items.isEmpty || x == 1) = true) :
    Meets (Builtin.«tuple.__mul__» ⟨[.ref l, .int x u], []⟩) (fun _ R s => s.heap.get? l = some { cls := .type "tuple", dict := dd, data := .seq items n, slots := sl } ∧ R (.ok (.ret (Value.ref l))) s) :=
  .of_wp fun prog w A R s h => by
    obtain ⟨hp, g, d, tk, os⟩ := s
    obtain ⟨hl, h⟩ := h
    have f1 := AutoSeq1.idx_int
    wp_walk using wpAny_loadPart' hl
    repeat (first
      | (refine wpAny_ite_false (decide_eq_false (by rw [c0]; exact Bool.false_ne_true)) ?_; wp_walk using wpAny_loadPart' hl)
      | (refine wpAny_ite_true (decide_eq_true (by rw [c1])) ?_; wp_walk using wpAny_loadPart' hl))
    exact ⟨_, rfl, h⟩
section
variable {X : Cx}
def rRepS (K : PySem.W.Frag) : R2 := fun x y H Q => ∃ l k xs, x = .ref l ∧ y = .int k ∧ SqT K H l xs ∧ -(2 ^ 62) ≤ k ∧ k ≤ 2 ^ 62 ∧ (xs = [] ∨ k = 1) ∧ Q (.ref l) H
theorem op_repS : OpR X (binaryOp .Mult) (rRepS X.K) := fun pins s σ H x y v u Q I rx ry ⟨l, k, xs, ex, ey, hT, h1, h2, hs, q⟩ => by
  subst ex ey
  have ev : v = Value.ref l := rx
  subst ev
  obtain ⟨t, rfl⟩ := ry
  obtain ⟨its, r, ⟨⟨cls, dd, data, slots⟩, there, hc, n, hd⟩, _⟩ := I.tuple hT
  have hc1 : cls = .type "tuple" := hc
  have hd1 : data = .seq its.toArray n := hd
  subst hc1 hd1
  have c1 : (its.toArray.isEmpty || k == 1) = true := by
    rcases hs with rfl | rfl
    · have : its = [] := List.eq_nil_of_length_eq_zero r.length.symm
      subst this; rfl
    · simp
  refine wpAny_binaryOp_repeat_ref (T := "tuple") (U := "int") (by decide) ⟨_, there, rfl⟩ (fun s' => typeIs_int s' k t) noFill_tuple_mul F.fills_int_mul F.slot_int_rmul repeat_tuple F.slot_int_index.lookup
    (call_meets F.slot_int_rmul (typeIs_int s k t) F.entry_int_rmul (F.args_int_rmul_2 _ _) (int_rmul_tuple k t l its.toArray n dd slots) ⟨there, rfl, ⟨_, there, rfl⟩, call_meets F.slot_tuple_mul ⟨_, there, rfl⟩ F.entry_tuple_mul (F.args_tuple_mul_2 _ _) (tuple_mulSame l its.toArray n dd slots k t
      (by rw [Bool.or_eq_false_iff]; exact ⟨decide_eq_false (by omega), decide_eq_false (by omega)⟩) c1) ⟨there, ⟨.ref l, H, I, rfl, q⟩⟩⟩)
def rRepC (K : PySem.W.Frag) : R2 := fun x y H Q => ∃ l k xs, x = .ref l ∧ y = .int k ∧ SqT K H l xs ∧ xs ≠ [] ∧ 2 ≤ k ∧ k.toNat * xs.length ≤ 1000000 ∧ NewT H (List.replicate k.toNat xs).flatten Q
theorem op_repC : OpR X (binaryOp .Mult) (rRepC X.K) := fun pins s σ H x y v u Q I rx ry ⟨l, k, xs, ex, ey, hT, hne, h1, hz, q⟩ => by
  subst ex ey
  have ev : v = Value.ref l := rx
  subst ev
  obtain ⟨t, rfl⟩ := ry
  obtain ⟨its, r, ⟨⟨cls, dd, data, slots⟩, there, hc, n, hd⟩, _⟩ := I.tuple hT
  have hc1 : cls = .type "tuple" := hc
  have hd1 : data = .seq its.toArray n := hd
  subst hc1 hd1
  have len : its.length = xs.length := r.length.symm
  have pos1 : 0 < its.length := by rw [len]; exact List.length_pos_iff.mpr hne
  have empty : its.toArray.isEmpty = false := by cases its with
    | nil => exact absurd pos1 (Nat.lt_irrefl 0)
    | cons _ _ => rfl
  have hk : ((k.toNat : Nat) : Int) = k := by omega
  have kz : k.toNat ≤ 1000000 := by
    have := Nat.mul_le_mul_left k.toNat (show 1 ≤ xs.length by omega)
    omega
  have cells : ((its.toArray.size : Nat) : Int) * k ≤ 1000000 := by
    rw [List.size_toArray, len, ← hk, ← Int.natCast_mul, Nat.mul_comm]
    exact Int.ofNat_le.mpr hz
  have most : ∀ {α : Type} (ys : List α), ys.length = xs.length → (List.replicate k.toNat ys).flatten.length ≤ sizeLine := fun ys e => by
    rw [PyProof.Rows.lm_len_rep_flat, e, sizeLine_eq]
    omega
  have few : Builtin.Tuple.tupleTooMany (((its.toArray.size : Nat) : Int) * k) = false := by
    show decide _ = false
    rw [sizeLine_eq]
    exact decide_eq_false (by omega)
  have ends : EP X pins σ Q (.ref s.heap.objs.size) { s with heap := s.heap.push { cls := .type "tuple", data := .seq (List.foldl (fun x1 x2 => x1 ++ x2) #[] (List.replicate k.toNat its.toArray)) } } := by
    rw [size_rep]
    exact lay_tup I (r.rep k.toNat) (most xs rfl) q
  refine wpAny_binaryOp_repeat_ref (T := "tuple") (U := "int") (by decide) ⟨_, there, rfl⟩ (fun s' => typeIs_int s' k t) noFill_tuple_mul F.fills_int_mul F.slot_int_rmul repeat_tuple F.slot_int_index.lookup
    (call_meets F.slot_int_rmul (typeIs_int s k t) F.entry_int_rmul (F.args_int_rmul_2 _ _) (int_rmul_tuple k t l its.toArray n dd slots) ⟨there, rfl, ⟨_, there, rfl⟩, call_meets F.slot_tuple_mul ⟨_, there, rfl⟩ F.entry_tuple_mul (F.args_tuple_mul_2 _ _) (tuple_mulW l its.toArray n dd slots k t
      (by rw [Bool.or_eq_false_iff]; exact ⟨decide_eq_false (by omega), decide_eq_false (by omega)⟩) (by rw [empty, Bool.false_or]; exact beq_eq_false_iff_ne.mpr (by omega)) (by rw [empty, Bool.or_false]; exact decide_eq_false (by omega)) (by omega) few (by rw [size_rep, List.size_toArray]; exact most its len)) ⟨there, ends⟩⟩)
end
/-- * of all kinds -/
def mulAD (d e : D) : Option D := match d, e with
  | .tup a, .int k => if a = [] ∨ k = 1 then (if -(2 ^ 62) ≤ k ∧ k ≤ 2 ^ 62 then some (.tup a) else none) else if 2 ≤ k ∧ k.toNat * a.length ≤ 1000000 then some (.tup (List.replicate k.toNat a).flatten) else none
  | d, e => mulD d e
abbrev rMulB (K : PySem.W.Frag) : R2 := fun x y H Q => rRepS K x y H Q ∨ (rRepC K x y H Q ∨ rMulA K x y H Q)
theorem op_mulB {X : Cx} : OpR X (binaryOp .Mult) (rMulB X.K) := op_repS.or (op_repC.or op_mulA)
theorem mulAD_ok {K : PySem.W.Frag} : OpS K (rMulB K) mulAD := fun d1 d2 d x y H G Q e hf r1 r2 k => by
  unfold mulAD at hf
  split at hf
  · rename_i a i
    have hi := Rep.i.mp r2
    have hn := r1.sql (ds := a) rfl
    have r0 := r1
    obtain ⟨l, xs, rfl, hs, hr⟩ := r1.tp
    split at hf
    · rename_i hc
      split at hf
      · rename_i hb
        cases hf
        refine .inl ⟨l, i, xs, rfl, hi, SqT_same e hs, hb.1, hb.2, ?_, k _ H G .st r0⟩
        rcases hc with rfl | rfl
        · exact .inl (hr.nil_iff.mp rfl)
        · exact .inr rfl
      · cases hf
    · rename_i hc
      split at hf
      · rename_i hb
        cases hf
        have hne : xs ≠ [] := fun z => hc (.inl (hr.nil_iff.mpr z))
        refine .inr (.inl ⟨l, i, xs, rfl, hi, SqT_same e hs, hne, hb.1, by rw [← hr.len]; exact hb.2, fun p o hp ho => k _ _ _ (.nw p _ hp) (Rep.newT ho (hr.rep i.toNat) (e.free hp) ?_)⟩)
        rw [PyProof.Rows.lm_len_rep_flat, sizeLine_eq]
        omega
      · cases hf
  · exact .inr (.inr (mulD_ok d1 d2 d x y H G Q e hf r1 r2 k))
end Tr
namespace Tr
open PySem PySem.Spec PyProof.Rows L2
section
variable {X : Cx} {e a b c d : Expr} {es : List Expr} {Wx : WX} {pos : Pos}
/-! ### a, b, c, d = w, x, y, z -/
def par4 (i j l m : Nat) (f : Mo (List O)) : MS := fun ρ => match f ρ with
  | some (.ok [o1, o2, o3, o4] ρ') => if stb i ρ' = true ∧ stb j ρ' = true ∧ stb l ρ' = true ∧ stb m ρ' = true then some (.nx ((((ρ'.set i (.ow o1)).set j (.ow o2)).set l (.ow o3)).set m (.ow o4))) else none
  | some (.ex c fs ρ') => some (.ex c fs ρ')
  | _ => none
theorem R.setS4 {K : PySem.W.Frag} {g : Gs} {ρ : Rho} {T : List (O × V)} {σ : L2.St} {H G : Hp} {W : Own} {o1 o2 o3 o4 : O} {v1 v2 v3 v4 : V} {i j l m : Nat} (h : R K g ρ (T ++ [(o1, v1), (o2, v2), (o3, v3), (o4, v4)]) σ H G W) (hi : i < ρ.length) (hj : j < ρ.length) (hl : l < ρ.length) (hm : m < ρ.length)
    (hij : i ≠ j) (hil : i ≠ l) (hjl : j ≠ l) (him : i ≠ m) (hjm : j ≠ m) (hlm : l ≠ m) :
    ∃ W', R K g ((((ρ.set i (.ow o1)).set j (.ow o2)).set l (.ow o3)).set m (.ow o4)) T ((((σ.set i (some v1)).set j (some v2)).set l (some v3)).set m (some v4)) H G W' := by
  have h1 : R K g ρ ((T ++ [(o1, v1), (o2, v2), (o3, v3)]) ++ [(o4, v4)]) σ H G W := by simpa using h
  obtain ⟨W', h3⟩ := (h1.setS hm).setS3 (by rw [List.length_set]; exact hi) (by rw [List.length_set]; exact hj) (by rw [List.length_set]; exact hl) hij hil hjl
  refine ⟨W', ?_⟩
  rw [List.set_comm _ _ (Ne.symm him), List.set_comm _ _ (Ne.symm hjm), List.set_comm _ _ (Ne.symm hlm)] at h3
  rw [List.set_comm _ _ (Ne.symm him), List.set_comm _ _ (Ne.symm hjm), List.set_comm _ _ (Ne.symm hlm)] at h3
  exact h3
theorem s_par4 {i j l m : Nat} {w x y z : Str} {f : Mo (List O)} {pw px py pz pt : Pos} {kt k2 pt2} (hc : X.calm = true) (hN : X.N.Nodup) (hi : X.N[i]? = some w) (hj : X.N[j]? = some x) (hl : X.N[l]? = some y) (hm : X.N[m]? = some z)
    (hij : i ≠ j) (hil : i ≠ l) (hjl : j ≠ l) (him : i ≠ m) (hjm : j ≠ m) (hlm : l ≠ m) (hw : Loc X.env.scope w) (hx : Loc X.env.scope x) (hy : Loc X.env.scope y) (hz : Loc X.env.scope z)
    (hw' : X.fn w = true ∨ X.env.scope.names.lookup w = some .local) (hx' : X.fn x = true ∨ X.env.scope.names.lookup x = some .local) (hy' : X.fn y = true ∨ X.env.scope.names.lookup y = some .local) (hz' : X.fn z = true ∨ X.env.scope.names.lookup z = some .local) (ha : PA X [a, b, c, d] (tA X.K X.mg Wx f))
    (hsw : swappedStores [.Tuple [.Name w pw, .Name x px, .Name y py, .Name z pz] kt pt] (.Tuple [a, b, c, d] k2 pt2) X.env = pure none := by rfl)
    (hs : swapsWithSole [.Tuple [.Name w pw, .Name x px, .Name y py, .Name z pz] kt pt] (.Tuple [a, b, c, d] k2 pt2) pos.line X.env = pure false := by rfl) :
    PS X (.Assign [.Tuple [.Name w pw, .Name x px, .Name y py, .Name z pz] kt pt] (.Tuple [a, b, c, d] k2 pt2) pos) (tS X.K X.mg Wx (par4 i j l m f)) :=
  (ps_asg (pe_tup ha) (pg_tup hc (pgs_cons (pg_name hN hi hw hw') (pgs_cons (pg_name hN hj hx hx') (pgs_cons (pg_name hN hl hy hy') (pgs_cons (pg_name hN hm hz hz') pgs_nil))))) hs hsw).wk fun D σ H ⟨g, ρ, T, G, W, hR, k⟩ => by
  refine ⟨g, ρ, T, G, W, hR, ?_⟩
  unfold par4 at k
  split at k
  · rename_i o1 o2 o3 o4 ρ' h1
    rw [h1]
    intro vs H' G' W' hl' R' eg
    obtain ⟨v1, v2, v3, v4, rfl⟩ : ∃ v1 v2 v3 v4, vs = [v1, v2, v3, v4] := by
      match vs, hl' with
      | [v1, v2, v3, v4], _ => exact ⟨v1, v2, v3, v4, rfl⟩
    split at k
    · rename_i hs
      refine ⟨by show 4 ≤ sizeLine; decide, fun p hp => ⟨p, [v1, v2, v3, v4], rfl, SqT.of upd_same, rfl, v1, _, rfl, v2, _, rfl, v3, _, rfl, v4, _, rfl, rfl, ?_⟩⟩
      obtain ⟨W2, R2⟩ := (R'.ext (same_upd (u := .tup [v1, v2, v3, v4]) hp)).setS4 (stb_lt hs.1) (stb_lt hs.2.1) (stb_lt hs.2.2.1) (stb_lt hs.2.2.2) hij hil hjl him hjm hlm
      exact k _ _ G' W2 R2 eg
    · exact k.elim
  · rename_i h1; rw [h1]; exact k
  · exact k.elim
end
end Tr
/-! d = {k: v for x in xs} -/
namespace L2
open PySem PySem.Spec PyProof.Rows
theorem sw_trueD {kx vx : Expr} {gs : List Comprehension} {scope : Scope} {pos py : Pos} {y : Str} {l : Nat} {env : Env} (hk : env.scope.kind = .function) (hy : env.scope.names.lookup y = some .local) (hl : (py.line == pos.line) = true)
    (ha : (scope.names.any fun (n, k) => n == y && (k == .local || k == .cell)) = false) : swapsWith (.DictComp kx vx gs scope pos) (some (.Name y py)) l env = pure true := by
  have ky : env.kindOf y = some .local := hy
  have hb : env.blockKind = .function := by unfold Env.blockKind; rw [hk]; rfl
  unfold swapsWith
  simp only [hb, ky, ha, Expr.pos, hl]
  rfl
section
variable {X : Cx}
theorem ps_setDc {i : Nat} {y : Str} {py : Pos} {kx vx tg iter : Expr} {ifs : List Expr} {scope : Scope} {own : List (Str × Nat)} {pos spos : Pos} {wi : TI} {g : TG} {tt : TT} {tk tv : TE} (hc : X.calm = true) (hN : X.N.Nodup) (hy : X.N[i]? = some y) (hyl : X.env.scope.names.lookup y = some .local)
    (hsw : swapsWith (.DictComp kx vx [⟨tg, iter, ifs, 0⟩] scope pos) (some (.Name y py)) spos.line X.env = pure true) (hi : PI X tg iter wi) (ok : BlkOk X.N X.env.scope scope own)
    (hg : ∀ (s : Shared) (H : Hp) (C : Addr) (cl : List (Str × Addr)) (fp : List Addr), PG (X.blk s H scope (compEnvC scope cl C X.env) fp) tg g) (ht : ∀ (s : Shared) (H : Hp) (C : Addr) (cl : List (Str × Addr)) (fp : List Addr), PTs (X.blk s H scope (compEnvC scope cl C X.env) fp) ifs tt)
    (hk : ∀ (s : Shared) (H : Hp) (C : Addr) (cl : List (Str × Addr)) (fp : List Addr), PE (X.blk s H scope (compEnvC scope cl C X.env) fp) kx tk)
    (he : ∀ (s : Shared) (H : Hp) (C : Addr) (cl : List (Str × Addr)) (fp : List Addr), PE (X.blk s H scope (compEnvC scope cl C X.env) fp) vx tv) (hs : ∀ x, foldedSetIterable iter X.env x = pure x := by intro _; rfl) :
    PS X (.Assign [.Name y py] (.DictComp kx vx [⟨tg, iter, ifs, 0⟩] scope pos) spos) (tAsg (tDc wi g tt tk tv (own.map (·.2))) (gName i)) := by
  refine ⟨fun pins s σ H D I h => ?_⟩
  rw [exec_Assign_Name_used _ _ _ _ hsw]
  refine wpAny_bind (wpAny_standAt (wpAny_bind ?_))
  show wpAny _ X.A (do let _ ← comprehension (.DictComp kx vx [⟨tg, iter, ifs, 0⟩] scope pos) scope X.env (firstIterPos [⟨tg, iter, ifs, 0⟩] pos) newDict false (eval iter X.env) (some (assign (.Name y py) X.env))) _ _ s
  have h : tDc wi g tt tk tv (own.map (·.2)) σ H (fun x H1 => gName i x σ H1 D.nx) := h
  refine wpAny_bind (thn (dc_core (Qf := fun _ s' => SP X pins D .next s') hc hN I hi ok hg ht hk he hs h fun L C s' m H' I' q hn f => ?_) fun _ s' hq => wpAny_pure (wpAny_pure hq))
  show wpAny _ _ (assign (.Name y py) X.env (.ref L)) _ _ _
  refine wpAny_assign_Name (store_ok2 (v := V.ref L) I' hN hy (.inl hyl) rfl (fun s2 I2 ⟨a, sb, ha⟩ => ?_) (.inr hyl))
  obtain ⟨f0, f1, f2, f3, f4, f5⟩ := f
  exact ⟨m, hn.sameBut sb (ha.elim (fun z => by rw [z]; exact f1) fun z e => f4 y a z e.symm), fun h3 sb3 => ⟨_, H', I2.turned (t' := s2.toks) (fun b o hb e => (sb3.2 b hb).trans e) f0 f1 f3 f4 f5, q⟩⟩
end
end L2
namespace Tr
open PySem PySem.Spec PyProof.Rows L2
section
variable {X : Cx} {kx vx tg iter : Expr} {ifs : List Expr} {Wx : WX} {pos : Pos} {mi : Mo (List D)} {t : D → Rho → Option Rho} {q : Mo Bool} {fk fe : Mo D} {is : List Nat}
theorem s_setDcF {i : Nat} {y : Str} {py spos : Pos} {scope : Scope} {own : List (Str × Nat)} (hc : X.calm = true) (hN : X.N.Nodup) (hy : X.N[i]? = some y) (hyl : X.env.scope.names.lookup y = some .local)
    (hsw : swapsWith (.DictComp kx vx [⟨tg, iter, ifs, 0⟩] scope pos) (some (.Name y py)) spos.line X.env = pure true) (hi : PI X tg iter (tI X.K X.mg Wx mi)) (ok : BlkOk X.N X.env.scope scope own)
    (hg : ∀ (s : Shared) (H : Hp) (C : Addr) (cl : List (Str × Addr)) (fp : List Addr), PG (X.blk s H scope (compEnvC scope cl C X.env) fp) tg (tG X.K is t)) (ht : ∀ (s : Shared) (H : Hp) (C : Addr) (cl : List (Str × Addr)) (fp : List Addr), PTs (X.blk s H scope (compEnvC scope cl C X.env) fp) ifs (tY X.K X.mg W0 q))
    (hk : ∀ (s : Shared) (H : Hp) (C : Addr) (cl : List (Str × Addr)) (fp : List Addr), PE (X.blk s H scope (compEnvC scope cl C X.env) fp) kx (tV X.K X.mg W0 fk))
    (he : ∀ (s : Shared) (H : Hp) (C : Addr) (cl : List (Str × Addr)) (fp : List Addr), PE (X.blk s H scope (compEnvC scope cl C X.env) fp) vx (tV X.K X.mg W0 fe)) (his : ∀ i ∈ is, i ∈ own.map (·.2)) (hs : ∀ x, foldedSetIterable iter X.env x = pure x := by intro _; rfl) :
    PS X (.Assign [.Name y py] (.DictComp kx vx [⟨tg, iter, ifs, 0⟩] scope pos) spos) (tS X.K X.mg Wx (setF i (dcM mi t q fk fe (own.map (·.2))))) := (ps_setDc hc hN hy hyl hsw hi ok hg ht hk he hs).wk fun D0 σ H h => tDc_ok his σ H _ (tSetF D0 σ H h)
end
end Tr
namespace Tr
open PySem PySem.Spec PyProof.Rows L2
/-- a def with one keyword-only parameter that is None by default, called without it -/
theorem calD_none {P : Program} {w : World} {K : PySem.W.Frag} {mg : MG} {base : Heap} {k n : Nat} {x nm : Str} {F : FS} {params : Arguments} {body : List Stmt} {scope : Scope} {f Dk : Addr} {od an : Option Addr} {sl : Array (Option Value)} {oc dc pm cd ct : Value} {ps : List Str}
    (l : K.lookup f = some ⟨oc, od, .func (PySem.W.fnOf x x params body scope .none (.ref Dk) dc pm an cd ct), sl⟩) (c : PySem.W.codeIn K cd x = true) (kp : PySem.W.keepIn K (.ref f) = true) (hn : PySem.W.nsIn K Dk nm = some (some .none)) (hps : ps.length = n + 1)
    (FO : FnG P w K mg base k f (PySem.W.fnOf x x params body scope .none (.ref Dk) dc pm an cd ct) ps (spF K mg ps.length F)) (hm : mg x = some (.ref f))
    (h : ∀ (D : Addr) (doc pm : Value) (an : Option Addr) (cdv ct : Value) (us ks : List Value), us.length = n → ks.length = 1 →
      KwChain D ([nm].zip ks) (bindArgs (PySem.W.fnOf x x params body scope .none (.ref D) doc pm an cdv ct) ⟨us, []⟩) (ps.zip (us ++ ks))) : CalD P w K mg base k x (n + 1) F [.non] := by
  have FD : FunD K x x params body scope [] [(nm, V.non)] f (PySem.W.fnOf x x params body scope .none (.ref Dk) dc pm an cd ct) :=
    ⟨⟨oc, od, .none, .ref Dk, dc, pm, an, cd, ct, sl, rfl, l, c, .inl ⟨rfl, rfl⟩, .inr ⟨Dk, rfl, fun q hq => by
      rw [List.mem_singleton] at hq
      subst hq
      exact ⟨.none, hn, rfl⟩⟩⟩, kp⟩
  obtain ⟨ds, h1, h2⟩ := FD.binds0 (ps := ps) n (by simp) (by simp [hps]) h
  exact ⟨f, _, ps, ds, [V.non], hps, FO, hm, kp, h2, h1, fun G => by
    rw [Reps]
    exact ⟨V.non, [], rfl, Rep.nn.mpr rfl, by rw [Reps]⟩⟩
end Tr
namespace Tr
open PySem PySem.Spec PyProof.Rows L2
/-! ### len of a dict -/
def lenKD : D → Option D
  | .dic kvs => some (.int (Nat.cast kvs.length))
  | _ => none
theorem lenKD_ok {K : PySem.W.Frag} : C1 K (fun xs H Q => ∃ a kvs, xs = [V.ref a] ∧ H a = some (.dK kvs) ∧ Q (.int kvs.length) H) lenKD := fun d z x H G Q hz e r k => by
  cases d with
  | dic kvs =>
    cases hz
    obtain ⟨a, ys, rfl, h1, h2⟩ := r.dic e
    refine ⟨a, ys, rfl, h1, ?_⟩
    rw [← h2.len]
    exact k _ H G .st (Rep.i.mpr rfl)
  | _ => cases hz
end Tr
set_option maxHeartbeats 4000000
namespace K09
open PySem PySem.Spec PyProof.Rows L2 Tr
abbrev N_is_integer : List Str := ["value"]
def m_is_integer : MS :=
  (retS (ofP (andP (pu1 (isiD "int") (var 0)) (notP (pu1 (isiD "bool") (var 0))))))
def F_is_integer : FS := runF N_is_integer.length (["value"] : List Str).length m_is_integer
abbrev N_is_number : List Str := ["value"]
def m_is_number : MS :=
  (retS (frM (andV (frzM (callM 1 F_is_integer (agV (puV (var 0)) agN))) (puV (pu2 geD (var 0) (cst (.int 0)))))))
def F_is_number : FS := runF N_is_number.length (["value"] : List Str).length m_is_number
abbrev N_is_below : List Str := ["value", "bound"]
def m_is_below : MS :=
  (retS (frM (andV (frzM (callM 1 F_is_number (agV (puV (var 0)) agN))) (puV (pu2 ltD (var 0) (var 1))))))
def F_is_below : FS := runF N_is_below.length (["value", "bound"] : List Str).length m_is_below
abbrev N_is_letter : List Str := ["sign"]
def m_is_letter : MS :=
  (retS (ofP (andP (pu2 eqD (pu1 lenD (var 0)) (cst (.int 1))) (pu2 (inAD false) (var 0) (cst (.str "abcdefghijklmnopqrstuvwxyz"))))))
def F_is_letter : FS := runF N_is_letter.length (["sign"] : List Str).length m_is_letter
abbrev N_is_name : List Str := ["value", "sign"]
def m_is_name : MS :=
  (seqS (ifS (quM (orQ (notQ (tb (pu1 (isiD "str") (var 0)))) (notQ (tb (chn leD leD (cst (.int 1)) (pu1 lenD (var 0)) (cst (.int 5))))))) (retS (ofP (cst (.bl false)))) nxS)
  (retS (frM (mo1 allD (frzM (lcM (itC (puV (var 0))) (gN 1) yes (callM 1 F_is_letter (agV (puV (var 1)) agN)) [1]))))))
def F_is_name : FS := runF N_is_name.length (["value"] : List Str).length m_is_name
abbrev N_is_row : List Str := ["value", "size", "bound", "item"]
def m_is_row : MS :=
  (retS (frM (andV (puV (pu1 (isiD "tuple") (var 0))) (andV (puV (pu2 eqD (pu1 lenD (var 0)) (var 1))) (mo1 allD (frzM (lcM (itS (puV (var 0))) (gN 3) yes (callM 2 F_is_below (agV (puV (var 3)) (agV (puV (var 2)) agN))) [3])))))))
def F_is_row : FS := runF N_is_row.length (["value", "size", "bound"] : List Str).length m_is_row
abbrev N_check_state : List Str := ["store", "value"]
noncomputable def m_check_state (A_Store : Addr) : MS :=
  (ifS (notY (tbM (frzM (callM 2 F_is_below (agV (puV (var 1)) (agV (puV (pu1 (fldD A_Store "size") (var 0))) agN)))))) nvS nxS)
noncomputable def F_check_state (A_Store : Addr) : FS := runF N_check_state.length (["store", "value"] : List Str).length (m_check_state A_Store)
abbrev N_need_office : List Str := ["store", "office"]
noncomputable def m_need_office (A_Store : Addr) : MS :=
  (ifS (notY (tbM (frzM (callM 2 F_is_below (agV (puV (var 1)) (agV (puV (pu1 lenD (pu1 (fldD A_Store "offices") (var 0)))) agN)))))) nvS nxS)
noncomputable def F_need_office (A_Store : Addr) : FS := runF N_need_office.length (["store", "office"] : List Str).length (m_need_office A_Store)
abbrev N_need_offices : List Str := ["store", "offices"]
noncomputable def m_need_offices (A_Store : Addr) : MS :=
  (seqS (ifS (quM (tb (pu2 isND (var 1) (cst .non)))) (retS (ofP (pu1 tupRgD (pu1 lenD (pu1 (fldD A_Store "offices") (var 0)))))) nxS)
  (seqS (ifS (notY (tbM (frzM nvX))) nvS nxS)
  (retS (ofP (var 1)))))
noncomputable def F_need_offices (A_Store : Addr) : FS := runF N_need_offices.length (["store", "offices"] : List Str).length (m_need_offices A_Store)
abbrev N_operation_table : List Str := ["store", "office", "operation"]
noncomputable def m_operation_table (A_Store : Addr) : MS :=
  (retS (dcM2 (itS (puV (pu1 (fldD A_Store "offices") (var 0)))) (gN 1) (itS (puV (var 1))) (gN 2) (puV (pu2 ixD (var 2) (cst (.int 0)))) (puV (var 2)) [1, 2] [2]))
noncomputable def F_operation_table (A_Store : Addr) : FS := runF N_operation_table.length (["store"] : List Str).length (m_operation_table A_Store)
abbrev N_operations_of : List Str := ["store", "offices", "office", "operation"]
noncomputable def m_operations_of (A_Store : Addr) : MS :=
  (retS (frM (mo1 tupD (mo1 (fun d => (sortOD d).map .lst) (frzM (lcM2 (itS (puV (var 1))) (gN 2) yes (itS (puV (pu2 ixD (pu1 (fldD A_Store "offices") (var 0)) (var 2)))) (gN 3) yes (ofP (var 3)) [2, 3] [3]))))))
noncomputable def F_operations_of (A_Store : Addr) : FS := runF N_operations_of.length (["store", "offices"] : List Str).length (m_operations_of A_Store)
abbrev N_check_run : List Str := ["store", "run", "office", "offices", "known", "at", "name", "operation"]
noncomputable def m_check_run (A_Store : Addr) : MS :=
  (seqS (ifS (quM (tb (pu2 notND (var 2) (cst .non)))) (dropS (callM 2 (F_need_office A_Store) (agV (puV (var 0)) (agV (puV (var 2)) agN)))) nxS)
  (seqS (ifS (quM (notQ (tb (pu1 (isiD "tuple") (var 1))))) nvS nxS)
  (seqS (setF 3 (ifM (quM (tb (pu2 isND (var 2) (cst .non)))) (callM 2 (F_need_offices A_Store) (agV (puV (var 0)) (agV (puV (cst .non)) agN))) (ofP (tupP (lpC (var 2) lpN)))))
  (seqS (setF 4 (dcM (itS (frzM (callM 2 (F_operations_of A_Store) (agV (puV (var 0)) (agV (puV (var 3)) agN))))) (gN 7) yes (puV (pu2 ixD (var 7) (cst (.int 0)))) (puV (cst (.bl true))) [7]))
  (forS (itE (puV (var 1))) (gT 2 (gsC (gN 5) (gsC (gN 6) gsN))) (ifS (orY (notY (tbM (frzM (callM 1 F_is_name (agV (puV (var 6)) agN))))) (quM (tb (pu2 (inK true) (var 6) (var 4))))) nvS nxS))))))
noncomputable def F_check_run (A_Store : Addr) : FS := runF N_check_run.length (["store", "run", "office"] : List Str).length (m_check_run A_Store)
abbrev N_passed : List Str := ["store", "state", "run", "table", "found", "name", "ends"]
noncomputable def m_passed (A_Store : Addr) : MS :=
  (seqS (dropS (callM 2 (F_check_state A_Store) (agV (puV (var 0)) (agV (puV (var 1)) agN))))
  (seqS (dropS (callM 3 (F_check_run A_Store) (apD [.non] (agV (puV (var 0)) (agV (puV (var 2)) agN)))))
  (seqS (par2 3 4 (lxC (frM (frzM (callM 1 (F_operation_table A_Store) (agV (puV (var 0)) agN)))) (lxC (lstX (lxC (ofP (var 1)) lxN)) lxN)))
  (seqS (forS (itS (puV (var 2))) (gN 5) (seqS (setF 6 (ofP (pu2 ixD (pu2 ixKD (var 3) (var 5)) (cst (.int 1)))))
  (dropS (appX 4 (puV (pu2 ixD (var 6) (flD (conAt 4 (pu1 negD (cst (.int 1)))))))))))
  (retS (ofP (pu1 tupD (con 4))))))))
noncomputable def F_passed (A_Store : Addr) : FS := runF N_passed.length (["store", "state", "run"] : List Str).length (m_passed A_Store)
abbrev N_after : List Str := ["store", "state", "run"]
noncomputable def m_after (A_Store : Addr) : MS :=
  (retS (frM (mo2 ixD (frzM (callM 3 (F_passed A_Store) (agV (puV (var 0)) (agV (puV (var 1)) (agV (puV (var 2)) agN))))) (puV (pu1 negD (cst (.int 1)))))))
noncomputable def F_after (A_Store : Addr) : FS := runF N_after.length (["store", "state", "run"] : List Str).length (m_after A_Store)
abbrev N_answers_of : List Str := ["store", "state", "run", "states", "table", "at", "name"]
noncomputable def m_answers_of (A_Store : Addr) : MS :=
  (seqS (asgS (tupV (lvC (frzM (callM 3 (F_passed A_Store) (agV (puV (var 0)) (agV (puV (var 1)) (agV (puV (var 2)) agN))))) (lvC (frzM (callM 1 (F_operation_table A_Store) (agV (puV (var 0)) agN))) lvN))) (gT 2 (gsC (gN 3) (gsC (gN 4) gsN))))
  (retS (frM (mo1 tupD (frzM (lcM (itE (puV (var 2))) (gT 2 (gsC (gN 5) (gsC (gN 6) gsN))) yes (ofP (pu2 ixD (pu2 ixD (pu2 ixKD (var 4) (var 6)) (cst (.int 2))) (pu2 ixD (var 3) (var 5)))) [5, 6]))))))
noncomputable def F_answers_of (A_Store : Addr) : FS := runF N_answers_of.length (["store", "state", "run"] : List Str).length (m_answers_of A_Store)
abbrev N_run_ends : List Str := ["store", "run", "table", "found", "name", "ends", "state"]
noncomputable def m_run_ends (A_Store : Addr) : MS :=
  (seqS (dropS (callM 3 (F_check_run A_Store) (apD [.non] (agV (puV (var 0)) (agV (puV (var 1)) agN)))))
  (seqS (par2 2 3 (lxC (frM (frzM (callM 1 (F_operation_table A_Store) (agV (puV (var 0)) agN)))) (lxC (frM (frzM (moL lstRgD (pu1 (fldD A_Store "size") (var 0))))) lxN)))
  (seqS (forS (itS (puV (var 1))) (gN 4) (seqS (setF 5 (ofP (pu2 ixD (pu2 ixKD (var 2) (var 4)) (cst (.int 1)))))
  (setF 3 (lcM (itS (puV (var 3))) (gN 6) yes (ofP (pu2 ixD (var 5) (var 6))) [6]))))
  (retS (ofP (pu1 tupD (var 3)))))))
noncomputable def F_run_ends (A_Store : Addr) : FS := runF N_run_ends.length (["store", "run"] : List Str).length (m_run_ends A_Store)
abbrev N_is_operation : List Str := ["value", "size"]
def m_is_operation : MS :=
  (seqS (ifS (orY (quM (notQ (tb (pu1 (isiD "tuple") (var 0))))) (orY (quM (tb (pu2 neD (pu1 lenD (var 0)) (cst (.int 3))))) (notY (tbM (frzM (callM 1 F_is_name (agV (puV (pu2 ixD (var 0) (cst (.int 0)))) agN))))))) (retS (ofP (cst (.bl false)))) nxS)
  (retS (frM (andV (frzM (callM 3 F_is_row (agV (puV (pu2 ixD (var 0) (cst (.int 1)))) (agV (puV (var 1)) (agV (puV (var 1)) agN))))) (frzM (callM 3 F_is_row (agV (puV (pu2 ixD (var 0) (cst (.int 2)))) (agV (puV (var 1)) (agV (puV (pu2 addD (cst (.int 1000000000000)) (cst (.int 1)))) agN)))))))))
def F_is_operation : FS := runF N_is_operation.length (["value", "size"] : List Str).length m_is_operation
abbrev N_check_offices : List Str := ["size", "offices", "known", "at", "office", "operation"]
def m_check_offices : MS :=
  (seqS (ifS (orY (notY (tbM (frzM (callM 2 F_is_below (agV (puV (var 0)) (agV (puV (pu2 addD (cst (.int 200)) (cst (.int 1)))) agN)))))) (orY (quM (tb (pu2 eqD (var 0) (cst (.int 0))))) (quM (notQ (tb (pu1 (isiD "tuple") (var 1))))))) nvS nxS)
  (seqS (setS 2 dic0)
  (seqS (forS (itE (puV (var 1))) (gT 2 (gsC (gN 3) (gsC (gN 4) gsN))) (seqS (ifS (quM (notQ (tb (pu1 (isiD "tuple") (var 4))))) nvS nxS)
  (forS (itS (puV (var 4))) (gN 5) (seqS (ifS (orY (notY (tbM (frzM (callM 2 F_is_operation (agV (puV (var 5)) (agV (puV (var 0)) agN)))))) (quM (tb (pu2 (inK false) (pu2 ixD (var 5) (cst (.int 0))) (con 2))))) nvS nxS)
  (stoD 2 (puV (var 3)) (pu2 ixD (var 5) (cst (.int 0))))))))
  (ifS (quM (orQ (notQ (tb (chn leD leD (cst (.int 2)) (pu1 lenD (var 1)) (cst (.int 8))))) (tb (pu2 gtD (pu1 lenKD (con 2)) (cst (.int 40)))))) nvS nxS))))
def F_check_offices : FS := runF N_check_offices.length (["size", "offices"] : List Str).length m_check_offices
abbrev N__law_box : List Str := ["_law_script", "_law_k", "_law_cell", "_law_great"]
def m__law_box : MS :=
  (seqS (setF 2 (ofP (pu2 addD (pu2 mulAD (cst (.int 7013)) (var 1)) (cst (.int 2411)))))
  (seqS (ifS (quM (tb (pu2 ltD (var 1) (pu1 lenD (var 0))))) (setF 2 (ofP (pu1 absD (pu2 ixD (var 0) (var 1))))) (ifS (quM (tb (pu2 gtD (pu1 lenD (var 0)) (cst (.int 0))))) (setF 2 (ofP (pu2 addD (var 2) (pu2 mulAD (pu2 modD (pu1 intD (pu1 absD (pu2 ixD (var 0) (pu2 modD (pu1 intD (var 1)) (pu1 lenD (var 0)))))) (cst (.int 2147483629))) (cst (.int 60719)))))) nxS))
  (seqS (setF 3 (ofP (pu1 intD (pu2 geD (var 2) (pu2 powD (cst (.int 10)) (cst (.int 18)))))))
  (retS (lstX (lxC (ofP (pu2 ixD (lstP (lpC (cst (.int 0)) (lpC (var 2) lpN))) (var 3))) (lxC (ofP (pu2 addD (pu2 modD (pu1 intD (pu2 addD (pu2 addD (pu2 mulAD (pu2 modD (pu1 intD (var 2)) (cst (.int 2147483629))) (cst (.int 48271))) (pu2 mulAD (cst (.int 30011)) (var 1))) (cst (.int 977)))) (cst (.int 2147483629))) (cst (.int 1)))) (lxC (ofP (cst (.int 0))) lxN))))))))
def F__law_box : FS := runF N__law_box.length (["_law_script", "_law_k"] : List Str).length m__law_box
abbrev N__law_take : List Str := ["_law_box_here", "_law_many", "_law_digit", "_law_raw"]
def m__law_take : MS :=
  (seqS (ifS (quM (tb (pu2 gtD (conAt 0 (cst (.int 0))) (cst (.int 0))))) (seqS (setF 2 (ofP (pu2 modD (pu1 intD (conAt 0 (cst (.int 0)))) (var 1))))
  (seqS (stoS 0 (puV (pu2 divD (flD (conAt 0 (cst (.int 0)))) (var 1))) (cst (.int 0)))
  (retS (ofP (var 2))))) nxS)
  (seqS (stoS 0 (puV (pu2 addD (flD (conAt 0 (cst (.int 2)))) (cst (.int 1)))) (cst (.int 2)))
  (seqS (setF 3 (ofP (pu2 modD (pu1 intD (pu2 addD (pu2 mulAD (pu2 addD (flD (conAt 0 (cst (.int 1)))) (pu2 mulAD (cst (.int 99991)) (flD (conAt 0 (cst (.int 2)))))) (cst (.int 69621))) (cst (.int 53)))) (cst (.int 2147483563)))))
  (seqS (stoS 0 (puV (pu2 addD (pu2 modD (pu1 intD (pu2 addD (pu2 mulAD (var 3) (cst (.int 40692))) (cst (.int 27011)))) (cst (.int 2147483629))) (cst (.int 1)))) (cst (.int 1)))
  (retS (ofP (pu2 modD (pu1 intD (pu2 divD (pu2 addD (pu2 mulAD (var 3) (cst (.int 2147483647))) (flD (conAt 0 (cst (.int 1))))) (cst (.int 8191)))) (var 1))))))))
def F__law_take : FS := runF N__law_take.length (["_law_box_here", "_law_many"] : List Str).length m__law_take
abbrev N__law_pick : List Str := ["_law_box_here", "_law_some"]
def m__law_pick : MS :=
  (retS (frM (mo2 ixD (puV (var 1)) (frzM (callM 2 F__law_take (agL 0 (agV (puV (pu1 lenD (var 1))) agN)))))))
def F__law_pick : FS := runF N__law_pick.length (["_law_box_here", "_law_some"] : List Str).length m__law_pick
abbrev N__law_names : List Str := ["_law_box_here", "_law_many", "_law_letters", "_law_stem", "_law_at", "_law_first", "_law_found", "_law_k", "_law_place"]
def m__law_names : MS :=
  (seqS (setF 2 (ofP (cst (.str "abcdefghijklmnopqrstuvwxyz"))))
  (seqS (setF 3 (callM 2 F__law_pick (agL 0 (agV (puV (lstP (lpC (cst (.str "")) (lpC (cst (.str "")) (lpC (cst (.str "k")) (lpC (cst (.str "go")) (lpC (cst (.str "xyz")) (lpC (cst (.str "zz")) lpN)))))))) agN))))
  (seqS (par3 4 5 6 (lxC (frM (frzM (callM 2 F__law_take (agL 0 (agV (puV (pu2 addD (pu1 lenD (var 3)) (cst (.int 1)))) agN))))) (lxC (frM (frzM (callM 2 F__law_take (agL 0 (agV (puV (cst (.int 26))) agN))))) (lxC (lstX lxN) lxN))))
  (seqS (forS (itR1 (puV (var 1))) (gN 7) (dropS (appX 6 (puV (pu2 addD (pu2 addD (slA (var 3) poN (poS (var 4))) (pu2 ixD (var 2) (pu2 modD (pu1 intD (pu2 addD (var 5) (pu2 mulAD (cst (.int 5)) (var 7)))) (cst (.int 26))))) (slA (var 3) (poS (var 4)) poN))))))
  (seqS (setF 8 (callM 2 F__law_take (agL 0 (agV (puV (var 1)) agN))))
  (seqS (ifS (tbM (mo2 eqD (frzM (callM 2 F__law_take (agL 0 (agV (puV (cst (.int 2))) agN)))) (puV (cst (.int 0))))) (stoS 6 (mo2 addD (puV (flD (conAt 6 (var 8)))) (mo2 ixD (puV (var 2)) (frzM (callM 2 F__law_take (agL 0 (agV (puV (cst (.int 26))) agN)))))) (var 8)) nxS)
  (retS (mov 6))))))))
def F__law_names : FS := runF N__law_names.length (["_law_box_here", "_law_many"] : List Str).length m__law_names
abbrev N__law_ends : List Str := ["_law_box_here", "_law_size", "_law_kind", "_law_step", "_law_state"]
def m__law_ends : MS :=
  (seqS (asgS (tupV (lvC (frzM (callM 2 F__law_take (agL 0 (agV (puV (cst (.int 6))) agN)))) (lvC (frzM (callM 2 F__law_take (agL 0 (agV (puV (var 1)) agN)))) lvN))) (gT 2 (gsC (gN 2) (gsC (gN 3) gsN))))
  (seqS (ifS (quM (tb (pu2 eqD (var 2) (cst (.int 0))))) (retS (frM (mo1 tupD (frzM (lcM (itR1 (puV (var 1))) (gN 4) yes (ofP (pu2 modD (pu1 intD (pu2 addD (var 4) (var 3))) (var 1))) [4]))))) nxS)
  (seqS (ifS (quM (tb (pu2 eqD (var 2) (cst (.int 1))))) (retS (frM (mo1 tupD (frzM (lcM (itR1 (puV (var 1))) (gN 4) yes (ofP (var 3)) [4]))))) nxS)
  (seqS (ifS (quM (tb (pu2 eqD (var 2) (cst (.int 2))))) (retS (frM (mo1 tupD (frzM (lcM (itR1 (puV (var 1))) (gN 4) yes (ifM (quM (tb (pu2 eqD (var 4) (pu2 subD (var 1) (cst (.int 1)))))) (ofP (var 3)) (ofP (var 4))) [4]))))) nxS)
  (retS (frM (mo1 tupD (frzM (lcM (itR1 (puV (var 1))) (gN 4) yes (callM 2 F__law_take (agL 0 (agV (puV (var 1)) agN))) [4])))))))))
def F__law_ends : FS := runF N__law_ends.length (["_law_box_here", "_law_size"] : List Str).length m__law_ends
abbrev N__law_told : List Str := ["_law_box_here", "_law_size", "_law_kind", "_law_answer", "_law_state"]
def m__law_told : MS :=
  (seqS (asgS (tupV (lvC (frzM (callM 2 F__law_take (agL 0 (agV (puV (cst (.int 3))) agN)))) (lvC (frzM (callM 2 F__law_take (agL 0 (agV (puV (pu2 addD (pu2 powD (cst (.int 10)) (cst (.int 12))) (cst (.int 1)))) agN)))) lvN))) (gT 2 (gsC (gN 2) (gsC (gN 3) gsN))))
  (seqS (ifS (quM (tb (pu2 eqD (var 2) (cst (.int 0))))) (retS (frM (mo1 tupD (frzM (lcM (itR1 (puV (var 1))) (gN 4) yes (ofP (var 3)) [4]))))) nxS)
  (seqS (ifS (quM (tb (pu2 eqD (var 2) (cst (.int 1))))) (retS (frM (mo1 tupD (frzM (lcM (itR1 (puV (var 1))) (gN 4) yes (ofP (var 4)) [4]))))) nxS)
  (retS (frM (mo1 tupD (frzM (lcM (itR1 (puV (var 1))) (gN 4) yes (callM 2 F__law_pick (agL 0 (agV (frzM (lstX (lxC (ofP (cst (.int 0))) (lxC (ofP (var 3)) (lxC (callM 2 F__law_take (agL 0 (agV (puV (cst (.int 100))) agN))) lxN))))) agN))) [4]))))))))
def F__law_told : FS := runF N__law_told.length (["_law_box_here", "_law_size"] : List Str).length m__law_told
abbrev N__law_offices : List Str := ["_law_box_here", "_law_size", "_law_many", "_law_names_here", "_law_offices_here", "_law_used", "_law_at", "_law_office", "_law_turn", "_law_start"]
def m__law_offices : MS :=
  (seqS (par4 2 3 4 5 (lxC (frM (frzM (callM 2 F__law_pick (agL 0 (agV (puV (lstP (lpC (cst (.int 2)) (lpC (cst (.int 2)) (lpC (cst (.int 3)) (lpC (cst (.int 2)) (lpC (cst (.int 4)) (lpC (cst (.int 8)) lpN)))))))) agN))))) (lxC (frM (frzM (callM 2 F__law_names (agL 0 (agV (puV (cst (.int 16))) agN))))) (lxC (lstX lxN) (lxC (frM (puV (cst (.int 0)))) lxN)))))
  (seqS (forS (itR1 (puV (var 2))) (gN 6) (seqS (setS 7 (lstX lxN))
  (seqS (forS (itR1 (ifM (quM (tb (pu2 eqD (var 6) (cst (.int 0))))) (frzM (callM 2 F__law_pick (agL 0 (agV (puV (lstP (lpC (cst (.int 1)) (lpC (cst (.int 2)) (lpC (cst (.int 2)) (lpC (cst (.int 3)) lpN)))))) agN)))) (frzM (callM 2 F__law_pick (agL 0 (agV (puV (ifP (tb (pu2 ltD (var 2) (cst (.int 5)))) (lstP (lpC (cst (.int 0)) (lpC (cst (.int 1)) (lpC (cst (.int 1)) (lpC (cst (.int 2)) lpN))))) (lstP (lpC (cst (.int 0)) (lpC (cst (.int 1)) lpN))))) agN)))))) (gN 8) (seqS (dropS (appX 7 (tupV (lvC (puV (pu2 ixD (var 3) (var 5))) (lvC (frzM (callM 2 F__law_ends (agL 0 (agV (puV (var 1)) agN)))) (lvC (frzM (callM 2 F__law_told (agL 0 (agV (puV (var 1)) agN)))) lvN))))))
  (setF 5 (ofP (pu2 addD (var 5) (cst (.int 1)))))))
  (dropS (appX 4 (puV (pu1 tupD (con 7))))))))
  (seqS (setF 9 (callM 2 F__law_take (agL 0 (agV (puV (var 2)) agN))))
  (retS (ofP (pu1 tupD (pu2 addD (slA (con 4) (poS (var 9)) poN) (slA (con 4) poN (poS (var 9))))))))))
def F__law_offices : FS := runF N__law_offices.length (["_law_box_here", "_law_size"] : List Str).length m__law_offices
abbrev N__law_all : List Str := ["_law_offices_here", "_law_found", "_law_office"]
def m__law_all : MS :=
  (seqS (setF 1 (lstX lxN))
  (seqS (forS (itS (puV (var 0))) (gN 2) (setF 1 (ofP (pu2 addD (var 1) (pu1 (fun d => (D.sq d).map .lst) (var 2))))))
  (retS (moL sortOD (var 1)))))
def F__law_all : FS := runF N__law_all.length (["_law_offices_here"] : List Str).length m__law_all
abbrev N__law_run : List Str := ["_law_box_here", "_law_names_here", "_law_most", "_law_turn"]
def m__law_run : MS :=
  (seqS (ifS (quM (tb (pu2 eqD (pu1 lenD (var 1)) (cst (.int 0))))) (retS (ofP (tupP lpN))) nxS)
  (retS (frM (mo1 tupD (frzM (lcM (itR1 (frzM (callM 2 F__law_take (agL 0 (agV (puV (pu2 addD (var 2) (cst (.int 1)))) agN))))) (gN 3) yes (callM 2 F__law_pick (agL 0 (agV (puV (var 1)) agN))) [3]))))))
def F__law_run : FS := runF N__law_run.length (["_law_box_here", "_law_names_here", "_law_most"] : List Str).length m__law_run
abbrev N__law_walk : List Str := ["_law_table_here", "_law_state", "_law_run_here", "_law_states", "_law_told_here", "_law_name", "_law_ends_here", "_law_answers"]
def m__law_walk : MS :=
  (seqS (par2 3 4 (lxC (lstX (lxC (ofP (var 1)) lxN)) (lxC (lstX lxN) lxN)))
  (seqS (forS (itS (puV (var 2))) (gN 5) (seqS (asgS (puV (pu2 ixKD (var 0) (var 5))) (gT 2 (gsC (gN 6) (gsC (gN 7) gsN))))
  (seqS (dropS (appX 4 (puV (pu2 ixD (var 7) (flD (conAt 3 (pu1 negD (cst (.int 1)))))))))
  (dropS (appX 3 (puV (pu2 ixD (var 6) (flD (conAt 3 (pu1 negD (cst (.int 1))))))))))))
  (retS (ofP (tupP (lpC (pu1 tupD (con 3)) (lpC (pu1 tupD (con 4)) lpN)))))))
def F__law_walk : FS := runF N__law_walk.length (["_law_table_here", "_law_state", "_law_run_here"] : List Str).length m__law_walk
abbrev N__law_table : List Str := ["_law_offices_here", "_law_table_here", "_law_name", "_law_ends_here", "_law_answers"]
def m__law_table : MS :=
  (seqS (setS 1 dic0)
  (seqS (forS (itS (frzM (callM 1 F__law_all (agV (puV (var 0)) agN)))) (gT 3 (gsC (gN 2) (gsC (gN 3) (gsC (gN 4) gsN)))) (stoD 1 (puV (tupP (lpC (var 3) (lpC (var 4) lpN)))) (var 2)))
  (retS (mov 1))))
def F__law_table : FS := runF N__law_table.length (["_law_offices_here"] : List Str).length m__law_table
abbrev N__law_other : List Str := ["_law_offices_here", "_law_size", "_law_found", "_law_office", "_law_name", "_law_ends_here", "_law_answers", "_law_end"]
def m__law_other : MS :=
  (seqS (setS 2 (lstX lxN))
  (seqS (forS (itS (puV (var 0))) (gN 3) (dropS (appX 2 (mo1 tupD (frzM (lcM (itS (puV (var 3))) (gT 3 (gsC (gN 4) (gsC (gN 5) (gsC (gN 6) gsN)))) yes (frM (tupV (lvC (puV (var 4)) (lvC (mo1 tupD (frzM (lcM (itS (puV (var 5))) (gN 7) yes (ofP (pu2 subD (pu2 subD (var 1) (cst (.int 1))) (var 7))) [7]))) (lvC (puV (pu1 revTD (var 6))) lvN))))) [4, 5, 6]))))))
  (retS (ofP (pu1 tupD (con 2))))))
def F__law_other : FS := runF N__law_other.length (["_law_offices_here", "_law_size"] : List Str).length m__law_other
abbrev N__law_right : List Str := ["_law_store", "_law_table_here", "_law_size", "_law_run_here", "_law_lasts", "_law_state", "_law_states", "_law_told_here", "_law_last"]
noncomputable def m__law_right (A_Store : Addr) : MS :=
  (seqS (setS 4 (lstX lxN))
  (seqS (forS (itR1 (puV (var 2))) (gN 5) (seqS (asgS (frzM (callM 3 F__law_walk (agV (puV (var 1)) (agV (puV (var 5)) (agV (puV (var 3)) agN))))) (gT 2 (gsC (gN 6) (gsC (gN 7) gsN))))
  (seqS (setF 8 (callM 3 (F_after A_Store) (agV (puV (var 0)) (agV (puV (var 5)) (agV (puV (var 3)) agN)))))
  (seqS (ifS (orY (tbM (mo2 neS (mo1 reprD (frzM (callM 3 (F_passed A_Store) (agV (puV (var 0)) (agV (puV (var 5)) (agV (puV (var 3)) agN)))))) (puV (pu1 reprD (var 6))))) (tbM (mo2 neS (mo1 reprD (frzM (callM 3 (F_answers_of A_Store) (agV (puV (var 0)) (agV (puV (var 5)) (agV (puV (var 3)) agN)))))) (puV (pu1 reprD (var 7)))))) (retS (ofP (cst (.bl false)))) nxS)
  (seqS (ifS (quM (tb (pu2 neD (var 8) (pu2 ixD (var 6) (pu1 negD (cst (.int 1))))))) (retS (ofP (cst (.bl false)))) nxS)
  (seqS (ifS (orY (quM (tb (pu1 (isiD "bool") (var 8)))) (tbM (mo2 neD (frzM (callM 3 (F_after A_Store) (perG [1, 2, 0] (lpC (var 3) (lpC (var 0) (lpC (var 5) lpN)))))) (puV (var 8))))) (retS (ofP (cst (.bl false)))) nxS)
  (dropS (appX 4 (puV (pu2 ixD (var 6) (pu1 negD (cst (.int 1)))))))))))))
  (retS (frM (mo2 eqS (mo1 reprD (frzM (callM 2 (F_run_ends A_Store) (agV (puV (var 0)) (agV (puV (var 3)) agN))))) (puV (pu1 reprD (pu1 tupD (con 4)))))))))
noncomputable def F__law_right (A_Store : Addr) : FS := runF N__law_right.length (["_law_store", "_law_table_here", "_law_size", "_law_run_here"] : List Str).length (m__law_right A_Store)
abbrev N__law_joined : List Str := ["_law_store", "_law_size", "_law_one", "_law_other_here", "_law_first", "_law_second", "_law_both", "_law_state", "_law_middle"]
noncomputable def m__law_joined (A_Store : Addr) : MS :=
  (seqS (par3 4 5 6 (lxC (frM (frzM (callM 2 (F_run_ends A_Store) (agV (puV (var 0)) (agV (puV (var 2)) agN))))) (lxC (frM (frzM (callM 2 (F_run_ends A_Store) (perG [1, 0] (lpC (var 3) (lpC (var 0) lpN)))))) (lxC (frM (puV (pu2 addD (var 2) (var 3)))) lxN))))
  (seqS (forS (itR1 (puV (var 1))) (gN 7) (seqS (setF 8 (callM 3 (F_after A_Store) (agV (puV (var 0)) (agV (puV (var 7)) (agV (puV (var 2)) agN)))))
  (seqS (ifS (orY (tbM (mo2 neD (frzM (callM 3 (F_after A_Store) (agV (puV (var 0)) (agV (puV (var 7)) (agV (puV (var 6)) agN))))) (frzM (callM 3 (F_after A_Store) (agV (puV (var 0)) (agV (puV (var 8)) (agV (puV (var 3)) agN))))))) (tbM (mo2 neD (puV (pu2 ixD (var 5) (pu2 ixD (var 4) (var 7)))) (frzM (callM 3 (F_after A_Store) (agV (puV (var 0)) (agV (puV (var 7)) (agV (puV (var 6)) agN)))))))) (retS (ofP (cst (.bl false)))) nxS)
  (seqS (ifS (tbM (mo2 neD (frzM (callM 3 (F_answers_of A_Store) (agV (puV (var 0)) (agV (puV (var 7)) (agV (puV (var 6)) agN))))) (mo2 addD (frzM (callM 3 (F_answers_of A_Store) (agV (puV (var 0)) (agV (puV (var 7)) (agV (puV (var 2)) agN))))) (frzM (callM 3 (F_answers_of A_Store) (agV (puV (var 0)) (agV (puV (var 8)) (agV (puV (var 3)) agN)))))))) (retS (ofP (cst (.bl false)))) nxS)
  (ifS (tbM (mo2 neD (frzM (callM 3 (F_passed A_Store) (perG [0, 1, 2] (lpC (var 0) (lpC (var 7) (lpC (var 6) lpN)))))) (mo2 addD (slM (frzM (callM 3 (F_passed A_Store) (agV (puV (var 0)) (agV (puV (var 7)) (agV (puV (var 2)) agN))))) poN (poS (pu1 negD (cst (.int 1))))) (frzM (callM 3 (F_passed A_Store) (agV (puV (var 0)) (agV (puV (var 8)) (agV (puV (var 3)) agN)))))))) (retS (ofP (cst (.bl false)))) nxS)))))
  (retS (frM (mo2 eqD (frzM (callM 3 (F_answers_of A_Store) (perG [2, 1, 0] (lpC (var 2) (lpC (cst (.int 0)) (lpC (var 0) lpN)))))) (frzM (callM 3 (F_answers_of A_Store) (agV (puV (var 0)) (agV (puV (cst (.int 0))) (agV (puV (var 2)) agN))))))))))
noncomputable def F__law_joined (A_Store : Addr) : FS := runF N__law_joined.length (["_law_store", "_law_size", "_law_one", "_law_other_here"] : List Str).length (m__law_joined A_Store)
abbrev N_law : List Str := ["_law_script", "_law_k", "_law_box_here", "_law_size", "_law_offices_here", "_law_names_here", "_law_turned", "_law_store", "_law_other_here", "_law_one", "_law_two", "_law_run_here", "_law_lamp", "_law_kind", "_law_operation"]
noncomputable def m_law (A_Store : Addr) : MS :=
  (seqS (forS (itR1 (puV (pu2 addD (cst (.int 1)) (pu1 intD (pu2 gtD (pu1 lenD (var 0)) (cst (.int 2))))))) (gN 1) (seqS (setS 2 (callM 2 F__law_box (agV (puV (var 0)) (agV (puV (var 1)) agN))))
  (seqS (setF 3 (frM (mo2 addD (puV (cst (.int 1))) (frzM (callM 2 F__law_take (agL 2 (agV (puV (cst (.int 5))) agN)))))))
  (seqS (setF 4 (callM 2 F__law_offices (agL 2 (agV (puV (var 3)) agN))))
  (seqS (par2 5 6 (lxC (frM (frzM (lcM (itS (frzM (callM 1 F__law_all (agV (puV (var 4)) agN)))) (gN 14) yes (ofP (pu2 ixD (var 14) (cst (.int 0)))) [14]))) (lxC (frM (frzM (callM 2 F__law_other (agV (puV (var 4)) (agV (puV (var 3)) agN))))) lxN)))
  (seqS (par2 7 8 (lxC (frM (frzM (mkM A_Store "size" "offices" F_check_offices (agV (puV (var 3)) (agV (puV (var 4)) agN))))) (lxC (frM (frzM (mkM A_Store "size" "offices" F_check_offices (agV (puV (var 3)) (agV (puV (var 6)) agN))))) lxN)))
  (seqS (par2 9 10 (lxC (frM (frzM (callM 3 F__law_run (agL 2 (agV (puV (var 5)) (agV (puV (cst (.int 5))) agN)))))) (lxC (frM (frzM (callM 3 F__law_run (agL 2 (agV (puV (var 5)) (agV (puV (cst (.int 9))) agN)))))) lxN)))
  (seqS (ifS (tbM (mo2 eqD (frzM (callM 2 F__law_take (agL 2 (agV (puV (cst (.int 12))) agN)))) (puV (cst (.int 5))))) (setF 10 (ofP (pu2 mulAD (var 10) (cst (.int 20))))) nxS)
  (seqS (forS (itS (puV (lstP (lpC (var 9) (lpC (var 10) (lpC (pu2 addD (var 9) (var 10)) (lpC (tupP lpN) lpN))))))) (gN 11) (ifS (notY (tbM (frzM (callM 4 (F__law_right A_Store) (agV (puV (var 7)) (agV (frzM (callM 1 F__law_table (agV (puV (var 4)) agN))) (agV (puV (var 3)) (agV (puV (var 11)) agN)))))))) (retS (ofP (cst (.bl false)))) nxS))
  (seqS (ifS (orY (notY (tbM (frzM (callM 4 (F__law_right A_Store) (agV (puV (var 8)) (agV (frzM (callM 1 F__law_table (agV (puV (var 6)) agN))) (agV (puV (var 3)) (agV (puV (var 9)) agN)))))))) (notY (tbM (frzM (callM 4 (F__law_right A_Store) (agV (puV (var 7)) (agV (frzM (callM 1 F__law_table (agV (puV (var 4)) agN))) (agV (puV (var 3)) (agV (puV (var 9)) agN))))))))) (retS (ofP (cst (.bl false)))) nxS)
  (ifS (notY (tbM (frzM (callM 4 (F__law_joined A_Store) (agV (puV (var 7)) (agV (puV (var 3)) (agV (puV (var 9)) (agV (puV (var 10)) agN)))))))) (retS (ofP (cst (.bl false)))) nxS)))))))))))
  (seqS (setF 12 (mkM A_Store "size" "offices" F_check_offices (agV (puV (cst (.int 2))) (agV (puV (tupP (lpC (tupP (lpC (tupP (lpC (cst (.str "flip")) (lpC (tupP (lpC (cst (.int 1)) (lpC (cst (.int 0)) lpN))) (lpC (tupP (lpC (cst (.int 0)) (lpC (pu2 powD (cst (.int 10)) (cst (.int 12))) lpN))) lpN)))) lpN)) (lpC (tupP (lpC (tupP (lpC (cst (.str "off")) (lpC (tupP (lpC (cst (.int 0)) (lpC (cst (.int 0)) lpN))) (lpC (tupP (lpC (cst (.int 7)) (lpC (cst (.int 8)) lpN))) lpN)))) lpN)) lpN)))) agN))))
  (seqS (ifS (tbM (mo2 eqD (frzM (callM 2 F__law_take (agL 2 (agV (puV (cst (.int 24))) agN)))) (puV (cst (.int 7))))) (seqS (par2 11 13 (lxC (frM (puV (pu2 mulAD (tupP (lpC (cst (.str "flip")) (lpC (cst (.str "flip")) (lpC (cst (.str "off")) (lpC (cst (.str "flip")) lpN))))) (cst (.int 2500))))) (lxC (frM (frzM (callM 2 F__law_take (agL 2 (agV (puV (cst (.int 2))) agN))))) lxN)))
  (seqS (ifS (andY (quM (tb (pu2 eqD (var 13) (cst (.int 0))))) (tbM (mo2 neD (frzM (callM 3 (F_after A_Store) (agV (puV (var 12)) (agV (puV (cst (.int 0))) (agV (puV (var 11)) agN))))) (puV (cst (.int 1)))))) (retS (ofP (cst (.bl false)))) nxS)
  (ifS (andY (quM (tb (pu2 eqD (var 13) (cst (.int 1))))) (tbM (mo2 neD (slM (frzM (callM 3 (F_answers_of A_Store) (agV (puV (var 12)) (agV (puV (cst (.int 1))) (agV (puV (var 11)) agN))))) (poS (cst (.int 9994))) poN) (puV (tupP (lpC (cst (.int 8)) (lpC (cst (.int 0)) (lpC (pu2 powD (cst (.int 10)) (cst (.int 12))) (lpC (cst (.int 0)) (lpC (cst (.int 8)) (lpC (cst (.int 0)) lpN))))))))))) (retS (ofP (cst (.bl false)))) nxS))) nxS)
  (seqS (setF 11 (ofP (tupP (lpC (cst (.str "flip")) (lpC (cst (.str "off")) (lpC (cst (.str "flip")) (lpC (cst (.str "flip")) (lpC (cst (.str "flip")) lpN))))))))
  (retS (frM (andV (mo2 eqD (frzM (callM 3 (F_passed A_Store) (agV (puV (var 12)) (agV (puV (cst (.int 0))) (agV (puV (var 11)) agN))))) (puV (tupP (lpC (cst (.int 0)) (lpC (cst (.int 1)) (lpC (cst (.int 0)) (lpC (cst (.int 1)) (lpC (cst (.int 0)) (lpC (cst (.int 1)) lpN))))))))) (mo2 eqD (frzM (callM 3 (F_answers_of A_Store) (agV (puV (var 12)) (agV (puV (cst (.int 0))) (agV (puV (var 11)) agN))))) (puV (tupP (lpC (cst (.int 0)) (lpC (cst (.int 8)) (lpC (cst (.int 0)) (lpC (pu2 powD (cst (.int 10)) (cst (.int 12))) (lpC (cst (.int 0)) lpN)))))))))))))))
noncomputable def F_law (A_Store : Addr) : FS := runF N_law.length (["_law_script"] : List Str).length (m_law A_Store)
end K09
set_option maxHeartbeats 4000000
namespace K09
open PySem PySem.Spec PyProof.Rows L2 Tr
def topS (i : Nat) : Stmt := PySem.Challenge.pw_sharedunseen_k09_whole_ends_and_answers.main.body.getD i (.Pass ⟨0, 0, 0, 0⟩)
/-! ### is_integer -/
abbrev s_is_integer : Stmt := topS 10
theorem sc_is_integer : FnScope N_is_integer ["value"] (defScope s_is_integer) := ⟨rfl, rfl, rfl, by decide +kernel, rfl, by decide +kernel, by decide +kernel⟩
theorem ok_is_integer {P : Program} {w : World} {K : PySem.W.Frag} {mg : Str → Option Value} {base : Heap} {f : Addr} {fd : FuncData} (F : Fun K "is_integer" "is_integer" s_is_integer f fd)
    (z_bool : mg "bool" = none) (z_int : mg "int" = none) (z_isinstance : mg "isinstance" = none) :
    FnG P w K mg base 1 f fd ["value"] (spF K mg (["value"] : List Str).length F_is_integer) := by
  delta F_is_integer
  refine fng_ok (P := P) (w := w) (mg := mg) (base := base) (k := 0) F sc_is_integer (by decide) ?_
  intro cdv A outer s H E hr
  conv => arg 2; whnf
  delta m_is_integer
  exact (Tr.s_one (Tr.s_ret (PE.px (Tr.p_and (Tr.p_isi rfl z_isinstance (PE.pb (Tr.p_var (pv 0))) rfl z_int (by decide +kernel)) (Tr.p_one (Tr.p_not (Tr.p_isi rfl z_isinstance (PE.pb (Tr.p_var (pv 0))) rfl z_bool (by decide +kernel))))))))
/-! ### is_number -/
abbrev s_is_number : Stmt := topS 11
theorem sc_is_number : FnScope N_is_number ["value"] (defScope s_is_number) := ⟨rfl, rfl, rfl, by decide +kernel, rfl, by decide +kernel, by decide +kernel⟩
theorem ok_is_number {P : Program} {w : World} {K : PySem.W.Frag} {mg : Str → Option Value} {base : Heap} {f : Addr} {fd : FuncData} (F : Fun K "is_number" "is_number" s_is_number f fd)
    (C_is_integer : CalG P w K mg base 1 "is_integer" 1 F_is_integer) :
    FnG P w K mg base 2 f fd ["value"] (spF K mg (["value"] : List Str).length F_is_number) := by
  delta F_is_number
  refine fng_ok (P := P) (w := w) (mg := mg) (base := base) (k := 1) F sc_is_number (by decide) ?_
  intro cdv A outer s H E hr
  conv => arg 2; whnf
  delta m_is_number
  exact (Tr.s_one (Tr.s_ret (PE.vx (Tr.v_and (PE.pv (Tr.x_callG (C_is_integer.le (by decide)) (takes_of rfl rfl rfl rfl) hr rfl (Tr.ag_v (PE.pV (Tr.p_var (pv 0))) Tr.ag_nil))) (Tr.v_one (PE.pV (Tr.p_cmp op_ge geD_ok (PE.pb (Tr.p_var (pv 0))) (PE.pb Tr.p_int) (nomark _))))))))
/-! ### is_below -/
abbrev s_is_below : Stmt := topS 12
theorem sc_is_below : FnScope N_is_below ["value", "bound"] (defScope s_is_below) := ⟨rfl, rfl, rfl, by decide +kernel, rfl, by decide +kernel, by decide +kernel⟩
theorem ok_is_below {P : Program} {w : World} {K : PySem.W.Frag} {mg : Str → Option Value} {base : Heap} {f : Addr} {fd : FuncData} (F : Fun K "is_below" "is_below" s_is_below f fd)
    (C_is_number : CalG P w K mg base 2 "is_number" 1 F_is_number) :
    FnG P w K mg base 3 f fd ["value", "bound"] (spF K mg (["value", "bound"] : List Str).length F_is_below) := by
  delta F_is_below
  refine fng_ok (P := P) (w := w) (mg := mg) (base := base) (k := 2) F sc_is_below (by decide) ?_
  intro cdv A outer s H E hr
  conv => arg 2; whnf
  delta m_is_below
  exact (Tr.s_one (Tr.s_ret (PE.vx (Tr.v_and (PE.pv (Tr.x_callG (C_is_number.le (by decide)) (takes_of rfl rfl rfl rfl) hr rfl (Tr.ag_v (PE.pV (Tr.p_var (pv 0))) Tr.ag_nil))) (Tr.v_one (PE.pV (Tr.p_cmp op_lt ltD_ok (PE.pb (Tr.p_var (pv 0))) (PE.pb (Tr.p_var (pv 1))) (nomark _))))))))
/-! ### is_letter -/
abbrev s_is_letter : Stmt := topS 13
theorem sc_is_letter : FnScope N_is_letter ["sign"] (defScope s_is_letter) := ⟨rfl, rfl, rfl, by decide +kernel, rfl, by decide +kernel, by decide +kernel⟩
theorem ok_is_letter {P : Program} {w : World} {K : PySem.W.Frag} {mg : Str → Option Value} {base : Heap} {f : Addr} {fd : FuncData} (F : Fun K "is_letter" "is_letter" s_is_letter f fd)
    (z_len : mg "len" = none) {t_LETTERS : Tok} (c_LETTERS : mg "LETTERS" = some (.str "abcdefghijklmnopqrstuvwxyz" t_LETTERS)) :
    FnG P w K mg base 1 f fd ["sign"] (spF K mg (["sign"] : List Str).length F_is_letter) := by
  delta F_is_letter
  refine fng_ok (P := P) (w := w) (mg := mg) (base := base) (k := 0) F sc_is_letter (by decide) ?_
  intro cdv A outer s H E hr
  conv => arg 2; whnf
  delta m_is_letter
  exact (Tr.s_one (Tr.s_ret (PE.px (Tr.p_and (Tr.p_cmp (op_eqD hr.toRoom.units) eqD_ok (PE.pb (Tr.p_callB lenD_ok Tr.c_len rfl z_len (by decide +kernel) (PE.pc (Tr.p_var (pv 0))))) (PE.pb Tr.p_int) (nomark _)) (Tr.p_one (Tr.p_cmp op_inA inAD_ok (PE.pb (Tr.p_var (pv 0))) (PE.pb (Tr.p_gstr rfl c_LETTERS)) rfl))))))
/-! ### is_name -/
abbrev s_is_name : Stmt := topS 14
theorem sc_is_name : FnScope N_is_name ["value"] (defScope s_is_name) := ⟨rfl, rfl, rfl, by decide +kernel, rfl, by decide +kernel, by decide +kernel⟩
theorem ok_is_name {P : Program} {w : World} {K : PySem.W.Frag} {mg : Str → Option Value} {base : Heap} {f : Addr} {fd : FuncData} (F : Fun K "is_name" "is_name" s_is_name f fd)
    (z_all : mg "all" = none) (z_isinstance : mg "isinstance" = none) (z_len : mg "len" = none) (z_str : mg "str" = none) {t_LONGEST_NAME : Tok} (c_LONGEST_NAME : mg "LONGEST_NAME" = some (.int 5 t_LONGEST_NAME)) (C_is_letter : CalG P w K mg base 1 "is_letter" 1 F_is_letter) :
    FnG P w K mg base 2 f fd ["value"] (spF K mg (["value"] : List Str).length F_is_name) := by
  delta F_is_name
  refine fng_ok (P := P) (w := w) (mg := mg) (base := base) (k := 1) F sc_is_name (by decide) ?_
  intro cdv A outer s H E hr
  conv => arg 2; whnf
  delta m_is_name
  exact (Tr.s_cons (Tr.s_if (PT.qy (PW.pt (Tr.q_or (Tr.q_not (Tr.q_val (Tr.p_isi rfl z_isinstance (PE.pb (Tr.p_var (pv 0))) rfl z_str (by decide +kernel)))) (Tr.q_or1 (Tr.q_not (Tr.q_chain op_le leD_ok op_le leD_ok (PE.pb Tr.p_int) (PE.pb (Tr.p_callB lenD_ok Tr.c_len rfl z_len (by decide +kernel) (PE.pc (Tr.p_var (pv 0))))) (PE.pb (Tr.p_gint rfl c_LONGEST_NAME)))))))) (Tr.s_one (Tr.s_ret (PE.px Tr.p_bl))) Tr.s_nil)
    (Tr.s_one (Tr.s_ret (PE.vx (Tr.v_callB allD_ok (cr_all rfl) rfl z_all (by decide +kernel) (PE.pv (Tr.x_lc (own := [("sign", 1)]) rfl sc_is_name.nd (Tr.i_all (PE.pV (Tr.p_var (pv 0)))) (blkOk_by (own := [("sign", 1)]) (N := N_is_name) (sc := (defScope s_is_name)) (by decide +kernel)) (fun _ _ _ _ _ => (Tr.g_name sc_is_name.nd rfl (.inl rfl))) (fun _ _ _ _ _ => Tr.t_nil) (fun _ _ _ _ _ => (Tr.x_callG (C_is_letter.le (by decide)) takes0 hr rfl (Tr.ag_v (PE.pV (Tr.p_var (pv 1))) Tr.ag_nil))) (by decide))))))))
/-! ### is_row -/
abbrev s_is_row : Stmt := topS 15
theorem sc_is_row : FnScope N_is_row ["value", "size", "bound"] (defScope s_is_row) := ⟨rfl, rfl, rfl, by decide +kernel, rfl, by decide +kernel, by decide +kernel⟩
theorem ok_is_row {P : Program} {w : World} {K : PySem.W.Frag} {mg : Str → Option Value} {base : Heap} {f : Addr} {fd : FuncData} (F : Fun K "is_row" "is_row" s_is_row f fd)
    (z_all : mg "all" = none) (z_isinstance : mg "isinstance" = none) (z_len : mg "len" = none) (z_tuple : mg "tuple" = none) (C_is_below : CalG P w K mg base 3 "is_below" 2 F_is_below) :
    FnG P w K mg base 4 f fd ["value", "size", "bound"] (spF K mg (["value", "size", "bound"] : List Str).length F_is_row) := by
  delta F_is_row
  refine fng_ok (P := P) (w := w) (mg := mg) (base := base) (k := 3) F sc_is_row (by decide) ?_
  intro cdv A outer s H E hr
  conv => arg 2; whnf
  delta m_is_row
  exact (Tr.s_one (Tr.s_ret (PE.vx (Tr.v_and (PE.pV (Tr.p_isi rfl z_isinstance (PE.pb (Tr.p_var (pv 0))) rfl z_tuple (by decide +kernel))) (Tr.v_and (PE.pV (Tr.p_cmp (op_eqD hr.toRoom.units) eqD_ok (PE.pb (Tr.p_callB lenD_ok Tr.c_len rfl z_len (by decide +kernel) (PE.pc (Tr.p_var (pv 0))))) (PE.pb (Tr.p_var (pv 1))) (nomark _))) (Tr.v_one (Tr.v_callB allD_ok (cr_all rfl) rfl z_all (by decide +kernel) (PE.pv (Tr.x_lc (own := [("item", 3)]) rfl sc_is_row.nd (Tr.i_seq (PE.pV (Tr.p_var (pv 0)))) (blkOk_by (own := [("item", 3)]) (N := N_is_row) (sc := (defScope s_is_row)) (by decide +kernel)) (fun _ _ _ _ _ => (Tr.g_name sc_is_row.nd rfl (.inl rfl))) (fun _ _ _ _ _ => Tr.t_nil) (fun _ _ _ _ _ => (Tr.x_callG (C_is_below.le (by decide)) takes0 hr rfl (Tr.ag_v (PE.pV (Tr.p_var (pv 3))) (Tr.ag_v (PE.pV (Tr.p_var (pv 2))) Tr.ag_nil)))) (by decide))))))))))
/-! ### check_state -/
abbrev s_check_state : Stmt := topS 18
theorem sc_check_state : FnScope N_check_state ["store", "value"] (defScope s_check_state) := ⟨rfl, rfl, rfl, by decide +kernel, rfl, by decide +kernel, by decide +kernel⟩
theorem ok_check_state {P : Program} {w : World} {K : PySem.W.Frag} {mg : Str → Option Value} {base : Heap} {f : Addr} {fd : FuncData} (F : Fun K "check_state" "check_state" s_check_state f fd)
    {A_Store : Addr} (cl_Store : Cls K A_Store) (no_Store_size : NoAttr K A_Store "size") (no_Store_offices : NoAttr K A_Store "offices") (C_is_below : CalG P w K mg base 3 "is_below" 2 F_is_below) :
    FnG P w K mg base 4 f fd ["store", "value"] (spF K mg (["store", "value"] : List Str).length (F_check_state A_Store)) := by
  delta F_check_state
  refine fng_ok (P := P) (w := w) (mg := mg) (base := base) (k := 3) F sc_check_state (by decide) ?_
  intro cdv A outer s H E hr
  conv => arg 2; whnf
  delta m_check_state
  exact (Tr.s_one (Tr.s_if (Tr.y_not (Tr.y_val (PE.pv (Tr.x_callG (C_is_below.le (by decide)) (takes_of rfl rfl rfl rfl) hr rfl (Tr.ag_v (PE.pV (Tr.p_var (pv 1))) (Tr.ag_v (PE.pV (Tr.p_fld cl_Store no_Store_size (Tr.p_var (pv 0)))) Tr.ag_nil)))))) (Tr.s_one Tr.s_never) Tr.s_nil))
/-! ### need_office -/
abbrev s_need_office : Stmt := topS 19
theorem sc_need_office : FnScope N_need_office ["store", "office"] (defScope s_need_office) := ⟨rfl, rfl, rfl, by decide +kernel, rfl, by decide +kernel, by decide +kernel⟩
theorem ok_need_office {P : Program} {w : World} {K : PySem.W.Frag} {mg : Str → Option Value} {base : Heap} {f : Addr} {fd : FuncData} (F : Fun K "need_office" "need_office" s_need_office f fd)
    (z_len : mg "len" = none) {A_Store : Addr} (cl_Store : Cls K A_Store) (no_Store_size : NoAttr K A_Store "size") (no_Store_offices : NoAttr K A_Store "offices") (C_is_below : CalG P w K mg base 3 "is_below" 2 F_is_below) :
    FnG P w K mg base 4 f fd ["store", "office"] (spF K mg (["store", "office"] : List Str).length (F_need_office A_Store)) := by
  delta F_need_office
  refine fng_ok (P := P) (w := w) (mg := mg) (base := base) (k := 3) F sc_need_office (by decide) ?_
  intro cdv A outer s H E hr
  conv => arg 2; whnf
  delta m_need_office
  exact (Tr.s_one (Tr.s_if (Tr.y_not (Tr.y_val (PE.pv (Tr.x_callG (C_is_below.le (by decide)) (takes_of rfl rfl rfl rfl) hr rfl (Tr.ag_v (PE.pV (Tr.p_var (pv 1))) (Tr.ag_v (PE.pV (Tr.p_callB lenD_ok Tr.c_len rfl z_len (by decide +kernel) (PE.pc (Tr.p_fld cl_Store no_Store_offices (Tr.p_var (pv 0)))))) Tr.ag_nil)))))) (Tr.s_one Tr.s_never) Tr.s_nil))
/-! ### need_offices -/
abbrev s_need_offices : Stmt := topS 20
theorem sc_need_offices : FnScope N_need_offices ["store", "offices"] (defScope s_need_offices) := ⟨rfl, rfl, rfl, by decide +kernel, rfl, by decide +kernel, by decide +kernel⟩
theorem ok_need_offices {P : Program} {w : World} {K : PySem.W.Frag} {mg : Str → Option Value} {base : Heap} {f : Addr} {fd : FuncData} (F : Fun K "need_offices" "need_offices" s_need_offices f fd)
    (z_len : mg "len" = none) (z_range : mg "range" = none) (z_tuple : mg "tuple" = none) {A_Store : Addr} (cl_Store : Cls K A_Store) (no_Store_size : NoAttr K A_Store "size") (no_Store_offices : NoAttr K A_Store "offices") :
    FnG P w K mg base 1 f fd ["store", "offices"] (spF K mg (["store", "offices"] : List Str).length (F_need_offices A_Store)) := by
  delta F_need_offices
  refine fng_ok (P := P) (w := w) (mg := mg) (base := base) (k := 0) F sc_need_offices (by decide) ?_
  intro cdv A outer s H E hr
  conv => arg 2; whnf
  delta m_need_offices
  exact (Tr.s_cons (Tr.s_if (PT.qy (Tr.q_cmp op_isN isND_ok (PE.pb (Tr.p_var (pv 1))) (PE.pb Tr.p_non) (nomark _))) (Tr.s_one (Tr.s_ret (PE.px (Tr.p_tupRg rfl rfl z_tuple rfl z_range (Tr.p_callB lenD_ok Tr.c_len rfl z_len (by decide +kernel) (PE.pc (Tr.p_fld cl_Store no_Store_offices (Tr.p_var (pv 0))))))))) Tr.s_nil)
    (Tr.s_cons (Tr.s_if (Tr.y_not (Tr.y_val (PE.pv Tr.x_never))) (Tr.s_one Tr.s_never) Tr.s_nil)
    (Tr.s_one (Tr.s_ret (PE.px (Tr.p_var (pv 1)))))))
/-! ### operation_table -/
abbrev s_operation_table : Stmt := topS 21
theorem sc_operation_table : FnScope N_operation_table ["store"] (defScope s_operation_table) := ⟨rfl, rfl, rfl, by decide +kernel, rfl, by decide +kernel, by decide +kernel⟩
theorem ok_operation_table {P : Program} {w : World} {K : PySem.W.Frag} {mg : Str → Option Value} {base : Heap} {f : Addr} {fd : FuncData} (F : Fun K "operation_table" "operation_table" s_operation_table f fd)
    {A_Store : Addr} (cl_Store : Cls K A_Store) (no_Store_size : NoAttr K A_Store "size") (no_Store_offices : NoAttr K A_Store "offices") :
    FnG P w K mg base 1 f fd ["store"] (spF K mg (["store"] : List Str).length (F_operation_table A_Store)) := by
  delta F_operation_table
  refine fng_ok (P := P) (w := w) (mg := mg) (base := base) (k := 0) F sc_operation_table (by decide) ?_
  intro cdv A outer s H E hr
  conv => arg 2; whnf
  delta m_operation_table
  exact (Tr.s_one (Tr.s_ret (Tr.x_dc2 (own := [("office", 1), ("operation", 2)]) (vs1 := [2]) rfl sc_operation_table.nd (Tr.i_seq (PE.pV (Tr.p_fld cl_Store no_Store_offices (Tr.p_var (pv 0))))) (blkOk_by (own := [("office", 1), ("operation", 2)]) (N := N_operation_table) (sc := (defScope s_operation_table)) (by decide +kernel)) (by decide) (fun _ _ _ _ _ => (Tr.g_name sc_operation_table.nd rfl (.inl rfl))) (fun _ _ _ _ _ => (Tr.i_seq (PE.pV (Tr.p_var (pv 1))))) (fun _ _ _ _ _ => (Tr.g_name sc_operation_table.nd rfl (.inl rfl))) (fun _ _ _ _ _ => (PE.pV (Tr.p_ix (Tr.p_var (pv 2)) Tr.p_int (fun _ _ => rfl)))) (fun _ _ _ _ _ => (PE.pV (Tr.p_var (pv 2)))) (by decide) (by decide))))
/-! ### operations_of -/
abbrev s_operations_of : Stmt := topS 22
theorem sc_operations_of : FnScope N_operations_of ["store", "offices"] (defScope s_operations_of) := ⟨rfl, rfl, rfl, by decide +kernel, rfl, by decide +kernel, by decide +kernel⟩
theorem ok_operations_of {P : Program} {w : World} {K : PySem.W.Frag} {mg : Str → Option Value} {base : Heap} {f : Addr} {fd : FuncData} (F : Fun K "operations_of" "operations_of" s_operations_of f fd)
    (z_sorted : mg "sorted" = none) (z_tuple : mg "tuple" = none) {A_Store : Addr} (cl_Store : Cls K A_Store) (no_Store_size : NoAttr K A_Store "size") (no_Store_offices : NoAttr K A_Store "offices") :
    FnG P w K mg base 1 f fd ["store", "offices"] (spF K mg (["store", "offices"] : List Str).length (F_operations_of A_Store)) := by
  delta F_operations_of
  refine fng_ok (P := P) (w := w) (mg := mg) (base := base) (k := 0) F sc_operations_of (by decide) ?_
  intro cdv A outer s H E hr
  conv => arg 2; whnf
  delta m_operations_of
  exact (Tr.s_one (Tr.s_ret (PE.vx (Tr.v_callT tupD_ok call_tupB rfl z_tuple (by decide +kernel) (Tr.v_callB sortOD_ok.s cr_sortO rfl z_sorted (by decide +kernel) (PE.pv (Tr.x_lc2 (own := [("office", 2), ("operation", 3)]) (vs1 := [3]) rfl sc_operations_of.nd (Tr.i_seq (PE.pV (Tr.p_var (pv 1)))) (blkOk_by (own := [("office", 2), ("operation", 3)]) (N := N_operations_of) (sc := (defScope s_operations_of)) (by decide +kernel)) (by decide) (fun _ _ _ _ _ => (Tr.g_name sc_operations_of.nd rfl (.inl rfl))) (fun _ _ _ _ _ => Tr.t_nil) (fun _ _ _ _ _ => (Tr.i_seq (PE.pV (Tr.p_ix (Tr.p_fld cl_Store no_Store_offices (Tr.p_var (pv 0))) (Tr.p_var (pv 2)) (fun _ _ => rfl))))) (fun _ _ _ _ _ => (Tr.g_name sc_operations_of.nd rfl (.inl rfl))) (fun _ _ _ _ _ => Tr.t_nil) (fun _ _ _ _ _ => (PE.px (Tr.p_var (pv 3)))) (by decide) (by decide))))))))
/-! ### check_run -/
abbrev s_check_run : Stmt := topS 23
theorem sc_check_run : FnScope N_check_run ["store", "run", "office"] (defScope s_check_run) := ⟨rfl, rfl, rfl, by decide +kernel, rfl, by decide +kernel, by decide +kernel⟩
theorem ok_check_run {P : Program} {w : World} {K : PySem.W.Frag} {mg : Str → Option Value} {base : Heap} {f : Addr} {fd : FuncData} (F : Fun K "check_run" "check_run" s_check_run f fd)
    (z_enumerate : mg "enumerate" = none) (z_isinstance : mg "isinstance" = none) (z_tuple : mg "tuple" = none) (C_is_name : CalG P w K mg base 2 "is_name" 1 F_is_name) {A_Store : Addr} (C_need_office : CalG P w K mg base 4 "need_office" 2 (F_need_office A_Store)) (C_need_offices : CalG P w K mg base 1 "need_offices" 2 (F_need_offices A_Store)) (C_operations_of : CalG P w K mg base 1 "operations_of" 2 (F_operations_of A_Store)) :
    FnG P w K mg base 5 f fd ["store", "run", "office"] (spF K mg (["store", "run", "office"] : List Str).length (F_check_run A_Store)) := by
  delta F_check_run
  refine fng_ok (P := P) (w := w) (mg := mg) (base := base) (k := 4) F sc_check_run (by decide) ?_
  intro cdv A outer s H E hr
  conv => arg 2; whnf
  delta m_check_run
  exact (Tr.s_cons (Tr.s_if (PT.qy (Tr.q_cmp op_notN notND_ok (PE.pb (Tr.p_var (pv 2))) (PE.pb Tr.p_non) (nomark _))) (Tr.s_one (Tr.s_expr (Tr.x_callG (C_need_office.le (by decide)) (takes_of rfl rfl rfl rfl) hr rfl (Tr.ag_v (PE.pV (Tr.p_var (pv 0))) (Tr.ag_v (PE.pV (Tr.p_var (pv 2))) Tr.ag_nil))))) Tr.s_nil)
    (Tr.s_cons (Tr.s_if (PT.qy (Tr.q_not (Tr.q_val (Tr.p_isi rfl z_isinstance (PE.pb (Tr.p_var (pv 1))) rfl z_tuple (by decide +kernel))))) (Tr.s_one Tr.s_never) Tr.s_nil)
    (Tr.s_cons (Tr.s_setF (i := 3) sc_check_run.nd rfl (.inl rfl) (Tr.x_if (PT.qy (Tr.q_cmp op_isN isND_ok (PE.pb (Tr.p_var (pv 2))) (PE.pb Tr.p_non) (nomark _))) (Tr.x_callG (C_need_offices.le (by decide)) (takes_of rfl rfl rfl rfl) hr rfl (Tr.ag_v (PE.pV (Tr.p_var (pv 0))) (Tr.ag_v (PE.pV Tr.p_non) Tr.ag_nil))) (PE.px (Tr.p_tup (Tr.lp_cons (Tr.p_var (pv 2)) Tr.lp_nil)))))
    (Tr.s_cons (Tr.s_setDcF (i := 4) (own := [("operation", 7)]) rfl sc_check_run.nd rfl rfl (sw_trueD rfl rfl rfl (by decide +kernel)) (Tr.i_seq (PE.pv (Tr.x_callG (C_operations_of.le (by decide)) (takes_of rfl rfl rfl rfl) hr rfl (Tr.ag_v (PE.pV (Tr.p_var (pv 0))) (Tr.ag_v (PE.pV (Tr.p_var (pv 3))) Tr.ag_nil))))) (blkOk_by (own := [("operation", 7)]) (N := N_check_run) (sc := (defScope s_check_run)) (by decide +kernel)) (fun _ _ _ _ _ => (Tr.g_name sc_check_run.nd rfl (.inl rfl))) (fun _ _ _ _ _ => Tr.t_nil) (fun _ _ _ _ _ => (PE.pV (Tr.p_ix (Tr.p_var (pv 7)) Tr.p_int (fun _ _ => rfl)))) (fun _ _ _ _ _ => (PE.pV Tr.p_bl)) (by decide))
    (Tr.s_one (Tr.s_for (passes_of rfl) rfl (Tr.i_enumT rfl z_enumerate (PE.pV (Tr.p_var (pv 1)))) (Tr.g_tup rfl (Tr.gs_cons (Tr.g_name sc_check_run.nd rfl (.inl rfl)) (Tr.gs_cons (Tr.g_name sc_check_run.nd rfl (.inl rfl)) Tr.gs_nil))) (Tr.s_one (Tr.s_if (PW.pt (Tr.y_or (Tr.y_not (Tr.y_val (PE.pv (Tr.x_callG (C_is_name.le (by decide)) (takes_of rfl rfl rfl rfl) hr rfl (Tr.ag_v (PE.pV (Tr.p_var (pv 6))) Tr.ag_nil))))) (Tr.y_or1 (PT.qy (Tr.q_notInK hr.u1 (Tr.p_var (pv 6)) (PE.pc (Tr.p_var (pv 4)))))))) (Tr.s_one Tr.s_never) Tr.s_nil))))))))
/-! ### passed -/
abbrev s_passed : Stmt := topS 24
theorem sc_passed : FnScope N_passed ["store", "state", "run"] (defScope s_passed) := ⟨rfl, rfl, rfl, by decide +kernel, rfl, by decide +kernel, by decide +kernel⟩
theorem ok_passed {P : Program} {w : World} {K : PySem.W.Frag} {mg : Str → Option Value} {base : Heap} {f : Addr} {fd : FuncData} (F : Fun K "passed" "passed" s_passed f fd)
    (z_tuple : mg "tuple" = none) {A_Store : Addr} (C_check_state : CalG P w K mg base 4 "check_state" 2 (F_check_state A_Store)) (C_operation_table : CalG P w K mg base 1 "operation_table" 1 (F_operation_table A_Store)) (D_check_run : CalD P w K mg base 5 "check_run" 3 (F_check_run A_Store) [.non]) :
    FnG P w K mg base 6 f fd ["store", "state", "run"] (spF K mg (["store", "state", "run"] : List Str).length (F_passed A_Store)) := by
  delta F_passed
  refine fng_ok (P := P) (w := w) (mg := mg) (base := base) (k := 5) F sc_passed (by decide) ?_
  intro cdv A outer s H E hr
  conv => arg 2; whnf
  delta m_passed
  exact (Tr.s_cons (Tr.s_expr (Tr.x_callG (C_check_state.le (by decide)) (takes_of rfl rfl rfl rfl) hr rfl (Tr.ag_v (PE.pV (Tr.p_var (pv 0))) (Tr.ag_v (PE.pV (Tr.p_var (pv 1))) Tr.ag_nil))))
    (Tr.s_cons (Tr.s_expr (Tr.x_callGD (D_check_run) (takes_of rfl rfl rfl rfl) (hr.le (by decide)) rfl (Tr.ag_v (PE.pV (Tr.p_var (pv 0))) (Tr.ag_v (PE.pV (Tr.p_var (pv 2))) Tr.ag_nil))))
    (Tr.s_cons (Tr.s_par2 (i := 3) (j := 4) rfl sc_passed.nd rfl rfl (by decide) rfl rfl (Tr.lx_cons (PE.vx (PE.pv (Tr.x_callG (C_operation_table.le (by decide)) (takes_of rfl rfl rfl rfl) hr rfl (Tr.ag_v (PE.pV (Tr.p_var (pv 0))) Tr.ag_nil)))) (Tr.lx_cons (Tr.x_lst (Tr.lx_cons (PE.px (Tr.p_var (pv 1))) Tr.lx_nil)) Tr.lx_nil)) (by rfl))
    (Tr.s_cons (Tr.s_for (passes_of rfl) rfl (Tr.i_seq (PE.pV (Tr.p_var (pv 2)))) (Tr.g_name sc_passed.nd rfl (.inl rfl)) (Tr.s_cons (Tr.s_setF (i := 6) sc_passed.nd rfl (.inl rfl) (PE.px (Tr.p_ix (Tr.p_ixK hr.u1 (PE.pc (Tr.p_var (pv 3))) (Tr.p_var (pv 5)) (fun _ _ => rfl)) Tr.p_int (fun _ _ => rfl))))
    (Tr.s_one (Tr.s_expr (Tr.x_append (pv 4) (PE.pV (Tr.p_ix (Tr.p_var (pv 6)) (Tr.p_flat (Tr.c_at (pv 4) (Tr.p_neg Tr.p_int) (fun _ _ => rfl))) (fun _ _ => rfl))))))))
    (Tr.s_one (Tr.s_ret (PE.px (Tr.p_callT tupD_ok call_tupB rfl z_tuple (by decide +kernel) (Tr.c_var (pv 4))))))))))
/-! ### after -/
abbrev s_after : Stmt := topS 25
theorem sc_after : FnScope N_after ["store", "state", "run"] (defScope s_after) := ⟨rfl, rfl, rfl, by decide +kernel, rfl, by decide +kernel, by decide +kernel⟩
theorem ok_after {P : Program} {w : World} {K : PySem.W.Frag} {mg : Str → Option Value} {base : Heap} {f : Addr} {fd : FuncData} (F : Fun K "after" "after" s_after f fd)
    {A_Store : Addr} (C_passed : CalG P w K mg base 6 "passed" 3 (F_passed A_Store)) :
    FnG P w K mg base 7 f fd ["store", "state", "run"] (spF K mg (["store", "state", "run"] : List Str).length (F_after A_Store)) := by
  delta F_after
  refine fng_ok (P := P) (w := w) (mg := mg) (base := base) (k := 6) F sc_after (by decide) ?_
  intro cdv A outer s H E hr
  conv => arg 2; whnf
  delta m_after
  exact (Tr.s_one (Tr.s_ret (PE.vx (Tr.v_ix (PE.pv (Tr.x_callG (C_passed.le (by decide)) (takes_of rfl rfl rfl rfl) hr rfl (Tr.ag_v (PE.pV (Tr.p_var (pv 0))) (Tr.ag_v (PE.pV (Tr.p_var (pv 1))) (Tr.ag_v (PE.pV (Tr.p_var (pv 2))) Tr.ag_nil))))) (PE.pV (Tr.p_neg Tr.p_int)) (fun _ _ => rfl)))))
/-! ### answers_of -/
abbrev s_answers_of : Stmt := topS 26
theorem sc_answers_of : FnScope N_answers_of ["store", "state", "run"] (defScope s_answers_of) := ⟨rfl, rfl, rfl, by decide +kernel, rfl, by decide +kernel, by decide +kernel⟩
theorem ok_answers_of {P : Program} {w : World} {K : PySem.W.Frag} {mg : Str → Option Value} {base : Heap} {f : Addr} {fd : FuncData} (F : Fun K "answers_of" "answers_of" s_answers_of f fd)
    (z_enumerate : mg "enumerate" = none) (z_tuple : mg "tuple" = none) {A_Store : Addr} (C_operation_table : CalG P w K mg base 1 "operation_table" 1 (F_operation_table A_Store)) (C_passed : CalG P w K mg base 6 "passed" 3 (F_passed A_Store)) :
    FnG P w K mg base 7 f fd ["store", "state", "run"] (spF K mg (["store", "state", "run"] : List Str).length (F_answers_of A_Store)) := by
  delta F_answers_of
  refine fng_ok (P := P) (w := w) (mg := mg) (base := base) (k := 6) F sc_answers_of (by decide) ?_
  intro cdv A outer s H E hr
  conv => arg 2; whnf
  delta m_answers_of
  exact (Tr.s_cons (Tr.s_asg (Tr.v_tup (Tr.lv_cons (PE.pv (Tr.x_callG (C_passed.le (by decide)) (takes_of rfl rfl rfl rfl) hr rfl (Tr.ag_v (PE.pV (Tr.p_var (pv 0))) (Tr.ag_v (PE.pV (Tr.p_var (pv 1))) (Tr.ag_v (PE.pV (Tr.p_var (pv 2))) Tr.ag_nil))))) (Tr.lv_cons (PE.pv (Tr.x_callG (C_operation_table.le (by decide)) (takes_of rfl rfl rfl rfl) hr rfl (Tr.ag_v (PE.pV (Tr.p_var (pv 0))) Tr.ag_nil))) Tr.lv_nil))) (Tr.g_tup rfl (Tr.gs_cons (Tr.g_name sc_answers_of.nd rfl (.inr rfl)) (Tr.gs_cons (Tr.g_name sc_answers_of.nd rfl (.inr rfl)) Tr.gs_nil))))
    (Tr.s_one (Tr.s_ret (PE.vx (Tr.v_callT tupD_ok call_tupB rfl z_tuple (by decide +kernel) (PE.pv (Tr.x_lc (own := [("at", 5), ("name", 6)]) rfl sc_answers_of.nd (Tr.i_enumT rfl z_enumerate (PE.pV (Tr.p_var (pv 2)))) (blkOk_by (own := [("at", 5), ("name", 6)]) (N := N_answers_of) (sc := (defScope s_answers_of)) (by decide +kernel)) (fun _ _ _ _ _ => (Tr.g_tup rfl (Tr.gs_cons (Tr.g_name sc_answers_of.nd rfl (.inl rfl)) (Tr.gs_cons (Tr.g_name sc_answers_of.nd rfl (.inl rfl)) Tr.gs_nil)))) (fun _ _ _ _ _ => Tr.t_nil) (fun _ _ _ _ _ => (PE.px (Tr.p_ix (Tr.p_ix (Tr.p_ixK hr.u1 (PE.pc (Tr.p_var (pv 4))) (Tr.p_var (pv 6)) (fun _ _ => rfl)) Tr.p_int (fun _ _ => rfl)) (Tr.p_ix (Tr.p_var (pv 3)) (Tr.p_var (pv 5)) (fun _ _ => rfl)) (fun _ _ => rfl)))) (by decide))))))))
/-! ### run_ends -/
abbrev s_run_ends : Stmt := topS 27
theorem sc_run_ends : FnScope N_run_ends ["store", "run"] (defScope s_run_ends) := ⟨rfl, rfl, rfl, by decide +kernel, rfl, by decide +kernel, by decide +kernel⟩
theorem ok_run_ends {P : Program} {w : World} {K : PySem.W.Frag} {mg : Str → Option Value} {base : Heap} {f : Addr} {fd : FuncData} (F : Fun K "run_ends" "run_ends" s_run_ends f fd)
    (z_list : mg "list" = none) (z_range : mg "range" = none) (z_tuple : mg "tuple" = none) {A_Store : Addr} (cl_Store : Cls K A_Store) (no_Store_size : NoAttr K A_Store "size") (no_Store_offices : NoAttr K A_Store "offices") (C_operation_table : CalG P w K mg base 1 "operation_table" 1 (F_operation_table A_Store)) (D_check_run : CalD P w K mg base 5 "check_run" 3 (F_check_run A_Store) [.non]) :
    FnG P w K mg base 6 f fd ["store", "run"] (spF K mg (["store", "run"] : List Str).length (F_run_ends A_Store)) := by
  delta F_run_ends
  refine fng_ok (P := P) (w := w) (mg := mg) (base := base) (k := 5) F sc_run_ends (by decide) ?_
  intro cdv A outer s H E hr
  conv => arg 2; whnf
  delta m_run_ends
  exact (Tr.s_cons (Tr.s_expr (Tr.x_callGD (D_check_run) (takes_of rfl rfl rfl rfl) (hr.le (by decide)) rfl (Tr.ag_v (PE.pV (Tr.p_var (pv 0))) (Tr.ag_v (PE.pV (Tr.p_var (pv 1))) Tr.ag_nil))))
    (Tr.s_cons (Tr.s_par2 (i := 2) (j := 3) rfl sc_run_ends.nd rfl rfl (by decide) rfl rfl (Tr.lx_cons (PE.vx (PE.pv (Tr.x_callG (C_operation_table.le (by decide)) (takes_of rfl rfl rfl rfl) hr rfl (Tr.ag_v (PE.pV (Tr.p_var (pv 0))) Tr.ag_nil)))) (Tr.lx_cons (PE.vx (PE.pv (Tr.x_lstRg rfl rfl z_list rfl z_range (Tr.p_fld cl_Store no_Store_size (Tr.p_var (pv 0)))))) Tr.lx_nil)) (by rfl))
    (Tr.s_cons (Tr.s_for (passes_of rfl) rfl (Tr.i_seq (PE.pV (Tr.p_var (pv 1)))) (Tr.g_name sc_run_ends.nd rfl (.inl rfl)) (Tr.s_cons (Tr.s_setF (i := 5) sc_run_ends.nd rfl (.inr rfl) (PE.px (Tr.p_ix (Tr.p_ixK hr.u1 (PE.pc (Tr.p_var (pv 2))) (Tr.p_var (pv 4)) (fun _ _ => rfl)) Tr.p_int (fun _ _ => rfl))))
    (Tr.s_one (Tr.s_setLcF (i := 3) (own := [("state", 6)]) rfl sc_run_ends.nd rfl rfl (sw_true rfl rfl rfl (by decide +kernel)) (Tr.i_seq (PE.pV (Tr.p_var (pv 3)))) (blkOk_by (own := [("state", 6)]) (N := N_run_ends) (sc := (defScope s_run_ends)) (by decide +kernel)) (fun _ _ _ _ _ => (Tr.g_name sc_run_ends.nd rfl (.inl rfl))) (fun _ _ _ _ _ => Tr.t_nil) (fun _ _ _ _ _ => (PE.px (Tr.p_ix (Tr.p_var (pv 5)) (Tr.p_var (pv 6)) (fun _ _ => rfl)))) (by decide)))))
    (Tr.s_one (Tr.s_ret (PE.px (Tr.p_callT tupD_ok call_tupB rfl z_tuple (by decide +kernel) (PE.pc (Tr.p_var (pv 3))))))))))
/-! ### is_operation -/
abbrev s_is_operation : Stmt := topS 33
theorem sc_is_operation : FnScope N_is_operation ["value", "size"] (defScope s_is_operation) := ⟨rfl, rfl, rfl, by decide +kernel, rfl, by decide +kernel, by decide +kernel⟩
theorem ok_is_operation {P : Program} {w : World} {K : PySem.W.Frag} {mg : Str → Option Value} {base : Heap} {f : Addr} {fd : FuncData} (F : Fun K "is_operation" "is_operation" s_is_operation f fd)
    (z_isinstance : mg "isinstance" = none) (z_len : mg "len" = none) (z_tuple : mg "tuple" = none) {t_MOST_ANSWER : Tok} (c_MOST_ANSWER : mg "MOST_ANSWER" = some (.int 1000000000000 t_MOST_ANSWER)) (C_is_name : CalG P w K mg base 2 "is_name" 1 F_is_name) (C_is_row : CalG P w K mg base 4 "is_row" 3 F_is_row) :
    FnG P w K mg base 5 f fd ["value", "size"] (spF K mg (["value", "size"] : List Str).length F_is_operation) := by
  delta F_is_operation
  refine fng_ok (P := P) (w := w) (mg := mg) (base := base) (k := 4) F sc_is_operation (by decide) ?_
  intro cdv A outer s H E hr
  conv => arg 2; whnf
  delta m_is_operation
  exact (Tr.s_cons (Tr.s_if (PW.pt (Tr.y_or (PT.qy (Tr.q_not (Tr.q_val (Tr.p_isi rfl z_isinstance (PE.pb (Tr.p_var (pv 0))) rfl z_tuple (by decide +kernel))))) (Tr.y_or (PT.qy (Tr.q_cmp (op_neD hr.toRoom.units) neD_ok (PE.pb (Tr.p_callB lenD_ok Tr.c_len rfl z_len (by decide +kernel) (PE.pc (Tr.p_var (pv 0))))) (PE.pb Tr.p_int) (nomark _))) (Tr.y_or1 (Tr.y_not (Tr.y_val (PE.pv (Tr.x_callG (C_is_name.le (by decide)) (takes_of rfl rfl rfl rfl) hr rfl (Tr.ag_v (PE.pV (Tr.p_ix (Tr.p_var (pv 0)) Tr.p_int (fun _ _ => rfl))) Tr.ag_nil))))))))) (Tr.s_one (Tr.s_ret (PE.px Tr.p_bl))) Tr.s_nil)
    (Tr.s_one (Tr.s_ret (PE.vx (Tr.v_and (PE.pv (Tr.x_callG (C_is_row.le (by decide)) (takes_of rfl rfl rfl rfl) hr rfl (Tr.ag_v (PE.pV (Tr.p_ix (Tr.p_var (pv 0)) Tr.p_int (fun _ _ => rfl))) (Tr.ag_v (PE.pV (Tr.p_var (pv 1))) (Tr.ag_v (PE.pV (Tr.p_var (pv 1))) Tr.ag_nil))))) (Tr.v_one (PE.pv (Tr.x_callG (C_is_row.le (by decide)) (takes_of rfl rfl rfl rfl) hr rfl (Tr.ag_v (PE.pV (Tr.p_ix (Tr.p_var (pv 0)) Tr.p_int (fun _ _ => rfl))) (Tr.ag_v (PE.pV (Tr.p_var (pv 1))) (Tr.ag_v (PE.pV (Tr.p_op op_addA addD_ok (Tr.p_gint rfl c_MOST_ANSWER) Tr.p_int)) Tr.ag_nil)))))))))))
/-! ### check_offices -/
abbrev s_check_offices : Stmt := topS 34
theorem sc_check_offices : FnScope N_check_offices ["size", "offices"] (defScope s_check_offices) := ⟨rfl, rfl, rfl, by decide +kernel, rfl, by decide +kernel, by decide +kernel⟩
theorem ok_check_offices {P : Program} {w : World} {K : PySem.W.Frag} {mg : Str → Option Value} {base : Heap} {f : Addr} {fd : FuncData} (F : Fun K "check_offices" "check_offices" s_check_offices f fd)
    (z_enumerate : mg "enumerate" = none) (z_isinstance : mg "isinstance" = none) (z_len : mg "len" = none) (z_tuple : mg "tuple" = none) {t_MOST_STATES : Tok} (c_MOST_STATES : mg "MOST_STATES" = some (.int 200 t_MOST_STATES)) {t_LEAST_OFFICES : Tok} (c_LEAST_OFFICES : mg "LEAST_OFFICES" = some (.int 2 t_LEAST_OFFICES)) {t_MOST_OFFICES : Tok} (c_MOST_OFFICES : mg "MOST_OFFICES" = some (.int 8 t_MOST_OFFICES)) {t_MOST_OPERATIONS : Tok} (c_MOST_OPERATIONS : mg "MOST_OPERATIONS" = some (.int 40 t_MOST_OPERATIONS)) (C_is_below : CalG P w K mg base 3 "is_below" 2 F_is_below) (C_is_operation : CalG P w K mg base 5 "is_operation" 2 F_is_operation) :
    FnG P w K mg base 6 f fd ["size", "offices"] (spF K mg (["size", "offices"] : List Str).length F_check_offices) := by
  delta F_check_offices
  refine fng_ok (P := P) (w := w) (mg := mg) (base := base) (k := 5) F sc_check_offices (by decide) ?_
  intro cdv A outer s H E hr
  conv => arg 2; whnf
  delta m_check_offices
  exact (Tr.s_cons (Tr.s_if (PW.pt (Tr.y_or (Tr.y_not (Tr.y_val (PE.pv (Tr.x_callG (C_is_below.le (by decide)) (takes_of rfl rfl rfl rfl) hr rfl (Tr.ag_v (PE.pV (Tr.p_var (pv 0))) (Tr.ag_v (PE.pV (Tr.p_op op_addA addD_ok (Tr.p_gint rfl c_MOST_STATES) Tr.p_int)) Tr.ag_nil)))))) (Tr.y_or (PT.qy (Tr.q_cmp (op_eqD hr.toRoom.units) eqD_ok (PE.pb (Tr.p_var (pv 0))) (PE.pb Tr.p_int) (nomark _))) (Tr.y_or1 (PT.qy (Tr.q_not (Tr.q_val (Tr.p_isi rfl z_isinstance (PE.pb (Tr.p_var (pv 1))) rfl z_tuple (by decide +kernel))))))))) (Tr.s_one Tr.s_never) Tr.s_nil)
    (Tr.s_cons (Tr.s_set (i := 2) sc_check_offices.nd rfl (.inl rfl) Tr.x_dic0)
    (Tr.s_cons (Tr.s_for (passes_of rfl) rfl (Tr.i_enumT rfl z_enumerate (PE.pV (Tr.p_var (pv 1)))) (Tr.g_tup rfl (Tr.gs_cons (Tr.g_name sc_check_offices.nd rfl (.inl rfl)) (Tr.gs_cons (Tr.g_name sc_check_offices.nd rfl (.inl rfl)) Tr.gs_nil))) (Tr.s_cons (Tr.s_if (PT.qy (Tr.q_not (Tr.q_val (Tr.p_isi rfl z_isinstance (PE.pb (Tr.p_var (pv 4))) rfl z_tuple (by decide +kernel))))) (Tr.s_one Tr.s_never) Tr.s_nil)
    (Tr.s_one (Tr.s_for (passes_of rfl) rfl (Tr.i_seq (PE.pV (Tr.p_var (pv 4)))) (Tr.g_name sc_check_offices.nd rfl (.inl rfl)) (Tr.s_cons (Tr.s_if (PW.pt (Tr.y_or (Tr.y_not (Tr.y_val (PE.pv (Tr.x_callG (C_is_operation.le (by decide)) (takes_of rfl rfl rfl rfl) hr rfl (Tr.ag_v (PE.pV (Tr.p_var (pv 5))) (Tr.ag_v (PE.pV (Tr.p_var (pv 0))) Tr.ag_nil)))))) (Tr.y_or1 (PT.qy (Tr.q_inK hr.u1 (Tr.p_ix (Tr.p_var (pv 5)) Tr.p_int (fun _ _ => rfl)) (Tr.c_var (pv 2))))))) (Tr.s_one Tr.s_never) Tr.s_nil)
    (Tr.s_one (Tr.s_stoD hr.u1 (PE.pV (Tr.p_var (pv 3))) (pv 2) (Tr.p_ix (Tr.p_var (pv 5)) Tr.p_int (fun _ _ => rfl)))))))))
    (Tr.s_one (Tr.s_if (PT.qy (PW.pt (Tr.q_or (Tr.q_not (Tr.q_chain op_le leD_ok op_le leD_ok (PE.pb (Tr.p_gint rfl c_LEAST_OFFICES)) (PE.pb (Tr.p_callB lenD_ok Tr.c_len rfl z_len (by decide +kernel) (PE.pc (Tr.p_var (pv 1))))) (PE.pb (Tr.p_gint rfl c_MOST_OFFICES)))) (Tr.q_or1 (Tr.q_cmp op_gt gtD_ok (PE.pb (Tr.p_callB lenKD_ok call_lenD rfl z_len (by decide +kernel) (Tr.c_var (pv 2)))) (PE.pb (Tr.p_gint rfl c_MOST_OPERATIONS)) (nomark _)))))) (Tr.s_one Tr.s_never) Tr.s_nil)))))
/-! ### _law_box -/
abbrev s__law_box : Stmt := topS 37
theorem sc__law_box : FnScope N__law_box ["_law_script", "_law_k"] (defScope s__law_box) := ⟨rfl, rfl, rfl, by decide +kernel, rfl, by decide +kernel, by decide +kernel⟩
theorem ok__law_box {P : Program} {w : World} {K : PySem.W.Frag} {mg : Str → Option Value} {base : Heap} {f : Addr} {fd : FuncData} (F : Fun K "_law_box" "_law_box" s__law_box f fd)
    (z_abs : mg "abs" = none) (z_int : mg "int" = none) (z_len : mg "len" = none) :
    FnG P w K mg base 1 f fd ["_law_script", "_law_k"] (spF K mg (["_law_script", "_law_k"] : List Str).length F__law_box) := by
  delta F__law_box
  refine fng_ok (P := P) (w := w) (mg := mg) (base := base) (k := 0) F sc__law_box (by decide) ?_
  intro cdv A outer s H E hr
  conv => arg 2; whnf
  delta m__law_box
  exact (Tr.s_cons (Tr.s_setF (i := 2) sc__law_box.nd rfl (.inl rfl) (PE.px (Tr.p_op op_addA addD_ok (Tr.p_op op_mulB mulAD_ok Tr.p_int (Tr.p_var (pv 1))) Tr.p_int)))
    (Tr.s_cons (Tr.s_if (PT.qy (Tr.q_cmp op_lt ltD_ok (PE.pb (Tr.p_var (pv 1))) (PE.pb (Tr.p_callB lenD_ok Tr.c_len rfl z_len (by decide +kernel) (PE.pc (Tr.p_var (pv 0))))) (nomark _))) (Tr.s_one (Tr.s_setF (i := 2) sc__law_box.nd rfl (.inl rfl) (PE.px (Tr.p_callB absD_ok call_abs rfl z_abs (by decide +kernel) (PE.pc (Tr.p_ix (Tr.p_var (pv 0)) (Tr.p_var (pv 1)) (fun _ _ => rfl))))))) (Tr.s_one (Tr.s_if (PT.qy (Tr.q_cmp op_gt gtD_ok (PE.pb (Tr.p_callB lenD_ok Tr.c_len rfl z_len (by decide +kernel) (PE.pc (Tr.p_var (pv 0))))) (PE.pb Tr.p_int) (nomark _))) (Tr.s_one (Tr.s_setF (i := 2) sc__law_box.nd rfl (.inl rfl) (PE.px (Tr.p_op op_addA addD_ok (Tr.p_var (pv 2)) (Tr.p_op op_mulB mulAD_ok (Tr.p_op op_mod modD_ok.s (Tr.p_callT intD_ok call_int1 rfl z_int (by decide +kernel) (PE.pc (Tr.p_callB absD_ok call_abs rfl z_abs (by decide +kernel) (PE.pc (Tr.p_ix (Tr.p_var (pv 0)) (Tr.p_op op_mod modD_ok.s (Tr.p_callT intD_ok call_int1 rfl z_int (by decide +kernel) (PE.pc (Tr.p_var (pv 1)))) (Tr.p_callB lenD_ok Tr.c_len rfl z_len (by decide +kernel) (PE.pc (Tr.p_var (pv 0))))) (fun _ _ => rfl)))))) Tr.p_int) Tr.p_int))))) Tr.s_nil)))
    (Tr.s_cons (Tr.s_setF (i := 3) sc__law_box.nd rfl (.inl rfl) (PE.px (Tr.p_callT intD_ok call_int1 rfl z_int (by decide +kernel) (PE.pc (Tr.p_cmp op_ge geD_ok (PE.pb (Tr.p_var (pv 2))) (PE.pb (Tr.p_op op_pow powD_ok.s Tr.p_int Tr.p_int)) (nomark _))))))
    (Tr.s_one (Tr.s_ret (Tr.x_lst (Tr.lx_cons (PE.px (Tr.p_ix (Tr.p_lst (Tr.lp_cons Tr.p_int (Tr.lp_cons (Tr.p_var (pv 2)) Tr.lp_nil))) (Tr.p_var (pv 3)) (fun _ _ => rfl))) (Tr.lx_cons (PE.px (Tr.p_op op_addA addD_ok (Tr.p_op op_mod modD_ok.s (Tr.p_callT intD_ok call_int1 rfl z_int (by decide +kernel) (PE.pc (Tr.p_op op_addA addD_ok (Tr.p_op op_addA addD_ok (Tr.p_op op_mulB mulAD_ok (Tr.p_op op_mod modD_ok.s (Tr.p_callT intD_ok call_int1 rfl z_int (by decide +kernel) (PE.pc (Tr.p_var (pv 2)))) Tr.p_int) Tr.p_int) (Tr.p_op op_mulB mulAD_ok Tr.p_int (Tr.p_var (pv 1)))) Tr.p_int))) Tr.p_int) Tr.p_int)) (Tr.lx_cons (PE.px Tr.p_int) Tr.lx_nil)))))))))
/-! ### _law_take -/
abbrev s__law_take : Stmt := topS 38
theorem sc__law_take : FnScope N__law_take ["_law_box_here", "_law_many"] (defScope s__law_take) := ⟨rfl, rfl, rfl, by decide +kernel, rfl, by decide +kernel, by decide +kernel⟩
theorem ok__law_take {P : Program} {w : World} {K : PySem.W.Frag} {mg : Str → Option Value} {base : Heap} {f : Addr} {fd : FuncData} (F : Fun K "_law_take" "_law_take" s__law_take f fd)
    (z_int : mg "int" = none) :
    FnG P w K mg base 1 f fd ["_law_box_here", "_law_many"] (spF K mg (["_law_box_here", "_law_many"] : List Str).length F__law_take) := by
  delta F__law_take
  refine fng_ok (P := P) (w := w) (mg := mg) (base := base) (k := 0) F sc__law_take (by decide) ?_
  intro cdv A outer s H E hr
  conv => arg 2; whnf
  delta m__law_take
  exact (Tr.s_cons (Tr.s_if (PT.qy (Tr.q_cmp op_gt gtD_ok (PE.cb (Tr.c_at (pv 0) Tr.p_int (fun _ _ => rfl))) (PE.pb Tr.p_int) (nomark _))) (Tr.s_cons (Tr.s_setF (i := 2) sc__law_take.nd rfl (.inl rfl) (PE.px (Tr.p_op op_mod modD_ok.s (Tr.p_callT intD_ok call_int1 rfl z_int (by decide +kernel) (Tr.c_at (pv 0) Tr.p_int (fun _ _ => rfl))) (Tr.p_var (pv 1)))))
    (Tr.s_cons (Tr.s_sto (PE.pV (Tr.p_op op_fdivW divD_ok.s (Tr.p_flat (Tr.c_at (pv 0) Tr.p_int (fun _ _ => rfl))) (Tr.p_var (pv 1)))) (pv 0) Tr.p_int)
    (Tr.s_one (Tr.s_ret (PE.px (Tr.p_var (pv 2))))))) Tr.s_nil)
    (Tr.s_cons (Tr.s_sto (PE.pV (Tr.p_op op_addA addD_ok (Tr.p_flat (Tr.c_at (pv 0) Tr.p_int (fun _ _ => rfl))) Tr.p_int)) (pv 0) Tr.p_int)
    (Tr.s_cons (Tr.s_setF (i := 3) sc__law_take.nd rfl (.inl rfl) (PE.px (Tr.p_op op_mod modD_ok.s (Tr.p_callT intD_ok call_int1 rfl z_int (by decide +kernel) (PE.pc (Tr.p_op op_addA addD_ok (Tr.p_op op_mulB mulAD_ok (Tr.p_op op_addA addD_ok (Tr.p_flat (Tr.c_at (pv 0) Tr.p_int (fun _ _ => rfl))) (Tr.p_op op_mulB mulAD_ok Tr.p_int (Tr.p_flat (Tr.c_at (pv 0) Tr.p_int (fun _ _ => rfl))))) Tr.p_int) Tr.p_int))) Tr.p_int)))
    (Tr.s_cons (Tr.s_sto (PE.pV (Tr.p_op op_addA addD_ok (Tr.p_op op_mod modD_ok.s (Tr.p_callT intD_ok call_int1 rfl z_int (by decide +kernel) (PE.pc (Tr.p_op op_addA addD_ok (Tr.p_op op_mulB mulAD_ok (Tr.p_var (pv 3)) Tr.p_int) Tr.p_int))) Tr.p_int) Tr.p_int)) (pv 0) Tr.p_int)
    (Tr.s_one (Tr.s_ret (PE.px (Tr.p_op op_mod modD_ok.s (Tr.p_callT intD_ok call_int1 rfl z_int (by decide +kernel) (PE.pc (Tr.p_op op_fdivW divD_ok.s (Tr.p_op op_addA addD_ok (Tr.p_op op_mulB mulAD_ok (Tr.p_var (pv 3)) Tr.p_int) (Tr.p_flat (Tr.c_at (pv 0) Tr.p_int (fun _ _ => rfl)))) Tr.p_int))) (Tr.p_var (pv 1))))))))))
/-! ### _law_pick -/
abbrev s__law_pick : Stmt := topS 39
theorem sc__law_pick : FnScope N__law_pick ["_law_box_here", "_law_some"] (defScope s__law_pick) := ⟨rfl, rfl, rfl, by decide +kernel, rfl, by decide +kernel, by decide +kernel⟩
theorem ok__law_pick {P : Program} {w : World} {K : PySem.W.Frag} {mg : Str → Option Value} {base : Heap} {f : Addr} {fd : FuncData} (F : Fun K "_law_pick" "_law_pick" s__law_pick f fd)
    (z_len : mg "len" = none) (C__law_take : CalG P w K mg base 1 "_law_take" 2 F__law_take) :
    FnG P w K mg base 2 f fd ["_law_box_here", "_law_some"] (spF K mg (["_law_box_here", "_law_some"] : List Str).length F__law_pick) := by
  delta F__law_pick
  refine fng_ok (P := P) (w := w) (mg := mg) (base := base) (k := 1) F sc__law_pick (by decide) ?_
  intro cdv A outer s H E hr
  conv => arg 2; whnf
  delta m__law_pick
  exact (Tr.s_one (Tr.s_ret (PE.vx (Tr.v_ix (PE.pV (Tr.p_var (pv 1))) (PE.pv (Tr.x_callG (C__law_take.le (by decide)) (takes_of rfl rfl rfl rfl) hr rfl (Tr.ag_l (pv 0) (Tr.ag_v (PE.pV (Tr.p_callB lenD_ok Tr.c_len rfl z_len (by decide +kernel) (PE.pc (Tr.p_var (pv 1))))) Tr.ag_nil)))) (fun _ _ => rfl)))))
/-! ### _law_names -/
abbrev s__law_names : Stmt := topS 40
theorem sc__law_names : FnScope N__law_names ["_law_box_here", "_law_many"] (defScope s__law_names) := ⟨rfl, rfl, rfl, by decide +kernel, rfl, by decide +kernel, by decide +kernel⟩
theorem ok__law_names {P : Program} {w : World} {K : PySem.W.Frag} {mg : Str → Option Value} {base : Heap} {f : Addr} {fd : FuncData} (F : Fun K "_law_names" "_law_names" s__law_names f fd)
    (z_int : mg "int" = none) (z_len : mg "len" = none) (z_range : mg "range" = none) (C__law_pick : CalG P w K mg base 2 "_law_pick" 2 F__law_pick) (C__law_take : CalG P w K mg base 1 "_law_take" 2 F__law_take) :
    FnG P w K mg base 3 f fd ["_law_box_here", "_law_many"] (spF K mg (["_law_box_here", "_law_many"] : List Str).length F__law_names) := by
  delta F__law_names
  refine fng_ok (P := P) (w := w) (mg := mg) (base := base) (k := 2) F sc__law_names (by decide) ?_
  intro cdv A outer s H E hr
  conv => arg 2; whnf
  delta m__law_names
  exact (Tr.s_cons (Tr.s_setF (i := 2) sc__law_names.nd rfl (.inl rfl) (PE.px Tr.p_str))
    (Tr.s_cons (Tr.s_setF (i := 3) sc__law_names.nd rfl (.inl rfl) (Tr.x_callG (C__law_pick.le (by decide)) (takes_of rfl rfl rfl rfl) hr rfl (Tr.ag_l (pv 0) (Tr.ag_v (PE.pV (Tr.p_lst (Tr.lp_cons Tr.p_str (Tr.lp_cons Tr.p_str (Tr.lp_cons Tr.p_str (Tr.lp_cons Tr.p_str (Tr.lp_cons Tr.p_str (Tr.lp_cons Tr.p_str Tr.lp_nil)))))))) Tr.ag_nil))))
    (Tr.s_cons (Tr.s_par3 (i := 4) (j := 5) (l := 6) rfl sc__law_names.nd rfl rfl rfl (by decide) (by decide) (by decide) rfl rfl rfl (Tr.lx_cons (PE.vx (PE.pv (Tr.x_callG (C__law_take.le (by decide)) (takes_of rfl rfl rfl rfl) hr rfl (Tr.ag_l (pv 0) (Tr.ag_v (PE.pV (Tr.p_op op_addA addD_ok (Tr.p_callB lenD_ok Tr.c_len rfl z_len (by decide +kernel) (PE.pc (Tr.p_var (pv 3)))) Tr.p_int)) Tr.ag_nil))))) (Tr.lx_cons (PE.vx (PE.pv (Tr.x_callG (C__law_take.le (by decide)) (takes_of rfl rfl rfl rfl) hr rfl (Tr.ag_l (pv 0) (Tr.ag_v (PE.pV Tr.p_int) Tr.ag_nil))))) (Tr.lx_cons (Tr.x_lst Tr.lx_nil) Tr.lx_nil))) (by rfl))
    (Tr.s_cons (Tr.s_for (passes_of rfl) rfl (Tr.i_range1 rfl z_range (PE.pV (Tr.p_var (pv 1)))) (Tr.g_name sc__law_names.nd rfl (.inl rfl)) (Tr.s_one (Tr.s_expr (Tr.x_append (pv 6) (PE.pV (Tr.p_op op_addA addD_ok (Tr.p_op op_addA addD_ok (Tr.p_sliceA (PE.pc (Tr.p_var (pv 3))) Tr.o_none (Tr.o_some (Tr.p_var (pv 4)))) (Tr.p_ix (Tr.p_var (pv 2)) (Tr.p_op op_mod modD_ok.s (Tr.p_callT intD_ok call_int1 rfl z_int (by decide +kernel) (PE.pc (Tr.p_op op_addA addD_ok (Tr.p_var (pv 5)) (Tr.p_op op_mulB mulAD_ok Tr.p_int (Tr.p_var (pv 7)))))) Tr.p_int) (fun _ _ => rfl))) (Tr.p_sliceA (PE.pc (Tr.p_var (pv 3))) (Tr.o_some (Tr.p_var (pv 4))) Tr.o_none)))))))
    (Tr.s_cons (Tr.s_setF (i := 8) sc__law_names.nd rfl (.inl rfl) (Tr.x_callG (C__law_take.le (by decide)) (takes_of rfl rfl rfl rfl) hr rfl (Tr.ag_l (pv 0) (Tr.ag_v (PE.pV (Tr.p_var (pv 1))) Tr.ag_nil))))
    (Tr.s_cons (Tr.s_if (Tr.y_cmp (op_eqD hr.toRoom.units) eqD_ok.s (PE.pv (Tr.x_callG (C__law_take.le (by decide)) (takes_of rfl rfl rfl rfl) hr rfl (Tr.ag_l (pv 0) (Tr.ag_v (PE.pV Tr.p_int) Tr.ag_nil)))) (PE.pV Tr.p_int) (nomark _)) (Tr.s_one (Tr.s_sto (Tr.v_op op_addA addD_ok (PE.pV (Tr.p_flat (Tr.c_at (pv 6) (Tr.p_var (pv 8)) (fun _ _ => rfl)))) (Tr.v_ix (PE.pV (Tr.p_var (pv 2))) (PE.pv (Tr.x_callG (C__law_take.le (by decide)) (takes_of rfl rfl rfl rfl) hr rfl (Tr.ag_l (pv 0) (Tr.ag_v (PE.pV Tr.p_int) Tr.ag_nil)))) (fun _ _ => rfl))) (pv 6) (Tr.p_var (pv 8)))) Tr.s_nil)
    (Tr.s_one (Tr.s_ret (Tr.x_mov (pv 6))))))))))
/-! ### _law_ends -/
abbrev s__law_ends : Stmt := topS 41
theorem sc__law_ends : FnScope N__law_ends ["_law_box_here", "_law_size"] (defScope s__law_ends) := ⟨rfl, rfl, rfl, by decide +kernel, rfl, by decide +kernel, by decide +kernel⟩
theorem ok__law_ends {P : Program} {w : World} {K : PySem.W.Frag} {mg : Str → Option Value} {base : Heap} {f : Addr} {fd : FuncData} (F : Fun K "_law_ends" "_law_ends" s__law_ends f fd)
    (z_int : mg "int" = none) (z_range : mg "range" = none) (z_tuple : mg "tuple" = none) (C__law_take : CalG P w K mg base 1 "_law_take" 2 F__law_take) :
    FnG P w K mg base 2 f fd ["_law_box_here", "_law_size"] (spF K mg (["_law_box_here", "_law_size"] : List Str).length F__law_ends) := by
  delta F__law_ends
  refine fng_ok (P := P) (w := w) (mg := mg) (base := base) (k := 1) F sc__law_ends (by decide) ?_
  intro cdv A outer s H E hr
  conv => arg 2; whnf
  delta m__law_ends
  exact (Tr.s_cons (Tr.s_asg (Tr.v_tup (Tr.lv_cons (PE.pv (Tr.x_callG (C__law_take.le (by decide)) (takes_of rfl rfl rfl rfl) hr rfl (Tr.ag_l (pv 0) (Tr.ag_v (PE.pV Tr.p_int) Tr.ag_nil)))) (Tr.lv_cons (PE.pv (Tr.x_callG (C__law_take.le (by decide)) (takes_of rfl rfl rfl rfl) hr rfl (Tr.ag_l (pv 0) (Tr.ag_v (PE.pV (Tr.p_var (pv 1))) Tr.ag_nil)))) Tr.lv_nil))) (Tr.g_tup rfl (Tr.gs_cons (Tr.g_name sc__law_ends.nd rfl (.inl rfl)) (Tr.gs_cons (Tr.g_name sc__law_ends.nd rfl (.inr rfl)) Tr.gs_nil))))
    (Tr.s_cons (Tr.s_if (PT.qy (Tr.q_cmp (op_eqD hr.toRoom.units) eqD_ok (PE.pb (Tr.p_var (pv 2))) (PE.pb Tr.p_int) (nomark _))) (Tr.s_one (Tr.s_ret (PE.vx (Tr.v_callT tupD_ok call_tupB rfl z_tuple (by decide +kernel) (PE.pv (Tr.x_lc (own := [("_law_state", 4)]) rfl sc__law_ends.nd (Tr.i_range1 rfl z_range (PE.pV (Tr.p_var (pv 1)))) (blkOk_by (own := [("_law_state", 4)]) (N := N__law_ends) (sc := (defScope s__law_ends)) (by decide +kernel)) (fun _ _ _ _ _ => (Tr.g_name sc__law_ends.nd rfl (.inl rfl))) (fun _ _ _ _ _ => Tr.t_nil) (fun _ _ _ _ _ => (PE.px (Tr.p_op op_mod modD_ok.s (Tr.p_callT intD_ok call_int1 rfl z_int (by decide +kernel) (PE.pc (Tr.p_op op_addA addD_ok (Tr.p_var (pv 4)) (Tr.p_var (pv 3))))) (Tr.p_var (pv 1))))) (by decide))))))) Tr.s_nil)
    (Tr.s_cons (Tr.s_if (PT.qy (Tr.q_cmp (op_eqD hr.toRoom.units) eqD_ok (PE.pb (Tr.p_var (pv 2))) (PE.pb Tr.p_int) (nomark _))) (Tr.s_one (Tr.s_ret (PE.vx (Tr.v_callT tupD_ok call_tupB rfl z_tuple (by decide +kernel) (PE.pv (Tr.x_lc (own := [("_law_state", 4)]) rfl sc__law_ends.nd (Tr.i_range1 rfl z_range (PE.pV (Tr.p_var (pv 1)))) (blkOk_by (own := [("_law_state", 4)]) (N := N__law_ends) (sc := (defScope s__law_ends)) (by decide +kernel)) (fun _ _ _ _ _ => (Tr.g_name sc__law_ends.nd rfl (.inl rfl))) (fun _ _ _ _ _ => Tr.t_nil) (fun _ _ _ _ _ => (PE.px (Tr.p_var (pv 3)))) (by decide))))))) Tr.s_nil)
    (Tr.s_cons (Tr.s_if (PT.qy (Tr.q_cmp (op_eqD hr.toRoom.units) eqD_ok (PE.pb (Tr.p_var (pv 2))) (PE.pb Tr.p_int) (nomark _))) (Tr.s_one (Tr.s_ret (PE.vx (Tr.v_callT tupD_ok call_tupB rfl z_tuple (by decide +kernel) (PE.pv (Tr.x_lc (own := [("_law_state", 4)]) rfl sc__law_ends.nd (Tr.i_range1 rfl z_range (PE.pV (Tr.p_var (pv 1)))) (blkOk_by (own := [("_law_state", 4)]) (N := N__law_ends) (sc := (defScope s__law_ends)) (by decide +kernel)) (fun _ _ _ _ _ => (Tr.g_name sc__law_ends.nd rfl (.inl rfl))) (fun _ _ _ _ _ => Tr.t_nil) (fun _ _ _ _ _ => (Tr.x_if (PT.qy (Tr.q_cmp (op_eqD hr.toRoom.units) eqD_ok (PE.pb (Tr.p_var (pv 4))) (PE.pb (Tr.p_op op_sub subD_ok.s (Tr.p_var (pv 1)) Tr.p_int)) (nomark _))) (PE.px (Tr.p_var (pv 3))) (PE.px (Tr.p_var (pv 4))))) (by decide))))))) Tr.s_nil)
    (Tr.s_one (Tr.s_ret (PE.vx (Tr.v_callT tupD_ok call_tupB rfl z_tuple (by decide +kernel) (PE.pv (Tr.x_lc (own := [("_law_state", 4)]) rfl sc__law_ends.nd (Tr.i_range1 rfl z_range (PE.pV (Tr.p_var (pv 1)))) (blkOk_by (own := [("_law_state", 4)]) (N := N__law_ends) (sc := (defScope s__law_ends)) (by decide +kernel)) (fun _ _ _ _ _ => (Tr.g_name sc__law_ends.nd rfl (.inl rfl))) (fun _ _ _ _ _ => Tr.t_nil) (fun _ _ _ _ _ => (Tr.x_callG (C__law_take.le (by decide)) takes0 hr rfl (Tr.ag_l (pv 0) (Tr.ag_v (PE.pV (Tr.p_var (pv 1))) Tr.ag_nil)))) (by decide)))))))))))
/-! ### _law_told -/
abbrev s__law_told : Stmt := topS 42
theorem sc__law_told : FnScope N__law_told ["_law_box_here", "_law_size"] (defScope s__law_told) := ⟨rfl, rfl, rfl, by decide +kernel, rfl, by decide +kernel, by decide +kernel⟩
theorem ok__law_told {P : Program} {w : World} {K : PySem.W.Frag} {mg : Str → Option Value} {base : Heap} {f : Addr} {fd : FuncData} (F : Fun K "_law_told" "_law_told" s__law_told f fd)
    (z_range : mg "range" = none) (z_tuple : mg "tuple" = none) (C__law_pick : CalG P w K mg base 2 "_law_pick" 2 F__law_pick) (C__law_take : CalG P w K mg base 1 "_law_take" 2 F__law_take) :
    FnG P w K mg base 3 f fd ["_law_box_here", "_law_size"] (spF K mg (["_law_box_here", "_law_size"] : List Str).length F__law_told) := by
  delta F__law_told
  refine fng_ok (P := P) (w := w) (mg := mg) (base := base) (k := 2) F sc__law_told (by decide) ?_
  intro cdv A outer s H E hr
  conv => arg 2; whnf
  delta m__law_told
  exact (Tr.s_cons (Tr.s_asg (Tr.v_tup (Tr.lv_cons (PE.pv (Tr.x_callG (C__law_take.le (by decide)) (takes_of rfl rfl rfl rfl) hr rfl (Tr.ag_l (pv 0) (Tr.ag_v (PE.pV Tr.p_int) Tr.ag_nil)))) (Tr.lv_cons (PE.pv (Tr.x_callG (C__law_take.le (by decide)) (takes_of rfl rfl rfl rfl) hr rfl (Tr.ag_l (pv 0) (Tr.ag_v (PE.pV (Tr.p_op op_addA addD_ok (Tr.p_op op_pow powD_ok.s Tr.p_int Tr.p_int) Tr.p_int)) Tr.ag_nil)))) Tr.lv_nil))) (Tr.g_tup rfl (Tr.gs_cons (Tr.g_name sc__law_told.nd rfl (.inl rfl)) (Tr.gs_cons (Tr.g_name sc__law_told.nd rfl (.inr rfl)) Tr.gs_nil))))
    (Tr.s_cons (Tr.s_if (PT.qy (Tr.q_cmp (op_eqD hr.toRoom.units) eqD_ok (PE.pb (Tr.p_var (pv 2))) (PE.pb Tr.p_int) (nomark _))) (Tr.s_one (Tr.s_ret (PE.vx (Tr.v_callT tupD_ok call_tupB rfl z_tuple (by decide +kernel) (PE.pv (Tr.x_lc (own := [("_law_state", 4)]) rfl sc__law_told.nd (Tr.i_range1 rfl z_range (PE.pV (Tr.p_var (pv 1)))) (blkOk_by (own := [("_law_state", 4)]) (N := N__law_told) (sc := (defScope s__law_told)) (by decide +kernel)) (fun _ _ _ _ _ => (Tr.g_name sc__law_told.nd rfl (.inl rfl))) (fun _ _ _ _ _ => Tr.t_nil) (fun _ _ _ _ _ => (PE.px (Tr.p_var (pv 3)))) (by decide))))))) Tr.s_nil)
    (Tr.s_cons (Tr.s_if (PT.qy (Tr.q_cmp (op_eqD hr.toRoom.units) eqD_ok (PE.pb (Tr.p_var (pv 2))) (PE.pb Tr.p_int) (nomark _))) (Tr.s_one (Tr.s_ret (PE.vx (Tr.v_callT tupD_ok call_tupB rfl z_tuple (by decide +kernel) (PE.pv (Tr.x_lc (own := [("_law_state", 4)]) rfl sc__law_told.nd (Tr.i_range1 rfl z_range (PE.pV (Tr.p_var (pv 1)))) (blkOk_by (own := [("_law_state", 4)]) (N := N__law_told) (sc := (defScope s__law_told)) (by decide +kernel)) (fun _ _ _ _ _ => (Tr.g_name sc__law_told.nd rfl (.inl rfl))) (fun _ _ _ _ _ => Tr.t_nil) (fun _ _ _ _ _ => (PE.px (Tr.p_var (pv 4)))) (by decide))))))) Tr.s_nil)
    (Tr.s_one (Tr.s_ret (PE.vx (Tr.v_callT tupD_ok call_tupB rfl z_tuple (by decide +kernel) (PE.pv (Tr.x_lc (own := [("_law_state", 4)]) rfl sc__law_told.nd (Tr.i_range1 rfl z_range (PE.pV (Tr.p_var (pv 1)))) (blkOk_by (own := [("_law_state", 4)]) (N := N__law_told) (sc := (defScope s__law_told)) (by decide +kernel)) (fun _ _ _ _ _ => (Tr.g_name sc__law_told.nd rfl (.inl rfl))) (fun _ _ _ _ _ => Tr.t_nil) (fun _ _ _ _ _ => (Tr.x_callG (C__law_pick.le (by decide)) takes0 hr rfl (Tr.ag_l (pv 0) (Tr.ag_v (PE.pv (Tr.x_lst (Tr.lx_cons (PE.px Tr.p_int) (Tr.lx_cons (PE.px (Tr.p_var (pv 3))) (Tr.lx_cons (Tr.x_callG (C__law_take.le (by decide)) takes0 hr rfl (Tr.ag_l (pv 0) (Tr.ag_v (PE.pV Tr.p_int) Tr.ag_nil))) Tr.lx_nil))))) Tr.ag_nil)))) (by decide))))))))))
/-! ### _law_offices -/
abbrev s__law_offices : Stmt := topS 43
theorem sc__law_offices : FnScope N__law_offices ["_law_box_here", "_law_size"] (defScope s__law_offices) := ⟨rfl, rfl, rfl, by decide +kernel, rfl, by decide +kernel, by decide +kernel⟩
theorem ok__law_offices {P : Program} {w : World} {K : PySem.W.Frag} {mg : Str → Option Value} {base : Heap} {f : Addr} {fd : FuncData} (F : Fun K "_law_offices" "_law_offices" s__law_offices f fd)
    (z_range : mg "range" = none) (z_tuple : mg "tuple" = none) (C__law_ends : CalG P w K mg base 2 "_law_ends" 2 F__law_ends) (C__law_names : CalG P w K mg base 3 "_law_names" 2 F__law_names) (C__law_pick : CalG P w K mg base 2 "_law_pick" 2 F__law_pick) (C__law_take : CalG P w K mg base 1 "_law_take" 2 F__law_take) (C__law_told : CalG P w K mg base 3 "_law_told" 2 F__law_told) :
    FnG P w K mg base 4 f fd ["_law_box_here", "_law_size"] (spF K mg (["_law_box_here", "_law_size"] : List Str).length F__law_offices) := by
  delta F__law_offices
  refine fng_ok (P := P) (w := w) (mg := mg) (base := base) (k := 3) F sc__law_offices (by decide) ?_
  intro cdv A outer s H E hr
  conv => arg 2; whnf
  delta m__law_offices
  exact (Tr.s_cons (Tr.s_par4 (i := 2) (j := 3) (l := 4) (m := 5) rfl sc__law_offices.nd rfl rfl rfl rfl (by decide) (by decide) (by decide) (by decide) (by decide) (by decide) (.inl rfl) (.inl rfl) (.inl rfl) (.inl rfl) (.inl rfl) (.inl rfl) (.inl rfl) (.inl rfl) (Tr.lx_cons (PE.vx (PE.pv (Tr.x_callG (C__law_pick.le (by decide)) (takes_of rfl rfl rfl rfl) hr rfl (Tr.ag_l (pv 0) (Tr.ag_v (PE.pV (Tr.p_lst (Tr.lp_cons Tr.p_int (Tr.lp_cons Tr.p_int (Tr.lp_cons Tr.p_int (Tr.lp_cons Tr.p_int (Tr.lp_cons Tr.p_int (Tr.lp_cons Tr.p_int Tr.lp_nil)))))))) Tr.ag_nil))))) (Tr.lx_cons (PE.vx (PE.pv (Tr.x_callG (C__law_names.le (by decide)) (takes_of rfl rfl rfl rfl) hr rfl (Tr.ag_l (pv 0) (Tr.ag_v (PE.pV Tr.p_int) Tr.ag_nil))))) (Tr.lx_cons (Tr.x_lst Tr.lx_nil) (Tr.lx_cons (PE.vx (PE.pV Tr.p_int)) Tr.lx_nil)))) (by rfl))
    (Tr.s_cons (Tr.s_for (passes_of rfl) rfl (Tr.i_range1 rfl z_range (PE.pV (Tr.p_var (pv 2)))) (Tr.g_name sc__law_offices.nd rfl (.inl rfl)) (Tr.s_cons (Tr.s_set (i := 7) sc__law_offices.nd rfl (.inl rfl) (Tr.x_lst Tr.lx_nil))
    (Tr.s_cons (Tr.s_for (passes_of rfl) rfl (Tr.i_range1 rfl z_range (Tr.v_if (PT.qy (Tr.q_cmp (op_eqD hr.toRoom.units) eqD_ok (PE.pb (Tr.p_var (pv 6))) (PE.pb Tr.p_int) (nomark _))) (PE.pv (Tr.x_callG (C__law_pick.le (by decide)) (takes_of rfl rfl rfl rfl) hr rfl (Tr.ag_l (pv 0) (Tr.ag_v (PE.pV (Tr.p_lst (Tr.lp_cons Tr.p_int (Tr.lp_cons Tr.p_int (Tr.lp_cons Tr.p_int (Tr.lp_cons Tr.p_int Tr.lp_nil)))))) Tr.ag_nil)))) (PE.pv (Tr.x_callG (C__law_pick.le (by decide)) (takes_of rfl rfl rfl rfl) hr rfl (Tr.ag_l (pv 0) (Tr.ag_v (PE.pV (Tr.p_if (Tr.q_cmp op_lt ltD_ok (PE.pb (Tr.p_var (pv 2))) (PE.pb Tr.p_int) (nomark _)) (Tr.p_lst (Tr.lp_cons Tr.p_int (Tr.lp_cons Tr.p_int (Tr.lp_cons Tr.p_int (Tr.lp_cons Tr.p_int Tr.lp_nil))))) (Tr.p_lst (Tr.lp_cons Tr.p_int (Tr.lp_cons Tr.p_int Tr.lp_nil))))) Tr.ag_nil)))))) (Tr.g_name sc__law_offices.nd rfl (.inl rfl)) (Tr.s_cons (Tr.s_expr (Tr.x_append (pv 7) (Tr.v_tup (Tr.lv_cons (PE.pV (Tr.p_ix (Tr.p_var (pv 3)) (Tr.p_var (pv 5)) (fun _ _ => rfl))) (Tr.lv_cons (PE.pv (Tr.x_callG (C__law_ends.le (by decide)) (takes_of rfl rfl rfl rfl) hr rfl (Tr.ag_l (pv 0) (Tr.ag_v (PE.pV (Tr.p_var (pv 1))) Tr.ag_nil)))) (Tr.lv_cons (PE.pv (Tr.x_callG (C__law_told.le (by decide)) (takes_of rfl rfl rfl rfl) hr rfl (Tr.ag_l (pv 0) (Tr.ag_v (PE.pV (Tr.p_var (pv 1))) Tr.ag_nil)))) Tr.lv_nil))))))
    (Tr.s_one (Tr.s_setF (i := 5) sc__law_offices.nd rfl (.inl rfl) (PE.px (Tr.p_op op_addA addD_ok (Tr.p_var (pv 5)) Tr.p_int))))))
    (Tr.s_one (Tr.s_expr (Tr.x_append (pv 4) (PE.pV (Tr.p_callT tupD_ok call_tupB rfl z_tuple (by decide +kernel) (Tr.c_var (pv 7))))))))))
    (Tr.s_cons (Tr.s_setF (i := 9) sc__law_offices.nd rfl (.inl rfl) (Tr.x_callG (C__law_take.le (by decide)) (takes_of rfl rfl rfl rfl) hr rfl (Tr.ag_l (pv 0) (Tr.ag_v (PE.pV (Tr.p_var (pv 2))) Tr.ag_nil))))
    (Tr.s_one (Tr.s_ret (PE.px (Tr.p_callT tupD_ok call_tupB rfl z_tuple (by decide +kernel) (PE.pc (Tr.p_op op_addA addD_ok (Tr.p_sliceA (Tr.c_var (pv 4)) (Tr.o_some (Tr.p_var (pv 9))) Tr.o_none) (Tr.p_sliceA (Tr.c_var (pv 4)) Tr.o_none (Tr.o_some (Tr.p_var (pv 9)))))))))))))
/-! ### _law_all -/
abbrev s__law_all : Stmt := topS 44
theorem sc__law_all : FnScope N__law_all ["_law_offices_here"] (defScope s__law_all) := ⟨rfl, rfl, rfl, by decide +kernel, rfl, by decide +kernel, by decide +kernel⟩
theorem ok__law_all {P : Program} {w : World} {K : PySem.W.Frag} {mg : Str → Option Value} {base : Heap} {f : Addr} {fd : FuncData} (F : Fun K "_law_all" "_law_all" s__law_all f fd)
    (z_list : mg "list" = none) (z_sorted : mg "sorted" = none) :
    FnG P w K mg base 1 f fd ["_law_offices_here"] (spF K mg (["_law_offices_here"] : List Str).length F__law_all) := by
  delta F__law_all
  refine fng_ok (P := P) (w := w) (mg := mg) (base := base) (k := 0) F sc__law_all (by decide) ?_
  intro cdv A outer s H E hr
  conv => arg 2; whnf
  delta m__law_all
  exact (Tr.s_cons (Tr.s_setF (i := 1) sc__law_all.nd rfl (.inl rfl) (Tr.x_lst Tr.lx_nil))
    (Tr.s_cons (Tr.s_for (passes_of rfl) rfl (Tr.i_seq (PE.pV (Tr.p_var (pv 0)))) (Tr.g_name sc__law_all.nd rfl (.inl rfl)) (Tr.s_one (Tr.s_setF (i := 1) sc__law_all.nd rfl (.inl rfl) (PE.px (Tr.p_op op_addA addD_ok (Tr.p_var (pv 1)) (Tr.p_callT listD_ok.s call_list_of rfl z_list (by decide +kernel) (PE.pc (Tr.p_var (pv 2)))))))))
    (Tr.s_one (Tr.s_ret (Tr.x_callBL sortOD_ok cr_sortO rfl z_sorted (by decide +kernel) (PE.pc (Tr.p_var (pv 1))))))))
/-! ### _law_run -/
abbrev s__law_run : Stmt := topS 45
theorem sc__law_run : FnScope N__law_run ["_law_box_here", "_law_names_here", "_law_most"] (defScope s__law_run) := ⟨rfl, rfl, rfl, by decide +kernel, rfl, by decide +kernel, by decide +kernel⟩
theorem ok__law_run {P : Program} {w : World} {K : PySem.W.Frag} {mg : Str → Option Value} {base : Heap} {f : Addr} {fd : FuncData} (F : Fun K "_law_run" "_law_run" s__law_run f fd)
    (z_len : mg "len" = none) (z_range : mg "range" = none) (z_tuple : mg "tuple" = none) (C__law_pick : CalG P w K mg base 2 "_law_pick" 2 F__law_pick) (C__law_take : CalG P w K mg base 1 "_law_take" 2 F__law_take) :
    FnG P w K mg base 3 f fd ["_law_box_here", "_law_names_here", "_law_most"] (spF K mg (["_law_box_here", "_law_names_here", "_law_most"] : List Str).length F__law_run) := by
  delta F__law_run
  refine fng_ok (P := P) (w := w) (mg := mg) (base := base) (k := 2) F sc__law_run (by decide) ?_
  intro cdv A outer s H E hr
  conv => arg 2; whnf
  delta m__law_run
  exact (Tr.s_cons (Tr.s_if (PT.qy (Tr.q_cmp (op_eqD hr.toRoom.units) eqD_ok (PE.pb (Tr.p_callB lenD_ok Tr.c_len rfl z_len (by decide +kernel) (PE.pc (Tr.p_var (pv 1))))) (PE.pb Tr.p_int) (nomark _))) (Tr.s_one (Tr.s_ret (PE.px (Tr.p_tup Tr.lp_nil)))) Tr.s_nil)
    (Tr.s_one (Tr.s_ret (PE.vx (Tr.v_callT tupD_ok call_tupB rfl z_tuple (by decide +kernel) (PE.pv (Tr.x_lc (own := [("_law_turn", 3)]) rfl sc__law_run.nd (Tr.i_range1 rfl z_range (PE.pv (Tr.x_callG (C__law_take.le (by decide)) (takes_of rfl rfl rfl rfl) hr rfl (Tr.ag_l (pv 0) (Tr.ag_v (PE.pV (Tr.p_op op_addA addD_ok (Tr.p_var (pv 2)) Tr.p_int)) Tr.ag_nil))))) (blkOk_by (own := [("_law_turn", 3)]) (N := N__law_run) (sc := (defScope s__law_run)) (by decide +kernel)) (fun _ _ _ _ _ => (Tr.g_name sc__law_run.nd rfl (.inl rfl))) (fun _ _ _ _ _ => Tr.t_nil) (fun _ _ _ _ _ => (Tr.x_callG (C__law_pick.le (by decide)) takes0 hr rfl (Tr.ag_l (pv 0) (Tr.ag_v (PE.pV (Tr.p_var (pv 1))) Tr.ag_nil)))) (by decide))))))))
/-! ### _law_walk -/
abbrev s__law_walk : Stmt := topS 46
theorem sc__law_walk : FnScope N__law_walk ["_law_table_here", "_law_state", "_law_run_here"] (defScope s__law_walk) := ⟨rfl, rfl, rfl, by decide +kernel, rfl, by decide +kernel, by decide +kernel⟩
theorem ok__law_walk {P : Program} {w : World} {K : PySem.W.Frag} {mg : Str → Option Value} {base : Heap} {f : Addr} {fd : FuncData} (F : Fun K "_law_walk" "_law_walk" s__law_walk f fd)
    (z_tuple : mg "tuple" = none) :
    FnG P w K mg base 1 f fd ["_law_table_here", "_law_state", "_law_run_here"] (spF K mg (["_law_table_here", "_law_state", "_law_run_here"] : List Str).length F__law_walk) := by
  delta F__law_walk
  refine fng_ok (P := P) (w := w) (mg := mg) (base := base) (k := 0) F sc__law_walk (by decide) ?_
  intro cdv A outer s H E hr
  conv => arg 2; whnf
  delta m__law_walk
  exact (Tr.s_cons (Tr.s_par2 (i := 3) (j := 4) rfl sc__law_walk.nd rfl rfl (by decide) rfl rfl (Tr.lx_cons (Tr.x_lst (Tr.lx_cons (PE.px (Tr.p_var (pv 1))) Tr.lx_nil)) (Tr.lx_cons (Tr.x_lst Tr.lx_nil) Tr.lx_nil)) (by rfl))
    (Tr.s_cons (Tr.s_for (passes_of rfl) rfl (Tr.i_seq (PE.pV (Tr.p_var (pv 2)))) (Tr.g_name sc__law_walk.nd rfl (.inl rfl)) (Tr.s_cons (Tr.s_asg (PE.pV (Tr.p_ixK hr.u1 (PE.pc (Tr.p_var (pv 0))) (Tr.p_var (pv 5)) (fun _ _ => rfl))) (Tr.g_tup rfl (Tr.gs_cons (Tr.g_name sc__law_walk.nd rfl (.inl rfl)) (Tr.gs_cons (Tr.g_name sc__law_walk.nd rfl (.inl rfl)) Tr.gs_nil))))
    (Tr.s_cons (Tr.s_expr (Tr.x_append (pv 4) (PE.pV (Tr.p_ix (Tr.p_var (pv 7)) (Tr.p_flat (Tr.c_at (pv 3) (Tr.p_neg Tr.p_int) (fun _ _ => rfl))) (fun _ _ => rfl)))))
    (Tr.s_one (Tr.s_expr (Tr.x_append (pv 3) (PE.pV (Tr.p_ix (Tr.p_var (pv 6)) (Tr.p_flat (Tr.c_at (pv 3) (Tr.p_neg Tr.p_int) (fun _ _ => rfl))) (fun _ _ => rfl)))))))))
    (Tr.s_one (Tr.s_ret (PE.px (Tr.p_tup (Tr.lp_cons (Tr.p_callT tupD_ok call_tupB rfl z_tuple (by decide +kernel) (Tr.c_var (pv 3))) (Tr.lp_cons (Tr.p_callT tupD_ok call_tupB rfl z_tuple (by decide +kernel) (Tr.c_var (pv 4))) Tr.lp_nil))))))))
/-! ### _law_table -/
abbrev s__law_table : Stmt := topS 47
theorem sc__law_table : FnScope N__law_table ["_law_offices_here"] (defScope s__law_table) := ⟨rfl, rfl, rfl, by decide +kernel, rfl, by decide +kernel, by decide +kernel⟩
theorem ok__law_table {P : Program} {w : World} {K : PySem.W.Frag} {mg : Str → Option Value} {base : Heap} {f : Addr} {fd : FuncData} (F : Fun K "_law_table" "_law_table" s__law_table f fd)
    (C__law_all : CalG P w K mg base 1 "_law_all" 1 F__law_all) :
    FnG P w K mg base 2 f fd ["_law_offices_here"] (spF K mg (["_law_offices_here"] : List Str).length F__law_table) := by
  delta F__law_table
  refine fng_ok (P := P) (w := w) (mg := mg) (base := base) (k := 1) F sc__law_table (by decide) ?_
  intro cdv A outer s H E hr
  conv => arg 2; whnf
  delta m__law_table
  exact (Tr.s_cons (Tr.s_set (i := 1) sc__law_table.nd rfl (.inl rfl) Tr.x_dic0)
    (Tr.s_cons (Tr.s_for (passes_of rfl) rfl (Tr.i_seq (PE.pv (Tr.x_callG (C__law_all.le (by decide)) (takes_of rfl rfl rfl rfl) hr rfl (Tr.ag_v (PE.pV (Tr.p_var (pv 0))) Tr.ag_nil)))) (Tr.g_tup rfl (Tr.gs_cons (Tr.g_name sc__law_table.nd rfl (.inl rfl)) (Tr.gs_cons (Tr.g_name sc__law_table.nd rfl (.inl rfl)) (Tr.gs_cons (Tr.g_name sc__law_table.nd rfl (.inl rfl)) Tr.gs_nil)))) (Tr.s_one (Tr.s_stoD hr.u1 (PE.pV (Tr.p_tup (Tr.lp_cons (Tr.p_var (pv 3)) (Tr.lp_cons (Tr.p_var (pv 4)) Tr.lp_nil)))) (pv 1) (Tr.p_var (pv 2)))))
    (Tr.s_one (Tr.s_ret (Tr.x_mov (pv 1))))))
/-! ### _law_other -/
abbrev s__law_other : Stmt := topS 48
theorem sc__law_other : FnScope N__law_other ["_law_offices_here", "_law_size"] (defScope s__law_other) := ⟨rfl, rfl, rfl, by decide +kernel, rfl, by decide +kernel, by decide +kernel⟩
theorem ok__law_other {P : Program} {w : World} {K : PySem.W.Frag} {mg : Str → Option Value} {base : Heap} {f : Addr} {fd : FuncData} (F : Fun K "_law_other" "_law_other" s__law_other f fd)
    (z_tuple : mg "tuple" = none) :
    FnG P w K mg base 1 f fd ["_law_offices_here", "_law_size"] (spF K mg (["_law_offices_here", "_law_size"] : List Str).length F__law_other) := by
  delta F__law_other
  refine fng_ok (P := P) (w := w) (mg := mg) (base := base) (k := 0) F sc__law_other (by decide) ?_
  intro cdv A outer s H E hr
  conv => arg 2; whnf
  delta m__law_other
  exact (Tr.s_cons (Tr.s_set (i := 2) sc__law_other.nd rfl (.inl rfl) (Tr.x_lst Tr.lx_nil))
    (Tr.s_cons (Tr.s_for (passes_of rfl) rfl (Tr.i_seq (PE.pV (Tr.p_var (pv 0)))) (Tr.g_name sc__law_other.nd rfl (.inl rfl)) (Tr.s_one (Tr.s_expr (Tr.x_append (pv 2) (Tr.v_callT tupD_ok call_tupB rfl z_tuple (by decide +kernel) (PE.pv (Tr.x_lc (own := [("_law_name", 4), ("_law_ends_here", 5), ("_law_answers", 6)]) rfl sc__law_other.nd (Tr.i_seq (PE.pV (Tr.p_var (pv 3)))) (blkOk_by (own := [("_law_name", 4), ("_law_ends_here", 5), ("_law_answers", 6)]) (N := N__law_other) (sc := (defScope s__law_other)) (by decide +kernel)) (fun _ _ _ _ _ => (Tr.g_tup rfl (Tr.gs_cons (Tr.g_name sc__law_other.nd rfl (.inl rfl)) (Tr.gs_cons (Tr.g_name sc__law_other.nd rfl (.inl rfl)) (Tr.gs_cons (Tr.g_name sc__law_other.nd rfl (.inl rfl)) Tr.gs_nil))))) (fun _ _ _ _ _ => Tr.t_nil) (fun _ _ _ _ _ => (PE.vx (Tr.v_tup (Tr.lv_cons (PE.pV (Tr.p_var (pv 4))) (Tr.lv_cons (Tr.v_callT tupD_ok call_tupB rfl z_tuple (by decide +kernel) (PE.pv (Tr.x_lc (own := [("_law_end", 7)]) rfl sc__law_other.nd (Tr.i_seq (PE.pV (Tr.p_var (pv 5)))) (blkOk_by (own := [("_law_end", 7)]) (by kernel_rfl)) (fun _ _ _ _ _ => (Tr.g_name sc__law_other.nd rfl (.inl rfl))) (fun _ _ _ _ _ => Tr.t_nil) (fun _ _ _ _ _ => (PE.px (Tr.p_op op_sub subD_ok.s (Tr.p_op op_sub subD_ok.s (Tr.p_var (pv 1)) Tr.p_int) (Tr.p_var (pv 7))))) (by decide)))) (Tr.lv_cons (PE.pV (Tr.p_revT (Tr.p_var (pv 6)))) Tr.lv_nil)))))) (by decide))))))))
    (Tr.s_one (Tr.s_ret (PE.px (Tr.p_callT tupD_ok call_tupB rfl z_tuple (by decide +kernel) (Tr.c_var (pv 2))))))))
/-! ### _law_right -/
abbrev s__law_right : Stmt := topS 49
theorem sc__law_right : FnScope N__law_right ["_law_store", "_law_table_here", "_law_size", "_law_run_here"] (defScope s__law_right) := ⟨rfl, rfl, rfl, by decide +kernel, rfl, by decide +kernel, by decide +kernel⟩
theorem ok__law_right {P : Program} {w : World} {K : PySem.W.Frag} {mg : Str → Option Value} {base : Heap} {f : Addr} {fd : FuncData} (F : Fun K "_law_right" "_law_right" s__law_right f fd)
    (z_bool : mg "bool" = none) (z_isinstance : mg "isinstance" = none) (z_range : mg "range" = none) (z_repr : mg "repr" = none) (z_tuple : mg "tuple" = none) (C__law_walk : CalG P w K mg base 1 "_law_walk" 3 F__law_walk) {A_Store : Addr} (C_after : CalG P w K mg base 7 "after" 3 (F_after A_Store)) (C_answers_of : CalG P w K mg base 7 "answers_of" 3 (F_answers_of A_Store)) (C_passed : CalG P w K mg base 6 "passed" 3 (F_passed A_Store)) (C_run_ends : CalG P w K mg base 6 "run_ends" 2 (F_run_ends A_Store)) (K_after_120 : KwG P w K mg base 7 "after" ["run", "store", "state"] [1, 2, 0] 3 (F_after A_Store)) :
    FnG P w K mg base 8 f fd ["_law_store", "_law_table_here", "_law_size", "_law_run_here"] (spF K mg (["_law_store", "_law_table_here", "_law_size", "_law_run_here"] : List Str).length (F__law_right A_Store)) := by
  delta F__law_right
  refine fng_ok (P := P) (w := w) (mg := mg) (base := base) (k := 7) F sc__law_right (by decide) ?_
  intro cdv A outer s H E hr
  conv => arg 2; whnf
  delta m__law_right
  exact (Tr.s_cons (Tr.s_set (i := 4) sc__law_right.nd rfl (.inl rfl) (Tr.x_lst Tr.lx_nil))
    (Tr.s_cons (Tr.s_for (passes_of rfl) rfl (Tr.i_range1 rfl z_range (PE.pV (Tr.p_var (pv 2)))) (Tr.g_name sc__law_right.nd rfl (.inl rfl)) (Tr.s_cons (Tr.s_asg (PE.pv (Tr.x_callG (C__law_walk.le (by decide)) (takes_of rfl rfl rfl rfl) hr rfl (Tr.ag_v (PE.pV (Tr.p_var (pv 1))) (Tr.ag_v (PE.pV (Tr.p_var (pv 5))) (Tr.ag_v (PE.pV (Tr.p_var (pv 3))) Tr.ag_nil))))) (Tr.g_tup rfl (Tr.gs_cons (Tr.g_name sc__law_right.nd rfl (.inl rfl)) (Tr.gs_cons (Tr.g_name sc__law_right.nd rfl (.inl rfl)) Tr.gs_nil))))
    (Tr.s_cons (Tr.s_setF (i := 8) sc__law_right.nd rfl (.inl rfl) (Tr.x_callG (C_after.le (by decide)) (takes_of rfl rfl rfl rfl) hr rfl (Tr.ag_v (PE.pV (Tr.p_var (pv 0))) (Tr.ag_v (PE.pV (Tr.p_var (pv 5))) (Tr.ag_v (PE.pV (Tr.p_var (pv 3))) Tr.ag_nil)))))
    (Tr.s_cons (Tr.s_if (PW.pt (Tr.y_or (Tr.y_cmp (op_neS hr.toRoom.units) neS_ok.s (Tr.v_callB reprD_ok (call_reprD hr) rfl z_repr (by decide +kernel) (PE.pv (Tr.x_callG (C_passed.le (by decide)) (takes_of rfl rfl rfl rfl) hr rfl (Tr.ag_v (PE.pV (Tr.p_var (pv 0))) (Tr.ag_v (PE.pV (Tr.p_var (pv 5))) (Tr.ag_v (PE.pV (Tr.p_var (pv 3))) Tr.ag_nil)))))) (PE.pV (Tr.p_callB reprD_ok (call_reprD hr) rfl z_repr (by decide +kernel) (PE.pc (Tr.p_var (pv 6))))) (nomark _)) (Tr.y_or1 (Tr.y_cmp (op_neS hr.toRoom.units) neS_ok.s (Tr.v_callB reprD_ok (call_reprD hr) rfl z_repr (by decide +kernel) (PE.pv (Tr.x_callG (C_answers_of.le (by decide)) (takes_of rfl rfl rfl rfl) hr rfl (Tr.ag_v (PE.pV (Tr.p_var (pv 0))) (Tr.ag_v (PE.pV (Tr.p_var (pv 5))) (Tr.ag_v (PE.pV (Tr.p_var (pv 3))) Tr.ag_nil)))))) (PE.pV (Tr.p_callB reprD_ok (call_reprD hr) rfl z_repr (by decide +kernel) (PE.pc (Tr.p_var (pv 7))))) (nomark _))))) (Tr.s_one (Tr.s_ret (PE.px Tr.p_bl))) Tr.s_nil)
    (Tr.s_cons (Tr.s_if (PT.qy (Tr.q_cmp (op_neD hr.toRoom.units) neD_ok (PE.pb (Tr.p_var (pv 8))) (PE.pb (Tr.p_ix (Tr.p_var (pv 6)) (Tr.p_neg Tr.p_int) (fun _ _ => rfl))) (nomark _))) (Tr.s_one (Tr.s_ret (PE.px Tr.p_bl))) Tr.s_nil)
    (Tr.s_cons (Tr.s_if (PW.pt (Tr.y_or (PT.qy (Tr.q_val (Tr.p_isi rfl z_isinstance (PE.pb (Tr.p_var (pv 8))) rfl z_bool (by decide +kernel)))) (Tr.y_or1 (Tr.y_cmp (op_neD hr.toRoom.units) neD_ok.s (PE.pv (Tr.x_callKG K_after_120 (takes_of rfl rfl rfl rfl) (hr.le (by decide)) rfl (kp_cons (Tr.p_var (pv 3)) (kp_cons (Tr.p_var (pv 0)) (kp_cons (Tr.p_var (pv 5)) kp_nil))) (ll_c (ll_c (ll_c ll_n))))) (PE.pV (Tr.p_var (pv 8))) (nomark _))))) (Tr.s_one (Tr.s_ret (PE.px Tr.p_bl))) Tr.s_nil)
    (Tr.s_one (Tr.s_expr (Tr.x_append (pv 4) (PE.pV (Tr.p_ix (Tr.p_var (pv 6)) (Tr.p_neg Tr.p_int) (fun _ _ => rfl))))))))))))
    (Tr.s_one (Tr.s_ret (PE.vx (Tr.v_cmp (op_eqS hr.toRoom.units) eqS_ok.s (Tr.v_callB reprD_ok (call_reprD hr) rfl z_repr (by decide +kernel) (PE.pv (Tr.x_callG (C_run_ends.le (by decide)) (takes_of rfl rfl rfl rfl) hr rfl (Tr.ag_v (PE.pV (Tr.p_var (pv 0))) (Tr.ag_v (PE.pV (Tr.p_var (pv 3))) Tr.ag_nil))))) (PE.pV (Tr.p_callB reprD_ok (call_reprD hr) rfl z_repr (by decide +kernel) (PE.pc (Tr.p_callT tupD_ok call_tupB rfl z_tuple (by decide +kernel) (Tr.c_var (pv 4)))))) (nomark _)))))))
/-! ### _law_joined -/
abbrev s__law_joined : Stmt := topS 50
theorem sc__law_joined : FnScope N__law_joined ["_law_store", "_law_size", "_law_one", "_law_other_here"] (defScope s__law_joined) := ⟨rfl, rfl, rfl, by decide +kernel, rfl, by decide +kernel, by decide +kernel⟩
theorem ok__law_joined {P : Program} {w : World} {K : PySem.W.Frag} {mg : Str → Option Value} {base : Heap} {f : Addr} {fd : FuncData} (F : Fun K "_law_joined" "_law_joined" s__law_joined f fd)
    (z_range : mg "range" = none) {A_Store : Addr} (C_after : CalG P w K mg base 7 "after" 3 (F_after A_Store)) (C_answers_of : CalG P w K mg base 7 "answers_of" 3 (F_answers_of A_Store)) (C_passed : CalG P w K mg base 6 "passed" 3 (F_passed A_Store)) (C_run_ends : CalG P w K mg base 6 "run_ends" 2 (F_run_ends A_Store)) (K_run_ends_10 : KwG P w K mg base 6 "run_ends" ["run", "store"] [1, 0] 2 (F_run_ends A_Store)) (K_passed_012 : KwG P w K mg base 6 "passed" ["store", "state", "run"] [0, 1, 2] 3 (F_passed A_Store)) (K_answers_of_210 : KwG P w K mg base 7 "answers_of" ["run", "state", "store"] [2, 1, 0] 3 (F_answers_of A_Store)) :
    FnG P w K mg base 8 f fd ["_law_store", "_law_size", "_law_one", "_law_other_here"] (spF K mg (["_law_store", "_law_size", "_law_one", "_law_other_here"] : List Str).length (F__law_joined A_Store)) := by
  delta F__law_joined
  refine fng_ok (P := P) (w := w) (mg := mg) (base := base) (k := 7) F sc__law_joined (by decide) ?_
  intro cdv A outer s H E hr
  conv => arg 2; whnf
  delta m__law_joined
  exact (Tr.s_cons (Tr.s_par3 (i := 4) (j := 5) (l := 6) rfl sc__law_joined.nd rfl rfl rfl (by decide) (by decide) (by decide) rfl rfl rfl (Tr.lx_cons (PE.vx (PE.pv (Tr.x_callG (C_run_ends.le (by decide)) (takes_of rfl rfl rfl rfl) hr rfl (Tr.ag_v (PE.pV (Tr.p_var (pv 0))) (Tr.ag_v (PE.pV (Tr.p_var (pv 2))) Tr.ag_nil))))) (Tr.lx_cons (PE.vx (PE.pv (Tr.x_callKG K_run_ends_10 (takes_of rfl rfl rfl rfl) (hr.le (by decide)) rfl (kp_cons (Tr.p_var (pv 3)) (kp_cons (Tr.p_var (pv 0)) kp_nil)) (ll_c (ll_c ll_n))))) (Tr.lx_cons (PE.vx (PE.pV (Tr.p_op op_addA addD_ok (Tr.p_var (pv 2)) (Tr.p_var (pv 3))))) Tr.lx_nil))) (by rfl))
    (Tr.s_cons (Tr.s_for (passes_of rfl) rfl (Tr.i_range1 rfl z_range (PE.pV (Tr.p_var (pv 1)))) (Tr.g_name sc__law_joined.nd rfl (.inl rfl)) (Tr.s_cons (Tr.s_setF (i := 8) sc__law_joined.nd rfl (.inl rfl) (Tr.x_callG (C_after.le (by decide)) (takes_of rfl rfl rfl rfl) hr rfl (Tr.ag_v (PE.pV (Tr.p_var (pv 0))) (Tr.ag_v (PE.pV (Tr.p_var (pv 7))) (Tr.ag_v (PE.pV (Tr.p_var (pv 2))) Tr.ag_nil)))))
    (Tr.s_cons (Tr.s_if (PW.pt (Tr.y_or (Tr.y_cmp (op_neD hr.toRoom.units) neD_ok.s (PE.pv (Tr.x_callG (C_after.le (by decide)) (takes_of rfl rfl rfl rfl) hr rfl (Tr.ag_v (PE.pV (Tr.p_var (pv 0))) (Tr.ag_v (PE.pV (Tr.p_var (pv 7))) (Tr.ag_v (PE.pV (Tr.p_var (pv 6))) Tr.ag_nil))))) (PE.pv (Tr.x_callG (C_after.le (by decide)) (takes_of rfl rfl rfl rfl) hr rfl (Tr.ag_v (PE.pV (Tr.p_var (pv 0))) (Tr.ag_v (PE.pV (Tr.p_var (pv 8))) (Tr.ag_v (PE.pV (Tr.p_var (pv 3))) Tr.ag_nil))))) (nomark _)) (Tr.y_or1 (Tr.y_cmp (op_neD hr.toRoom.units) neD_ok.s (PE.pV (Tr.p_ix (Tr.p_var (pv 5)) (Tr.p_ix (Tr.p_var (pv 4)) (Tr.p_var (pv 7)) (fun _ _ => rfl)) (fun _ _ => rfl))) (PE.pv (Tr.x_callG (C_after.le (by decide)) (takes_of rfl rfl rfl rfl) hr rfl (Tr.ag_v (PE.pV (Tr.p_var (pv 0))) (Tr.ag_v (PE.pV (Tr.p_var (pv 7))) (Tr.ag_v (PE.pV (Tr.p_var (pv 6))) Tr.ag_nil))))) (nomark _))))) (Tr.s_one (Tr.s_ret (PE.px Tr.p_bl))) Tr.s_nil)
    (Tr.s_cons (Tr.s_if (Tr.y_cmp (op_neD hr.toRoom.units) neD_ok.s (PE.pv (Tr.x_callG (C_answers_of.le (by decide)) (takes_of rfl rfl rfl rfl) hr rfl (Tr.ag_v (PE.pV (Tr.p_var (pv 0))) (Tr.ag_v (PE.pV (Tr.p_var (pv 7))) (Tr.ag_v (PE.pV (Tr.p_var (pv 6))) Tr.ag_nil))))) (Tr.v_op op_addA addD_ok (PE.pv (Tr.x_callG (C_answers_of.le (by decide)) (takes_of rfl rfl rfl rfl) hr rfl (Tr.ag_v (PE.pV (Tr.p_var (pv 0))) (Tr.ag_v (PE.pV (Tr.p_var (pv 7))) (Tr.ag_v (PE.pV (Tr.p_var (pv 2))) Tr.ag_nil))))) (PE.pv (Tr.x_callG (C_answers_of.le (by decide)) (takes_of rfl rfl rfl rfl) hr rfl (Tr.ag_v (PE.pV (Tr.p_var (pv 0))) (Tr.ag_v (PE.pV (Tr.p_var (pv 8))) (Tr.ag_v (PE.pV (Tr.p_var (pv 3))) Tr.ag_nil)))))) (nomark _)) (Tr.s_one (Tr.s_ret (PE.px Tr.p_bl))) Tr.s_nil)
    (Tr.s_one (Tr.s_if (Tr.y_cmp (op_neD hr.toRoom.units) neD_ok.s (PE.pv (Tr.x_callKG K_passed_012 (takes_of rfl rfl rfl rfl) (hr.le (by decide)) rfl (kp_cons (Tr.p_var (pv 0)) (kp_cons (Tr.p_var (pv 7)) (kp_cons (Tr.p_var (pv 6)) kp_nil))) (ll_c (ll_c (ll_c ll_n))))) (Tr.v_op op_addA addD_ok (Tr.v_slice (PE.pv (Tr.x_callG (C_passed.le (by decide)) (takes_of rfl rfl rfl rfl) hr rfl (Tr.ag_v (PE.pV (Tr.p_var (pv 0))) (Tr.ag_v (PE.pV (Tr.p_var (pv 7))) (Tr.ag_v (PE.pV (Tr.p_var (pv 2))) Tr.ag_nil))))) Tr.o_none (Tr.o_some (Tr.p_neg Tr.p_int))) (PE.pv (Tr.x_callG (C_passed.le (by decide)) (takes_of rfl rfl rfl rfl) hr rfl (Tr.ag_v (PE.pV (Tr.p_var (pv 0))) (Tr.ag_v (PE.pV (Tr.p_var (pv 8))) (Tr.ag_v (PE.pV (Tr.p_var (pv 3))) Tr.ag_nil)))))) (nomark _)) (Tr.s_one (Tr.s_ret (PE.px Tr.p_bl))) Tr.s_nil))))))
    (Tr.s_one (Tr.s_ret (PE.vx (Tr.v_cmp (op_eqD hr.toRoom.units) eqD_ok.s (PE.pv (Tr.x_callKG K_answers_of_210 (takes_of rfl rfl rfl rfl) (hr.le (by decide)) rfl (kp_cons (Tr.p_var (pv 2)) (kp_cons Tr.p_int (kp_cons (Tr.p_var (pv 0)) kp_nil))) (ll_c (ll_c (ll_c ll_n))))) (PE.pv (Tr.x_callG (C_answers_of.le (by decide)) (takes_of rfl rfl rfl rfl) hr rfl (Tr.ag_v (PE.pV (Tr.p_var (pv 0))) (Tr.ag_v (PE.pV Tr.p_int) (Tr.ag_v (PE.pV (Tr.p_var (pv 2))) Tr.ag_nil))))) (nomark _)))))))
/-! ### law -/
abbrev s_law : Stmt := topS 51
theorem sc_law : FnScope N_law ["_law_script"] (defScope s_law) := ⟨rfl, rfl, rfl, by decide +kernel, rfl, by decide +kernel, by decide +kernel⟩
theorem ok_law {P : Program} {w : World} {K : PySem.W.Frag} {mg : Str → Option Value} {base : Heap} {f : Addr} {fd : FuncData} (F : Fun K "law" "law" s_law f fd)
    (z_int : mg "int" = none) (z_len : mg "len" = none) (z_range : mg "range" = none) (C__law_all : CalG P w K mg base 1 "_law_all" 1 F__law_all) (C__law_box : CalG P w K mg base 1 "_law_box" 2 F__law_box) {A_Store : Addr} (C__law_joined : CalG P w K mg base 8 "_law_joined" 4 (F__law_joined A_Store)) (C__law_offices : CalG P w K mg base 4 "_law_offices" 2 F__law_offices) (C__law_other : CalG P w K mg base 1 "_law_other" 2 F__law_other) (C__law_right : CalG P w K mg base 8 "_law_right" 4 (F__law_right A_Store)) (C__law_run : CalG P w K mg base 3 "_law_run" 3 F__law_run) (C__law_table : CalG P w K mg base 2 "_law_table" 1 F__law_table) (C__law_take : CalG P w K mg base 1 "_law_take" 2 F__law_take) (C_after : CalG P w K mg base 7 "after" 3 (F_after A_Store)) (C_answers_of : CalG P w K mg base 7 "answers_of" 3 (F_answers_of A_Store)) (C_passed : CalG P w K mg base 6 "passed" 3 (F_passed A_Store)) (M_Store : MkG P w K mg base 7 "Store" "size" "offices" F_check_offices A_Store) :
    FnG P w K mg base 9 f fd ["_law_script"] (spF K mg (["_law_script"] : List Str).length (F_law A_Store)) := by
  delta F_law
  refine fng_ok (P := P) (w := w) (mg := mg) (base := base) (k := 8) F sc_law (by decide) ?_
  intro cdv A outer s H E hr
  conv => arg 2; whnf
  delta m_law
  exact (Tr.s_cons (Tr.s_for (passes_of rfl) rfl (Tr.i_range1 rfl z_range (PE.pV (Tr.p_op op_addA addD_ok Tr.p_int (Tr.p_callT intD_ok call_int1 rfl z_int (by decide +kernel) (PE.pc (Tr.p_cmp op_gt gtD_ok (PE.pb (Tr.p_callB lenD_ok Tr.c_len rfl z_len (by decide +kernel) (PE.pc (Tr.p_var (pv 0))))) (PE.pb Tr.p_int) (nomark _))))))) (Tr.g_name sc_law.nd rfl (.inl rfl)) (Tr.s_cons (Tr.s_set (i := 2) sc_law.nd rfl (.inl rfl) (Tr.x_callG (C__law_box.le (by decide)) (takes_of rfl rfl rfl rfl) hr rfl (Tr.ag_v (PE.pV (Tr.p_var (pv 0))) (Tr.ag_v (PE.pV (Tr.p_var (pv 1))) Tr.ag_nil))))
    (Tr.s_cons (Tr.s_setF (i := 3) sc_law.nd rfl (.inl rfl) (PE.vx (Tr.v_op op_addA addD_ok (PE.pV Tr.p_int) (PE.pv (Tr.x_callG (C__law_take.le (by decide)) (takes_of rfl rfl rfl rfl) hr rfl (Tr.ag_l (pv 2) (Tr.ag_v (PE.pV Tr.p_int) Tr.ag_nil)))))))
    (Tr.s_cons (Tr.s_setF (i := 4) sc_law.nd rfl (.inl rfl) (Tr.x_callG (C__law_offices.le (by decide)) (takes_of rfl rfl rfl rfl) hr rfl (Tr.ag_l (pv 2) (Tr.ag_v (PE.pV (Tr.p_var (pv 3))) Tr.ag_nil))))
    (Tr.s_cons (Tr.s_par2 (i := 5) (j := 6) rfl sc_law.nd rfl rfl (by decide) rfl rfl (Tr.lx_cons (PE.vx (PE.pv (Tr.x_lc (own := [("_law_operation", 14)]) rfl sc_law.nd (Tr.i_seq (PE.pv (Tr.x_callG (C__law_all.le (by decide)) (takes_of rfl rfl rfl rfl) hr rfl (Tr.ag_v (PE.pV (Tr.p_var (pv 4))) Tr.ag_nil)))) (blkOk_by (own := [("_law_operation", 14)]) (N := N_law) (sc := (defScope s_law)) (by decide +kernel)) (fun _ _ _ _ _ => (Tr.g_name sc_law.nd rfl (.inl rfl))) (fun _ _ _ _ _ => Tr.t_nil) (fun _ _ _ _ _ => (PE.px (Tr.p_ix (Tr.p_var (pv 14)) Tr.p_int (fun _ _ => rfl)))) (by decide)))) (Tr.lx_cons (PE.vx (PE.pv (Tr.x_callG (C__law_other.le (by decide)) (takes_of rfl rfl rfl rfl) hr rfl (Tr.ag_v (PE.pV (Tr.p_var (pv 4))) (Tr.ag_v (PE.pV (Tr.p_var (pv 3))) Tr.ag_nil))))) Tr.lx_nil)) (by rfl))
    (Tr.s_cons (Tr.s_par2 (i := 7) (j := 8) rfl sc_law.nd rfl rfl (by decide) rfl rfl (Tr.lx_cons (PE.vx (PE.pv (Tr.x_makeG (k := 7) M_Store (takes_of rfl rfl rfl rfl) (hr.le (by decide)) rfl (Tr.ag_v (PE.pV (Tr.p_var (pv 3))) (Tr.ag_v (PE.pV (Tr.p_var (pv 4))) Tr.ag_nil))))) (Tr.lx_cons (PE.vx (PE.pv (Tr.x_makeG (k := 7) M_Store (takes_of rfl rfl rfl rfl) (hr.le (by decide)) rfl (Tr.ag_v (PE.pV (Tr.p_var (pv 3))) (Tr.ag_v (PE.pV (Tr.p_var (pv 6))) Tr.ag_nil))))) Tr.lx_nil)) (by rfl))
    (Tr.s_cons (Tr.s_par2 (i := 9) (j := 10) rfl sc_law.nd rfl rfl (by decide) rfl rfl (Tr.lx_cons (PE.vx (PE.pv (Tr.x_callG (C__law_run.le (by decide)) (takes_of rfl rfl rfl rfl) hr rfl (Tr.ag_l (pv 2) (Tr.ag_v (PE.pV (Tr.p_var (pv 5))) (Tr.ag_v (PE.pV Tr.p_int) Tr.ag_nil)))))) (Tr.lx_cons (PE.vx (PE.pv (Tr.x_callG (C__law_run.le (by decide)) (takes_of rfl rfl rfl rfl) hr rfl (Tr.ag_l (pv 2) (Tr.ag_v (PE.pV (Tr.p_var (pv 5))) (Tr.ag_v (PE.pV Tr.p_int) Tr.ag_nil)))))) Tr.lx_nil)) (by rfl))
    (Tr.s_cons (Tr.s_if (Tr.y_cmp (op_eqD hr.toRoom.units) eqD_ok.s (PE.pv (Tr.x_callG (C__law_take.le (by decide)) (takes_of rfl rfl rfl rfl) hr rfl (Tr.ag_l (pv 2) (Tr.ag_v (PE.pV Tr.p_int) Tr.ag_nil)))) (PE.pV Tr.p_int) (nomark _)) (Tr.s_one (Tr.s_setF (i := 10) sc_law.nd rfl (.inl rfl) (PE.px (Tr.p_op op_mulB mulAD_ok (Tr.p_var (pv 10)) Tr.p_int)))) Tr.s_nil)
    (Tr.s_cons (Tr.s_for (passes_of rfl) rfl (Tr.i_seq (PE.pV (Tr.p_lst (Tr.lp_cons (Tr.p_var (pv 9)) (Tr.lp_cons (Tr.p_var (pv 10)) (Tr.lp_cons (Tr.p_op op_addA addD_ok (Tr.p_var (pv 9)) (Tr.p_var (pv 10))) (Tr.lp_cons (Tr.p_tup Tr.lp_nil) Tr.lp_nil))))))) (Tr.g_name sc_law.nd rfl (.inl rfl)) (Tr.s_one (Tr.s_if (Tr.y_not (Tr.y_val (PE.pv (Tr.x_callG (C__law_right.le (by decide)) (takes_of rfl rfl rfl rfl) hr rfl (Tr.ag_v (PE.pV (Tr.p_var (pv 7))) (Tr.ag_v (PE.pv (Tr.x_callG (C__law_table.le (by decide)) (takes_of rfl rfl rfl rfl) hr rfl (Tr.ag_v (PE.pV (Tr.p_var (pv 4))) Tr.ag_nil))) (Tr.ag_v (PE.pV (Tr.p_var (pv 3))) (Tr.ag_v (PE.pV (Tr.p_var (pv 11))) Tr.ag_nil)))))))) (Tr.s_one (Tr.s_ret (PE.px Tr.p_bl))) Tr.s_nil)))
    (Tr.s_cons (Tr.s_if (PW.pt (Tr.y_or (Tr.y_not (Tr.y_val (PE.pv (Tr.x_callG (C__law_right.le (by decide)) (takes_of rfl rfl rfl rfl) hr rfl (Tr.ag_v (PE.pV (Tr.p_var (pv 8))) (Tr.ag_v (PE.pv (Tr.x_callG (C__law_table.le (by decide)) (takes_of rfl rfl rfl rfl) hr rfl (Tr.ag_v (PE.pV (Tr.p_var (pv 6))) Tr.ag_nil))) (Tr.ag_v (PE.pV (Tr.p_var (pv 3))) (Tr.ag_v (PE.pV (Tr.p_var (pv 9))) Tr.ag_nil)))))))) (Tr.y_or1 (Tr.y_not (Tr.y_val (PE.pv (Tr.x_callG (C__law_right.le (by decide)) (takes_of rfl rfl rfl rfl) hr rfl (Tr.ag_v (PE.pV (Tr.p_var (pv 7))) (Tr.ag_v (PE.pv (Tr.x_callG (C__law_table.le (by decide)) (takes_of rfl rfl rfl rfl) hr rfl (Tr.ag_v (PE.pV (Tr.p_var (pv 4))) Tr.ag_nil))) (Tr.ag_v (PE.pV (Tr.p_var (pv 3))) (Tr.ag_v (PE.pV (Tr.p_var (pv 9))) Tr.ag_nil))))))))))) (Tr.s_one (Tr.s_ret (PE.px Tr.p_bl))) Tr.s_nil)
    (Tr.s_one (Tr.s_if (Tr.y_not (Tr.y_val (PE.pv (Tr.x_callG (C__law_joined.le (by decide)) (takes_of rfl rfl rfl rfl) hr rfl (Tr.ag_v (PE.pV (Tr.p_var (pv 7))) (Tr.ag_v (PE.pV (Tr.p_var (pv 3))) (Tr.ag_v (PE.pV (Tr.p_var (pv 9))) (Tr.ag_v (PE.pV (Tr.p_var (pv 10))) Tr.ag_nil)))))))) (Tr.s_one (Tr.s_ret (PE.px Tr.p_bl))) Tr.s_nil))))))))))))
    (Tr.s_cons (Tr.s_setF (i := 12) sc_law.nd rfl (.inl rfl) (Tr.x_makeG (k := 7) M_Store (takes_of rfl rfl rfl rfl) (hr.le (by decide)) rfl (Tr.ag_v (PE.pV Tr.p_int) (Tr.ag_v (PE.pV (Tr.p_tup (Tr.lp_cons (Tr.p_tup (Tr.lp_cons (Tr.p_tup (Tr.lp_cons Tr.p_str (Tr.lp_cons (Tr.p_tup (Tr.lp_cons Tr.p_int (Tr.lp_cons Tr.p_int Tr.lp_nil))) (Tr.lp_cons (Tr.p_tup (Tr.lp_cons Tr.p_int (Tr.lp_cons (Tr.p_op op_pow powD_ok.s Tr.p_int Tr.p_int) Tr.lp_nil))) Tr.lp_nil)))) Tr.lp_nil)) (Tr.lp_cons (Tr.p_tup (Tr.lp_cons (Tr.p_tup (Tr.lp_cons Tr.p_str (Tr.lp_cons (Tr.p_tup (Tr.lp_cons Tr.p_int (Tr.lp_cons Tr.p_int Tr.lp_nil))) (Tr.lp_cons (Tr.p_tup (Tr.lp_cons Tr.p_int (Tr.lp_cons Tr.p_int Tr.lp_nil))) Tr.lp_nil)))) Tr.lp_nil)) Tr.lp_nil)))) Tr.ag_nil))))
    (Tr.s_cons (Tr.s_if (Tr.y_cmp (op_eqD hr.toRoom.units) eqD_ok.s (PE.pv (Tr.x_callG (C__law_take.le (by decide)) (takes_of rfl rfl rfl rfl) hr rfl (Tr.ag_l (pv 2) (Tr.ag_v (PE.pV Tr.p_int) Tr.ag_nil)))) (PE.pV Tr.p_int) (nomark _)) (Tr.s_cons (Tr.s_par2 (i := 11) (j := 13) rfl sc_law.nd rfl rfl (by decide) rfl rfl (Tr.lx_cons (PE.vx (PE.pV (Tr.p_op op_mulB mulAD_ok (Tr.p_tup (Tr.lp_cons Tr.p_str (Tr.lp_cons Tr.p_str (Tr.lp_cons Tr.p_str (Tr.lp_cons Tr.p_str Tr.lp_nil))))) Tr.p_int))) (Tr.lx_cons (PE.vx (PE.pv (Tr.x_callG (C__law_take.le (by decide)) (takes_of rfl rfl rfl rfl) hr rfl (Tr.ag_l (pv 2) (Tr.ag_v (PE.pV Tr.p_int) Tr.ag_nil))))) Tr.lx_nil)) (by rfl))
    (Tr.s_cons (Tr.s_if (PW.pt (Tr.y_and (PT.qy (Tr.q_cmp (op_eqD hr.toRoom.units) eqD_ok (PE.pb (Tr.p_var (pv 13))) (PE.pb Tr.p_int) (nomark _))) (Tr.y_and1 (Tr.y_cmp (op_neD hr.toRoom.units) neD_ok.s (PE.pv (Tr.x_callG (C_after.le (by decide)) (takes_of rfl rfl rfl rfl) hr rfl (Tr.ag_v (PE.pV (Tr.p_var (pv 12))) (Tr.ag_v (PE.pV Tr.p_int) (Tr.ag_v (PE.pV (Tr.p_var (pv 11))) Tr.ag_nil))))) (PE.pV Tr.p_int) (nomark _))))) (Tr.s_one (Tr.s_ret (PE.px Tr.p_bl))) Tr.s_nil)
    (Tr.s_one (Tr.s_if (PW.pt (Tr.y_and (PT.qy (Tr.q_cmp (op_eqD hr.toRoom.units) eqD_ok (PE.pb (Tr.p_var (pv 13))) (PE.pb Tr.p_int) (nomark _))) (Tr.y_and1 (Tr.y_cmp (op_neD hr.toRoom.units) neD_ok.s (Tr.v_slice (PE.pv (Tr.x_callG (C_answers_of.le (by decide)) (takes_of rfl rfl rfl rfl) hr rfl (Tr.ag_v (PE.pV (Tr.p_var (pv 12))) (Tr.ag_v (PE.pV Tr.p_int) (Tr.ag_v (PE.pV (Tr.p_var (pv 11))) Tr.ag_nil))))) (Tr.o_some Tr.p_int) Tr.o_none) (PE.pV (Tr.p_tup (Tr.lp_cons Tr.p_int (Tr.lp_cons Tr.p_int (Tr.lp_cons (Tr.p_op op_pow powD_ok.s Tr.p_int Tr.p_int) (Tr.lp_cons Tr.p_int (Tr.lp_cons Tr.p_int (Tr.lp_cons Tr.p_int Tr.lp_nil)))))))) (nomark _))))) (Tr.s_one (Tr.s_ret (PE.px Tr.p_bl))) Tr.s_nil)))) Tr.s_nil)
    (Tr.s_cons (Tr.s_setF (i := 11) sc_law.nd rfl (.inl rfl) (PE.px (Tr.p_tup (Tr.lp_cons Tr.p_str (Tr.lp_cons Tr.p_str (Tr.lp_cons Tr.p_str (Tr.lp_cons Tr.p_str (Tr.lp_cons Tr.p_str Tr.lp_nil))))))))
    (Tr.s_one (Tr.s_ret (PE.vx (Tr.v_and (Tr.v_cmp (op_eqD hr.toRoom.units) eqD_ok.s (PE.pv (Tr.x_callG (C_passed.le (by decide)) (takes_of rfl rfl rfl rfl) hr rfl (Tr.ag_v (PE.pV (Tr.p_var (pv 12))) (Tr.ag_v (PE.pV Tr.p_int) (Tr.ag_v (PE.pV (Tr.p_var (pv 11))) Tr.ag_nil))))) (PE.pV (Tr.p_tup (Tr.lp_cons Tr.p_int (Tr.lp_cons Tr.p_int (Tr.lp_cons Tr.p_int (Tr.lp_cons Tr.p_int (Tr.lp_cons Tr.p_int (Tr.lp_cons Tr.p_int Tr.lp_nil)))))))) (nomark _)) (Tr.v_one (Tr.v_cmp (op_eqD hr.toRoom.units) eqD_ok.s (PE.pv (Tr.x_callG (C_answers_of.le (by decide)) (takes_of rfl rfl rfl rfl) hr rfl (Tr.ag_v (PE.pV (Tr.p_var (pv 12))) (Tr.ag_v (PE.pV Tr.p_int) (Tr.ag_v (PE.pV (Tr.p_var (pv 11))) Tr.ag_nil))))) (PE.pV (Tr.p_tup (Tr.lp_cons Tr.p_int (Tr.lp_cons Tr.p_int (Tr.lp_cons Tr.p_int (Tr.lp_cons (Tr.p_op op_pow powD_ok.s Tr.p_int Tr.p_int) (Tr.lp_cons Tr.p_int Tr.lp_nil))))))) (nomark _)))))))))))
/-! ### Store -/
abbrev s_Store_init : Stmt := clsDef (topS 35) 0
theorem sc_Store_init : FnScope ["self", "size", "offices"] ["self", "size", "offices"] (defScope s_Store_init) := ⟨rfl, rfl, rfl, by decide +kernel, rfl, by decide +kernel, by decide +kernel⟩
theorem ok_Store_init {P : Program} {w : World} {K : PySem.W.Frag} {mg : Str → Option Value} {base : Heap} {f : Addr} {fd : FuncData} {A_Store : Addr} (F : Fun K "__init__" "Store.__init__" s_Store_init f fd) (cl_Store : Cls K A_Store) (n1 : NoAttr K A_Store "size") (n2 : NoAttr K A_Store "offices") (C_check_offices : CalG P w K mg base 6 "check_offices" 2 F_check_offices) :
    FnG P w K mg base 7 f fd ["self", "size", "offices"] (spMk K mg A_Store "size" "offices" F_check_offices) := by
  refine (fng_of (k := 6) (t := fun E => tSeq (tDrop (tCallSD (spF K mg 2 F_check_offices) [] (WE (fun cls d _ H => E cls d H)) (tCons (tVar 1) (tCons (tVar 2) tNil)))) (tSeq (sFld K (tVar 0) (tVar 1) "size") (sFld K (tVar 0) (tVar 2) "offices"))) F sc_Store_init ?_).weak (fun vs H Q E h => spMk_ok (Wx := fun E => fun cls d _ H => E cls d H) rfl cl_Store n1 n2 (by decide) (fun _ _ => rfl) vs H Q E h)
  intro cdv A outer s H E hr
  conv => arg 2; whnf
  exact pss_cons (ps_expr (pe_callG (C_check_offices.le (by decide)) (takes_of rfl rfl rfl rfl) hr rfl (pa_cons (pv 1) (pa_cons (pv 2) pa_nil)))) (pss_cons (ps_fld (pv 0) (pv 1) rfl) (pss_one (ps_fld (pv 0) (pv 2) rfl)))
end K09
namespace Tr
open PySem L2
/-! ### loops, in plain words -/
theorem lcL_filter {t : D → Rho → Option Rho} {q : Mo Bool} {fe : Mo O} {vs : List Nat} {p : D → Bool} {g : D → O} {ρ : Rho} : ∀ {ds : List D}, (∀ d ∈ ds, ∃ ρ1, t d ρ = some ρ1 ∧ q ρ1 = some (.ok (p d) ρ1) ∧ wipeR ρ1 vs = ρ ∧ (p d = true → ∃ ρ2, fe ρ1 = some (.ok (g d) ρ2) ∧ wipeR ρ2 vs = ρ)) →
    lcL t q fe vs ds ρ = some ((ds.filter p).map g, ρ)
  | [], _ => rfl
  | d :: ds, h => by
    obtain ⟨ρ1, h1, h2, h3, h4⟩ := h d (List.mem_cons_self ..)
    have ih := lcL_filter (ds := ds) fun d' m => h d' (List.mem_cons_of_mem _ m)
    unfold lcL
    rw [h1]
    dsimp only
    rw [h2]
    cases hp : p d with
    | true =>
      obtain ⟨ρ2, h5, h6⟩ := h4 hp
      dsimp only
      rw [h5]
      dsimp only
      rw [h6, ih, List.filter_cons_of_pos hp]
      rfl
    | false =>
      dsimp only
      rw [h3, ih, List.filter_cons_of_neg (by rw [hp]; exact Bool.false_ne_true)]
theorem lcL_map {t : D → Rho → Option Rho} {q : Mo Bool} {fe : Mo O} {vs : List Nat} {g : D → O} {ρ : Rho} {ds : List D} (h : ∀ d ∈ ds, ∃ ρ1 ρ2, t d ρ = some ρ1 ∧ q ρ1 = some (.ok true ρ1) ∧ wipeR ρ1 vs = ρ ∧ fe ρ1 = some (.ok (g d) ρ2) ∧ wipeR ρ2 vs = ρ) :
    lcL t q fe vs ds ρ = some (ds.map g, ρ) := by
  have := lcL_filter (t := t) (q := q) (fe := fe) (vs := vs) (p := fun _ => true) (g := g) (ρ := ρ) (ds := ds) fun d m => by
    obtain ⟨ρ1, ρ2, h1, h2, h3, h4, h5⟩ := h d m
    exact ⟨ρ1, h1, h2, h3, fun _ => ⟨ρ2, h4, h5⟩⟩
  rw [this, List.filter_eq_self.mpr fun _ _ => rfl]
theorem find_map {α β : Type} {p : β → Bool} {f : α → β} : ∀ (l : List α), (l.map f).find? p = (l.find? (p ∘ f)).map f
  | [] => rfl
  | a :: l => by
    rw [List.map_cons, List.find?_cons, List.find?_cons]
    show (match p (f a) with | true => some (f a) | false => List.find? p (List.map f l)) = Option.map f (match p (f a) with | true => some a | false => List.find? (p ∘ f) l)
    cases p (f a) with
    | true => rfl
    | false => exact find_map l
/-- a loop that goes on, or ends in a turn -/
theorem forL_find {α : Type} {t : D → Rho → Option Rho} {b : MS} {f : α → D} {St : Rho → Prop} {p : α → Bool} {Ex : α → So → Prop} (hEx : ∀ a r, Ex a r → (∃ o ρ, r = .rt o ρ) ∨ ∃ c fs ρ, r = .ex c fs ρ) : ∀ {as : List α},
    (∀ a ∈ as, ∀ ρ, St ρ → ∃ ρ1, t (f a) ρ = some ρ1 ∧ (p a = true → ∃ ρ2, b ρ1 = some (.nx ρ2) ∧ St ρ2) ∧ (p a = false → ∃ r, b ρ1 = some r ∧ Ex a r)) → ∀ ρ, St ρ →
    (as.find? (fun a => !p a) = none → ∃ ρ', forL t b (as.map f) ρ = some (.nx ρ') ∧ St ρ') ∧ (∀ a, as.find? (fun a => !p a) = some a → ∃ r, forL t b (as.map f) ρ = some r ∧ Ex a r)
  | [], _, ρ, hs => ⟨fun _ => ⟨ρ, rfl, hs⟩, fun a e => nomatch e⟩
  | a :: as, h, ρ, hs => by
    obtain ⟨ρ1, h1, h2, h3⟩ := h a (List.mem_cons_self ..) ρ hs
    rw [List.find?_cons, List.map_cons]
    unfold forL
    rw [h1]
    dsimp only
    cases hp : p a with
    | true =>
      obtain ⟨ρ2, h4, h5⟩ := h2 hp
      rw [h4]
      exact forL_find hEx (fun a' m => h a' (List.mem_cons_of_mem _ m)) ρ2 h5
    | false =>
      obtain ⟨r, h4, h5⟩ := h3 hp
      refine ⟨fun e => (by cases e), fun a' e => ?_⟩
      have e' : some a = some a' := e
      cases e'
      rw [h4]
      rcases hEx _ _ h5 with ⟨o, ρ', rfl⟩ | ⟨c, fs, ρ', rfl⟩ <;> exact ⟨_, rfl, h5⟩
/-- a loop whose every turn goes on: an invariant over what was walked -/
theorem forL_inv {α : Type} {t : D → Rho → Option Rho} {b : MS} {f : α → D} {St : List α → Rho → Prop} : ∀ {bs as : List α}, (∀ a l r, bs ++ as = l ++ a :: r → bs.length ≤ l.length → ∀ ρ, St l ρ → ∃ ρ1 ρ2, t (f a) ρ = some ρ1 ∧ (b ρ1 = some (.nx ρ2) ∨ b ρ1 = some (.ct ρ2)) ∧ St (l ++ [a]) ρ2) → ∀ ρ, St bs ρ → ∃ ρ', forL t b (as.map f) ρ = some (.nx ρ') ∧ St (bs ++ as) ρ'
  | bs, [], _, ρ, hs => ⟨ρ, rfl, by rw [List.append_nil]; exact hs⟩
  | bs, a :: as, h, ρ, hs => by
    obtain ⟨ρ1, ρ2, h1, h2, h3⟩ := h a bs as rfl (Nat.le_refl _) ρ hs
    have ih := forL_inv (bs := bs ++ [a]) (as := as) (t := t) (b := b) (f := f) (St := St) (fun a' l r e hl => h a' l r (by rw [← e, List.append_assoc]; rfl) (by rw [List.length_append] at hl; simp at hl; omega)) ρ2 h3
    obtain ⟨ρ', e1, e2⟩ := ih
    rw [List.append_assoc] at e2
    refine ⟨ρ', ?_, e2⟩
    rw [List.map_cons]
    unfold forL
    rw [h1]
    dsimp only
    rcases h2 with h2 | h2 <;> (rw [h2]; exact e1)
theorem rngD_eq (n : Nat) : rngD 0 n = (List.range n).map fun i => D.int (i : Nat) := by
  unfold rngD
  apply List.map_congr_left
  intro i _
  rw [Int.zero_add]
theorem enumD_eq (ds : List D) : enumD ds = (List.range ds.length).map fun i => .tup [.int (i : Nat), ds.getD i .non] := by
  unfold enumD
  apply List.ext_getElem?
  intro i
  rw [List.getElem?_mapIdx, List.getElem?_map]
  by_cases h : i < ds.length
  · rw [List.getElem?_range h, List.getElem?_eq_getElem h, Option.map_some, Option.map_some, List.getD_eq_getElem?_getD, List.getElem?_eq_getElem h]
    rfl
  · rw [List.getElem?_eq_none (by omega), List.getElem?_eq_none (by simpa using h)]
    rfl
theorem atI_nat' {α : Type} {xs : List α} {j : Nat} {x : α} (h : xs[j]? = some x) : atI xs (j : Int) = some x := L2.atI_nat h
theorem mkL_map {α : Type} (f : α → D) (l : List α) : mkL (l.map fun d => O.fr (f d)) = .fl (l.map f) := by
  have e : (l.map fun d => O.fr (f d)) = (l.map f).map .fr := by rw [List.map_map]; rfl
  rw [e, mkL_fr]
theorem mkL_fr' (ds : List D) : mkL (ds.map .fr) = .fl ds := mkL_fr ds
/-! ### comparing whole numbers and lists of them -/
theorem pys_map (ns : List Int) : D.pys (ns.map .int) = ns.map PyData.int := by
  induction ns with
  | nil => rw [List.map_nil, List.map_nil, D.pys]
  | cons n ns ih => rw [List.map_cons, List.map_cons, D.pys, D.py, ih]
theorem isPy_int (n : Int) : D.isPy (.int n) = true := by first | rfl | simp [D.isPy]
theorem arePy_map (ns : List Int) : D.arePy (ns.map .int) = true := by
  induction ns with
  | nil => rw [List.map_nil, D.arePy]
  | cons n ns ih => rw [List.map_cons, D.arePy, isPy_int, ih]; rfl
theorem lay_map (ns : List Int) : PyData.canLayAll0 (ns.map PyData.int) = true ∧ PyData.depthAll (ns.map PyData.int) = 0 := by
  induction ns with
  | nil => rw [List.map_nil, PyData.canLayAll0, PyData.depthAll]; exact ⟨rfl, rfl⟩
  | cons n ns ih => rw [List.map_cons, PyData.canLayAll0, PyData.depthAll, ih.1, ih.2, PyData.canLay0, PyData.depth]; exact ⟨rfl, rfl⟩
theorem eqv_map : ∀ (ns ms : List Int), PyData.eqvAll (ns.map PyData.int) (ms.map PyData.int) = decide (ns = ms)
  | [], [] => by simp [PyData.eqvAll]
  | [], _ :: _ => by simp [PyData.eqvAll]
  | _ :: _, [] => by simp [PyData.eqvAll]
  | n :: ns, m :: ms => by
    rw [List.map_cons, List.map_cons, PyData.eqvAll, PyData.eqv, eqv_map ns ms]
    by_cases h : n = m <;> simp [h]
theorem okPy_int (i : Int) : okPy (.int i) = true := by unfold okPy; rw [isPy_int, D.py]; first | rfl | (simp [SeqAt.shaped, PyData.canLay0, PyData.depth])
theorem okPy_tup (ns : List Int) : okPy (.tup (ns.map .int)) = true := by
  unfold okPy SeqAt.shaped
  rw [D.isPy, D.py, arePy_map, pys_map, PyData.canLay0, PyData.depth, (lay_map ns).1, (lay_map ns).2]; rfl
theorem okPy_lst (ns : List Int) : okPy (.lst (ns.map .int)) = true := by
  unfold okPy SeqAt.shaped
  rw [D.isPy, D.py, arePy_map, pys_map, PyData.canLay0, PyData.depth, (lay_map ns).1, (lay_map ns).2]; rfl
theorem eqD_int (i j : Int) : eqD (.int i) (.int j) = some (.bl (decide (i = j))) := by
  unfold eqD
  rw [okPy_int, okPy_int, if_pos ⟨rfl, rfl⟩, D.py, D.py, PyData.eqv]
  by_cases h : i = j <;> simp [h]
theorem neD_int (i j : Int) : neD (.int i) (.int j) = some (.bl (!decide (i = j))) := by
  unfold neD
  rw [okPy_int, okPy_int, if_pos ⟨rfl, rfl⟩, D.py, D.py, PyData.eqv]
  by_cases h : i = j <;> simp [h]
theorem eqD_tup (ns ms : List Int) : eqD (.tup (ns.map .int)) (.tup (ms.map .int)) = some (.bl (decide (ns = ms))) := by
  unfold eqD
  rw [okPy_tup, okPy_tup, if_pos ⟨rfl, rfl⟩, D.py, D.py, pys_map, pys_map, PyData.eqv, eqv_map]
theorem neD_lst (ns ms : List Int) : neD (.lst (ns.map .int)) (.lst (ms.map .int)) = some (.bl (!decide (ns = ms))) := by
  unfold neD
  rw [okPy_lst, okPy_lst, if_pos ⟨rfl, rfl⟩, D.py, D.py, pys_map, pys_map, PyData.eqv, eqv_map]
theorem eqD_lst (ns ms : List Int) : eqD (.lst (ns.map .int)) (.lst (ms.map .int)) = some (.bl (decide (ns = ms))) := by
  unfold eqD
  rw [okPy_lst, okPy_lst, if_pos ⟨rfl, rfl⟩, D.py, D.py, pys_map, pys_map, PyData.eqv, eqv_map]
theorem bools_map (bs : List Bool) : bools (bs.map .bl) = some bs := by
  induction bs with
  | nil => rfl
  | cons b bs ih => rw [List.map_cons, bools, ih]; rfl
theorem allD_map (ds : List D) (f : D → Bool) : allD (.lst (ds.map fun d => .bl (f d))) = some (.bl (ds.all f)) := by
  have e : (ds.map fun d => D.bl (f d)) = (ds.map f).map .bl := by rw [List.map_map]; rfl
  unfold allD
  rw [e]
  dsimp only
  rw [bools_map]
  simp [List.all_map]
theorem nodup_sub_len : ∀ {l m : List Int}, l.Nodup → (∀ x ∈ l, x ∈ m) → l.length ≤ m.length
  | [], _, _, _ => Nat.zero_le _
  | a :: l, m, hn, hs => by
    rw [List.nodup_cons] at hn
    have ha := hs a (List.mem_cons_self ..)
    have ih := nodup_sub_len (l := l) (m := m.erase a) hn.2 fun x hx => (List.mem_erase_of_ne fun e => hn.1 (by rw [← e]; exact hx)).mpr (hs x (List.mem_cons_of_mem _ hx))
    rw [List.length_erase_of_mem ha] at ih
    have := List.length_pos_of_mem ha
    rw [List.length_cons]; omega
def rgI (n : Nat) : List Int := (List.range n).map fun (i : Nat) => (Nat.cast i : Int)
theorem rgI_len (n : Nat) : (rgI n).length = n := by unfold rgI; rw [List.length_map, List.length_range]
theorem rgI_mem (n : Nat) (x : Int) : x ∈ rgI n ↔ 0 ≤ x ∧ x < n := by
  unfold rgI
  rw [List.mem_map]
  constructor
  · rintro ⟨i, hi, rfl⟩
    rw [List.mem_range] at hi
    omega
  · intro h
    exact ⟨x.toNat, by rw [List.mem_range]; omega, by omega⟩
theorem rgI_nodup (n : Nat) : (rgI n).Nodup := by
  unfold rgI
  refine List.Pairwise.map _ (fun a b (h : a ≠ b) e => h (by omega)) List.nodup_range
theorem rgI_sorted (n : Nat) : (rgI n).Pairwise (· ≤ ·) := by
  unfold rgI
  refine List.Pairwise.map _ (fun a b (h : a < b) => by omega) List.pairwise_lt_range
theorem rngD_rgI (n : Nat) : rngD 0 n = (rgI n).map .int := by rw [rngD_eq]; unfold rgI; rw [List.map_map]; rfl
/-- the numbers 0 .. n - 1 in some order, told by their set and by sorting -/
theorem perm_rg {ns : List Int} {n : Nat} (hl : ns.length = n) : (ns.Nodup ∧ ∀ x ∈ ns, 0 ≤ x ∧ x < n) ↔ sortI ns = rgI n := by
  constructor
  · rintro ⟨hn, hb⟩
    have hsub : ∀ x ∈ ns, x ∈ rgI n := fun x hx => (rgI_mem n x).mpr (hb x hx)
    have hp : ns.Perm (rgI n) := by
      rw [List.perm_ext_iff_of_nodup hn (rgI_nodup n)]
      intro x
      refine ⟨hsub x, fun hx => Classical.byContradiction fun hc => ?_⟩
      have := nodup_sub_len (l := x :: ns) (m := rgI n) (List.nodup_cons.mpr ⟨hc, hn⟩) fun y hy => by
        rcases List.mem_cons.mp hy with rfl | hy
        · exact hx
        · exact hsub y hy
      rw [rgI_len, List.length_cons] at this
      omega
    exact sorted_uniq ((sortI_perm ns).trans hp) (sortI_pw ns) (rgI_sorted n)
  · intro e
    have hp : ns.Perm (rgI n) := by rw [← e]; exact (sortI_perm ns).symm
    exact ⟨hp.nodup_iff.mpr (rgI_nodup n), fun x hx => (rgI_mem n x).mp (hp.mem_iff.mp hx)⟩
/-- a slot that may be written anew -/
def stbS : Sl → Bool
  | .no => true
  | .ow _ => true
  | .le _ => false
theorem stb_at (i : Nat) (ρ : Rho) : stb i ρ = match ρ[i]? with
    | some s => stbS s
    | none => false := by
  unfold stb
  cases ρ[i]? with
  | none => rfl
  | some s => cases s <;> rfl
theorem stbS_no : stbS .no = true := rfl
theorem stbS_ow (o : O) : stbS (.ow o) = true := rfl
end Tr
set_option maxHeartbeats 4000000
namespace K09
open PySem PySem.Spec L2 Tr
def isI : D → Bool
  | .int _ => true
  | _ => false
def below (d : D) (n : Int) : Bool := match d with
  | .int i => decide (0 ≤ i) && decide (i < n)
  | _ => false
theorem is_integer_eq (d : D) (h : d.isPy = true) : F_is_integer [.ow (.fr d)] = some (.ret (.fr (.bl (isI d))) [.no]) := by
  cases d <;> first | rfl | (rw [D.isPy] at h; cases h)
theorem is_number_eq (d : D) (h : d.isPy = true) : F_is_number [.ow (.fr d)] = some (.ret (.fr (.bl (match d with | .int i => decide (0 ≤ i) | _ => false))) [.no]) := by
  have e := is_integer_eq d h
  unfold F_is_number m_is_number
  cases d <;> first
    | (rw [D.isPy] at h; cases h; done)
    | (simp [pu1, pu2, mo1, mo2, cst, var, bor, con, conAt, flD, puV, frM, frzM, ofP, mov, frzS, tupP, lpN, lpC, lstP, lxN, lxC, lstX, lvN, lvC, tupV, andV, orV, notV, andP, orP, notP, ifP, ifM, tb, tbM, quM, notQ, notY, andQ, orQ, andY, orY, seqS, ifS, retS, retN, nxS, setF, setS, dropS, agN, agV, agL, callM, toSl, back, noDup, lents, Sl.tr, Sl.put, O.fz, gN, gT, gsN, gsC, stb_at, stbS_no, stbS_ow, frOk, wipeR, unw, itS, itR1, itR2, itE, asgS, par2, par3, raiS, chn, yes, moL, moLv, lent, runF, forS, onI0, onI, ltD, leD, gtD, geD, subD, negD, isND, notND, mkL_map, sizeLine_eq, D.isN, D.sq, D.lsq, e, isI]; done)
theorem is_below_eq (d : D) (n : Int) (h : d.isPy = true) : F_is_below [.ow (.fr d), .ow (.fr (.int n))] = some (.ret (.fr (.bl (below d n))) [.no, .no]) := by
  have e := is_number_eq d h
  unfold F_is_below m_is_below
  cases d with
  | int i =>
    by_cases h0 : 0 ≤ i <;> simp [pu1, pu2, mo1, mo2, cst, var, bor, con, conAt, flD, puV, frM, frzM, ofP, mov, frzS, tupP, lpN, lpC, lstP, lxN, lxC, lstX, lvN, lvC, tupV, andV, orV, notV, andP, orP, notP, ifP, ifM, tb, tbM, quM, notQ, notY, andQ, orQ, andY, orY, seqS, ifS, retS, retN, nxS, setF, setS, dropS, agN, agV, agL, callM, toSl, back, noDup, lents, Sl.tr, Sl.put, O.fz, gN, gT, gsN, gsC, stb_at, stbS_no, stbS_ow, frOk, wipeR, unw, itS, itR1, itR2, itE, asgS, par2, par3, raiS, chn, yes, moL, moLv, lent, runF, forS, onI0, onI, ltD, leD, gtD, geD, subD, negD, isND, notND, mkL_map, sizeLine_eq, D.isN, D.sq, D.lsq, e, below, h0]
  | _ => first
    | (rw [D.isPy] at h; cases h; done)
    | (simp [pu1, pu2, mo1, mo2, cst, var, bor, con, conAt, flD, puV, frM, frzM, ofP, mov, frzS, tupP, lpN, lpC, lstP, lxN, lxC, lstX, lvN, lvC, tupV, andV, orV, notV, andP, orP, notP, ifP, ifM, tb, tbM, quM, notQ, notY, andQ, orQ, andY, orY, seqS, ifS, retS, retN, nxS, setF, setS, dropS, agN, agV, agL, callM, toSl, back, noDup, lents, Sl.tr, Sl.put, O.fz, gN, gT, gsN, gsC, stb_at, stbS_no, stbS_ow, frOk, wipeR, unw, itS, itR1, itR2, itE, asgS, par2, par3, raiS, chn, yes, moL, moLv, lent, runF, forS, onI0, onI, ltD, leD, gtD, geD, subD, negD, isND, notND, mkL_map, sizeLine_eq, D.isN, D.sq, D.lsq, e, below]; done)
def isT : D → Bool
  | .tup _ => true
  | _ => false
theorem isiT_eq (d : D) (h : d.isPy = true) : isiD "tuple" d = some (.bl (isT d)) := by
  cases d <;> first | rfl | (rw [D.isPy] at h; cases h)
theorem arePy_mem : ∀ {ds : List D}, D.arePy ds = true → ∀ d ∈ ds, d.isPy = true
  | d :: ds, h, d', m => by
    rw [D.arePy, Bool.and_eq_true] at h
    rcases List.mem_cons.mp m with rfl | m
    · exact h.1
    · exact arePy_mem h.2 d' m
def rowD (r : List Int) : D := .tup (r.map D.int)
def rowN (r : List Int) (n : Nat) (m : Int) : Prop := r.length = n ∧ ∀ x ∈ r, 0 ≤ x ∧ x < m
theorem py_int (i : Int) : (D.int i).isPy = true := isPy_int i
theorem below_t {x m : Int} (h : 0 ≤ x ∧ x < m) : below (.int x) m = true := by
  show (decide (0 ≤ x) && decide (x < m)) = true
  rw [decide_eq_true h.1, decide_eq_true h.2]; rfl
theorem frz_x {f : Mo O} {ρ ρ1 : Rho} {d : D} (h : f ρ = some (.ok (.fr d) ρ1)) : frzM f ρ = some (.ok d ρ1) := by unfold frzM; rw [h]; rfl
theorem frz_fl {f : Mo O} {ρ ρ1 : Rho} {ds : List D} (h : f ρ = some (.ok (.fl ds) ρ1)) : frzM f ρ = some (.ok (.lst ds) ρ1) := by unfold frzM; rw [h]; rfl
theorem frz_od {f : Mo O} {ρ ρ1 : Rho} {ds : List (Key × D)} (h : f ρ = some (.ok (.od ds) ρ1)) : frzM f ρ = some (.ok (.dic ds) ρ1) := by unfold frzM; rw [h]; rfl
theorem lcM_ok {mi : Mo (List D)} {t : D → Rho → Option Rho} {q : Mo Bool} {fe : Mo O} {vs : List Nat} {ρ ρ0 ρ1 : Rho} {ds : List D} {os : List O} (h1 : mi ρ = some (.ok ds ρ0)) (h2 : frOk ρ0 vs = true) (h3 : lcL t q fe vs ds (wipeR ρ0 vs) = some (os, ρ1)) : lcM mi t q fe vs ρ = some (.ok (mkL os) (unw ρ0 ρ1 vs)) := by
  unfold lcM
  rw [h1]
  dsimp only
  rw [if_pos h2, h3]
theorem call_v {F : FS} {f : Mo D} {ρ ρ1 : Rho} {d1 : D} {r : O} (h1 : f ρ = some (.ok d1 ρ1)) (h3 : F [.ow (.fr d1)] = some (.ret r [.no])) : callM 1 F (agV f agN) ρ = some (.ok r ρ1) := by
  simp [callM, agV, agN, h1, toSl, noDup, lents, back, h3]
theorem call_vv {F : FS} {f g : Mo D} {ρ ρ1 ρ2 : Rho} {d1 d2 : D} {r : O} (h1 : f ρ = some (.ok d1 ρ1)) (h2 : g ρ1 = some (.ok d2 ρ2)) (h3 : F [.ow (.fr d1), .ow (.fr d2)] = some (.ret r [.no, .no])) : callM 2 F (agV f (agV g agN)) ρ = some (.ok r ρ2) := by
  simp [callM, agV, agN, h1, h2, toSl, noDup, lents, back, h3]
theorem call_vvv {F : FS} {f g h : Mo D} {ρ ρ1 ρ2 ρ3 : Rho} {d1 d2 d3 : D} {r : O} (h1 : f ρ = some (.ok d1 ρ1)) (h2 : g ρ1 = some (.ok d2 ρ2)) (h3 : h ρ2 = some (.ok d3 ρ3)) (h4 : F [.ow (.fr d1), .ow (.fr d2), .ow (.fr d3)] = some (.ret r [.no, .no, .no])) : callM 3 F (agV f (agV g (agV h agN))) ρ = some (.ok r ρ3) := by
  simp [callM, agV, agN, h1, h2, h3, toSl, noDup, lents, back, h4]
theorem run_rt {N n : Nat} {m : MS} {args : List Sl} {ρ : Rho} {o : O} {outs : List Sl} (h : m (args ++ List.replicate (N - n) .no) = some (.rt o ρ)) (hl : n ≤ ρ.length) (ho : (ρ.take n).map lent = outs) : runF N n m args = some (.ret o outs) := by
  unfold runF
  rw [h]
  dsimp only
  rw [if_pos hl, ho]
theorem run_nx {N n : Nat} {m : MS} {args : List Sl} {ρ : Rho} {outs : List Sl} (h : m (args ++ List.replicate (N - n) .no) = some (.nx ρ)) (hl : n ≤ ρ.length) (ho : (ρ.take n).map lent = outs) : runF N n m args = some (.ret (.fr .non) outs) := by
  unfold runF
  rw [h]
  dsimp only
  rw [if_pos hl, ho]
/-! ### letters, names -/
def lowS : Str := "abcdefghijklmnopqrstuvwxyz"
def isLow (c : Nat) : Prop := c ∈ lowS.cps.toList
theorem is_letter_eq {c : Nat} (h : isLow c) : F_is_letter [.ow (.fr (sgn c))] = some (.ret (.fr (.bl true)) [.no]) := by
  have l : pu1 lenD (var 0) [.ow (.fr (sgn c))] = some (.int 1) := rfl
  have e : pu2 eqD (pu1 lenD (var 0)) (cst (.int 1)) [.ow (.fr (sgn c))] = some (.bl true) := by
    unfold pu2
    rw [l]
    exact (eqD_int 1 1).trans (by rw [decide_eq_true rfl])
  have i : pu2 (inAD false) (var 0) (cst (.str "abcdefghijklmnopqrstuvwxyz")) [.ow (.fr (sgn c))] = some (.bl true) := by
    show some (D.bl (decide (c ∈ lowS.cps.toList))) = _
    rw [decide_eq_true (show c ∈ lowS.cps.toList from h)]
  unfold F_is_letter
  refine run_rt (ρ := [.ow (.fr (sgn c))]) ?_ (Nat.le_refl _) rfl
  show m_is_letter [.ow (.fr (sgn c))] = _
  unfold m_is_letter retS ofP andP
  rw [e]
  dsimp only
  rw [i]
/-- a name: one to five letters -/
def NameOk (z : Str) : Prop := 1 ≤ z.length ∧ z.length ≤ 5 ∧ ∀ c ∈ z.cps.toList, isLow c
theorem is_name_eq {z : Str} (h : NameOk z) : F_is_name [.ow (.fr (.str z))] = some (.ret (.fr (.bl true)) [.no]) := by
  obtain ⟨h1, h2, h3⟩ := h
  have hz : z.length ≤ sizeLine := by rw [sizeLine_eq]; omega
  have l : lenD (.str z) = some (.int (Nat.cast z.length)) := if_pos hz
  have it : itC (puV (var 0)) [.ow (.fr (.str z)), .no] = some (.ok (z.cps.toList.map sgn) [.ow (.fr (.str z)), .no]) := by
    show (if z.length ≤ sizeLine then some (Re.ok (z.cps.toList.map sgn) [.ow (.fr (.str z)), .no]) else none) = _
    rw [if_pos hz]
  have lc : lcL (gN 1) yes (callM 1 F_is_letter (agV (puV (var 1)) agN)) [1] (z.cps.toList.map sgn) [.ow (.fr (.str z)), .no] = some ((z.cps.toList.map sgn).map (fun _ => O.fr (.bl true)), [.ow (.fr (.str z)), .no]) :=
    lcL_map (g := fun _ => O.fr (.bl true)) fun d m => by
      obtain ⟨c, hc, rfl⟩ := List.mem_map.mp m
      exact ⟨[.ow (.fr (.str z)), .ow (.fr (sgn c))], [.ow (.fr (.str z)), .ow (.fr (sgn c))], rfl, rfl, rfl, call_v rfl (is_letter_eq (h3 c hc)), rfl⟩
  have lm := lcM_ok it rfl lc
  rw [show (z.cps.toList.map sgn).map (fun _ => O.fr (.bl true)) = (z.cps.toList.map sgn).map (fun d => O.fr ((fun _ => D.bl true) d)) from rfl, mkL_map] at lm
  have al : allD (.lst ((z.cps.toList.map sgn).map fun _ => D.bl true)) = some (.bl true) := by
    have := allD_map (z.cps.toList.map sgn) (fun _ => true)
    rw [this]; simp
  have c : quM (orQ (notQ (tb (pu1 (isiD "str") (var 0)))) (notQ (tb (chn leD leD (cst (.int 1)) (pu1 lenD (var 0)) (cst (.int 5)))))) [.ow (.fr (.str z)), .no] = some (.ok false [.ow (.fr (.str z)), .no]) := by
    have t : chn leD leD (cst (.int 1)) (pu1 lenD (var 0)) (cst (.int 5)) [.ow (.fr (.str z)), .no] = some (.bl true) := by
      have v : pu1 lenD (var 0) [.ow (.fr (.str z)), .no] = some (.int (Nat.cast z.length)) := l
      unfold chn
      simp only [cst, v]
      have a1 : leD (.int 1) (.int (Nat.cast z.length)) = some (.bl (decide ((1 : Int) ≤ Nat.cast z.length))) := rfl
      have a2 : leD (.int (Nat.cast z.length)) (.int 5) = some (.bl (decide ((Nat.cast z.length : Int) ≤ 5))) := rfl
      rw [a1, decide_eq_true (by omega), a2, decide_eq_true (by omega)]
    have s : pu1 (isiD "str") (var 0) [.ow (.fr (.str z)), .no] = some (.bl true) := rfl
    simp [quM, orQ, notQ, tb, t, s]
  unfold F_is_name
  refine run_rt (ρ := [.ow (.fr (.str z)), .no]) ?_ (by simp) rfl
  show m_is_name [.ow (.fr (.str z)), .no] = _
  unfold m_is_name seqS ifS
  rw [c]
  simp only [nxS, retS, frM, mo1, frzM, lm, O.fz, al, if_false]
  rfl
end K09
set_option maxHeartbeats 4000000
namespace K09
open PySem PySem.Spec L2 Tr
/-! ### rows -/
theorem rowD_py (r : List Int) : (rowD r).isPy = true := by unfold rowD; rw [D.isPy]; exact arePy_map r
theorem lenD_row (r : List Int) : lenD (rowD r) = some (.int (Nat.cast r.length)) := by
  show some (D.int (Nat.cast (r.map D.int).length)) = _
  rw [List.length_map]
theorem is_row_eq {r : List Int} {n : Nat} {m : Int} (h : rowN r n m) : F_is_row [.ow (.fr (rowD r)), .ow (.fr (.int (Nat.cast n))), .ow (.fr (.int m))] = some (.ret (.fr (.bl true)) [.no, .no, .no]) := by
  have lc : lcL (gN 3) yes (callM 2 F_is_below (agV (puV (var 3)) (agV (puV (var 2)) agN))) [3] (r.map D.int) [.ow (.fr (rowD r)), .ow (.fr (.int (Nat.cast n))), .ow (.fr (.int m)), .no] = some ((r.map D.int).map (fun d => O.fr ((fun _ => D.bl true) d)), [.ow (.fr (rowD r)), .ow (.fr (.int (Nat.cast n))), .ow (.fr (.int m)), .no]) :=
    lcL_map (g := fun d => O.fr ((fun _ => D.bl true) d)) fun d hd => by
      obtain ⟨x, hx, rfl⟩ := List.mem_map.mp hd
      have e := is_below_eq (.int x) m (isPy_int x)
      rw [below_t (h.2 x hx)] at e
      exact ⟨[.ow (.fr (rowD r)), .ow (.fr (.int (Nat.cast n))), .ow (.fr (.int m)), .ow (.fr (.int x))], [.ow (.fr (rowD r)), .ow (.fr (.int (Nat.cast n))), .ow (.fr (.int m)), .ow (.fr (.int x))], rfl, rfl, rfl, call_vv rfl rfl e, rfl⟩
  have lm := lcM_ok (mi := itS (puV (var 0))) (ρ := [.ow (.fr (rowD r)), .ow (.fr (.int (Nat.cast n))), .ow (.fr (.int m)), .no]) rfl rfl lc
  rw [mkL_map] at lm
  have al : allD (.lst ((r.map D.int).map fun _ => D.bl true)) = some (.bl true) := by
    have := allD_map (r.map D.int) (fun _ => true)
    rw [this]; simp
  have e2 : eqD (.int (Nat.cast r.length)) (.int (Nat.cast n)) = some (.bl true) := by rw [h.1, eqD_int, decide_eq_true rfl]
  have a1 : puV (pu1 (isiD "tuple") (var 0)) [.ow (.fr (rowD r)), .ow (.fr (.int (Nat.cast n))), .ow (.fr (.int m)), .no] = some (.ok (.bl true) [.ow (.fr (rowD r)), .ow (.fr (.int (Nat.cast n))), .ow (.fr (.int m)), .no]) := rfl
  have a2 : puV (pu2 eqD (pu1 lenD (var 0)) (var 1)) [.ow (.fr (rowD r)), .ow (.fr (.int (Nat.cast n))), .ow (.fr (.int m)), .no] = some (.ok (.bl true) [.ow (.fr (rowD r)), .ow (.fr (.int (Nat.cast n))), .ow (.fr (.int m)), .no]) := by
    have v : pu1 lenD (var 0) [.ow (.fr (rowD r)), .ow (.fr (.int (Nat.cast n))), .ow (.fr (.int m)), .no] = some (.int (Nat.cast r.length)) := lenD_row r
    have w : var 1 [.ow (.fr (rowD r)), .ow (.fr (.int (Nat.cast n))), .ow (.fr (.int m)), .no] = some (.int (Nat.cast n)) := rfl
    unfold puV pu2
    rw [v, w]
    dsimp only
    rw [e2]
  unfold F_is_row
  refine run_rt (ρ := [.ow (.fr (rowD r)), .ow (.fr (.int (Nat.cast n))), .ow (.fr (.int m)), .no]) ?_ (by simp) rfl
  show m_is_row [.ow (.fr (rowD r)), .ow (.fr (.int (Nat.cast n))), .ow (.fr (.int m)), .no] = _
  unfold m_is_row retS frM andV
  rw [a1]
  dsimp only
  rw [a2]
  dsimp only
  have a3 : mo1 allD (frzM (lcM (itS (puV (var 0))) (gN 3) yes (callM 2 F_is_below (agV (puV (var 3)) (agV (puV (var 2)) agN))) [3])) [.ow (.fr (rowD r)), .ow (.fr (.int (Nat.cast n))), .ow (.fr (.int m)), .no] = some (.ok (.bl true) [.ow (.fr (rowD r)), .ow (.fr (.int (Nat.cast n))), .ow (.fr (.int m)), .no]) := by
    unfold mo1
    rw [frz_fl lm]
    dsimp only
    rw [al]; rfl
  rw [a3]
/-! ### operations and stores -/
structure Opn where
  name : Str
  ends : List Int
  ans : List Int
def opD (o : Opn) : D := .tup [.str o.name, rowD o.ends, rowD o.ans]
abbrev Off := List Opn
def offD (f : Off) : D := .tup (f.map opD)
def offsD (os : List Off) : D := .tup (os.map offD)
def storeD (A : Addr) (n : Nat) (os : List Off) : D := .ob A [("size", .int (Nat.cast n)), ("offices", offsD os)]
structure OpOk (n : Nat) (o : Opn) : Prop where
  name : NameOk o.name
  ends : rowN o.ends n n
  ans : rowN o.ans n 1000000000001
theorem is_operation_eq {n : Nat} {o : Opn} (h : OpOk n o) : F_is_operation [.ow (.fr (opD o)), .ow (.fr (.int (Nat.cast n)))] = some (.ret (.fr (.bl true)) [.no, .no]) := by
  have e1 := is_name_eq h.name
  have e2 := is_row_eq h.ends
  have e3 := is_row_eq h.ans
  have ne : neD (.int 3) (.int 3) = some (.bl false) := by rw [neD_int]; rfl
  have c1 := call_v (F := F_is_name) (f := puV (pu2 ixD (var 0) (cst (.int 0)))) (ρ := [.ow (.fr (opD o)), .ow (.fr (.int (Nat.cast n)))]) (d1 := .str o.name) rfl e1
  have c2 := call_vvv (F := F_is_row) (f := puV (pu2 ixD (var 0) (cst (.int 1)))) (g := puV (var 1)) (h := puV (var 1)) (ρ := [.ow (.fr (opD o)), .ow (.fr (.int (Nat.cast n)))]) (d1 := rowD o.ends) rfl rfl rfl e2
  have c3 := call_vvv (F := F_is_row) (f := puV (pu2 ixD (var 0) (cst (.int 2)))) (g := puV (var 1)) (h := puV (pu2 addD (cst (.int 1000000000000)) (cst (.int 1)))) (ρ := [.ow (.fr (opD o)), .ow (.fr (.int (Nat.cast n)))]) (d1 := rowD o.ans) rfl rfl rfl e3
  have l3 : puV (pu1 lenD (var 0)) [.ow (.fr (opD o)), .ow (.fr (.int (Nat.cast n)))] = some (.ok (.int 3) [.ow (.fr (opD o)), .ow (.fr (.int (Nat.cast n)))]) := rfl
  have q1 : quM (notQ (tb (pu1 (isiD "tuple") (var 0)))) [.ow (.fr (opD o)), .ow (.fr (.int (Nat.cast n)))] = some (.ok false [.ow (.fr (opD o)), .ow (.fr (.int (Nat.cast n)))]) := rfl
  have q2 : quM (tb (pu2 neD (pu1 lenD (var 0)) (cst (.int 3)))) [.ow (.fr (opD o)), .ow (.fr (.int (Nat.cast n)))] = some (.ok false [.ow (.fr (opD o)), .ow (.fr (.int (Nat.cast n)))]) := by
    have v : pu1 lenD (var 0) [.ow (.fr (opD o)), .ow (.fr (.int (Nat.cast n)))] = some (.int 3) := rfl
    simp only [quM, tb, pu2, v, cst, ne]
  unfold F_is_operation
  refine run_rt (ρ := [.ow (.fr (opD o)), .ow (.fr (.int (Nat.cast n)))]) ?_ (Nat.le_refl _) rfl
  show m_is_operation [.ow (.fr (opD o)), .ow (.fr (.int (Nat.cast n)))] = _
  have cc : orY (quM (notQ (tb (pu1 (isiD "tuple") (var 0))))) (orY (quM (tb (pu2 neD (pu1 lenD (var 0)) (cst (.int 3))))) (notY (tbM (frzM (callM 1 F_is_name (agV (puV (pu2 ixD (var 0) (cst (.int 0)))) agN)))))) [.ow (.fr (opD o)), .ow (.fr (.int (Nat.cast n)))] = some (.ok false [.ow (.fr (opD o)), .ow (.fr (.int (Nat.cast n)))]) := by
    simp only [orY, q1, q2, notY, tbM, frz_x c1]
    rfl
  unfold m_is_operation seqS ifS
  rw [cc]
  simp only [nxS, retS, frM, andV, frz_x c2, frz_x c3]
end K09
set_option maxHeartbeats 4000000
namespace K09
open PySem PySem.Spec L2 Tr
theorem seq_nx {f g : MS} {ρ ρ' : Rho} (h : f ρ = some (.nx ρ')) : seqS f g ρ = g ρ' := by unfold seqS; rw [h]
theorem if_t {q : Mo Bool} {a b : MS} {ρ ρ' : Rho} (h : q ρ = some (.ok true ρ')) : ifS q a b ρ = a ρ' := by unfold ifS; rw [h]
theorem if_f {q : Mo Bool} {a b : MS} {ρ ρ' : Rho} (h : q ρ = some (.ok false ρ')) : ifS q a b ρ = b ρ' := by unfold ifS; rw [h]
theorem drop_of {f : Mo O} {ρ ρ' : Rho} {o : O} (h : f ρ = some (.ok o ρ')) : dropS f ρ = some (.nx ρ') := by unfold dropS; rw [h]
theorem set_of {i : Nat} {f : Mo O} {ρ ρ' : Rho} {d : D} (h : f ρ = some (.ok (.fr d) ρ')) (hs : ∃ s, ρ'[i]? = some s ∧ stbS s = true) : setF i f ρ = some (.nx (ρ'.set i (.ow (.fr d)))) := by
  obtain ⟨s, h1, h2⟩ := hs
  unfold setF setS frM frzM
  rw [h]
  simp [O.fz, stb_at, h1, h2]
theorem set_o {i : Nat} {f : Mo O} {ρ ρ' : Rho} {o : O} (h : f ρ = some (.ok o ρ')) (hs : ∃ s, ρ'[i]? = some s ∧ stbS s = true) : setF i f ρ = some (.nx (ρ'.set i (.ow (.fr o.fz)))) := by
  obtain ⟨s, h1, h2⟩ := hs
  unfold setF setS frM frzM
  rw [h]
  simp [O.fz, stb_at, h1, h2]
theorem pu_of {f : Pu D} {ρ : Rho} {d : D} (h : f ρ = some d) : puV f ρ = some (.ok d ρ) := by unfold puV; rw [h]
theorem pu1_of {g : D → Option D} {f : Pu D} {ρ : Rho} {d e : D} (h : f ρ = some d) (hg : g d = some e) : pu1 g f ρ = some e := by unfold pu1; rw [h]; exact hg
theorem pu2_of {g : D → D → Option D} {f k : Pu D} {ρ : Rho} {d e r : D} (h : f ρ = some d) (hk : k ρ = some e) (hg : g d e = some r) : pu2 g f k ρ = some r := by unfold pu2; rw [h, hk]; exact hg
def frS (s : Sl) : Prop := s = .no ∨ ∃ d, s = .ow (.fr d)
theorem frS_stb {s : Sl} (h : frS s) : stbS s = true := by rcases h with rfl | ⟨d, rfl⟩ <;> rfl
/-! ### a valid store is let pass -/
structure StOk (n : Nat) (os : List Off) : Prop where
  n1 : 1 ≤ n
  n2 : n ≤ 200
  ops : ∀ o ∈ os.flatten, OpOk n o
  nd : (os.flatten.map Opn.name).Nodup
  lo : 2 ≤ os.length
  hi : os.length ≤ 8
  few : os.flatten.length ≤ 40
def keys (kv : List (Key × D)) : List Key := kv.map (·.1)
theorem any_no {kv : List (Key × D)} {k : Key} (h : k ∉ keys kv) : (kv.any fun p => decide (p.1 = k)) = false := by
  rw [List.any_eq_false]
  intro p hp e
  exact h (by rw [← of_decide_eq_true e]; exact List.mem_map.mpr ⟨p, hp, rfl⟩)
theorem any_yes {kv : List (Key × D)} {k : Key} (h : k ∈ keys kv) : (kv.any fun p => decide (p.1 = k)) = true := by
  obtain ⟨p, hp, e⟩ := List.mem_map.mp h
  exact List.any_eq_true.mpr ⟨p, hp, decide_eq_true e⟩
theorem put_keys {kv : List (Key × D)} {k : Key} {d : D} (h : k ∉ keys kv) : keys (putD kv k d) = keys kv ++ [k] ∧ putD kv k d = kv ++ [(k, d)] := by
  unfold putD
  rw [any_no h, if_neg (by simp)]
  exact ⟨by unfold keys; rw [List.map_append]; rfl, rfl⟩
def nk (ops : List Opn) : List Key := ops.map fun o => .inr o.name
def oR (n : Nat) (os : List Off) (kv : List (Key × D)) (s3 s4 s5 : Sl) : Rho := [.ow (.fr (.int (Nat.cast n))), .ow (.fr (offsD os)), .ow (.od kv), s3, s4, s5]
def oB1 : MS := (seqS (ifS (orY (notY (tbM (frzM (callM 2 F_is_operation (agV (puV (var 5)) (agV (puV (var 0)) agN)))))) (quM (tb (pu2 (inK false) (pu2 ixD (var 5) (cst (.int 0))) (con 2))))) nvS nxS) (stoD 2 (puV (var 3)) (pu2 ixD (var 5) (cst (.int 0)))))
theorem oB1_eq {n : Nat} {os : List Off} {kv : List (Key × D)} {i : Int} {s4 : Sl} {o : Opn} (ho : OpOk n o) (hk : (.inr o.name : Key) ∉ keys kv) (hl : kv.length ≤ 1000) :
    oB1 (oR n os kv (.ow (.fr (.int i))) s4 (.ow (.fr (opD o)))) = some (.nx (oR n os (kv ++ [(.inr o.name, .int i)]) (.ow (.fr (.int i))) s4 (.ow (.fr (opD o))))) := by
  have c1 := call_vv (F := F_is_operation) (f := puV (var 5)) (g := puV (var 0)) (ρ := oR n os kv (.ow (.fr (.int i))) s4 (.ow (.fr (opD o)))) (d1 := opD o) rfl rfl (is_operation_eq ho)
  have v : pu2 ixD (var 5) (cst (.int 0)) (oR n os kv (.ow (.fr (.int i))) s4 (.ow (.fr (opD o)))) = some (.str o.name) := rfl
  have q : quM (tb (pu2 (inK false) (pu2 ixD (var 5) (cst (.int 0))) (con 2))) (oR n os kv (.ow (.fr (.int i))) s4 (.ow (.fr (opD o)))) = some (.ok false (oR n os kv (.ow (.fr (.int i))) s4 (.ow (.fr (opD o))))) := by
    have e : inK false (.str o.name) (.dic kv) = some (.bl false) := by
      show some (D.bl (kv.any fun p => decide (p.1 = (.inr o.name : Key)))) = _
      rw [any_no hk]
    have c : con 2 (oR n os kv (.ow (.fr (.int i))) s4 (.ow (.fr (opD o)))) = some (.dic kv) := rfl
    have := pu2_of v c e
    unfold quM tb
    rw [this]
  have cc : orY (notY (tbM (frzM (callM 2 F_is_operation (agV (puV (var 5)) (agV (puV (var 0)) agN)))))) (quM (tb (pu2 (inK false) (pu2 ixD (var 5) (cst (.int 0))) (con 2)))) (oR n os kv (.ow (.fr (.int i))) s4 (.ow (.fr (opD o)))) = some (.ok false (oR n os kv (.ow (.fr (.int i))) s4 (.ow (.fr (opD o))))) := by
    unfold orY notY tbM
    rw [frz_x c1]
    exact q
  unfold oB1
  have hc : ifS (orY (notY (tbM (frzM (callM 2 F_is_operation (agV (puV (var 5)) (agV (puV (var 0)) agN)))))) (quM (tb (pu2 (inK false) (pu2 ixD (var 5) (cst (.int 0))) (con 2))))) nvS nxS (oR n os kv (.ow (.fr (.int i))) s4 (.ow (.fr (opD o)))) = some (.nx (oR n os kv (.ow (.fr (.int i))) s4 (.ow (.fr (opD o))))) := (if_f cc).trans rfl
  rw [seq_nx hc]
  have hz : kv.length < sizeLine := by rw [sizeLine_eq]; omega
  have e3 : puV (var 3) (oR n os kv (.ow (.fr (.int i))) s4 (.ow (.fr (opD o)))) = some (.ok (.int i) (oR n os kv (.ow (.fr (.int i))) s4 (.ow (.fr (opD o))))) := rfl
  unfold stoD
  rw [e3]
  dsimp only
  rw [v]
  show (if kv.length < sizeLine then some (So.nx ((oR n os kv (.ow (.fr (.int i))) s4 (.ow (.fr (opD o)))).set 2 ((Sl.ow (.od kv)).put (.od (putD kv (.inr o.name) (.int i)))))) else none) = _
  rw [if_pos hz, (put_keys hk).2]
  rfl
end K09
set_option maxHeartbeats 4000000
namespace K09
open PySem PySem.Spec L2 Tr
def oB0 : MS := (seqS (ifS (quM (notQ (tb (pu1 (isiD "tuple") (var 4))))) nvS nxS) (forS (itS (puV (var 4))) (gN 5) oB1))
theorem nk_not {a b : List Opn} {o : Opn} {c : List Opn} (h : ((a ++ o :: c).map Opn.name).Nodup) : (.inr o.name : Key) ∉ nk a := fun m => by
  obtain ⟨p, hp, e⟩ := List.mem_map.mp m
  have e : p.name = o.name := Sum.inr.inj e
  rw [List.map_append, List.map_cons] at h
  have := (List.nodup_append.mp h).2.2 p.name (List.mem_map.mpr ⟨p, hp, rfl⟩) o.name (by simp)
  exact this e
theorem oB0_eq {n : Nat} {os : List Off} {kv : List (Key × D)} {i : Int} {f : Off} {pre post : List Opn} (hok : ∀ o ∈ f, OpOk n o) (hnd : ((pre ++ f ++ post).map Opn.name).Nodup) (hlen : (pre ++ f ++ post).length ≤ 900) (hkv : keys kv = nk pre) {s5 : Sl} (h5 : frS s5) :
    ∃ kv' s5', keys kv' = nk (pre ++ f) ∧ frS s5' ∧ oB0 (oR n os kv (.ow (.fr (.int i))) (.ow (.fr (offD f))) s5) = some (.nx (oR n os kv' (.ow (.fr (.int i))) (.ow (.fr (offD f))) s5')) := by
  have h := forL_inv (α := Opn) (t := gN 5) (b := oB1) (f := opD)
    (St := fun l ρ => ∃ kv s5, keys kv = nk (pre ++ l) ∧ frS s5 ∧ ρ = oR n os kv (.ow (.fr (.int i))) (.ow (.fr (offD f))) s5) (bs := []) (as := f) (fun o l r hl _ ρ ⟨kv, s5, hk, h5, e⟩ => by
      subst e
      have h5' := frS_stb h5
      have hf : f = l ++ o :: r := hl
      have hn : (.inr o.name : Key) ∉ keys kv := by
        rw [hk]
        refine nk_not (b := []) (c := r ++ post) ?_
        rw [hf] at hnd
        simpa [List.append_assoc] using hnd
      have hkl : kv.length ≤ 1000 := by
        have h1 := congrArg List.length hk
        unfold keys nk at h1
        rw [List.length_map, List.length_map] at h1
        rw [hf] at hlen
        simp only [List.length_append, List.length_cons] at h1 hlen
        omega
      have hb := oB1_eq (n := n) (os := os) (kv := kv) (i := i) (s4 := .ow (.fr (offD f))) (hok o (by rw [hf]; simp)) hn hkl
      refine ⟨oR n os kv (.ow (.fr (.int i))) (.ow (.fr (offD f))) (.ow (.fr (opD o))), _, by simp [gN, oR, stb_at, h5'], .inl hb, _, _, ?_, .inr ⟨_, rfl⟩, rfl⟩
      unfold keys at hk ⊢
      rw [List.map_append, hk]
      unfold nk
      simp) (oR n os kv (.ow (.fr (.int i))) (.ow (.fr (offD f))) s5) ⟨kv, s5, by rw [List.append_nil]; exact hkv, h5, rfl⟩
  obtain ⟨ρ', e1, kv', s5', k1, k2, rfl⟩ := h
  refine ⟨kv', s5', by rw [List.nil_append] at k1; exact k1, k2, ?_⟩
  unfold oB0
  rw [seq_nx (show ifS (quM (notQ (tb (pu1 (isiD "tuple") (var 4))))) nvS nxS (oR n os kv (.ow (.fr (.int i))) (.ow (.fr (offD f))) s5) = some (.nx (oR n os kv (.ow (.fr (.int i))) (.ow (.fr (offD f))) s5)) from rfl)]
  unfold forS
  rw [show itS (puV (var 4)) (oR n os kv (.ow (.fr (.int i))) (.ow (.fr (offD f))) s5) = some (.ok (f.map opD) (oR n os kv (.ow (.fr (.int i))) (.ow (.fr (offD f))) s5)) from rfl]
  exact e1
theorem flat_split {os : List Off} {i : Nat} (h : i < os.length) : os.flatten = (os.take i).flatten ++ os[i] ++ (os.drop (i + 1)).flatten := by
  have e : os.flatten = (os.take i ++ os.drop i).flatten := by rw [List.take_append_drop]
  rw [e, List.drop_eq_getElem_cons h, List.flatten_append, List.flatten_cons, List.append_assoc]
theorem flat_take {os : List Off} {i : Nat} (h : i < os.length) : (os.take (i + 1)).flatten = (os.take i).flatten ++ os[i] := by
  rw [List.take_succ, List.getElem?_eq_getElem h, List.flatten_append]
  show _ ++ List.flatten [os[i]] = _
  rw [List.flatten_cons, List.flatten_nil, List.append_nil]
theorem or_ff {f g : Mo Bool} {ρ ρ1 ρ2 : Rho} (hf : f ρ = some (.ok false ρ1)) (hg : g ρ1 = some (.ok false ρ2)) : orY f g ρ = some (.ok false ρ2) := by
  unfold orY
  rw [hf]; dsimp only; rw [hg]
theorem not_t {f : Mo D} {ρ ρ1 : Rho} (h : f ρ = some (.ok (.bl true) ρ1)) : notY (tbM f) ρ = some (.ok false ρ1) := by
  unfold notY tbM
  rw [h]; rfl
theorem check_offices_eq {n : Nat} {os : List Off} (S : StOk n os) : F_check_offices [.ow (.fr (.int (Nat.cast n))), .ow (.fr (offsD os))] = some (.ret (.fr .non) [.no, .no]) := by
  have n1 := S.n1
  have n2 := S.n2
  have h := forL_inv (α := Nat) (t := gT 2 (gsC (gN 3) (gsC (gN 4) gsN))) (b := oB0) (f := fun i => D.tup [.int (Nat.cast i), (os.map offD).getD i .non])
    (St := fun l ρ => ∃ kv s3 s4 s5, keys kv = nk (os.take l.length).flatten ∧ frS s3 ∧ frS s4 ∧ frS s5 ∧ ρ = oR n os kv s3 s4 s5) (bs := []) (as := List.range os.length) (fun i l r hl _ ρ ⟨kv, s3, s4, s5, hk, h3, h4, h5, e⟩ => by
      subst e
      have hlt : l.length < os.length := by
        have := congrArg List.length hl
        simp at this
        omega
      have hil : i = l.length := by
        have := congrArg (fun x : List Nat => x[l.length]?) hl
        simp only [List.nil_append] at this
        rw [List.getElem?_append_right (Nat.le_refl _), Nat.sub_self, List.getElem?_range hlt] at this
        simpa using this.symm
      subst hil
      have hs := flat_split hlt
      have hd : (os.map offD).getD l.length .non = offD os[l.length] := by
        rw [List.getD_eq_getElem?_getD, List.getElem?_map, List.getElem?_eq_getElem hlt]; rfl
      obtain ⟨kv', s5', k1, k2, k3⟩ := oB0_eq (n := n) (os := os) (kv := kv) (i := Nat.cast l.length) (f := os[l.length]) (pre := (os.take l.length).flatten) (post := (os.drop (l.length + 1)).flatten)
        (fun o ho => S.ops o (by rw [hs]; simp [ho])) (by rw [← hs]; exact S.nd) (by rw [← hs]; have := S.few; omega) hk h5
      have b3 := frS_stb h3
      have b4 := frS_stb h4
      refine ⟨oR n os kv (.ow (.fr (.int (Nat.cast l.length)))) (.ow (.fr (offD os[l.length]))) s5, _, ?_, .inl k3, kv', _, _, s5', ?_, .inr ⟨_, rfl⟩, .inr ⟨_, rfl⟩, k2, rfl⟩
      · rw [hd]
        simp [gT, gsC, gsN, gN, oR, stb_at, b3, b4]
      · rw [k1, List.length_append, List.length_singleton, flat_take hlt]) (oR n os [] .no .no .no) ⟨[], .no, .no, .no, rfl, .inl rfl, .inl rfl, .inl rfl, rfl⟩
  obtain ⟨ρ', e1, kv, s3, s4, s5, hk, h3, h4, h5, rfl⟩ := h
  rw [List.nil_append, List.length_range, List.take_length] at hk
  have hkl : kv.length = os.flatten.length := by
    have h1 := congrArg List.length hk
    unfold keys nk at h1
    rw [List.length_map, List.length_map] at h1
    exact h1
  have hb := is_below_eq (.int (Nat.cast n)) 201 (isPy_int _)
  rw [below_t (by omega)] at hb
  have c0 := call_vv (F := F_is_below) (f := puV (var 0)) (g := puV (pu2 addD (cst (.int 200)) (cst (.int 1)))) (ρ := [.ow (.fr (.int (Nat.cast n))), .ow (.fr (offsD os)), .no, .no, .no, .no]) (d1 := .int (Nat.cast n)) (d2 := .int 201) rfl rfl hb
  have q1 : quM (tb (pu2 eqD (var 0) (cst (.int 0)))) [.ow (.fr (.int (Nat.cast n))), .ow (.fr (offsD os)), .no, .no, .no, .no] = some (.ok false [.ow (.fr (.int (Nat.cast n))), .ow (.fr (offsD os)), .no, .no, .no, .no]) := by
    have := pu2_of (g := eqD) (f := var 0) (k := cst (.int 0)) (ρ := [.ow (.fr (.int (Nat.cast n))), .ow (.fr (offsD os)), .no, .no, .no, .no]) rfl rfl (eqD_int (Nat.cast n) 0)
    unfold quM tb
    rw [this, decide_eq_false (by omega)]
  have cc : orY (notY (tbM (frzM (callM 2 F_is_below (agV (puV (var 0)) (agV (puV (pu2 addD (cst (.int 200)) (cst (.int 1)))) agN)))))) (orY (quM (tb (pu2 eqD (var 0) (cst (.int 0))))) (quM (notQ (tb (pu1 (isiD "tuple") (var 1)))))) [.ow (.fr (.int (Nat.cast n))), .ow (.fr (offsD os)), .no, .no, .no, .no] = some (.ok false [.ow (.fr (.int (Nat.cast n))), .ow (.fr (offsD os)), .no, .no, .no, .no]) := by
    exact or_ff (not_t (frz_x c0)) (or_ff q1 rfl)
  have hm : m_check_offices = seqS (ifS (orY (notY (tbM (frzM (callM 2 F_is_below (agV (puV (var 0)) (agV (puV (pu2 addD (cst (.int 200)) (cst (.int 1)))) agN)))))) (orY (quM (tb (pu2 eqD (var 0) (cst (.int 0))))) (quM (notQ (tb (pu1 (isiD "tuple") (var 1))))))) nvS nxS) (seqS (setS 2 dic0) (seqS (forS (itE (puV (var 1))) (gT 2 (gsC (gN 3) (gsC (gN 4) gsN))) oB0)
      (ifS (quM (orQ (notQ (tb (chn leD leD (cst (.int 2)) (pu1 lenD (var 1)) (cst (.int 8))))) (tb (pu2 gtD (pu1 lenKD (con 2)) (cst (.int 40)))))) nvS nxS))) := by
    unfold m_check_offices oB0 oB1; rfl
  unfold F_check_offices
  refine run_nx (ρ := oR n os kv s3 s4 s5) ?_ (by simp [oR]) rfl
  show m_check_offices [.ow (.fr (.int (Nat.cast n))), .ow (.fr (offsD os)), .no, .no, .no, .no] = _
  rw [hm, seq_nx ((if_f cc).trans rfl), seq_nx (show setS 2 dic0 [.ow (.fr (.int (Nat.cast n))), .ow (.fr (offsD os)), .no, .no, .no, .no] = some (.nx (oR n os [] .no .no .no)) from rfl)]
  have s2 : forS (itE (puV (var 1))) (gT 2 (gsC (gN 3) (gsC (gN 4) gsN))) oB0 (oR n os [] .no .no .no) = some (.nx (oR n os kv s3 s4 s5)) := by
    unfold forS
    have : itE (puV (var 1)) (oR n os [] .no .no .no) = some (.ok ((List.range os.length).map fun i => D.tup [.int (Nat.cast i), (os.map offD).getD i .non]) (oR n os [] .no .no .no)) := by
      show some (Re.ok (enumD (os.map offD)) _) = _
      rw [enumD_eq, List.length_map]
    rw [this]
    exact e1
  rw [seq_nx s2]
  have l1 : pu1 lenD (var 1) (oR n os kv s3 s4 s5) = some (.int (Nat.cast os.length)) := by
    show some (D.int (Nat.cast (os.map offD).length)) = _
    rw [List.length_map]
  have l2 : pu1 lenKD (con 2) (oR n os kv s3 s4 s5) = some (.int (Nat.cast os.flatten.length)) := by
    show some (D.int (Nat.cast kv.length)) = _
    rw [hkl]
  have t1 : chn leD leD (cst (.int 2)) (pu1 lenD (var 1)) (cst (.int 8)) (oR n os kv s3 s4 s5) = some (.bl true) := by
    unfold chn
    simp only [cst, l1]
    have a1 : leD (.int 2) (.int (Nat.cast os.length)) = some (.bl (decide ((2 : Int) ≤ Nat.cast os.length))) := rfl
    have a2 : leD (.int (Nat.cast os.length)) (.int 8) = some (.bl (decide ((Nat.cast os.length : Int) ≤ 8))) := rfl
    rw [a1, decide_eq_true (by have := S.lo; omega), a2, decide_eq_true (by have := S.hi; omega)]
  have t2 : pu2 gtD (pu1 lenKD (con 2)) (cst (.int 40)) (oR n os kv s3 s4 s5) = some (.bl false) := by
    refine pu2_of l2 rfl ?_
    show some (D.bl (decide ((40 : Int) < Nat.cast os.flatten.length))) = _
    rw [decide_eq_false (by have := S.few; omega)]
  have qq : quM (orQ (notQ (tb (chn leD leD (cst (.int 2)) (pu1 lenD (var 1)) (cst (.int 8))))) (tb (pu2 gtD (pu1 lenKD (con 2)) (cst (.int 40))))) (oR n os kv s3 s4 s5) = some (.ok false (oR n os kv s3 s4 s5)) := by
    simp [quM, orQ, notQ, tb, t1, t2]
  exact (if_f qq).trans rfl
end K09
set_option maxHeartbeats 4000000
namespace K09
open PySem PySem.Spec L2 Tr
/-! ### the table of a store -/
def ent (o : Opn) : Key × D := (.inr o.name, opD o)
def tabD (ops : List Opn) : List (Key × D) := ops.map ent
theorem keys_tab (ops : List Opn) : keys (tabD ops) = nk ops := by unfold keys tabD nk; rw [List.map_map]; rfl
theorem dcl_in {S : Sl} {g : D} : ∀ (f pre : List Opn), ((pre ++ f).map Opn.name).Nodup → (pre ++ f).length ≤ 1000 →
    dcL (gN 2) yes (puV (pu2 ixD (var 2) (cst (.int 0)))) (puV (var 2)) [2] (tabD pre) (f.map opD) [S, .ow (.fr g), .no] = some (tabD (pre ++ f), [S, .ow (.fr g), .no])
  | [], pre, _, _ => by rw [List.append_nil]; rfl
  | o :: f, pre, h, hl => by
    have hn : (.inr o.name : Key) ∉ keys (tabD pre) := by rw [keys_tab]; exact nk_not (b := []) h
    have hz : (tabD pre).length < sizeLine := by
      unfold tabD
      rw [List.length_map, sizeLine_eq]
      rw [List.length_append] at hl
      omega
    have ih := dcl_in (S := S) (g := g) f (pre ++ [o]) (by rw [List.append_assoc]; exact h) (by rw [List.append_assoc]; exact hl)
    have e : putD (tabD pre) (.inr o.name) (opD o) = tabD (pre ++ [o]) := by
      rw [(put_keys hn).2]
      unfold tabD
      rw [List.map_append]; rfl
    rw [List.map_cons]
    show (if (tabD pre).length < sizeLine then dcL (gN 2) yes (puV (pu2 ixD (var 2) (cst (.int 0)))) (puV (var 2)) [2] (putD (tabD pre) (.inr o.name) (opD o)) (f.map opD) [S, .ow (.fr g), .no] else none) = _
    rw [if_pos hz, e, ih, List.append_assoc]
    rfl
theorem dcl_out {S : Sl} : ∀ (os : List Off) (pre : List Opn), ((pre ++ os.flatten).map Opn.name).Nodup → (pre ++ os.flatten).length ≤ 1000 →
    dcL2 (gN 1) (itS (puV (var 1))) (gN 2) (puV (pu2 ixD (var 2) (cst (.int 0)))) (puV (var 2)) [1, 2] [2] (tabD pre) (os.map offD) [S, .no, .no] = some (tabD (pre ++ os.flatten), [S, .no, .no])
  | [], pre, _, _ => by rw [List.flatten_nil, List.append_nil]; rfl
  | f :: os, pre, h, hl => by
    rw [List.flatten_cons, ← List.append_assoc] at h hl
    have hi := dcl_in (S := S) (g := offD f) f pre (by
      rw [List.map_append] at h
      exact (List.nodup_append.mp h).1) (by rw [List.length_append] at hl; omega)
    have ih := dcl_out (S := S) os (pre ++ f) h hl
    rw [List.map_cons, List.flatten_cons, ← List.append_assoc]
    unfold dcL2
    show (match dcL (gN 2) yes (puV (pu2 ixD (var 2) (cst (.int 0)))) (puV (var 2)) [2] (tabD pre) (f.map opD) [S, .ow (.fr (offD f)), .no] with
      | some (acc', ρ3) => dcL2 (gN 1) (itS (puV (var 1))) (gN 2) (puV (pu2 ixD (var 2) (cst (.int 0)))) (puV (var 2)) [1, 2] [2] acc' (os.map offD) (wipeR ρ3 [1, 2])
      | none => none) = _
    rw [hi]
    exact ih
theorem fld_offs (A : Addr) (n : Nat) (os : List Off) : fldD A "offices" (storeD A n os) = some (offsD os) := by
  show (if A = A then _ else _) = _
  rw [if_pos rfl]; rfl
theorem fld_size (A : Addr) (n : Nat) (os : List Off) : fldD A "size" (storeD A n os) = some (.int (Nat.cast n)) := by
  show (if A = A then _ else _) = _
  rw [if_pos rfl]; rfl
theorem operation_table_eq (A : Addr) {n : Nat} {os : List Off} (S : StOk n os) : F_operation_table A [.ow (.fr (storeD A n os))] = some (.ret (.od (tabD os.flatten)) [.no]) := by
  have h := dcl_out (S := .ow (.fr (storeD A n os))) os [] (by rw [List.nil_append]; exact S.nd) (by rw [List.nil_append]; have := S.few; omega)
  rw [List.nil_append] at h
  have v : pu1 (fldD A "offices") (var 0) [.ow (.fr (storeD A n os)), .no, .no] = some (offsD os) := pu1_of rfl (fld_offs A n os)
  have it : itS (puV (pu1 (fldD A "offices") (var 0))) [.ow (.fr (storeD A n os)), .no, .no] = some (.ok (os.map offD) [.ow (.fr (storeD A n os)), .no, .no]) := by
    unfold itS
    rw [pu_of v]
    rfl
  unfold F_operation_table
  refine run_rt (ρ := [.ow (.fr (storeD A n os)), .no, .no]) ?_ (by simp) rfl
  show m_operation_table A [.ow (.fr (storeD A n os)), .no, .no] = _
  unfold m_operation_table retS dcM2
  rw [it]
  dsimp only
  rw [if_pos (show frOk [.ow (.fr (storeD A n os)), .no, .no] [1, 2] = true from rfl)]
  rw [show wipeR [.ow (.fr (storeD A n os)), .no, .no] [1, 2] = [.ow (.fr (storeD A n os)), .no, .no] from rfl, show dcL2 _ _ _ _ _ _ _ [] _ _ = _ from h]
  rfl
/-- what the table holds -/
theorem tab_val : ∀ {ops : List Opn}, (ops.map Opn.name).Nodup → ∀ o ∈ ops, valD (tabD ops) (.inr o.name) = some (opD o)
  | [], _, o, h => by cases h
  | p :: ops, h, o, ho => by
    rw [List.map_cons, List.nodup_cons] at h
    unfold valD tabD
    rw [List.map_cons, List.find?_cons]
    by_cases e : p.name = o.name
    · rw [show decide ((ent p).1 = (.inr o.name : Key)) = true from decide_eq_true (by show (Sum.inr p.name : Key) = _; rw [e])]
      rcases List.mem_cons.mp ho with rfl | ho
      · rfl
      · exact absurd (List.mem_map.mpr ⟨o, ho, e.symm⟩) h.1
    · rw [show decide ((ent p).1 = (.inr o.name : Key)) = false from decide_eq_false fun z => e (Sum.inr.inj z)]
      rcases List.mem_cons.mp ho with rfl | ho
      · exact absurd rfl e
      · exact tab_val h.2 o ho
end K09
set_option maxHeartbeats 4000000
namespace K09
open PySem PySem.Spec L2 Tr
/-! ### the operations of all offices, sorted -/
def sops (os : List Off) : List Opn := srtG Opn.name os.flatten
theorem sops_perm (os : List Off) : (sops os).Perm os.flatten := srtG_perm _ _
theorem sops_map (os : List Off) : srtG fstK (os.flatten.map opD) = (sops os).map opD := (srtG_map fstK opD os.flatten).symm
theorem sort_ops (ops : List Opn) (h : (ops.map Opn.name).Nodup) : sortOD (.lst (ops.map opD)) = some (srtG fstK (ops.map opD)) := by
  refine if_pos ⟨?_, ?_⟩
  · rw [List.all_eq_true]
    intro d hd
    obtain ⟨o, _, rfl⟩ := List.mem_map.mp hd
    rfl
  · rw [List.map_map]
    exact h
theorem lcl_in {S r2 : Sl} {g : Int} (A : Addr) : ∀ f : List Opn, lcL (gN 3) yes (ofP (var 3)) [3] (f.map opD) [S, r2, .ow (.fr (.int g)), .no] = some ((f.map opD).map O.fr, [S, r2, .ow (.fr (.int g)), .no])
  | [] => rfl
  | o :: f => by
    have ih := lcl_in (S := S) (r2 := r2) (g := g) A f
    rw [List.map_cons, List.map_cons]
    show (match lcL (gN 3) yes (ofP (var 3)) [3] (f.map opD) [S, r2, .ow (.fr (.int g)), .no] with
      | some (os, ρ4) => some (O.fr (opD o) :: os, ρ4)
      | none => none) = _
    rw [ih]
theorem lcl_out (A : Addr) {n : Nat} {os : List Off} {r2 : Sl} : ∀ (js : List Nat), (∀ j ∈ js, j < os.length) →
    lcL2 (gN 2) yes (itS (puV (pu2 ixD (pu1 (fldD A "offices") (var 0)) (var 2)))) (gN 3) yes (ofP (var 3)) [2, 3] [3] (js.map fun j => .int (Nat.cast j)) [.ow (.fr (storeD A n os)), r2, .no, .no] = some ((((js.map fun j => os.getD j []).flatten).map opD).map O.fr, [.ow (.fr (storeD A n os)), r2, .no, .no])
  | [], _ => rfl
  | j :: js, h => by
    have hj := h j (List.mem_cons_self ..)
    have ih := lcl_out A (n := n) (os := os) (r2 := r2) js fun k m => h k (List.mem_cons_of_mem _ m)
    have hi := lcl_in (S := .ow (.fr (storeD A n os))) (r2 := r2) (g := Nat.cast j) A (os.getD j [])
    have hg : (os.map offD)[j]? = some (offD (os.getD j [])) := by
      rw [List.getElem?_map, List.getD_eq_getElem?_getD, List.getElem?_eq_getElem hj]; rfl
    have ix : ixD (offsD os) (.int (Nat.cast j)) = some (offD (os.getD j [])) := atI_nat' hg
    have it : itS (puV (pu2 ixD (pu1 (fldD A "offices") (var 0)) (var 2))) [.ow (.fr (storeD A n os)), r2, .ow (.fr (.int (Nat.cast j))), .no] = some (.ok ((os.getD j []).map opD) [.ow (.fr (storeD A n os)), r2, .ow (.fr (.int (Nat.cast j))), .no]) := by
      unfold itS
      rw [pu_of (pu2_of (pu1_of rfl (fld_offs A n os)) rfl ix)]
      rfl
    rw [List.map_cons, List.map_cons, List.flatten_cons, List.map_append, List.map_append]
    unfold lcL2
    rw [show gN 2 (.int (Nat.cast j)) [.ow (.fr (storeD A n os)), r2, .no, .no] = some [.ow (.fr (storeD A n os)), r2, .ow (.fr (.int (Nat.cast j))), .no] from rfl]
    dsimp only
    rw [show yes [.ow (.fr (storeD A n os)), r2, .ow (.fr (.int (Nat.cast j))), .no] = some (.ok true [.ow (.fr (storeD A n os)), r2, .ow (.fr (.int (Nat.cast j))), .no]) from rfl]
    dsimp only
    rw [it]
    dsimp only
    rw [show wipeR [.ow (.fr (storeD A n os)), r2, .ow (.fr (.int (Nat.cast j))), .no] [3] = [.ow (.fr (storeD A n os)), r2, .ow (.fr (.int (Nat.cast j))), .no] from rfl, hi]
    dsimp only
    rw [show wipeR [.ow (.fr (storeD A n os)), r2, .ow (.fr (.int (Nat.cast j))), .no] [2, 3] = [.ow (.fr (storeD A n os)), r2, .no, .no] from rfl, ih]
theorem all_js (os : List Off) : ((List.range os.length).map fun j => os.getD j []) = os := by
  apply List.ext_getElem?
  intro i
  rw [List.getElem?_map]
  by_cases h : i < os.length
  · rw [List.getElem?_range h, List.getElem?_eq_getElem h]
    show some (os.getD i []) = _
    rw [List.getD_eq_getElem?_getD, List.getElem?_eq_getElem h]; rfl
  · rw [List.getElem?_eq_none (by rw [List.length_range]; omega), List.getElem?_eq_none (by omega)]; rfl
def allD2 (os : List Off) : D := .tup ((List.range os.length).map fun j => .int (Nat.cast j))
theorem operations_of_eq (A : Addr) {n : Nat} {os : List Off} (S : StOk n os) : F_operations_of A [.ow (.fr (storeD A n os)), .ow (.fr (allD2 os))] = some (.ret (.fr (.tup ((sops os).map opD))) [.no, .no]) := by
  have h := lcl_out A (n := n) (os := os) (r2 := .ow (.fr (allD2 os))) (List.range os.length) (fun j m => List.mem_range.mp m)
  rw [all_js] at h
  have hz : ((os.flatten.map opD).map O.fr).length ≤ sizeLine := by
    rw [List.length_map, List.length_map, sizeLine_eq]
    have := S.few
    omega
  have hm : lcM2 (itS (puV (var 1))) (gN 2) yes (itS (puV (pu2 ixD (pu1 (fldD A "offices") (var 0)) (var 2)))) (gN 3) yes (ofP (var 3)) [2, 3] [3] [.ow (.fr (storeD A n os)), .ow (.fr (allD2 os)), .no, .no] = some (.ok (.fl (os.flatten.map opD)) [.ow (.fr (storeD A n os)), .ow (.fr (allD2 os)), .no, .no]) := by
    unfold lcM2
    rw [show itS (puV (var 1)) [.ow (.fr (storeD A n os)), .ow (.fr (allD2 os)), .no, .no] = some (.ok ((List.range os.length).map fun j => .int (Nat.cast j)) [.ow (.fr (storeD A n os)), .ow (.fr (allD2 os)), .no, .no]) from rfl]
    dsimp only
    rw [if_pos (show frOk [.ow (.fr (storeD A n os)), .ow (.fr (allD2 os)), .no, .no] [2, 3] = true from rfl), show wipeR [.ow (.fr (storeD A n os)), .ow (.fr (allD2 os)), .no, .no] [2, 3] = [.ow (.fr (storeD A n os)), .ow (.fr (allD2 os)), .no, .no] from rfl, h]
    dsimp only
    rw [if_pos hz, mkL_fr]
    rfl
  have hs := sort_ops os.flatten S.nd
  rw [sops_map] at hs
  unfold F_operations_of
  refine run_rt (ρ := [.ow (.fr (storeD A n os)), .ow (.fr (allD2 os)), .no, .no]) ?_ (by simp) rfl
  show m_operations_of A [.ow (.fr (storeD A n os)), .ow (.fr (allD2 os)), .no, .no] = _
  unfold m_operations_of retS frM mo1
  rw [frz_fl hm]
  dsimp only
  rw [hs]
  rfl
end K09
set_option maxHeartbeats 4000000
namespace K09
open PySem PySem.Spec L2 Tr
def runD (run : List Str) : D := .tup (run.map .str)
def RunOk (os : List Off) (run : List Str) : Prop := ∀ z ∈ run, ∃ o ∈ os.flatten, o.name = z
theorem need_offices_eq (A : Addr) {n : Nat} {os : List Off} (S : StOk n os) : F_need_offices A [.ow (.fr (storeD A n os)), .ow (.fr .non)] = some (.ret (.fr (allD2 os)) [.no, .no]) := by
  have c : quM (tb (pu2 isND (var 1) (cst .non))) [.ow (.fr (storeD A n os)), .ow (.fr .non)] = some (.ok true [.ow (.fr (storeD A n os)), .ow (.fr .non)]) := rfl
  have v : pu1 (fldD A "offices") (var 0) [.ow (.fr (storeD A n os)), .ow (.fr .non)] = some (offsD os) := pu1_of rfl (fld_offs A n os)
  have l : lenD (offsD os) = some (.int (Nat.cast os.length)) := by
    show some (D.int (Nat.cast (os.map offD).length)) = _
    rw [List.length_map]
  have t : tupRgD (.int (Nat.cast os.length)) = some (allD2 os) := by
    show (if rngOk (Nat.cast os.length) = true then some (D.tup (rngD 0 (Int.toNat (Nat.cast os.length)))) else none) = _
    rw [if_pos (show rngOk (Nat.cast os.length) = true from decide_eq_true (by have := S.hi; omega)), Int.toNat_natCast, rngD_eq]
    rfl
  unfold F_need_offices
  refine run_rt (ρ := [.ow (.fr (storeD A n os)), .ow (.fr .non)]) ?_ (Nat.le_refl _) rfl
  show m_need_offices A [.ow (.fr (storeD A n os)), .ow (.fr .non)] = _
  unfold m_need_offices
  have e : ifS (quM (tb (pu2 isND (var 1) (cst .non)))) (retS (ofP (pu1 tupRgD (pu1 lenD (pu1 (fldD A "offices") (var 0)))))) nxS [.ow (.fr (storeD A n os)), .ow (.fr .non)] = some (.rt (.fr (allD2 os)) [.ow (.fr (storeD A n os)), .ow (.fr .non)]) := by
    rw [if_t c]
    unfold retS ofP
    rw [pu1_of (pu1_of v l) t]
  unfold seqS
  rw [e]
/-! ### the names known -/
def knD (ops : List Opn) : List (Key × D) := ops.map fun o => (.inr o.name, .bl true)
theorem keys_kn (ops : List Opn) : keys (knD ops) = nk ops := by unfold keys knD nk; rw [List.map_map]; rfl
def kR (a b c d e f g : Sl) : Rho := [a, b, c, d, e, f, g, .no]
theorem kn_in {a b c d e f' g : Sl} : ∀ (f pre : List Opn), ((pre ++ f).map Opn.name).Nodup → (pre ++ f).length ≤ 1000 →
    dcL (gN 7) yes (puV (pu2 ixD (var 7) (cst (.int 0)))) (puV (cst (.bl true))) [7] (knD pre) (f.map opD) (kR a b c d e f' g) = some (knD (pre ++ f), kR a b c d e f' g)
  | [], pre, _, _ => by rw [List.append_nil]; rfl
  | o :: f, pre, h, hl => by
    have hn : (.inr o.name : Key) ∉ keys (knD pre) := by rw [keys_kn]; exact nk_not (b := []) h
    have hz : (knD pre).length < sizeLine := by
      unfold knD
      rw [List.length_map, sizeLine_eq]
      rw [List.length_append] at hl
      omega
    have ih := kn_in (a := a) (b := b) (c := c) (d := d) (e := e) (f' := f') (g := g) f (pre ++ [o]) (by rw [List.append_assoc]; exact h) (by rw [List.append_assoc]; exact hl)
    have e1 : putD (knD pre) (.inr o.name) (.bl true) = knD (pre ++ [o]) := by
      rw [(put_keys hn).2]
      unfold knD
      rw [List.map_append]; rfl
    rw [List.map_cons]
    show (if (knD pre).length < sizeLine then dcL (gN 7) yes (puV (pu2 ixD (var 7) (cst (.int 0)))) (puV (cst (.bl true))) [7] (putD (knD pre) (.inr o.name) (.bl true)) (f.map opD) (kR a b c d e f' g) else none) = _
    rw [if_pos hz, e1, ih, List.append_assoc]
    rfl
theorem sops_nd {n : Nat} {os : List Off} (S : StOk n os) : ((sops os).map Opn.name).Nodup := ((sops_perm os).map _).nodup_iff.mpr S.nd
theorem sops_len {n : Nat} {os : List Off} (S : StOk n os) : (sops os).length ≤ 40 := by rw [(sops_perm os).length_eq]; exact S.few
def rB : MS := (ifS (orY (notY (tbM (frzM (callM 1 F_is_name (agV (puV (var 6)) agN))))) (quM (tb (pu2 (inK true) (var 6) (var 4))))) nvS nxS)
theorem check_run_eq (A : Addr) {n : Nat} {os : List Off} (S : StOk n os) {run : List Str} (hr : RunOk os run) : F_check_run A [.ow (.fr (storeD A n os)), .ow (.fr (runD run)), .ow (.fr .non)] = some (.ret (.fr .non) [.no, .no, .no]) := by
  have k := kn_in (a := .ow (.fr (storeD A n os))) (b := .ow (.fr (runD run))) (c := .ow (.fr .non)) (d := .ow (.fr (allD2 os))) (e := .no) (f' := .no) (g := .no) (sops os) [] (by rw [List.nil_append]; exact sops_nd S) (by rw [List.nil_append]; have := sops_len S; omega)
  rw [List.nil_append] at k
  have c1 : quM (tb (pu2 notND (var 2) (cst .non))) (kR (.ow (.fr (storeD A n os))) (.ow (.fr (runD run))) (.ow (.fr .non)) .no .no .no .no) = some (.ok false (kR (.ow (.fr (storeD A n os))) (.ow (.fr (runD run))) (.ow (.fr .non)) .no .no .no .no)) := rfl
  have c2 : quM (notQ (tb (pu1 (isiD "tuple") (var 1)))) (kR (.ow (.fr (storeD A n os))) (.ow (.fr (runD run))) (.ow (.fr .non)) .no .no .no .no) = some (.ok false (kR (.ow (.fr (storeD A n os))) (.ow (.fr (runD run))) (.ow (.fr .non)) .no .no .no .no)) := rfl
  have c3 : setF 3 (ifM (quM (tb (pu2 isND (var 2) (cst .non)))) (callM 2 (F_need_offices A) (agV (puV (var 0)) (agV (puV (cst .non)) agN))) (ofP (tupP (lpC (var 2) lpN)))) (kR (.ow (.fr (storeD A n os))) (.ow (.fr (runD run))) (.ow (.fr .non)) .no .no .no .no) = some (.nx (kR (.ow (.fr (storeD A n os))) (.ow (.fr (runD run))) (.ow (.fr .non)) (.ow (.fr (allD2 os))) .no .no .no)) := by
    have := call_vv (F := F_need_offices A) (f := puV (var 0)) (g := puV (cst .non)) (ρ := kR (.ow (.fr (storeD A n os))) (.ow (.fr (runD run))) (.ow (.fr .non)) .no .no .no .no) (d1 := storeD A n os) (d2 := .non) rfl rfl (need_offices_eq A S)
    refine (set_of (i := 3) (ρ' := kR (.ow (.fr (storeD A n os))) (.ow (.fr (runD run))) (.ow (.fr .non)) .no .no .no .no) (d := allD2 os) ?_ ⟨.no, rfl, rfl⟩).trans rfl
    unfold ifM
    rw [show quM (tb (pu2 isND (var 2) (cst .non))) (kR (.ow (.fr (storeD A n os))) (.ow (.fr (runD run))) (.ow (.fr .non)) .no .no .no .no) = some (.ok true (kR (.ow (.fr (storeD A n os))) (.ow (.fr (runD run))) (.ow (.fr .non)) .no .no .no .no)) from rfl]
    exact this
  have c4 : setF 4 (dcM (itS (frzM (callM 2 (F_operations_of A) (agV (puV (var 0)) (agV (puV (var 3)) agN))))) (gN 7) yes (puV (pu2 ixD (var 7) (cst (.int 0)))) (puV (cst (.bl true))) [7]) (kR (.ow (.fr (storeD A n os))) (.ow (.fr (runD run))) (.ow (.fr .non)) (.ow (.fr (allD2 os))) .no .no .no) = some (.nx (kR (.ow (.fr (storeD A n os))) (.ow (.fr (runD run))) (.ow (.fr .non)) (.ow (.fr (allD2 os))) (.ow (.fr (.dic (knD (sops os))))) .no .no)) := by
    have e := frz_x (call_vv (F := F_operations_of A) (f := puV (var 0)) (g := puV (var 3)) (ρ := kR (.ow (.fr (storeD A n os))) (.ow (.fr (runD run))) (.ow (.fr .non)) (.ow (.fr (allD2 os))) .no .no .no) (d1 := storeD A n os) (d2 := allD2 os) rfl rfl (operations_of_eq A S))
    refine (set_o (i := 4) (ρ' := kR (.ow (.fr (storeD A n os))) (.ow (.fr (runD run))) (.ow (.fr .non)) (.ow (.fr (allD2 os))) .no .no .no) (o := .od (knD (sops os))) ?_ ⟨.no, rfl, rfl⟩).trans rfl
    unfold dcM itS
    rw [e]
    show (if frOk (kR (.ow (.fr (storeD A n os))) (.ow (.fr (runD run))) (.ow (.fr .non)) (.ow (.fr (allD2 os))) .no .no .no) [7] = true then (match dcL (gN 7) yes (puV (pu2 ixD (var 7) (cst (.int 0)))) (puV (cst (.bl true))) [7] [] ((sops os).map opD) (kR (.ow (.fr (storeD A n os))) (.ow (.fr (runD run))) (.ow (.fr .non)) (.ow (.fr (allD2 os))) .no .no .no) with
      | some (kvs, ρ1) => some (Re.ok (O.od kvs) (unw (kR (.ow (.fr (storeD A n os))) (.ow (.fr (runD run))) (.ow (.fr .non)) (.ow (.fr (allD2 os))) .no .no .no) ρ1 [7]))
      | none => none) else none) = _
    rw [if_pos (show frOk (kR (.ow (.fr (storeD A n os))) (.ow (.fr (runD run))) (.ow (.fr .non)) (.ow (.fr (allD2 os))) .no .no .no) [7] = true from rfl), show dcL _ _ _ _ _ [] _ _ = _ from k]
    rfl
  have lp := forL_inv (α := Nat) (t := gT 2 (gsC (gN 5) (gsC (gN 6) gsN))) (b := rB) (f := fun i => D.tup [.int (Nat.cast i), (run.map D.str).getD i .non])
    (St := fun l ρ => ∃ s5 s6, frS s5 ∧ frS s6 ∧ ρ = kR (.ow (.fr (storeD A n os))) (.ow (.fr (runD run))) (.ow (.fr .non)) (.ow (.fr (allD2 os))) (.ow (.fr (.dic (knD (sops os))))) s5 s6) (bs := []) (as := List.range run.length) (fun i l r hl _ ρ ⟨s5, s6, h5, h6, e⟩ => by
      subst e
      have hi : i < run.length := List.mem_range.mp (by rw [show List.range run.length = l ++ i :: r from hl]; simp)
      have hd : (run.map D.str).getD i .non = .str run[i] := by
        rw [List.getD_eq_getElem?_getD, List.getElem?_map, List.getElem?_eq_getElem hi]; rfl
      obtain ⟨o, ho, hon⟩ := hr run[i] (List.getElem_mem hi)
      have hname := is_name_eq (S.ops o ho).name
      have b5 := frS_stb h5
      have b6 := frS_stb h6
      have hk : (.inr run[i] : Key) ∈ keys (knD (sops os)) := by
        rw [keys_kn]
        exact List.mem_map.mpr ⟨o, (sops_perm os).mem_iff.mpr ho, by rw [hon]⟩
      have ek : inK true (.str run[i]) (.dic (knD (sops os))) = some (.bl false) := by
        show some (D.bl (!(knD (sops os)).any fun p => decide (p.1 = (.inr run[i] : Key)))) = _
        rw [any_yes hk]; rfl
      have q : quM (tb (pu2 (inK true) (var 6) (var 4))) (kR (.ow (.fr (storeD A n os))) (.ow (.fr (runD run))) (.ow (.fr .non)) (.ow (.fr (allD2 os))) (.ow (.fr (.dic (knD (sops os))))) (.ow (.fr (.int (Nat.cast i)))) (.ow (.fr (.str run[i])))) = some (.ok false (kR (.ow (.fr (storeD A n os))) (.ow (.fr (runD run))) (.ow (.fr .non)) (.ow (.fr (allD2 os))) (.ow (.fr (.dic (knD (sops os))))) (.ow (.fr (.int (Nat.cast i)))) (.ow (.fr (.str run[i]))))) := by
        have := pu2_of (g := inK true) (f := var 6) (k := var 4) (ρ := (kR (.ow (.fr (storeD A n os))) (.ow (.fr (runD run))) (.ow (.fr .non)) (.ow (.fr (allD2 os))) (.ow (.fr (.dic (knD (sops os))))) (.ow (.fr (.int (Nat.cast i)))) (.ow (.fr (.str run[i]))))) rfl rfl ek
        unfold quM tb
        rw [this]
      rw [hon] at hname
      have q0 : frzM (callM 1 F_is_name (agV (puV (var 6)) agN)) (kR (.ow (.fr (storeD A n os))) (.ow (.fr (runD run))) (.ow (.fr .non)) (.ow (.fr (allD2 os))) (.ow (.fr (.dic (knD (sops os))))) (.ow (.fr (.int (Nat.cast i)))) (.ow (.fr (.str run[i])))) = some (.ok (.bl true) (kR (.ow (.fr (storeD A n os))) (.ow (.fr (runD run))) (.ow (.fr .non)) (.ow (.fr (allD2 os))) (.ow (.fr (.dic (knD (sops os))))) (.ow (.fr (.int (Nat.cast i)))) (.ow (.fr (.str run[i]))))) := frz_x (call_v (F := F_is_name) (f := puV (var 6)) (ρ := (kR (.ow (.fr (storeD A n os))) (.ow (.fr (runD run))) (.ow (.fr .non)) (.ow (.fr (allD2 os))) (.ow (.fr (.dic (knD (sops os))))) (.ow (.fr (.int (Nat.cast i)))) (.ow (.fr (.str run[i]))))) (d1 := .str run[i]) rfl hname)
      have hb : rB (kR (.ow (.fr (storeD A n os))) (.ow (.fr (runD run))) (.ow (.fr .non)) (.ow (.fr (allD2 os))) (.ow (.fr (.dic (knD (sops os))))) (.ow (.fr (.int (Nat.cast i)))) (.ow (.fr (.str run[i])))) = some (.nx (kR (.ow (.fr (storeD A n os))) (.ow (.fr (runD run))) (.ow (.fr .non)) (.ow (.fr (allD2 os))) (.ow (.fr (.dic (knD (sops os))))) (.ow (.fr (.int (Nat.cast i)))) (.ow (.fr (.str run[i]))))) := by
        unfold rB
        exact (if_f (or_ff (not_t q0) q)).trans rfl
      refine ⟨(kR (.ow (.fr (storeD A n os))) (.ow (.fr (runD run))) (.ow (.fr .non)) (.ow (.fr (allD2 os))) (.ow (.fr (.dic (knD (sops os))))) (.ow (.fr (.int (Nat.cast i)))) (.ow (.fr (.str run[i])))), (kR (.ow (.fr (storeD A n os))) (.ow (.fr (runD run))) (.ow (.fr .non)) (.ow (.fr (allD2 os))) (.ow (.fr (.dic (knD (sops os))))) (.ow (.fr (.int (Nat.cast i)))) (.ow (.fr (.str run[i])))), ?_, .inl hb, _, _, .inr ⟨_, rfl⟩, .inr ⟨_, rfl⟩, rfl⟩
      rw [hd]
      simp [gT, gsC, gsN, gN, kR, stb_at, b5, b6]) (kR (.ow (.fr (storeD A n os))) (.ow (.fr (runD run))) (.ow (.fr .non)) (.ow (.fr (allD2 os))) (.ow (.fr (.dic (knD (sops os))))) .no .no) ⟨.no, .no, .inl rfl, .inl rfl, rfl⟩
  obtain ⟨ρ', e1, s5, s6, _, _, rfl⟩ := lp
  have hm : m_check_run A = seqS (ifS (quM (tb (pu2 notND (var 2) (cst .non)))) (dropS (callM 2 (F_need_office A) (agV (puV (var 0)) (agV (puV (var 2)) agN)))) nxS) (seqS (ifS (quM (notQ (tb (pu1 (isiD "tuple") (var 1))))) nvS nxS) (seqS (setF 3 (ifM (quM (tb (pu2 isND (var 2) (cst .non)))) (callM 2 (F_need_offices A) (agV (puV (var 0)) (agV (puV (cst .non)) agN))) (ofP (tupP (lpC (var 2) lpN)))))
      (seqS (setF 4 (dcM (itS (frzM (callM 2 (F_operations_of A) (agV (puV (var 0)) (agV (puV (var 3)) agN))))) (gN 7) yes (puV (pu2 ixD (var 7) (cst (.int 0)))) (puV (cst (.bl true))) [7])) (forS (itE (puV (var 1))) (gT 2 (gsC (gN 5) (gsC (gN 6) gsN))) rB)))) := by
    unfold m_check_run rB; rfl
  unfold F_check_run
  refine run_nx (ρ := kR (.ow (.fr (storeD A n os))) (.ow (.fr (runD run))) (.ow (.fr .non)) (.ow (.fr (allD2 os))) (.ow (.fr (.dic (knD (sops os))))) s5 s6) ?_ (by simp [kR]) rfl
  show m_check_run A (kR (.ow (.fr (storeD A n os))) (.ow (.fr (runD run))) (.ow (.fr .non)) .no .no .no .no) = _
  rw [hm, seq_nx ((if_f c1).trans rfl), seq_nx ((if_f c2).trans rfl), seq_nx c3, seq_nx c4]
  unfold forS
  have : itE (puV (var 1)) (kR (.ow (.fr (storeD A n os))) (.ow (.fr (runD run))) (.ow (.fr .non)) (.ow (.fr (allD2 os))) (.ow (.fr (.dic (knD (sops os))))) .no .no) = some (.ok ((List.range run.length).map fun i => D.tup [.int (Nat.cast i), (run.map D.str).getD i .non]) (kR (.ow (.fr (storeD A n os))) (.ow (.fr (runD run))) (.ow (.fr .non)) (.ow (.fr (allD2 os))) (.ow (.fr (.dic (knD (sops os))))) .no .no)) := by
    show some (Re.ok (enumD (run.map D.str)) _) = _
    rw [enumD_eq, List.length_map]
  rw [this]
  exact e1
end K09
set_option maxHeartbeats 4000000
namespace K09
open PySem PySem.Spec L2 Tr
/-! ### the states passed -/
theorem check_state_eq (A : Addr) {n : Nat} {os : List Off} {x : Int} (h : 0 ≤ x ∧ x < n) : F_check_state A [.ow (.fr (storeD A n os)), .ow (.fr (.int x))] = some (.ret (.fr .non) [.no, .no]) := by
  have v : pu1 (fldD A "size") (var 0) [.ow (.fr (storeD A n os)), .ow (.fr (.int x))] = some (.int (Nat.cast n)) := pu1_of rfl (fld_size A n os)
  have e := is_below_eq (.int x) n (py_int x)
  rw [below_t h] at e
  have c := call_vv (F := F_is_below) (f := puV (var 1)) (g := puV (pu1 (fldD A "size") (var 0))) (ρ := [.ow (.fr (storeD A n os)), .ow (.fr (.int x))]) (d1 := .int x) rfl (pu_of v) e
  unfold F_check_state
  refine run_nx (ρ := [.ow (.fr (storeD A n os)), .ow (.fr (.int x))]) ?_ (Nat.le_refl _) rfl
  show m_check_state A [.ow (.fr (storeD A n os)), .ow (.fr (.int x))] = _
  unfold m_check_state
  exact (if_f (not_t (frz_x c))).trans rfl
def stp (s : Int) (o : Opn) : Int := o.ends.getD s.toNat 0
def fin (s : Int) (l : List Opn) : Int := l.foldl stp s
def pas (s : Int) : List Opn → List Int
  | [] => [s]
  | o :: r => s :: pas (stp s o) r
theorem fin_snoc (s : Int) (l : List Opn) (o : Opn) : fin s (l ++ [o]) = stp (fin s l) o := by unfold fin; rw [List.foldl_append]; rfl
theorem pas_snoc : ∀ (s : Int) (l : List Opn) (o : Opn), pas s (l ++ [o]) = pas s l ++ [stp (fin s l) o]
  | s, [], o => rfl
  | s, p :: l, o => by
    rw [List.cons_append, pas, pas, pas_snoc (stp s p) l o]
    rfl
theorem pas_last : ∀ (s : Int) (l : List Opn), ∃ p, pas s l = p ++ [fin s l]
  | s, [] => ⟨[], rfl⟩
  | s, o :: l => by
    obtain ⟨p, e⟩ := pas_last (stp s o) l
    exact ⟨s :: p, by rw [pas, e]; rfl⟩
theorem pas_len : ∀ (s : Int) (l : List Opn), (pas s l).length = l.length + 1
  | s, [] => rfl
  | s, o :: l => by rw [pas, List.length_cons, pas_len, List.length_cons]
theorem row_at {r : List Int} {n : Nat} {m s : Int} (h : rowN r n m) (hs : 0 ≤ s ∧ s < n) : ixD (rowD r) (.int s) = some (.int (r.getD s.toNat 0)) ∧ 0 ≤ r.getD s.toNat 0 ∧ r.getD s.toNat 0 < m := by
  have hl : s.toNat < r.length := by rw [h.1]; omega
  have e : r[s.toNat]? = some (r.getD s.toNat 0) := by
    rw [List.getD_eq_getElem?_getD, List.getElem?_eq_getElem hl]; rfl
  refine ⟨?_, h.2 _ (List.mem_of_getElem? e)⟩
  show atI (r.map D.int) s = _
  have e2 : atI r s = some (r.getD s.toNat 0) := by
    have := L2.atI_nat e
    rw [Int.toNat_of_nonneg hs.1] at this
    exact this
  rw [atI_map, e2]; rfl
theorem fin_lt {n : Nat} : ∀ (l : List Opn) {s : Int}, (∀ o ∈ l, OpOk n o) → 0 ≤ s ∧ s < n → 0 ≤ fin s l ∧ fin s l < n
  | [], s, _, hs => hs
  | o :: l, s, h, hs => fin_lt l (s := stp s o) (fun p hp => h p (List.mem_cons_of_mem _ hp)) (row_at (h o (List.mem_cons_self ..)).ends hs).2
def nmD (rs : List Opn) : D := runD (rs.map Opn.name)
theorem run_ok {os : List Off} {rs : List Opn} (h : ∀ o ∈ rs, o ∈ os.flatten) : RunOk os (rs.map Opn.name) := by
  intro z hz
  obtain ⟨o, ho, e⟩ := List.mem_map.mp hz
  exact ⟨o, h o ho, e⟩
theorem tab_ix {n : Nat} {os : List Off} (S : StOk n os) {o : Opn} (ho : o ∈ os.flatten) : ixKD (.dic (tabD os.flatten)) (.str o.name) = some (opD o) := by
  show valD (tabD os.flatten) (.inr o.name) = _
  exact tab_val S.nd o ho
def qR (A : Addr) (n : Nat) (os : List Off) (s : Int) (rs : List Opn) (fd : List D) (s5 s6 : Sl) : Rho := [.ow (.fr (storeD A n os)), .ow (.fr (.int s)), .ow (.fr (nmD rs)), .ow (.fr (.dic (tabD os.flatten))), .ow (.fl fd), s5, s6]
def qB : MS := (seqS (setF 6 (ofP (pu2 ixD (pu2 ixKD (var 3) (var 5)) (cst (.int 1))))) (dropS (appX 4 (puV (pu2 ixD (var 6) (flD (conAt 4 (pu1 negD (cst (.int 1))))))))))
theorem qB_eq (A : Addr) {n : Nat} {os : List Off} (S : StOk n os) {s : Int} (hs : 0 ≤ s ∧ s < n) {rs l : List Opn} (hl : ∀ o ∈ l, OpOk n o) (hz : l.length ≤ 100000) {o : Opn} (ho : o ∈ os.flatten) {s6 : Sl} (h6 : frS s6) :
    qB (qR A n os s rs ((pas s l).map D.int) (.ow (.fr (.str o.name))) s6) = some (.nx (qR A n os s rs ((pas s (l ++ [o])).map D.int) (.ow (.fr (.str o.name))) (.ow (.fr (rowD o.ends))))) := by
  have v : pu2 ixD (pu2 ixKD (var 3) (var 5)) (cst (.int 1)) (qR A n os s rs ((pas s l).map D.int) (.ow (.fr (.str o.name))) s6) = some (rowD o.ends) := pu2_of (pu2_of rfl rfl (tab_ix S ho)) rfl rfl
  have e1 : setF 6 (ofP (pu2 ixD (pu2 ixKD (var 3) (var 5)) (cst (.int 1)))) (qR A n os s rs ((pas s l).map D.int) (.ow (.fr (.str o.name))) s6) = some (.nx (qR A n os s rs ((pas s l).map D.int) (.ow (.fr (.str o.name))) (.ow (.fr (rowD o.ends))))) := by
    refine (set_of (i := 6) (ρ' := qR A n os s rs ((pas s l).map D.int) (.ow (.fr (.str o.name))) s6) (d := rowD o.ends) ?_ ⟨s6, rfl, frS_stb h6⟩).trans rfl
    unfold ofP
    rw [v]
  obtain ⟨p, ep⟩ := pas_last s l
  have ca : flD (conAt 4 (pu1 negD (cst (.int 1)))) (qR A n os s rs ((pas s l).map D.int) (.ow (.fr (.str o.name))) (.ow (.fr (rowD o.ends)))) = some (.int (fin s l)) := by
    have : conAt 4 (pu1 negD (cst (.int 1))) (qR A n os s rs ((pas s l).map D.int) (.ow (.fr (.str o.name))) (.ow (.fr (rowD o.ends)))) = some (.int (fin s l)) := by
      show atI ((pas s l).map D.int) (-1) = _
      rw [ep, List.map_append]
      exact L2.atI_last _ _
    unfold flD
    rw [this]
  have v2 : pu2 ixD (var 6) (flD (conAt 4 (pu1 negD (cst (.int 1))))) (qR A n os s rs ((pas s l).map D.int) (.ow (.fr (.str o.name))) (.ow (.fr (rowD o.ends)))) = some (.int (stp (fin s l) o)) := pu2_of rfl ca (row_at (S.ops o ho).ends (fin_lt l hl hs)).1
  have hz : ((pas s l).map D.int).length < sizeLine := by rw [List.length_map, pas_len, sizeLine_eq]; omega
  unfold qB
  rw [seq_nx e1]
  refine (drop_of (o := .fr .non) (ρ' := qR A n os s rs ((pas s (l ++ [o])).map D.int) (.ow (.fr (.str o.name))) (.ow (.fr (rowD o.ends)))) ?_)
  unfold appX
  rw [pu_of v2]
  show (if ((pas s l).map D.int).length < sizeLine then some (Re.ok (O.fr .non) ((qR A n os s rs ((pas s l).map D.int) (.ow (.fr (.str o.name))) (.ow (.fr (rowD o.ends)))).set 4 ((Sl.ow (.fl ((pas s l).map D.int))).put (.fl ((pas s l).map D.int ++ [.int (stp (fin s l) o)]))))) else none) = _
  rw [if_pos hz, pas_snoc, List.map_append]
  rfl
theorem lx_cons {a : Mo O} {r : Mo (List O)} {ρ ρ1 ρ2 : Rho} {x : O} {xs : List O} (h1 : a ρ = some (.ok x ρ1)) (h2 : r ρ1 = some (.ok xs ρ2)) : lxC a r ρ = some (.ok (x :: xs) ρ2) := by
  unfold lxC
  rw [h1]; dsimp only; rw [h2]
theorem lv_consD {a : Mo D} {r : Mo (List D)} {ρ ρ1 ρ2 : Rho} {x : D} {xs : List D} (h1 : a ρ = some (.ok x ρ1)) (h2 : r ρ1 = some (.ok xs ρ2)) : lvC a r ρ = some (.ok (x :: xs) ρ2) := by
  unfold lvC
  rw [h1]; dsimp only; rw [h2]
theorem passed_eq (A : Addr) {n : Nat} {os : List Off} (S : StOk n os) {s : Int} (hs : 0 ≤ s ∧ s < n) {rs : List Opn} (hr : ∀ o ∈ rs, o ∈ os.flatten) (hz : rs.length ≤ 100000) :
    F_passed A [.ow (.fr (storeD A n os)), .ow (.fr (.int s)), .ow (.fr (nmD rs))] = some (.ret (.fr (.tup ((pas s rs).map D.int))) [.no, .no, .no]) := by
  have hro : ∀ o ∈ rs, OpOk n o := fun o ho => S.ops o (hr o ho)
  let R0 : Rho := [.ow (.fr (storeD A n os)), .ow (.fr (.int s)), .ow (.fr (nmD rs)), .no, .no, .no, .no]
  have c1 : dropS (callM 2 (F_check_state A) (agV (puV (var 0)) (agV (puV (var 1)) agN))) R0 = some (.nx R0) := drop_of (call_vv (d1 := storeD A n os) (d2 := .int s) rfl rfl (check_state_eq A hs))
  have c2 : dropS (callM 3 (F_check_run A) (apD [.non] (agV (puV (var 0)) (agV (puV (var 2)) agN)))) R0 = some (.nx R0) := by
    refine drop_of (o := .fr .non) ?_
    have := check_run_eq A S (run_ok hr)
    simp [callM, apD, agV, agN, puV, var, R0, toSl, noDup, lents, back, nmD, this]
  have c3 : par2 3 4 (lxC (frM (frzM (callM 1 (F_operation_table A) (agV (puV (var 0)) agN)))) (lxC (lstX (lxC (ofP (var 1)) lxN)) lxN)) R0 = some (.nx (qR A n os s rs ((pas s []).map D.int) .no .no)) := by
    have e := frz_od (call_v (F := F_operation_table A) (f := puV (var 0)) (ρ := R0) (d1 := storeD A n os) rfl (operation_table_eq A S))
    have e2 : frM (frzM (callM 1 (F_operation_table A) (agV (puV (var 0)) agN))) R0 = some (.ok (.fr (.dic (tabD os.flatten))) R0) := by
      unfold frM; rw [e]
    have e3 : lxC (lstX (lxC (ofP (var 1)) lxN)) lxN R0 = some (.ok [.fl [.int s]] R0) := rfl
    unfold par2
    have e4 : lxC (frM (frzM (callM 1 (F_operation_table A) (agV (puV (var 0)) agN)))) (lxC (lstX (lxC (ofP (var 1)) lxN)) lxN) R0 = some (.ok [.fr (.dic (tabD os.flatten)), .fl [.int s]] R0) := lx_cons e2 e3
    rw [e4]
    rfl
  have lp := forL_inv (α := Opn) (t := gN 5) (b := qB) (f := fun o => D.str o.name) (St := fun l ρ => ∃ s5 s6, frS s5 ∧ frS s6 ∧ ρ = qR A n os s rs ((pas s l).map D.int) s5 s6) (bs := []) (as := rs) (fun o l r hl _ ρ ⟨s5, s6, h5, h6, e⟩ => by
      subst e
      rw [List.nil_append] at hl
      have b5 := frS_stb h5
      have hlm : ∀ p ∈ l, OpOk n p := fun p hp => hro p (by rw [hl]; exact List.mem_append_left _ hp)
      have hll : l.length ≤ 100000 := by have := congrArg List.length hl; rw [List.length_append] at this; omega
      have hom : o ∈ os.flatten := hr o (by rw [hl]; simp)
      refine ⟨qR A n os s rs ((pas s l).map D.int) (.ow (.fr (.str o.name))) s6, qR A n os s rs ((pas s (l ++ [o])).map D.int) (.ow (.fr (.str o.name))) (.ow (.fr (rowD o.ends))), ?_, .inl (qB_eq A S hs hlm hll hom h6), _, _, .inr ⟨_, rfl⟩, .inr ⟨_, rfl⟩, rfl⟩
      simp [gN, qR, stb_at, b5]) (qR A n os s rs ((pas s []).map D.int) .no .no) ⟨.no, .no, .inl rfl, .inl rfl, rfl⟩
  obtain ⟨ρ', e1, s5, s6, _, _, rfl⟩ := lp
  rw [List.nil_append] at e1
  have c4 : forS (itS (puV (var 2))) (gN 5) qB (qR A n os s rs ((pas s []).map D.int) .no .no) = some (.nx (qR A n os s rs ((pas s rs).map D.int) s5 s6)) := by
    unfold forS
    have : itS (puV (var 2)) (qR A n os s rs ((pas s []).map D.int) .no .no) = some (.ok (rs.map fun o => D.str o.name) (qR A n os s rs ((pas s []).map D.int) .no .no)) := by
      show some (Re.ok ((rs.map Opn.name).map D.str) _) = _
      rw [List.map_map]; rfl
    rw [this]
    exact e1
  unfold F_passed
  refine run_rt (ρ := qR A n os s rs ((pas s rs).map D.int) s5 s6) ?_ (by simp [qR]) rfl
  have hm : m_passed A = (seqS (dropS (callM 2 (F_check_state A) (agV (puV (var 0)) (agV (puV (var 1)) agN))))
  (seqS (dropS (callM 3 (F_check_run A) (apD [.non] (agV (puV (var 0)) (agV (puV (var 2)) agN)))))
  (seqS (par2 3 4 (lxC (frM (frzM (callM 1 (F_operation_table A) (agV (puV (var 0)) agN)))) (lxC (lstX (lxC (ofP (var 1)) lxN)) lxN)))
  (seqS (forS (itS (puV (var 2))) (gN 5) qB) (retS (ofP (pu1 tupD (con 4)))))))) := by unfold m_passed qB; rfl
  show m_passed A R0 = _
  rw [hm, seq_nx c1, seq_nx c2, seq_nx c3, seq_nx c4]
  rfl
end K09
set_option maxHeartbeats 4000000
namespace K09
open PySem PySem.Spec L2 Tr
/-! ### after -/
theorem call_b3 {F : FS} {ρ : Rho} {f g h : Mo D} {d1 d2 d3 : D} {r : D} (h1 : f ρ = some (.ok d1 ρ)) (h2 : g ρ = some (.ok d2 ρ)) (h3 : h ρ = some (.ok d3 ρ)) (e : F [.ow (.fr d1), .ow (.fr d2), .ow (.fr d3)] = some (.ret (.fr r) [.no, .no, .no])) : frzM (callM 3 F (agV f (agV g (agV h agN)))) ρ = some (.ok r ρ) := frz_x (call_vvv h1 h2 h3 e)
theorem after_eq (A : Addr) {n : Nat} {os : List Off} (S : StOk n os) {s : Int} (hs : 0 ≤ s ∧ s < n) {rs : List Opn} (hr : ∀ o ∈ rs, o ∈ os.flatten) (hz : rs.length ≤ 100000) :
    F_after A [.ow (.fr (storeD A n os)), .ow (.fr (.int s)), .ow (.fr (nmD rs))] = some (.ret (.fr (.int (fin s rs))) [.no, .no, .no]) := by
  have c := call_b3 (F := F_passed A) (f := puV (var 0)) (g := puV (var 1)) (h := puV (var 2)) (ρ := [.ow (.fr (storeD A n os)), .ow (.fr (.int s)), .ow (.fr (nmD rs))]) rfl rfl rfl (passed_eq A S hs hr hz)
  have e : ixD (.tup ((pas s rs).map D.int)) (.int (-1)) = some (.int (fin s rs)) := by
    show atI ((pas s rs).map D.int) (-1) = _
    obtain ⟨p, ep⟩ := pas_last s rs
    rw [ep, List.map_append]
    exact L2.atI_last _ _
  unfold F_after
  refine run_rt (ρ := [.ow (.fr (storeD A n os)), .ow (.fr (.int s)), .ow (.fr (nmD rs))]) ?_ (Nat.le_refl _) rfl
  show m_after A [.ow (.fr (storeD A n os)), .ow (.fr (.int s)), .ow (.fr (nmD rs))] = _
  unfold m_after retS frM mo2
  rw [c]
  dsimp only
  rw [show puV (pu1 negD (cst (.int 1))) [.ow (.fr (storeD A n os)), .ow (.fr (.int s)), .ow (.fr (nmD rs))] = some (.ok (.int (-1)) [.ow (.fr (storeD A n os)), .ow (.fr (.int s)), .ow (.fr (nmD rs))]) from rfl]
  dsimp only
  rw [e]
/-! ### the answers of a run -/
def ansO (s : Int) (o : Opn) : Int := o.ans.getD s.toNat 0
def anss (s : Int) : List Opn → List Int
  | [] => []
  | o :: r => ansO s o :: anss (stp s o) r
theorem anss_get : ∀ (s : Int) (rs : List Opn) (i : Nat) (hi : i < rs.length), (anss s rs)[i]? = some (ansO (fin s (rs.take i)) rs[i])
  | s, o :: r, 0, _ => rfl
  | s, o :: r, i + 1, h => by
    rw [List.length_cons] at h
    have := anss_get (stp s o) r i (by omega)
    exact this
theorem anss_len : ∀ (s : Int) (rs : List Opn), (anss s rs).length = rs.length
  | s, [] => rfl
  | s, o :: r => by rw [anss, List.length_cons, anss_len, List.length_cons]
theorem pas_get : ∀ (s : Int) (rs : List Opn) (i : Nat) (hi : i ≤ rs.length), (pas s rs)[i]? = some (fin s (rs.take i))
  | s, [], 0, _ => rfl
  | s, o :: r, 0, _ => rfl
  | s, o :: r, i + 1, h => by
    rw [List.length_cons] at h
    exact pas_get (stp s o) r i (by omega)
def aR (A : Addr) (n : Nat) (os : List Off) (s : Int) (rs : List Opn) (s5 s6 : Sl) : Rho := [.ow (.fr (storeD A n os)), .ow (.fr (.int s)), .ow (.fr (nmD rs)), .ow (.fr (.tup ((pas s rs).map D.int))), .ow (.fr (.dic (tabD os.flatten))), s5, s6]
def aG (s : Int) (rs : List Opn) : D → O
  | .tup [.int i, _] => .fr (.int ((anss s rs).getD i.toNat 0))
  | _ => .fr .non
theorem aG_all (s : Int) (rs : List Opn) : ((List.range rs.length).map fun i => D.tup [.int (Nat.cast i), ((rs.map Opn.name).map D.str).getD i .non]).map (aG s rs) = (anss s rs).map fun i => .fr (.int i) := by
  apply List.ext_getElem?
  intro i
  rw [List.getElem?_map, List.getElem?_map, List.getElem?_map]
  by_cases h : i < rs.length
  · rw [List.getElem?_range h, anss_get s rs i h]
    show some (O.fr (.int ((anss s rs).getD (Int.toNat (Nat.cast i)) 0))) = _
    rw [Int.toNat_natCast, List.getD_eq_getElem?_getD, anss_get s rs i h]; rfl
  · rw [List.getElem?_eq_none (by rw [List.length_range]; omega), List.getElem?_eq_none (by rw [anss_len]; omega)]; rfl
def aE : Mo O := ofP (pu2 ixD (pu2 ixD (pu2 ixKD (var 4) (var 6)) (cst (.int 2))) (pu2 ixD (var 3) (var 5)))
theorem answers_eq (A : Addr) {n : Nat} {os : List Off} (S : StOk n os) {s : Int} (hs : 0 ≤ s ∧ s < n) {rs : List Opn} (hr : ∀ o ∈ rs, o ∈ os.flatten) (hz : rs.length ≤ 100000) :
    F_answers_of A [.ow (.fr (storeD A n os)), .ow (.fr (.int s)), .ow (.fr (nmD rs))] = some (.ret (.fr (rowD (anss s rs))) [.no, .no, .no]) := by
  have hro : ∀ o ∈ rs, OpOk n o := fun o ho => S.ops o (hr o ho)
  let R0 : Rho := [.ow (.fr (storeD A n os)), .ow (.fr (.int s)), .ow (.fr (nmD rs)), .no, .no, .no, .no]
  have c := call_b3 (F := F_passed A) (f := puV (var 0)) (g := puV (var 1)) (h := puV (var 2)) (ρ := R0) rfl rfl rfl (passed_eq A S hs hr hz)
  have e := frz_od (call_v (F := F_operation_table A) (f := puV (var 0)) (ρ := R0) (d1 := storeD A n os) rfl (operation_table_eq A S))
  have c1 : asgS (tupV (lvC (frzM (callM 3 (F_passed A) (agV (puV (var 0)) (agV (puV (var 1)) (agV (puV (var 2)) agN))))) (lvC (frzM (callM 1 (F_operation_table A) (agV (puV (var 0)) agN))) lvN))) (gT 2 (gsC (gN 3) (gsC (gN 4) gsN))) R0 = some (.nx (aR A n os s rs .no .no)) := by
    have l2 : lvC (frzM (callM 1 (F_operation_table A) (agV (puV (var 0)) agN))) lvN R0 = some (.ok [.dic (tabD os.flatten)] R0) := lv_consD e rfl
    have l1 := lv_consD c l2
    unfold asgS tupV
    rw [l1]
    dsimp only
    rw [if_pos (show ([D.tup ((pas s rs).map D.int), .dic (tabD os.flatten)]).length ≤ sizeLine by rw [sizeLine_eq]; show 2 ≤ 16777216; decide)]
    rfl
  have lp : lcL (gT 2 (gsC (gN 5) (gsC (gN 6) gsN))) yes aE [5, 6] ((List.range rs.length).map fun i => D.tup [.int (Nat.cast i), ((rs.map Opn.name).map D.str).getD i .non]) (aR A n os s rs .no .no) = some ((((List.range rs.length).map fun i => D.tup [.int (Nat.cast i), ((rs.map Opn.name).map D.str).getD i .non])).map (aG s rs), aR A n os s rs .no .no) := by
    refine lcL_map fun d hd => ?_
    obtain ⟨i, hi, rfl⟩ := List.mem_map.mp hd
    have hi := List.mem_range.mp hi
    have hd : ((rs.map Opn.name).map D.str).getD i .non = .str rs[i].name := by
      rw [List.getD_eq_getElem?_getD, List.getElem?_map, List.getElem?_map, List.getElem?_eq_getElem hi]; rfl
    have hm : rs[i] ∈ os.flatten := hr _ (List.getElem_mem hi)
    have hf := fin_lt (n := n) (rs.take i) (fun o ho => hro o (List.mem_of_mem_take ho)) hs
    have v3 : pu2 ixD (var 3) (var 5) (aR A n os s rs (.ow (.fr (.int (Nat.cast i)))) (.ow (.fr (.str rs[i].name)))) = some (.int (fin s (rs.take i))) := by
      refine pu2_of rfl rfl ?_
      show atI ((pas s rs).map D.int) (Nat.cast i) = _
      rw [atI_map, L2.atI_nat (pas_get s rs i (Nat.le_of_lt hi))]; rfl
    have v : pu2 ixD (pu2 ixD (pu2 ixKD (var 4) (var 6)) (cst (.int 2))) (pu2 ixD (var 3) (var 5)) (aR A n os s rs (.ow (.fr (.int (Nat.cast i)))) (.ow (.fr (.str rs[i].name)))) = some (.int (ansO (fin s (rs.take i)) rs[i])) := pu2_of (pu2_of (pu2_of rfl rfl (tab_ix S hm)) rfl rfl) v3 (row_at (S.ops _ hm).ans hf).1
    refine ⟨aR A n os s rs (.ow (.fr (.int (Nat.cast i)))) (.ow (.fr (.str rs[i].name))), aR A n os s rs (.ow (.fr (.int (Nat.cast i)))) (.ow (.fr (.str rs[i].name))), ?_, rfl, rfl, ?_, rfl⟩
    · rw [hd]; rfl
    · unfold aE ofP
      rw [v]
      show _ = some (Re.ok (O.fr (.int ((anss s rs).getD (Int.toNat (Nat.cast i)) 0))) _)
      rw [Int.toNat_natCast, List.getD_eq_getElem?_getD, anss_get s rs i hi]; rfl
  have it : itE (puV (var 2)) (aR A n os s rs .no .no) = some (.ok ((List.range rs.length).map fun i => D.tup [.int (Nat.cast i), ((rs.map Opn.name).map D.str).getD i .non]) (aR A n os s rs .no .no)) := by
    show some (Re.ok (enumD ((rs.map Opn.name).map D.str)) _) = _
    rw [enumD_eq, List.length_map, List.length_map]
  have c2 := lcM_ok (fe := aE) it (show frOk (aR A n os s rs .no .no) [5, 6] = true from rfl) lp
  rw [aG_all, mkL_map] at c2
  unfold F_answers_of
  refine run_rt (ρ := aR A n os s rs .no .no) ?_ (by simp [aR]) rfl
  show m_answers_of A R0 = _
  have hm : m_answers_of A = (seqS (asgS (tupV (lvC (frzM (callM 3 (F_passed A) (agV (puV (var 0)) (agV (puV (var 1)) (agV (puV (var 2)) agN))))) (lvC (frzM (callM 1 (F_operation_table A) (agV (puV (var 0)) agN))) lvN))) (gT 2 (gsC (gN 3) (gsC (gN 4) gsN))))
  (retS (frM (mo1 tupD (frzM (lcM (itE (puV (var 2))) (gT 2 (gsC (gN 5) (gsC (gN 6) gsN))) yes aE [5, 6])))))) := by unfold m_answers_of aE; rfl
  rw [hm, seq_nx c1]
  unfold retS frM mo1
  rw [frz_fl c2]
  rfl
/-! ### where a run ends from every state -/
def eR (A : Addr) (n : Nat) (os : List Off) (rs : List Opn) (fd : List D) (s4 s5 : Sl) : Rho := [.ow (.fr (storeD A n os)), .ow (.fr (nmD rs)), .ow (.fr (.dic (tabD os.flatten))), .ow (.fr (.lst fd)), s4, s5, .no]
def ees (n : Nat) (l : List Opn) : List D := (List.range n).map fun i => .int (fin (Nat.cast i) l)
def eE : Mo O := ofP (pu2 ixD (var 5) (var 6))
def eB : MS := seqS (setF 5 (ofP (pu2 ixD (pu2 ixKD (var 2) (var 4)) (cst (.int 1))))) (setF 3 (lcM (itS (puV (var 3))) (gN 6) yes eE [6]))
def eG (o : Opn) : D → O
  | .int i => .fr (.int (stp i o))
  | _ => .fr .non
theorem eB_eq (A : Addr) {n : Nat} {os : List Off} (S : StOk n os) {rs l : List Opn} (hl : ∀ o ∈ l, OpOk n o) {o : Opn} (ho : o ∈ os.flatten) {s5 : Sl} (h5 : frS s5) :
    eB (eR A n os rs (ees n l) (.ow (.fr (.str o.name))) s5) = some (.nx (eR A n os rs (ees n (l ++ [o])) (.ow (.fr (.str o.name))) (.ow (.fr (rowD o.ends))))) := by
  have v : pu2 ixD (pu2 ixKD (var 2) (var 4)) (cst (.int 1)) (eR A n os rs (ees n l) (.ow (.fr (.str o.name))) s5) = some (rowD o.ends) := pu2_of (pu2_of rfl rfl (tab_ix S ho)) rfl rfl
  have e1 : setF 5 (ofP (pu2 ixD (pu2 ixKD (var 2) (var 4)) (cst (.int 1)))) (eR A n os rs (ees n l) (.ow (.fr (.str o.name))) s5) = some (.nx (eR A n os rs (ees n l) (.ow (.fr (.str o.name))) (.ow (.fr (rowD o.ends))))) := by
    refine (set_of (i := 5) (ρ' := eR A n os rs (ees n l) (.ow (.fr (.str o.name))) s5) (d := rowD o.ends) ?_ ⟨s5, rfl, frS_stb h5⟩).trans rfl
    unfold ofP
    rw [v]
  let R : Rho := eR A n os rs (ees n l) (.ow (.fr (.str o.name))) (.ow (.fr (rowD o.ends)))
  have lp : lcL (gN 6) yes eE [6] (ees n l) R = some ((ees n l).map (eG o), R) := by
    refine lcL_map fun d hd => ?_
    obtain ⟨i, hi, rfl⟩ := List.mem_map.mp hd
    have hi := List.mem_range.mp hi
    have hf := fin_lt (n := n) l hl (s := Nat.cast i) (by omega)
    let R6 : Rho := [.ow (.fr (storeD A n os)), .ow (.fr (nmD rs)), .ow (.fr (.dic (tabD os.flatten))), .ow (.fr (.lst (ees n l))), .ow (.fr (.str o.name)), .ow (.fr (rowD o.ends)), .ow (.fr (.int (fin (Nat.cast i) l)))]
    have v6 : pu2 ixD (var 5) (var 6) R6 = some (.int (stp (fin (Nat.cast i) l) o)) := pu2_of rfl rfl (row_at (S.ops o ho).ends hf).1
    refine ⟨R6, R6, rfl, rfl, rfl, ?_, rfl⟩
    unfold eE ofP
    rw [v6]
    rfl
  have c2 := lcM_ok (fe := eE) (mi := itS (puV (var 3))) (ρ := R) (ρ0 := R) rfl (show frOk R [6] = true from rfl) lp
  have eg : (ees n l).map (eG o) = (ees n (l ++ [o])).map .fr := by
    unfold ees
    rw [List.map_map, List.map_map]
    apply List.map_congr_left
    intro i _
    show O.fr (.int (stp (fin (Nat.cast i) l) o)) = O.fr (.int (fin (Nat.cast i) (l ++ [o])))
    rw [fin_snoc]
  rw [eg, mkL_fr] at c2
  unfold eB
  rw [seq_nx e1]
  exact (set_o (i := 3) (ρ' := R) (o := .fl (ees n (l ++ [o]))) c2 ⟨_, rfl, rfl⟩).trans rfl
theorem run_ends_eq (A : Addr) {n : Nat} {os : List Off} (S : StOk n os) {rs : List Opn} (hr : ∀ o ∈ rs, o ∈ os.flatten) :
    F_run_ends A [.ow (.fr (storeD A n os)), .ow (.fr (nmD rs))] = some (.ret (.fr (.tup (ees n rs))) [.no, .no]) := by
  have hro : ∀ o ∈ rs, OpOk n o := fun o ho => S.ops o (hr o ho)
  let R0 : Rho := [.ow (.fr (storeD A n os)), .ow (.fr (nmD rs)), .no, .no, .no, .no, .no]
  have c1 : dropS (callM 3 (F_check_run A) (apD [.non] (agV (puV (var 0)) (agV (puV (var 1)) agN)))) R0 = some (.nx R0) := by
    refine drop_of (o := .fr .non) ?_
    have := check_run_eq A S (run_ok hr)
    simp [callM, apD, agV, agN, puV, var, R0, toSl, noDup, lents, back, nmD, this]
  have c2 : par2 2 3 (lxC (frM (frzM (callM 1 (F_operation_table A) (agV (puV (var 0)) agN)))) (lxC (frM (frzM (moL lstRgD (pu1 (fldD A "size") (var 0))))) lxN)) R0 = some (.nx (eR A n os rs (ees n []) .no .no)) := by
    have e := frz_od (call_v (F := F_operation_table A) (f := puV (var 0)) (ρ := R0) (d1 := storeD A n os) rfl (operation_table_eq A S))
    have e2 : frM (frzM (callM 1 (F_operation_table A) (agV (puV (var 0)) agN))) R0 = some (.ok (.fr (.dic (tabD os.flatten))) R0) := by
      unfold frM; rw [e]
    have v : pu1 (fldD A "size") (var 0) R0 = some (.int (Nat.cast n)) := pu1_of rfl (fld_size A n os)
    have l : lstRgD (.int (Nat.cast n)) = some (ees n []) := by
      show (if rngOk (Nat.cast n) = true then some (rngD 0 (Int.toNat (Nat.cast n))) else none) = _
      rw [if_pos (show rngOk (Nat.cast n) = true from decide_eq_true (by have := S.n2; omega)), Int.toNat_natCast, rngD_eq]
      rfl
    have e0 : frzM (moL lstRgD (pu1 (fldD A "size") (var 0))) R0 = some (.ok (.lst (ees n [])) R0) := frz_fl (by unfold moL; rw [v]; dsimp only; rw [l])
    have e3 : lxC (frM (frzM (moL lstRgD (pu1 (fldD A "size") (var 0))))) lxN R0 = some (.ok [.fr (.lst (ees n []))] R0) := lx_cons (by unfold frM; rw [e0]) rfl
    unfold par2
    rw [lx_cons e2 e3]
    rfl
  have lp := forL_inv (α := Opn) (t := gN 4) (b := eB) (f := fun o => D.str o.name) (St := fun l ρ => ∃ s4 s5, frS s4 ∧ frS s5 ∧ ρ = eR A n os rs (ees n l) s4 s5) (bs := []) (as := rs) (fun o l r hl _ ρ ⟨s4, s5, h4, h5, e⟩ => by
      subst e
      rw [List.nil_append] at hl
      have b4 := frS_stb h4
      have hlm : ∀ p ∈ l, OpOk n p := fun p hp => hro p (by rw [hl]; exact List.mem_append_left _ hp)
      have hom : o ∈ os.flatten := hr o (by rw [hl]; simp)
      refine ⟨eR A n os rs (ees n l) (.ow (.fr (.str o.name))) s5, eR A n os rs (ees n (l ++ [o])) (.ow (.fr (.str o.name))) (.ow (.fr (rowD o.ends))), ?_, .inl (eB_eq A S hlm hom h5), _, _, .inr ⟨_, rfl⟩, .inr ⟨_, rfl⟩, rfl⟩
      simp [gN, eR, stb_at, b4]) (eR A n os rs (ees n []) .no .no) ⟨.no, .no, .inl rfl, .inl rfl, rfl⟩
  obtain ⟨ρ', e1, s4, s5, _, _, rfl⟩ := lp
  rw [List.nil_append] at e1
  have c3 : forS (itS (puV (var 1))) (gN 4) eB (eR A n os rs (ees n []) .no .no) = some (.nx (eR A n os rs (ees n rs) s4 s5)) := by
    unfold forS
    have : itS (puV (var 1)) (eR A n os rs (ees n []) .no .no) = some (.ok (rs.map fun o => D.str o.name) (eR A n os rs (ees n []) .no .no)) := by
      show some (Re.ok ((rs.map Opn.name).map D.str) _) = _
      rw [List.map_map]; rfl
    rw [this]
    exact e1
  unfold F_run_ends
  refine run_rt (ρ := eR A n os rs (ees n rs) s4 s5) ?_ (by simp [eR]) rfl
  have hm : m_run_ends A = (seqS (dropS (callM 3 (F_check_run A) (apD [.non] (agV (puV (var 0)) (agV (puV (var 1)) agN)))))
  (seqS (par2 2 3 (lxC (frM (frzM (callM 1 (F_operation_table A) (agV (puV (var 0)) agN)))) (lxC (frM (frzM (moL lstRgD (pu1 (fldD A "size") (var 0))))) lxN)))
  (seqS (forS (itS (puV (var 1))) (gN 4) eB) (retS (ofP (pu1 tupD (var 3))))))) := by unfold m_run_ends eB eE; rfl
  show m_run_ends A R0 = _
  rw [hm, seq_nx c1, seq_nx c2, seq_nx c3]
  rfl
end K09
set_option maxHeartbeats 4000000
namespace K09
open PySem PySem.Spec L2 Tr
/-! ### the box of draws -/
def bxO (a b k : Int) : O := .fl [.int a, .int b, .int k]
def HP (o : O) : Prop := ∃ a b k, o = bxO a b k
theorem mod_eq (x m : Int) (h0 : 0 < m) : modD (.int x) (.int m) = some (.int (x % m)) := by
  show (if 0 < m then some (D.int (x % m)) else none) = _
  rw [if_pos h0]
theorem div_eq (x m : Int) (h0 : 0 < m) (h2 : m < 2 ^ 64) : divD (.int x) (.int m) = some (.int (x / m)) := by
  have hlog : m.natAbs.log2 < 9000 := Nat.lt_trans ((Nat.log2_lt (by omega)).mpr (show m.natAbs < 2 ^ 64 by omega)) (by decide)
  show (if 0 < m ∧ m.natAbs.log2 < 9000 then some (D.int (x / m)) else none) = _
  rw [if_pos ⟨h0, hlog⟩]
theorem mul_l (c x : Int) (h : -(2 ^ 64) < c ∧ c < 2 ^ 64) : mulAD (.int c) (.int x) = some (.int (c * x)) := by
  show (if (-(2 ^ 64) < c ∧ c < 2 ^ 64) ∨ (-(2 ^ 64) < x ∧ x < 2 ^ 64) then some (D.int (c * x)) else none) = _
  rw [if_pos (.inl h)]
theorem mul_r (x c : Int) (h : -(2 ^ 64) < c ∧ c < 2 ^ 64) : mulAD (.int x) (.int c) = some (.int (x * c)) := by
  show (if (-(2 ^ 64) < x ∧ x < 2 ^ 64) ∨ (-(2 ^ 64) < c ∧ c < 2 ^ 64) then some (D.int (x * c)) else none) = _
  rw [if_pos (.inr h)]
def tR (a b k m : Int) (s2 s3 : Sl) : Rho := [.le (bxO a b k), .ow (.fr (.int m)), s2, s3]
theorem c0 (a b k m : Int) (s2 s3 : Sl) : conAt 0 (cst (.int 0)) (tR a b k m s2 s3) = some (.int a) := rfl
theorem c1 (a b k m : Int) (s2 s3 : Sl) : conAt 0 (cst (.int 1)) (tR a b k m s2 s3) = some (.int b) := rfl
theorem c2 (a b k m : Int) (s2 s3 : Sl) : conAt 0 (cst (.int 2)) (tR a b k m s2 s3) = some (.int k) := rfl
theorem fl_i {f : Pu D} {ρ : Rho} {i : Int} (h : f ρ = some (.int i)) : flD f ρ = some (.int i) := by unfold flD; rw [h]
theorem sto_i {f : Pu D} {a b k m x : Int} {s2 s3 : Sl} (h : f (tR a b k m s2 s3) = some (.int x)) :
    stoS 0 (puV f) (cst (.int 0)) (tR a b k m s2 s3) = some (.nx (tR x b k m s2 s3)) ∧ stoS 0 (puV f) (cst (.int 1)) (tR a b k m s2 s3) = some (.nx (tR a x k m s2 s3)) ∧ stoS 0 (puV f) (cst (.int 2)) (tR a b k m s2 s3) = some (.nx (tR a b x m s2 s3)) := by
  refine ⟨?_, ?_, ?_⟩ <;> (unfold stoS; rw [pu_of h]; rfl)
theorem set_p {i : Nat} {f : Pu D} {ρ : Rho} {d : D} (h : f ρ = some d) (hs : ∃ s, ρ[i]? = some s ∧ stbS s = true) : setF i (ofP f) ρ = some (.nx (ρ.set i (.ow (.fr d)))) := set_of (by unfold ofP; rw [h]) hs
theorem ret_p {f : Pu D} {ρ : Rho} {d : D} (h : f ρ = some d) : retS (ofP f) ρ = some (.rt (.fr d) ρ) := by unfold retS ofP; rw [h]
theorem qu_of {f : Pu D} {ρ : Rho} {b : Bool} (h : f ρ = some (.bl b)) : quM (tb f) ρ = some (.ok b ρ) := by unfold quM tb; rw [h]
theorem seq_rt {f g : MS} {ρ ρ' : Rho} {o : O} (h : f ρ = some (.rt o ρ')) : seqS f g ρ = some (.rt o ρ') := by unfold seqS; rw [h]
theorem take_eq (a b k m : Int) (h1 : 1 ≤ m) (h2 : m < 2 ^ 64) : ∃ r o', 0 ≤ r ∧ r < m ∧ HP o' ∧ F__law_take [.le (bxO a b k), .ow (.fr (.int m))] = some (.ret (.fr (.int r)) [.le o', .no]) := by
  have h0 : 0 < m := by omega
  have q : quM (tb (pu2 gtD (conAt 0 (cst (.int 0))) (cst (.int 0)))) (tR a b k m .no .no) = some (.ok (decide (0 < a)) (tR a b k m .no .no)) := qu_of (pu2_of (c0 ..) rfl rfl)
  by_cases ha : 0 < a
  · rw [decide_eq_true ha] at q
    have v1 : pu2 modD (pu1 intD (conAt 0 (cst (.int 0)))) (var 1) (tR a b k m .no .no) = some (.int (a % m)) := pu2_of (pu1_of (c0 ..) rfl) rfl (mod_eq a m h0)
    have e1 : setF 2 (ofP (pu2 modD (pu1 intD (conAt 0 (cst (.int 0)))) (var 1))) (tR a b k m .no .no) = some (.nx (tR a b k m (.ow (.fr (.int (a % m)))) .no)) := (set_p v1 ⟨.no, rfl, rfl⟩).trans rfl
    have v2 : pu2 divD (flD (conAt 0 (cst (.int 0)))) (var 1) (tR a b k m (.ow (.fr (.int (a % m)))) .no) = some (.int (a / m)) := pu2_of (fl_i (c0 ..)) rfl (div_eq a m h0 h2)
    refine ⟨a % m, bxO (a / m) b k, Int.emod_nonneg _ (by omega), Int.emod_lt_of_pos _ h0, ⟨_, _, _, rfl⟩, ?_⟩
    unfold F__law_take
    refine run_rt (ρ := tR (a / m) b k m (.ow (.fr (.int (a % m)))) .no) ?_ (by simp [tR]) rfl
    show m__law_take (tR a b k m .no .no) = _
    have hb : (seqS (setF 2 (ofP (pu2 modD (pu1 intD (conAt 0 (cst (.int 0)))) (var 1)))) (seqS (stoS 0 (puV (pu2 divD (flD (conAt 0 (cst (.int 0)))) (var 1))) (cst (.int 0))) (retS (ofP (var 2))))) (tR a b k m .no .no) = some (.rt (.fr (.int (a % m))) (tR (a / m) b k m (.ow (.fr (.int (a % m)))) .no)) := by
      rw [seq_nx e1, seq_nx (sto_i v2).1]
      exact ret_p rfl
    unfold m__law_take
    exact seq_rt ((if_t q).trans hb)
  · rw [decide_eq_false ha] at q
    have e0 : ∀ (u : MS), ifS (quM (tb (pu2 gtD (conAt 0 (cst (.int 0))) (cst (.int 0))))) u nxS (tR a b k m .no .no) = some (.nx (tR a b k m .no .no)) := fun u => (if_f q).trans rfl
    have v1 : pu2 addD (flD (conAt 0 (cst (.int 2)))) (cst (.int 1)) (tR a b k m .no .no) = some (.int (k + 1)) := pu2_of (fl_i (c2 ..)) rfl rfl
    obtain ⟨raw, hraw⟩ : ∃ raw : Int, raw = ((b + 99991 * (k + 1)) * 69621 + 53) % 2147483563 := ⟨_, rfl⟩
    have v2 : pu2 modD (pu1 intD (pu2 addD (pu2 mulAD (pu2 addD (flD (conAt 0 (cst (.int 1)))) (pu2 mulAD (cst (.int 99991)) (flD (conAt 0 (cst (.int 2)))))) (cst (.int 69621))) (cst (.int 53)))) (cst (.int 2147483563)) (tR a b (k + 1) m .no .no) = some (.int raw) := by
      rw [hraw]
      exact pu2_of (pu1_of (pu2_of (pu2_of (pu2_of (fl_i (c1 ..)) (pu2_of rfl (fl_i (c2 ..)) (mul_l 99991 (k + 1) (by omega))) rfl) rfl (mul_r _ 69621 (by omega))) rfl rfl) rfl) rfl (mod_eq _ _ (by omega))
    have e2 := (set_p (i := 3) v2 ⟨.no, rfl, rfl⟩).trans (show _ = some (So.nx (tR a b (k + 1) m .no (.ow (.fr (.int raw))))) from rfl)
    obtain ⟨b', hb'⟩ : ∃ b' : Int, b' = (raw * 40692 + 27011) % 2147483629 + 1 := ⟨_, rfl⟩
    have v3 : pu2 addD (pu2 modD (pu1 intD (pu2 addD (pu2 mulAD (var 3) (cst (.int 40692))) (cst (.int 27011)))) (cst (.int 2147483629))) (cst (.int 1)) (tR a b (k + 1) m .no (.ow (.fr (.int raw)))) = some (.int b') := by
      rw [hb']
      exact pu2_of (pu2_of (pu1_of (pu2_of (pu2_of rfl rfl (mul_r raw 40692 (by omega))) rfl rfl) rfl) rfl (mod_eq _ _ (by omega))) rfl rfl
    obtain ⟨z, hz⟩ : ∃ z : Int, z = (raw * 2147483647 + b') / 8191 := ⟨_, rfl⟩
    have v4 : pu2 modD (pu1 intD (pu2 divD (pu2 addD (pu2 mulAD (var 3) (cst (.int 2147483647))) (flD (conAt 0 (cst (.int 1))))) (cst (.int 8191)))) (var 1) (tR a b' (k + 1) m .no (.ow (.fr (.int raw)))) = some (.int (z % m)) := by
      rw [hz]
      exact pu2_of (pu1_of (pu2_of (pu2_of (pu2_of rfl rfl (mul_r raw 2147483647 (by omega))) (fl_i (c1 ..)) rfl) rfl (div_eq _ 8191 (by omega) (by omega))) rfl) rfl (mod_eq _ m h0)
    refine ⟨z % m, bxO a b' (k + 1), Int.emod_nonneg _ (by omega), Int.emod_lt_of_pos _ h0, ⟨_, _, _, rfl⟩, ?_⟩
    unfold F__law_take
    refine run_rt (ρ := tR a b' (k + 1) m .no (.ow (.fr (.int raw)))) ?_ (by simp [tR]) rfl
    show m__law_take (tR a b k m .no .no) = _
    unfold m__law_take
    rw [seq_nx (e0 _), seq_nx (sto_i v1).2.2, seq_nx e2, seq_nx (sto_i v3).2.1]
    exact ret_p v4
theorem call_take {i : Nat} {ρ : Rho} {s0 : Sl} {o : O} {m : Int} {f : Mo D} (e : ρ[i]? = some s0) (et : s0.tr = some o) (ho : HP o) (hf : f ρ = some (.ok (.int m) ρ)) (h1 : 1 ≤ m) (h2 : m < 2 ^ 64) :
    ∃ r o', 0 ≤ r ∧ r < m ∧ HP o' ∧ callM 2 F__law_take (agL i (agV f agN)) ρ = some (.ok (.fr (.int r)) (ρ.set i (s0.put o'))) := by
  obtain ⟨a, b, k, rfl⟩ := ho
  obtain ⟨r, o', q1, q2, q3, q4⟩ := take_eq a b k m h1 h2
  refine ⟨r, o', q1, q2, q3, ?_⟩
  simp [callM, agL, agV, agN, e, et, hf, toSl, noDup, lents, back, q4]
theorem pick_eq (o : O) (ho : HP o) (ds : List D) (h1 : 1 ≤ ds.length) (h2 : ds.length < 1000) : ∃ d o', d ∈ ds ∧ HP o' ∧ F__law_pick [.le o, .ow (.fr (.lst ds))] = some (.ret (.fr d) [.le o', .no]) := by
  have hf : puV (pu1 lenD (var 1)) [.le o, .ow (.fr (.lst ds))] = some (.ok (.int (Nat.cast ds.length)) [.le o, .ow (.fr (.lst ds))]) := rfl
  obtain ⟨r, o', q1, q2, q3, q4⟩ := call_take (i := 0) (s0 := .le o) rfl rfl ho hf (by omega) (by omega)
  have hr : r.toNat < ds.length := by omega
  have hix : ixD (.lst ds) (.int r) = some ds[r.toNat] := by
    show atI ds r = _
    have h := L2.atI_nat (xs := ds) (j := r.toNat) (v := ds[r.toNat]) (by rw [List.getElem?_eq_getElem hr])
    rw [Int.toNat_of_nonneg q1] at h
    exact h
  refine ⟨ds[r.toNat], o', List.getElem_mem hr, q3, ?_⟩
  unfold F__law_pick
  refine run_rt (ρ := [.le o', .ow (.fr (.lst ds))]) ?_ (Nat.le_refl _) rfl
  show m__law_pick [.le o, .ow (.fr (.lst ds))] = _
  unfold m__law_pick retS frM mo2
  rw [show puV (var 1) [.le o, .ow (.fr (.lst ds))] = some (.ok (.lst ds) [.le o, .ow (.fr (.lst ds))]) from rfl]
  dsimp only
  rw [frz_x q4]
  dsimp only
  rw [hix]
  rfl
theorem call_pick {i : Nat} {ρ : Rho} {s0 : Sl} {o : O} {ds : List D} {f : Mo D} (e : ρ[i]? = some s0) (et : s0.tr = some o) (ho : HP o) (hf : f ρ = some (.ok (.lst ds) ρ)) (h1 : 1 ≤ ds.length) (h2 : ds.length < 1000) :
    ∃ d o', d ∈ ds ∧ HP o' ∧ callM 2 F__law_pick (agL i (agV f agN)) ρ = some (.ok (.fr d) (ρ.set i (s0.put o'))) := by
  obtain ⟨d, o', q1, q2, q3⟩ := pick_eq o ho ds h1 h2
  refine ⟨d, o', q1, q2, ?_⟩
  simp [callM, agL, agV, agN, e, et, hf, toSl, noDup, lents, back, q3]
end K09
set_option maxHeartbeats 4000000
namespace K09
open PySem PySem.Spec L2 Tr
theorem pow_eq (k : Nat) (hk : k ≤ 1000) : powD (.int 10) (.int (Nat.cast k)) = some (.int (10 ^ k)) := by
  show (if 0 ≤ (Nat.cast k : Int) ∧ (Nat.cast k : Int) ≤ 1000000 ∧ (10 : Int).natAbs < 2 ^ 64 then some (D.int (10 ^ (Nat.cast k : Int).toNat)) else none) = _
  rw [if_pos ⟨by omega, by omega, by decide⟩, Int.toNat_natCast]
def bR (ns : List Int) (k : Int) (s2 s3 : Sl) : Rho := [.ow (.fr (.scr ns)), .ow (.fr (.int k)), s2, s3]
theorem box_eq (ns : List Int) (k : Nat) (hk : k < ns.length ∨ ns.length = 0) : ∃ o, HP o ∧ F__law_box [.ow (.fr (.scr ns)), .ow (.fr (.int (Nat.cast k)))] = some (.ret o [.no, .no]) := by
  have e1 := (set_p (i := 2) (f := pu2 addD (pu2 mulAD (cst (.int 7013)) (var 1)) (cst (.int 2411))) (ρ := bR ns k .no .no) (d := .int (7013 * k + 2411)) (pu2_of (pu2_of rfl rfl (mul_l 7013 k (by omega))) rfl rfl) ⟨.no, rfl, rfl⟩).trans (show _ = some (So.nx (bR ns k (.ow (.fr (.int (7013 * k + 2411)))) .no)) from rfl)
  have hln : ∀ s2, pu1 lenD (var 0) (bR ns k s2 .no) = some (.int (Nat.cast ns.length)) := fun s2 => by
    show some (D.int (Nat.cast (ns.map D.int).length)) = _
    rw [List.length_map]
  have q1 : ∀ s2, quM (tb (pu2 ltD (var 1) (pu1 lenD (var 0)))) (bR ns k s2 .no) = some (.ok (decide ((Nat.cast k : Int) < Nat.cast ns.length)) (bR ns k s2 .no)) := fun s2 => qu_of (pu2_of rfl (hln s2) rfl)
  have q2 : ∀ s2, quM (tb (pu2 gtD (pu1 lenD (var 0)) (cst (.int 0)))) (bR ns k s2 .no) = some (.ok (decide ((0 : Int) < Nat.cast ns.length)) (bR ns k s2 .no)) := fun s2 => qu_of (pu2_of (hln s2) rfl rfl)
  have e2 : ∀ w : MS, ∃ c : Int, ifS (quM (tb (pu2 ltD (var 1) (pu1 lenD (var 0))))) (setF 2 (ofP (pu1 absD (pu2 ixD (var 0) (var 1))))) (ifS (quM (tb (pu2 gtD (pu1 lenD (var 0)) (cst (.int 0))))) w nxS) (bR ns k (.ow (.fr (.int (7013 * k + 2411)))) .no) = some (.nx (bR ns k (.ow (.fr (.int c))) .no)) := by
    intro w
    rcases hk with hk | hk
    · have hq := q1 (.ow (.fr (.int (7013 * k + 2411))))
      rw [decide_eq_true (by omega)] at hq
      have hx : ixD (.scr ns) (.int (Nat.cast k)) = some (.int ns[k]) := by
        show (atI ns (Nat.cast k)).map D.int = _
        rw [L2.atI_nat (v := ns[k]) (by rw [List.getElem?_eq_getElem hk])]; rfl
      refine ⟨Nat.cast ns[k].natAbs, (if_t hq).trans ?_⟩
      exact (set_p (i := 2) (d := .int (Nat.cast ns[k].natAbs)) (pu1_of (pu2_of rfl rfl hx) rfl) ⟨_, rfl, rfl⟩).trans rfl
    · have hq := q1 (.ow (.fr (.int (7013 * k + 2411))))
      have hq2 := q2 (.ow (.fr (.int (7013 * k + 2411))))
      rw [decide_eq_false (by omega)] at hq hq2
      exact ⟨_, (if_f hq).trans ((if_f hq2).trans rfl)⟩
  obtain ⟨c, e2⟩ := e2 (setF 2 (ofP (pu2 addD (var 2) (pu2 mulAD (pu2 modD (pu1 intD (pu1 absD (pu2 ixD (var 0) (pu2 modD (pu1 intD (var 1)) (pu1 lenD (var 0)))))) (cst (.int 2147483629))) (cst (.int 60719))))))
  obtain ⟨g, hg, e3⟩ : ∃ g : Int, (g = 0 ∨ g = 1) ∧ setF 3 (ofP (pu1 intD (pu2 geD (var 2) (pu2 powD (cst (.int 10)) (cst (.int 18)))))) (bR ns k (.ow (.fr (.int c))) .no) = some (.nx (bR ns k (.ow (.fr (.int c))) (.ow (.fr (.int g))))) := by
    refine ⟨if decide ((10 : Int) ^ 18 ≤ c) then 1 else 0, by split <;> simp, ?_⟩
    exact (set_p (i := 3) (ρ := bR ns k (.ow (.fr (.int c))) .no) (f := pu1 intD (pu2 geD (var 2) (pu2 powD (cst (.int 10)) (cst (.int 18))))) (d := .int (if decide ((10 : Int) ^ 18 ≤ c) then 1 else 0)) (pu1_of (pu2_of rfl (pu2_of rfl rfl (pow_eq 18 (by decide))) rfl) rfl) ⟨.no, rfl, rfl⟩).trans rfl
  let R : Rho := bR ns k (.ow (.fr (.int c))) (.ow (.fr (.int g)))
  obtain ⟨a, va⟩ : ∃ a : Int, pu2 ixD (lstP (lpC (cst (.int 0)) (lpC (var 2) lpN))) (var 3) R = some (.int a) := by
    have vl : lstP (lpC (cst (.int 0)) (lpC (var 2) lpN)) R = some (.lst [.int 0, .int c]) := by
      show (if ([D.int 0, .int c]).length ≤ sizeLine then some (D.lst [.int 0, .int c]) else none) = _
      rw [if_pos (by rw [sizeLine_eq]; show 2 ≤ 16777216; decide)]
    rcases hg with rfl | rfl
    · exact ⟨0, pu2_of vl rfl rfl⟩
    · exact ⟨c, pu2_of vl rfl rfl⟩
  obtain ⟨b, vb⟩ : ∃ b : Int, pu2 addD (pu2 modD (pu1 intD (pu2 addD (pu2 addD (pu2 mulAD (pu2 modD (pu1 intD (var 2)) (cst (.int 2147483629))) (cst (.int 48271))) (pu2 mulAD (cst (.int 30011)) (var 1))) (cst (.int 977)))) (cst (.int 2147483629))) (cst (.int 1)) R = some (.int b) :=
    ⟨_, pu2_of (pu2_of (pu1_of (pu2_of (pu2_of (pu2_of (pu2_of (pu1_of rfl rfl) rfl (mod_eq c _ (by omega))) rfl (mul_r _ 48271 (by omega))) (pu2_of rfl rfl (mul_l 30011 k (by omega))) rfl) rfl rfl) rfl) rfl (mod_eq _ _ (by omega))) rfl rfl⟩
  refine ⟨bxO a b 0, ⟨_, _, _, rfl⟩, ?_⟩
  have e4 : retS (lstX (lxC (ofP (pu2 ixD (lstP (lpC (cst (.int 0)) (lpC (var 2) lpN))) (var 3))) (lxC (ofP (pu2 addD (pu2 modD (pu1 intD (pu2 addD (pu2 addD (pu2 mulAD (pu2 modD (pu1 intD (var 2)) (cst (.int 2147483629))) (cst (.int 48271))) (pu2 mulAD (cst (.int 30011)) (var 1))) (cst (.int 977)))) (cst (.int 2147483629))) (cst (.int 1)))) (lxC (ofP (cst (.int 0))) lxN)))) R = some (.rt (bxO a b 0) R) := by
    have l := lx_cons (a := ofP (pu2 ixD (lstP (lpC (cst (.int 0)) (lpC (var 2) lpN))) (var 3))) (by unfold ofP; rw [va]) (lx_cons (a := ofP (pu2 addD (pu2 modD (pu1 intD (pu2 addD (pu2 addD (pu2 mulAD (pu2 modD (pu1 intD (var 2)) (cst (.int 2147483629))) (cst (.int 48271))) (pu2 mulAD (cst (.int 30011)) (var 1))) (cst (.int 977)))) (cst (.int 2147483629))) (cst (.int 1)))) (by unfold ofP; rw [vb]) (show lxC (ofP (cst (.int 0))) lxN R = some (.ok [.fr (.int 0)] R) from rfl))
    unfold retS lstX
    rw [l]
    dsimp only
    rw [if_pos (show ([O.fr (.int a), .fr (.int b), .fr (.int 0)]).length ≤ sizeLine by rw [sizeLine_eq]; show 3 ≤ 16777216; decide)]
    rfl
  unfold F__law_box
  refine run_rt (ρ := R) ?_ (by simp [R, bR]) rfl
  show m__law_box (bR ns k .no .no) = _
  unfold m__law_box
  rw [seq_nx e1, seq_nx e2, seq_nx e3, e4]
end K09
set_option maxHeartbeats 4000000
namespace K09
open PySem PySem.Spec L2 Tr
/-! ### rows of the law: ends and answers -/
def wR (n : Nat) (o : O) (kd st : Int) (s4 : Sl) : Rho := [.le o, .ow (.fr (.int (Nat.cast n))), .ow (.fr (.int kd)), .ow (.fr (.int st)), s4]
def FeOk (n : Nat) (kd st : Int) (P : Int → Prop) (fe : Mo O) : Prop := ∀ (i : Nat) (o : O), i < n → HP o → ∃ x o', P x ∧ HP o' ∧ fe (wR n o kd st (.ow (.fr (.int (Nat.cast i))))) = some (.ok (.fr (.int x)) (wR n o' kd st (.ow (.fr (.int (Nat.cast i))))))
theorem rowL {n : Nat} {kd st : Int} {P : Int → Prop} {fe : Mo O} (h : FeOk n kd st P fe) : ∀ (l : List Nat), (∀ i ∈ l, i < n) → ∀ o, HP o →
    ∃ (r : List Int) (o' : O), r.length = l.length ∧ (∀ x ∈ r, P x) ∧ HP o' ∧ lcL (gN 4) yes fe [4] (l.map fun i => D.int (Nat.cast i)) (wR n o kd st .no) = some ((r.map D.int).map O.fr, wR n o' kd st .no)
  | [], _, o, ho => ⟨[], o, rfl, by simp, ho, rfl⟩
  | i :: l, hi, o, ho => by
    obtain ⟨x, o1, px, ho1, e1⟩ := h i o (hi i (List.mem_cons_self ..)) ho
    obtain ⟨r, o2, hl, hp, ho2, e2⟩ := rowL h l (fun j hj => hi j (List.mem_cons_of_mem _ hj)) o1 ho1
    refine ⟨x :: r, o2, by rw [List.length_cons, List.length_cons, hl], fun y hy => ?_, ho2, ?_⟩
    · rcases List.mem_cons.mp hy with rfl | hy
      · exact px
      · exact hp y hy
    · rw [List.map_cons]
      unfold lcL
      rw [show gN 4 (D.int (Nat.cast i)) (wR n o kd st .no) = some (wR n o kd st (.ow (.fr (.int (Nat.cast i))))) from rfl]
      dsimp only
      rw [show yes (wR n o kd st (.ow (.fr (.int (Nat.cast i))))) = some (.ok true (wR n o kd st (.ow (.fr (.int (Nat.cast i)))))) from rfl]
      dsimp only
      rw [e1]
      dsimp only
      rw [show wipeR (wR n o1 kd st (.ow (.fr (.int (Nat.cast i))))) [4] = wR n o1 kd st .no from rfl, e2]
      rfl
theorem rowR {n : Nat} (hn : n ≤ 1000) {kd st : Int} {P : Int → Prop} {fe : Mo O} (h : FeOk n kd st P fe) {o : O} (ho : HP o) :
    ∃ (r : List Int) (o' : O), r.length = n ∧ (∀ x ∈ r, P x) ∧ HP o' ∧ retS (frM (mo1 tupD (frzM (lcM (itR1 (puV (var 1))) (gN 4) yes fe [4])))) (wR n o kd st .no) = some (.rt (.fr (rowD r)) (wR n o' kd st .no)) := by
  obtain ⟨r, o', hl, hp, ho', e⟩ := rowL h (List.range n) (fun i m => List.mem_range.mp m) o ho
  refine ⟨r, o', by rw [hl, List.length_range], hp, ho', ?_⟩
  have it : itR1 (puV (var 1)) (wR n o kd st .no) = some (.ok ((List.range n).map fun i => D.int (Nat.cast i)) (wR n o kd st .no)) := by
    show (if -(2 ^ 62) ≤ (Nat.cast n : Int) ∧ (Nat.cast n : Int) ≤ 16777216 then some (Re.ok (rngD 0 (Nat.cast n : Int).toNat) (wR n o kd st .no)) else none) = _
    rw [if_pos ⟨by omega, by omega⟩, Int.toNat_natCast, rngD_eq]
  have c := lcM_ok (fe := fe) it (show frOk (wR n o kd st .no) [4] = true from rfl) e
  rw [mkL_fr] at c
  unfold retS frM mo1
  rw [frz_fl c]
  rfl
theorem two_takes {n : Nat} {m1 m2 : Int} {fa fb : Mo D} {o : O} (ho : HP o) (h1 : 1 ≤ m1 ∧ m1 < 2 ^ 64) (h2 : 1 ≤ m2 ∧ m2 < 2 ^ 64)
    (ha : ∀ o, fa [.le o, .ow (.fr (.int (Nat.cast n))), .no, .no, .no] = some (.ok (.int m1) [.le o, .ow (.fr (.int (Nat.cast n))), .no, .no, .no])) (hb : ∀ o, fb [.le o, .ow (.fr (.int (Nat.cast n))), .no, .no, .no] = some (.ok (.int m2) [.le o, .ow (.fr (.int (Nat.cast n))), .no, .no, .no])) :
    ∃ kd st o', 0 ≤ kd ∧ kd < m1 ∧ 0 ≤ st ∧ st < m2 ∧ HP o' ∧ asgS (tupV (lvC (frzM (callM 2 F__law_take (agL 0 (agV fa agN)))) (lvC (frzM (callM 2 F__law_take (agL 0 (agV fb agN)))) lvN))) (gT 2 (gsC (gN 2) (gsC (gN 3) gsN))) [.le o, .ow (.fr (.int (Nat.cast n))), .no, .no, .no] = some (.nx (wR n o' kd st .no)) := by
  obtain ⟨kd, o1, k0, k1, ho1, c1⟩ := call_take (i := 0) (s0 := .le o) (ρ := [.le o, .ow (.fr (.int (Nat.cast n))), .no, .no, .no]) (f := fa) rfl rfl ho (ha o) h1.1 h1.2
  obtain ⟨st, o2, t0, t1, ho2, c2⟩ := call_take (i := 0) (s0 := .le o1) (ρ := [.le o1, .ow (.fr (.int (Nat.cast n))), .no, .no, .no]) (f := fb) rfl rfl ho1 (hb o1) h2.1 h2.2
  refine ⟨kd, st, o2, k0, k1, t0, t1, ho2, ?_⟩
  have l2 := lv_consD (r := lvN) (xs := []) (ρ2 := [.le o2, .ow (.fr (.int (Nat.cast n))), .no, .no, .no]) (frz_x c2) rfl
  have l1 := lv_consD (frz_x c1) l2
  unfold asgS tupV
  rw [l1]
  dsimp only
  rw [if_pos (show ([D.int kd, .int st]).length ≤ sizeLine by rw [sizeLine_eq]; show 2 ≤ 16777216; decide)]
  rfl
theorem q_kd {n : Nat} {o : O} {kd st c : Int} : quM (tb (pu2 eqD (var 2) (cst (.int c)))) (wR n o kd st .no) = some (.ok (decide (kd = c)) (wR n o kd st .no)) := qu_of (pu2_of rfl rfl (eqD_int kd c))
theorem ends_row {n : Nat} (n1 : 1 ≤ n) (n2 : n ≤ 200) {o : O} (ho : HP o) : ∃ (r : List Int) (o' : O), rowN r n n ∧ HP o' ∧ F__law_ends [.le o, .ow (.fr (.int (Nat.cast n)))] = some (.ret (.fr (rowD r)) [.le o', .no]) := by
  obtain ⟨kd, st, o1, k0, k1, t0, t1, ho1, e1⟩ := two_takes (n := n) (m1 := 6) (m2 := Nat.cast n) (fa := puV (cst (.int 6))) (fb := puV (var 1)) ho (by omega) (by omega) (fun _ => rfl) (fun _ => rfl)
  have done : ∀ {r : List Int} {o' : O}, r.length = n → (∀ x ∈ r, 0 ≤ x ∧ x < (n : Int)) → HP o' → m__law_ends [.le o, .ow (.fr (.int (Nat.cast n))), .no, .no, .no] = some (.rt (.fr (rowD r)) (wR n o' kd st .no)) → ∃ (r : List Int) (o' : O), rowN r n n ∧ HP o' ∧ F__law_ends [.le o, .ow (.fr (.int (Nat.cast n)))] = some (.ret (.fr (rowD r)) [.le o', .no]) := by
    intro r o' hl hp ho' e
    refine ⟨r, o', ⟨hl, hp⟩, ho', ?_⟩
    unfold F__law_ends
    exact run_rt (ρ := wR n o' kd st .no) e (by simp [wR]) rfl
  have f0 : FeOk n kd st (fun x => 0 ≤ x ∧ x < (n : Int)) (ofP (pu2 modD (pu1 intD (pu2 addD (var 4) (var 3))) (var 1))) := fun i o hi ho => by
    have v : pu2 modD (pu1 intD (pu2 addD (var 4) (var 3))) (var 1) (wR n o kd st (.ow (.fr (.int (Nat.cast i))))) = some (.int ((Nat.cast i + st) % Nat.cast n)) := pu2_of (pu1_of (pu2_of rfl rfl rfl) rfl) rfl (mod_eq _ _ (by omega))
    refine ⟨(Nat.cast i + st) % Nat.cast n, o, ⟨Int.emod_nonneg _ (by omega), Int.emod_lt_of_pos _ (by omega)⟩, ho, ?_⟩
    unfold ofP
    rw [v]
  have f1 : FeOk n kd st (fun x => 0 ≤ x ∧ x < (n : Int)) (ofP (var 3)) := fun i o hi ho => ⟨st, o, ⟨t0, t1⟩, ho, rfl⟩
  have f2 : FeOk n kd st (fun x => 0 ≤ x ∧ x < (n : Int)) (ifM (quM (tb (pu2 eqD (var 4) (pu2 subD (var 1) (cst (.int 1)))))) (ofP (var 3)) (ofP (var 4))) := fun i o hi ho => by
    have q : quM (tb (pu2 eqD (var 4) (pu2 subD (var 1) (cst (.int 1))))) (wR n o kd st (.ow (.fr (.int (Nat.cast i))))) = some (.ok (decide ((Nat.cast i : Int) = Nat.cast n - 1)) (wR n o kd st (.ow (.fr (.int (Nat.cast i)))))) := qu_of (pu2_of rfl (pu2_of rfl rfl rfl) (eqD_int _ _))
    by_cases hd : (Nat.cast i : Int) = Nat.cast n - 1
    · rw [decide_eq_true hd] at q
      refine ⟨st, o, ⟨t0, t1⟩, ho, ?_⟩
      unfold ifM
      rw [q]
      rfl
    · rw [decide_eq_false hd] at q
      refine ⟨Nat.cast i, o, ⟨by omega, by omega⟩, ho, ?_⟩
      unfold ifM
      rw [q]
      rfl
  have f3 : FeOk n kd st (fun x => 0 ≤ x ∧ x < (n : Int)) (callM 2 F__law_take (agL 0 (agV (puV (var 1)) agN))) := fun i o hi ho => by
    obtain ⟨x, o', x0, x1, ho', c⟩ := call_take (i := 0) (s0 := .le o) (ρ := wR n o kd st (.ow (.fr (.int (Nat.cast i))))) (m := Nat.cast n) (f := puV (var 1)) rfl rfl ho rfl (by omega) (by omega)
    exact ⟨x, o', ⟨x0, x1⟩, ho', c⟩
  by_cases h0 : kd = 0
  · obtain ⟨r, o', hl, hp, ho', e⟩ := rowR (by omega) f0 ho1
    refine done hl hp ho' ?_
    unfold m__law_ends
    rw [seq_nx e1]
    exact seq_rt ((if_t (by rw [q_kd, decide_eq_true h0])).trans e)
  have g0 : ∀ u, ifS (quM (tb (pu2 eqD (var 2) (cst (.int 0))))) u nxS (wR n o1 kd st .no) = some (.nx (wR n o1 kd st .no)) := fun u => (if_f (by rw [q_kd, decide_eq_false h0])).trans rfl
  by_cases h1 : kd = 1
  · obtain ⟨r, o', hl, hp, ho', e⟩ := rowR (by omega) f1 ho1
    refine done hl hp ho' ?_
    unfold m__law_ends
    rw [seq_nx e1, seq_nx (g0 _)]
    exact seq_rt ((if_t (by rw [q_kd, decide_eq_true h1])).trans e)
  have g1 : ∀ u, ifS (quM (tb (pu2 eqD (var 2) (cst (.int 1))))) u nxS (wR n o1 kd st .no) = some (.nx (wR n o1 kd st .no)) := fun u => (if_f (by rw [q_kd, decide_eq_false h1])).trans rfl
  by_cases h2 : kd = 2
  · obtain ⟨r, o', hl, hp, ho', e⟩ := rowR (by omega) f2 ho1
    refine done hl hp ho' ?_
    unfold m__law_ends
    rw [seq_nx e1, seq_nx (g0 _), seq_nx (g1 _)]
    exact seq_rt ((if_t (by rw [q_kd, decide_eq_true h2])).trans e)
  have g2 : ∀ u, ifS (quM (tb (pu2 eqD (var 2) (cst (.int 2))))) u nxS (wR n o1 kd st .no) = some (.nx (wR n o1 kd st .no)) := fun u => (if_f (by rw [q_kd, decide_eq_false h2])).trans rfl
  obtain ⟨r, o', hl, hp, ho', e⟩ := rowR (by omega) f3 ho1
  refine done hl hp ho' ?_
  unfold m__law_ends
  rw [seq_nx e1, seq_nx (g0 _), seq_nx (g1 _), seq_nx (g2 _)]
  exact e
end K09
set_option maxHeartbeats 4000000
namespace K09
open PySem PySem.Spec L2 Tr
theorem call_pick' {i : Nat} {ρ ρ1 : Rho} {s0 s1 : Sl} {o0 o : O} {ds : List D} {f : Mo D} (e0 : ρ[i]? = some s0) (et0 : s0.tr = some o0) (hf : f ρ = some (.ok (.lst ds) ρ1)) (e : ρ1[i]? = some s1) (et : s1.tr = some o) (ho : HP o) (h1 : 1 ≤ ds.length) (h2 : ds.length < 1000) :
    ∃ d o', d ∈ ds ∧ HP o' ∧ callM 2 F__law_pick (agL i (agV f agN)) ρ = some (.ok (.fr d) (ρ1.set i (s1.put o'))) := by
  obtain ⟨d, o', q1, q2, q3⟩ := pick_eq o ho ds h1 h2
  refine ⟨d, o', q1, q2, ?_⟩
  simp [callM, agL, agV, agN, e0, et0, e, et, hf, toSl, noDup, lents, back, q3]
theorem told_row {n : Nat} (n1 : 1 ≤ n) (n2 : n ≤ 200) {o : O} (ho : HP o) : ∃ (r : List Int) (o' : O), rowN r n 1000000000001 ∧ HP o' ∧ F__law_told [.le o, .ow (.fr (.int (Nat.cast n)))] = some (.ret (.fr (rowD r)) [.le o', .no]) := by
  have pw : powD (.int 10) (.int 12) = some (.int 1000000000000) := by have := pow_eq 12 (by decide); rw [show ((10 : Int) ^ 12) = 1000000000000 from by decide] at this; exact this
  obtain ⟨kd, st, o1, k0, k1, t0, t1, ho1, e1⟩ := two_takes (n := n) (m1 := 3) (m2 := 1000000000001) (fa := puV (cst (.int 3))) (fb := puV (pu2 addD (pu2 powD (cst (.int 10)) (cst (.int 12))) (cst (.int 1)))) ho (by omega) (by omega) (fun _ => rfl) (fun _ => pu_of (pu2_of (pu2_of rfl rfl pw) rfl rfl))
  have done : ∀ {r : List Int} {o' : O}, r.length = n → (∀ x ∈ r, 0 ≤ x ∧ x < (1000000000001 : Int)) → HP o' → m__law_told [.le o, .ow (.fr (.int (Nat.cast n))), .no, .no, .no] = some (.rt (.fr (rowD r)) (wR n o' kd st .no)) → ∃ (r : List Int) (o' : O), rowN r n 1000000000001 ∧ HP o' ∧ F__law_told [.le o, .ow (.fr (.int (Nat.cast n)))] = some (.ret (.fr (rowD r)) [.le o', .no]) := by
    intro r o' hl hp ho' e
    refine ⟨r, o', ⟨hl, hp⟩, ho', ?_⟩
    unfold F__law_told
    exact run_rt (ρ := wR n o' kd st .no) e (by simp [wR]) rfl
  have f0 : FeOk n kd st (fun x => 0 ≤ x ∧ x < (1000000000001 : Int)) (ofP (var 3)) := fun i o hi ho => ⟨st, o, ⟨t0, t1⟩, ho, rfl⟩
  have f1 : FeOk n kd st (fun x => 0 ≤ x ∧ x < (1000000000001 : Int)) (ofP (var 4)) := fun i o hi ho => ⟨Nat.cast i, o, ⟨by omega, by omega⟩, ho, rfl⟩
  have f2 : FeOk n kd st (fun x => 0 ≤ x ∧ x < (1000000000001 : Int)) (callM 2 F__law_pick (agL 0 (agV (frzM (lstX (lxC (ofP (cst (.int 0))) (lxC (ofP (var 3)) (lxC (callM 2 F__law_take (agL 0 (agV (puV (cst (.int 100))) agN))) lxN))))) agN))) := fun i o hi ho => by
    obtain ⟨x, o', x0, x1, ho', c⟩ := call_take (i := 0) (s0 := .le o) (ρ := wR n o kd st (.ow (.fr (.int (Nat.cast i))))) (m := 100) (f := puV (cst (.int 100))) rfl rfl ho rfl (by omega) (by omega)
    have l : lxC (ofP (cst (.int 0))) (lxC (ofP (var 3)) (lxC (callM 2 F__law_take (agL 0 (agV (puV (cst (.int 100))) agN))) lxN)) (wR n o kd st (.ow (.fr (.int (Nat.cast i))))) = some (.ok [.fr (.int 0), .fr (.int st), .fr (.int x)] (wR n o' kd st (.ow (.fr (.int (Nat.cast i)))))) := lx_cons (ρ1 := wR n o kd st (.ow (.fr (.int (Nat.cast i))))) rfl (lx_cons (ρ1 := wR n o kd st (.ow (.fr (.int (Nat.cast i))))) rfl (lx_cons (r := lxN) (xs := []) (ρ2 := wR n o' kd st (.ow (.fr (.int (Nat.cast i))))) c rfl))
    have f : frzM (lstX (lxC (ofP (cst (.int 0))) (lxC (ofP (var 3)) (lxC (callM 2 F__law_take (agL 0 (agV (puV (cst (.int 100))) agN))) lxN)))) (wR n o kd st (.ow (.fr (.int (Nat.cast i))))) = some (.ok (.lst [.int 0, .int st, .int x]) (wR n o' kd st (.ow (.fr (.int (Nat.cast i)))))) := by
      refine frz_fl ?_
      unfold lstX
      rw [l]
      dsimp only
      rw [if_pos (show ([O.fr (.int 0), .fr (.int st), .fr (.int x)]).length ≤ sizeLine by rw [sizeLine_eq]; show 3 ≤ 16777216; decide)]
      rfl
    obtain ⟨d, o2, hd, ho2, c2⟩ := call_pick' (i := 0) (s0 := .le o) (s1 := .le o') (ρ := wR n o kd st (.ow (.fr (.int (Nat.cast i))))) (ρ1 := wR n o' kd st (.ow (.fr (.int (Nat.cast i))))) rfl rfl f rfl rfl ho' (by show 1 ≤ 3; decide) (by show 3 < 1000; decide)
    have hx : ∃ y : Int, (0 ≤ y ∧ y < 1000000000001) ∧ d = .int y := by
      simp only [List.mem_cons, List.not_mem_nil, or_false] at hd
      rcases hd with rfl | rfl | rfl
      · exact ⟨0, by omega, rfl⟩
      · exact ⟨st, by omega, rfl⟩
      · exact ⟨x, by omega, rfl⟩
    obtain ⟨y, hy, rfl⟩ := hx
    exact ⟨y, o2, hy, ho2, c2⟩
  by_cases h0 : kd = 0
  · obtain ⟨r, o', hl, hp, ho', e⟩ := rowR (by omega) f0 ho1
    refine done hl hp ho' ?_
    unfold m__law_told
    rw [seq_nx e1]
    exact seq_rt ((if_t (by rw [q_kd, decide_eq_true h0])).trans e)
  have g0 : ∀ u, ifS (quM (tb (pu2 eqD (var 2) (cst (.int 0))))) u nxS (wR n o1 kd st .no) = some (.nx (wR n o1 kd st .no)) := fun u => (if_f (by rw [q_kd, decide_eq_false h0])).trans rfl
  by_cases h1 : kd = 1
  · obtain ⟨r, o', hl, hp, ho', e⟩ := rowR (by omega) f1 ho1
    refine done hl hp ho' ?_
    unfold m__law_told
    rw [seq_nx e1, seq_nx (g0 _)]
    exact seq_rt ((if_t (by rw [q_kd, decide_eq_true h1])).trans e)
  have g1 : ∀ u, ifS (quM (tb (pu2 eqD (var 2) (cst (.int 1))))) u nxS (wR n o1 kd st .no) = some (.nx (wR n o1 kd st .no)) := fun u => (if_f (by rw [q_kd, decide_eq_false h1])).trans rfl
  obtain ⟨r, o', hl, hp, ho', e⟩ := rowR (by omega) f2 ho1
  refine done hl hp ho' ?_
  unfold m__law_told
  rw [seq_nx e1, seq_nx (g0 _), seq_nx (g1 _)]
  exact e
end K09
set_option maxHeartbeats 4000000
namespace K09
open PySem PySem.Spec L2 Tr
/-! ### a run of the law -/
def nlD (ops : List Opn) : D := .lst (ops.map fun o => .str o.name)
def uR (o : O) (ops : List Opn) (k : Int) (s3 : Sl) : Rho := [.le o, .ow (.fr (nlD ops)), .ow (.fr (.int k)), s3]
theorem run_lc {ops : List Opn} {k : Int} (h1 : 1 ≤ ops.length) (h2 : ops.length < 1000) : ∀ (ds : List D) (o : O), HP o →
    ∃ (rs : List Opn) (o' : O), rs.length = ds.length ∧ (∀ p ∈ rs, p ∈ ops) ∧ HP o' ∧ lcL (gN 3) yes (callM 2 F__law_pick (agL 0 (agV (puV (var 1)) agN))) [3] ds (uR o ops k .no) = some ((rs.map fun p => D.str p.name).map O.fr, uR o' ops k .no)
  | [], o, ho => ⟨[], o, rfl, by simp, ho, rfl⟩
  | d :: ds, o, ho => by
    obtain ⟨x, o1, hx, ho1, e1⟩ := call_pick (i := 0) (s0 := .le o) (ρ := uR o ops k (.ow (.fr d))) (ds := ops.map fun o => .str o.name) (f := puV (var 1)) rfl rfl ho rfl (by rw [List.length_map]; exact h1) (by rw [List.length_map]; exact h2)
    obtain ⟨p, hp, rfl⟩ := List.mem_map.mp hx
    obtain ⟨rs, o2, hl, hm, ho2, e2⟩ := run_lc h1 h2 ds o1 ho1
    refine ⟨p :: rs, o2, by rw [List.length_cons, List.length_cons, hl], fun y hy => ?_, ho2, ?_⟩
    · rcases List.mem_cons.mp hy with rfl | hy
      · exact hp
      · exact hm y hy
    · unfold lcL
      rw [show gN 3 d (uR o ops k .no) = some (uR o ops k (.ow (.fr d))) from rfl]
      dsimp only
      rw [show yes (uR o ops k (.ow (.fr d))) = some (.ok true (uR o ops k (.ow (.fr d)))) from rfl]
      dsimp only
      rw [e1]
      dsimp only
      rw [show wipeR ((uR o ops k (.ow (.fr d))).set 0 ((Sl.le o).put o1)) [3] = uR o1 ops k .no from rfl, e2]
      rfl
theorem law_run_eq {ops : List Opn} (h2 : ops.length < 1000) {k : Nat} (hk : k ≤ 1000) {o : O} (ho : HP o) :
    ∃ (rs : List Opn) (o' : O), rs.length ≤ k ∧ (∀ p ∈ rs, p ∈ ops) ∧ HP o' ∧ F__law_run [.le o, .ow (.fr (nlD ops)), .ow (.fr (.int (Nat.cast k)))] = some (.ret (.fr (nmD rs)) [.le o', .no, .no]) := by
  have hln : pu1 lenD (var 1) (uR o ops k .no) = some (.int (Nat.cast ops.length)) := by
    show some (D.int (Nat.cast (ops.map fun o => D.str o.name).length)) = _
    rw [List.length_map]
  have q : quM (tb (pu2 eqD (pu1 lenD (var 1)) (cst (.int 0)))) (uR o ops k .no) = some (.ok (decide ((Nat.cast ops.length : Int) = 0)) (uR o ops k .no)) := qu_of (pu2_of hln rfl (eqD_int _ _))
  by_cases h0 : ops.length = 0
  · rw [decide_eq_true (by omega)] at q
    refine ⟨[], o, Nat.zero_le _, by simp, ho, ?_⟩
    unfold F__law_run
    refine run_rt (ρ := uR o ops k .no) ?_ (by simp [uR]) rfl
    show m__law_run (uR o ops k .no) = _
    unfold m__law_run
    exact seq_rt ((if_t q).trans (ret_p rfl))
  · rw [decide_eq_false (by omega)] at q
    obtain ⟨j, o1, j0, j1, ho1, c⟩ := call_take (i := 0) (s0 := .le o) (ρ := uR o ops k .no) (m := Nat.cast k + 1) (f := puV (pu2 addD (var 2) (cst (.int 1)))) rfl rfl ho rfl (by omega) (by omega)
    obtain ⟨rs, o2, hl, hm, ho2, e⟩ := run_lc (k := k) (by omega) h2 ((List.range j.toNat).map fun i => D.int (Nat.cast i)) o1 ho1
    have it : itR1 (frzM (callM 2 F__law_take (agL 0 (agV (puV (pu2 addD (var 2) (cst (.int 1)))) agN)))) (uR o ops k .no) = some (.ok ((List.range j.toNat).map fun i => D.int (Nat.cast i)) (uR o1 ops k .no)) := by
      unfold itR1
      rw [frz_x c]
      dsimp only
      rw [if_pos ⟨by omega, by omega⟩, rngD_eq]
      rfl
    have c2 := lcM_ok it (show frOk (uR o1 ops k .no) [3] = true from rfl) e
    rw [mkL_fr] at c2
    rw [List.length_map, List.length_range] at hl
    refine ⟨rs, o2, by omega, hm, ho2, ?_⟩
    unfold F__law_run
    refine run_rt (ρ := uR o2 ops k .no) ?_ (by simp [uR]) rfl
    show m__law_run (uR o ops k .no) = _
    unfold m__law_run
    rw [seq_nx ((if_f q).trans rfl)]
    unfold retS frM mo1
    rw [frz_fl c2]
    show some (So.rt (O.fr (.tup (rs.map fun p => D.str p.name))) _) = some (So.rt (O.fr (.tup ((rs.map Opn.name).map D.str))) _)
    rw [List.map_map]
    rfl
end K09
set_option maxHeartbeats 4000000
namespace K09
open PySem PySem.Spec L2 Tr
/-! ### the law's own walk -/
def lent2 (o : Opn) : Key × D := (.inr o.name, .tup [rowD o.ends, rowD o.ans])
def ltab (ops : List Opn) : List (Key × D) := ops.map lent2
theorem ltab_val : ∀ {ops : List Opn}, (ops.map Opn.name).Nodup → ∀ o ∈ ops, valD (ltab ops) (.inr o.name) = some (.tup [rowD o.ends, rowD o.ans])
  | [], _, o, h => by cases h
  | p :: ops, h, o, ho => by
    rw [List.map_cons, List.nodup_cons] at h
    unfold valD ltab
    rw [List.map_cons, List.find?_cons]
    by_cases e : p.name = o.name
    · rw [show decide ((lent2 p).1 = (.inr o.name : Key)) = true from decide_eq_true (by show (Sum.inr p.name : Key) = _; rw [e])]
      rcases List.mem_cons.mp ho with rfl | ho
      · rfl
      · exact absurd (List.mem_map.mpr ⟨o, ho, e.symm⟩) h.1
    · rw [show decide ((lent2 p).1 = (.inr o.name : Key)) = false from decide_eq_false fun z => e (Sum.inr.inj z)]
      rcases List.mem_cons.mp ho with rfl | ho
      · exact absurd rfl e
      · exact ltab_val h.2 o ho
theorem anss_snoc : ∀ (s : Int) (l : List Opn) (o : Opn), anss s (l ++ [o]) = anss s l ++ [ansO (fin s l) o]
  | s, [], o => rfl
  | s, p :: l, o => by
    rw [List.cons_append, anss, anss, anss_snoc (stp s p) l o]
    rfl
def kW (ops : List Opn) (s : Int) (rs : List Opn) (f3 f4 : List D) (s5 s6 s7 : Sl) : Rho := [.ow (.fr (.dic (ltab ops))), .ow (.fr (.int s)), .ow (.fr (nmD rs)), .ow (.fl f3), .ow (.fl f4), s5, s6, s7]
def kB : MS := (seqS (asgS (puV (pu2 ixKD (var 0) (var 5))) (gT 2 (gsC (gN 6) (gsC (gN 7) gsN))))
  (seqS (dropS (appX 4 (puV (pu2 ixD (var 7) (flD (conAt 3 (pu1 negD (cst (.int 1)))))))))
  (dropS (appX 3 (puV (pu2 ixD (var 6) (flD (conAt 3 (pu1 negD (cst (.int 1)))))))))))
theorem app_of {i : Nat} {f : Mo D} {ρ : Rho} {ds : List D} {d : D} (e : ρ[i]? = some (.ow (.fl ds))) (h : f ρ = some (.ok d ρ)) (hz : ds.length < 1000000) : dropS (appX i f) ρ = some (.nx (ρ.set i (.ow (.fl (ds ++ [d]))))) := by
  refine drop_of (o := .fr .non) ?_
  unfold appX
  rw [e]
  show (match f ρ with
    | some (.ok d ρ1) => (match ρ1[i]? with
      | some s => (match s.tr with
        | some (.fl ds) => if ds.length < sizeLine then some (Re.ok (O.fr .non) (ρ1.set i (s.put (.fl (ds ++ [d]))))) else none
        | _ => none)
      | none => none)
    | some (.ex c fs ρ1) => some (.ex c fs ρ1)
    | none => none) = _
  rw [h]
  dsimp only
  rw [e]
  show (if ds.length < sizeLine then some (Re.ok (O.fr .non) (ρ.set i ((Sl.ow (.fl ds)).put (.fl (ds ++ [d]))))) else none) = _
  rw [if_pos (by rw [sizeLine_eq]; omega)]
  rfl
theorem kB_eq {n : Nat} {ops : List Opn} (hn : (ops.map Opn.name).Nodup) {s : Int} (hs : 0 ≤ s ∧ s < n) {rs l : List Opn} (hl : ∀ o ∈ l, OpOk n o) (hz : l.length ≤ 100000) {o : Opn} (ho : o ∈ ops) (hok : OpOk n o) {s6 s7 : Sl} (h6 : frS s6) (h7 : frS s7) :
    kB (kW ops s rs ((pas s l).map D.int) ((anss s l).map D.int) (.ow (.fr (.str o.name))) s6 s7) = some (.nx (kW ops s rs ((pas s (l ++ [o])).map D.int) ((anss s (l ++ [o])).map D.int) (.ow (.fr (.str o.name))) (.ow (.fr (rowD o.ends))) (.ow (.fr (rowD o.ans))))) := by
  have b6 := frS_stb h6
  have b7 := frS_stb h7
  have v : pu2 ixKD (var 0) (var 5) (kW ops s rs ((pas s l).map D.int) ((anss s l).map D.int) (.ow (.fr (.str o.name))) s6 s7) = some (.tup [rowD o.ends, rowD o.ans]) := pu2_of rfl rfl (ltab_val hn o ho)
  have e1 : asgS (puV (pu2 ixKD (var 0) (var 5))) (gT 2 (gsC (gN 6) (gsC (gN 7) gsN))) (kW ops s rs ((pas s l).map D.int) ((anss s l).map D.int) (.ow (.fr (.str o.name))) s6 s7) = some (.nx (kW ops s rs ((pas s l).map D.int) ((anss s l).map D.int) (.ow (.fr (.str o.name))) (.ow (.fr (rowD o.ends))) (.ow (.fr (rowD o.ans))))) := by
    unfold asgS
    rw [pu_of v]
    simp [gT, gsC, gsN, gN, kW, stb_at, b6, b7]
  have ca : ∀ f4, flD (conAt 3 (pu1 negD (cst (.int 1)))) (kW ops s rs ((pas s l).map D.int) f4 (.ow (.fr (.str o.name))) (.ow (.fr (rowD o.ends))) (.ow (.fr (rowD o.ans)))) = some (.int (fin s l)) := fun f4 => by
    refine fl_i ?_
    show atI ((pas s l).map D.int) (-1) = _
    obtain ⟨p, ep⟩ := pas_last s l
    rw [ep, List.map_append]
    exact L2.atI_last _ _
  have hf := fin_lt l hl hs
  have v4 : pu2 ixD (var 7) (flD (conAt 3 (pu1 negD (cst (.int 1))))) (kW ops s rs ((pas s l).map D.int) ((anss s l).map D.int) (.ow (.fr (.str o.name))) (.ow (.fr (rowD o.ends))) (.ow (.fr (rowD o.ans)))) = some (.int (ansO (fin s l) o)) := pu2_of rfl (ca _) (row_at hok.ans hf).1
  have v3 : pu2 ixD (var 6) (flD (conAt 3 (pu1 negD (cst (.int 1))))) (kW ops s rs ((pas s l).map D.int) ((anss s (l ++ [o])).map D.int) (.ow (.fr (.str o.name))) (.ow (.fr (rowD o.ends))) (.ow (.fr (rowD o.ans)))) = some (.int (stp (fin s l) o)) := pu2_of rfl (ca _) (row_at hok.ends hf).1
  have e4 := (app_of (i := 4) (ds := (anss s l).map D.int) rfl (pu_of v4) (by rw [List.length_map, anss_len]; omega)).trans (show _ = some (So.nx (kW ops s rs ((pas s l).map D.int) ((anss s (l ++ [o])).map D.int) (.ow (.fr (.str o.name))) (.ow (.fr (rowD o.ends))) (.ow (.fr (rowD o.ans))))) by rw [anss_snoc, List.map_append]; rfl)
  have e3 := (app_of (i := 3) (ds := (pas s l).map D.int) rfl (pu_of v3) (by rw [List.length_map, pas_len]; omega)).trans (show _ = some (So.nx (kW ops s rs ((pas s (l ++ [o])).map D.int) ((anss s (l ++ [o])).map D.int) (.ow (.fr (.str o.name))) (.ow (.fr (rowD o.ends))) (.ow (.fr (rowD o.ans))))) by rw [pas_snoc, List.map_append]; rfl)
  unfold kB
  rw [seq_nx e1, seq_nx e4, e3]
theorem law_walk_eq {n : Nat} {ops : List Opn} (hn : (ops.map Opn.name).Nodup) (hok : ∀ o ∈ ops, OpOk n o) {s : Int} (hs : 0 ≤ s ∧ s < n) {rs : List Opn} (hr : ∀ o ∈ rs, o ∈ ops) (hz : rs.length ≤ 100000) :
    F__law_walk [.ow (.fr (.dic (ltab ops))), .ow (.fr (.int s)), .ow (.fr (nmD rs))] = some (.ret (.fr (.tup [rowD (pas s rs), rowD (anss s rs)])) [.no, .no, .no]) := by
  have e1 : par2 3 4 (lxC (lstX (lxC (ofP (var 1)) lxN)) (lxC (lstX lxN) lxN)) [.ow (.fr (.dic (ltab ops))), .ow (.fr (.int s)), .ow (.fr (nmD rs)), .no, .no, .no, .no, .no] = some (.nx (kW ops s rs ((pas s []).map D.int) ((anss s []).map D.int) .no .no .no)) := rfl
  have lp := forL_inv (α := Opn) (t := gN 5) (b := kB) (f := fun o => D.str o.name) (St := fun l ρ => ∃ s5 s6 s7, frS s5 ∧ frS s6 ∧ frS s7 ∧ ρ = kW ops s rs ((pas s l).map D.int) ((anss s l).map D.int) s5 s6 s7) (bs := []) (as := rs) (fun o l r hl _ ρ ⟨s5, s6, s7, h5, h6, h7, e⟩ => by
      subst e
      rw [List.nil_append] at hl
      have b5 := frS_stb h5
      have hlm : ∀ p ∈ l, OpOk n p := fun p hp => hok p (hr p (by rw [hl]; exact List.mem_append_left _ hp))
      have hll : l.length ≤ 100000 := by have := congrArg List.length hl; rw [List.length_append] at this; omega
      have hom : o ∈ ops := hr o (by rw [hl]; simp)
      refine ⟨kW ops s rs ((pas s l).map D.int) ((anss s l).map D.int) (.ow (.fr (.str o.name))) s6 s7, kW ops s rs ((pas s (l ++ [o])).map D.int) ((anss s (l ++ [o])).map D.int) (.ow (.fr (.str o.name))) (.ow (.fr (rowD o.ends))) (.ow (.fr (rowD o.ans))), ?_, .inl (kB_eq hn hs hlm hll hom (hok o hom) h6 h7), _, _, _, .inr ⟨_, rfl⟩, .inr ⟨_, rfl⟩, .inr ⟨_, rfl⟩, rfl⟩
      simp [gN, kW, stb_at, b5]) (kW ops s rs ((pas s []).map D.int) ((anss s []).map D.int) .no .no .no) ⟨.no, .no, .no, .inl rfl, .inl rfl, .inl rfl, rfl⟩
  obtain ⟨ρ', e2, s5, s6, s7, _, _, _, rfl⟩ := lp
  rw [List.nil_append] at e2
  have c4 : forS (itS (puV (var 2))) (gN 5) kB (kW ops s rs ((pas s []).map D.int) ((anss s []).map D.int) .no .no .no) = some (.nx (kW ops s rs ((pas s rs).map D.int) ((anss s rs).map D.int) s5 s6 s7)) := by
    unfold forS
    have : itS (puV (var 2)) (kW ops s rs ((pas s []).map D.int) ((anss s []).map D.int) .no .no .no) = some (.ok (rs.map fun o => D.str o.name) (kW ops s rs ((pas s []).map D.int) ((anss s []).map D.int) .no .no .no)) := by
      show some (Re.ok ((rs.map Opn.name).map D.str) _) = _
      rw [List.map_map]; rfl
    rw [this]
    exact e2
  have v : tupP (lpC (pu1 tupD (con 3)) (lpC (pu1 tupD (con 4)) lpN)) (kW ops s rs ((pas s rs).map D.int) ((anss s rs).map D.int) s5 s6 s7) = some (.tup [rowD (pas s rs), rowD (anss s rs)]) := by
    show (if ([rowD (pas s rs), rowD (anss s rs)]).length ≤ sizeLine then some (D.tup [rowD (pas s rs), rowD (anss s rs)]) else none) = _
    rw [if_pos (by rw [sizeLine_eq]; show 2 ≤ 16777216; decide)]
  unfold F__law_walk
  refine run_rt (ρ := kW ops s rs ((pas s rs).map D.int) ((anss s rs).map D.int) s5 s6 s7) ?_ (by simp [kW]) rfl
  have hm : m__law_walk = (seqS (par2 3 4 (lxC (lstX (lxC (ofP (var 1)) lxN)) (lxC (lstX lxN) lxN))) (seqS (forS (itS (puV (var 2))) (gN 5) kB) (retS (ofP (tupP (lpC (pu1 tupD (con 3)) (lpC (pu1 tupD (con 4)) lpN))))))) := by unfold m__law_walk kB; rfl
  show m__law_walk [.ow (.fr (.dic (ltab ops))), .ow (.fr (.int s)), .ow (.fr (nmD rs)), .no, .no, .no, .no, .no] = _
  rw [hm, seq_nx e1, seq_nx c4]
  exact ret_p v
end K09
set_option maxHeartbeats 4000000
namespace K09
open PySem PySem.Spec L2 Tr
/-! ### all operations of the law, in order -/
def gR (os : List Off) (l : List Opn) (s2 : Sl) : Rho := [.ow (.fr (offsD os)), .ow (.fr (.lst (l.map opD))), s2]
theorem law_all_eq {n : Nat} {os : List Off} (S : StOk n os) : F__law_all [.ow (.fr (offsD os))] = some (.ret (.fl ((sops os).map opD)) [.no]) := by
  have few := S.few
  have e1 : setF 1 (lstX lxN) [.ow (.fr (offsD os)), .no, .no] = some (.nx (gR os [] .no)) := rfl
  have lp := forL_inv (α := Off) (t := gN 2) (b := setF 1 (ofP (pu2 addD (var 1) (pu1 (fun d => (D.sq d).map .lst) (var 2))))) (f := offD) (St := fun l ρ => ∃ s2, frS s2 ∧ ρ = gR os l.flatten s2) (bs := []) (as := os) (fun f l r hl _ ρ ⟨s2, h2, e⟩ => by
      subst e
      rw [List.nil_append] at hl
      have b2 := frS_stb h2
      have hlen : l.flatten.length + f.length ≤ 40 := by
        have : os.flatten.length = l.flatten.length + (f.length + r.flatten.length) := by rw [hl, List.flatten_append, List.flatten_cons, List.length_append, List.length_append]
        omega
      have v : pu2 addD (var 1) (pu1 (fun d => (D.sq d).map .lst) (var 2)) (gR os l.flatten (.ow (.fr (offD f)))) = some (.lst ((l ++ [f]).flatten.map opD)) := by
        refine pu2_of (d := .lst (l.flatten.map opD)) (e := .lst (f.map opD)) rfl (pu1_of rfl rfl) ?_
        show (if (l.flatten.map opD).length + (f.map opD).length ≤ sizeLine then some (D.lst (l.flatten.map opD ++ f.map opD)) else none) = _
        rw [if_pos (by rw [List.length_map, List.length_map, sizeLine_eq]; omega), ← List.map_append, List.flatten_append, List.flatten_cons, List.flatten_nil, List.append_nil]
      have e2 := (set_p (i := 1) v ⟨_, rfl, rfl⟩).trans (show _ = some (So.nx (gR os (l ++ [f]).flatten (.ow (.fr (offD f))))) from rfl)
      refine ⟨gR os l.flatten (.ow (.fr (offD f))), gR os (l ++ [f]).flatten (.ow (.fr (offD f))), ?_, .inl e2, _, .inr ⟨_, rfl⟩, rfl⟩
      simp [gN, gR, stb_at, b2]) (gR os [] .no) ⟨.no, .inl rfl, rfl⟩
  obtain ⟨ρ', e2, s2, _, rfl⟩ := lp
  rw [List.nil_append] at e2
  have c : forS (itS (puV (var 0))) (gN 2) (setF 1 (ofP (pu2 addD (var 1) (pu1 (fun d => (D.sq d).map .lst) (var 2))))) (gR os [] .no) = some (.nx (gR os os.flatten s2)) := by
    unfold forS
    rw [show itS (puV (var 0)) (gR os [] .no) = some (.ok (os.map offD) (gR os [] .no)) from rfl]
    exact e2
  have hs : sortOD (.lst (os.flatten.map opD)) = some ((sops os).map opD) := by rw [sort_ops _ S.nd, sops_map]
  unfold F__law_all
  refine run_rt (ρ := gR os os.flatten s2) ?_ (by simp [gR]) rfl
  show m__law_all [.ow (.fr (offsD os)), .no, .no] = _
  unfold m__law_all
  rw [seq_nx e1, seq_nx c]
  unfold retS moL
  rw [show var 1 (gR os os.flatten s2) = some (.lst (os.flatten.map opD)) from rfl]
  dsimp only
  rw [hs]
end K09
set_option maxHeartbeats 4000000
namespace K09
open PySem PySem.Spec L2 Tr
def hR (os : List Off) (kv : List (Key × D)) (s2 s3 s4 : Sl) : Rho := [.ow (.fr (offsD os)), .ow (.od kv), s2, s3, s4]
theorem keys_lt (ops : List Opn) : keys (ltab ops) = nk ops := by unfold keys ltab nk; rw [List.map_map]; rfl
theorem law_table_eq {n : Nat} {os : List Off} (S : StOk n os) : F__law_table [.ow (.fr (offsD os))] = some (.ret (.od (ltab (sops os))) [.no]) := by
  have hlen := sops_len S
  have hnd := sops_nd S
  have e1 : setS 1 dic0 [.ow (.fr (offsD os)), .no, .no, .no, .no] = some (.nx (hR os (ltab []) .no .no .no)) := rfl
  have lp := forL_inv (α := Opn) (t := gT 3 (gsC (gN 2) (gsC (gN 3) (gsC (gN 4) gsN)))) (b := stoD 1 (puV (tupP (lpC (var 3) (lpC (var 4) lpN)))) (var 2)) (f := opD) (St := fun l ρ => ∃ s2 s3 s4, frS s2 ∧ frS s3 ∧ frS s4 ∧ ρ = hR os (ltab l) s2 s3 s4) (bs := []) (as := sops os) (fun o l r hl _ ρ ⟨s2, s3, s4, h2, h3, h4, e⟩ => by
      subst e
      rw [List.nil_append] at hl
      have b2 := frS_stb h2
      have b3 := frS_stb h3
      have b4 := frS_stb h4
      have hz : (ltab l).length < sizeLine := by
        have := congrArg List.length hl
        rw [List.length_append] at this
        unfold ltab
        rw [List.length_map, sizeLine_eq]; omega
      have hk : (.inr o.name : Key) ∉ keys (ltab l) := by
        rw [keys_lt]
        exact nk_not (b := r) (by rw [← hl]; exact hnd)
      have ep : putD (ltab l) (.inr o.name) (.tup [rowD o.ends, rowD o.ans]) = ltab (l ++ [o]) := by
        rw [(put_keys hk).2]
        unfold ltab
        rw [List.map_append]; rfl
      have v : puV (tupP (lpC (var 3) (lpC (var 4) lpN))) (hR os (ltab l) (.ow (.fr (.str o.name))) (.ow (.fr (rowD o.ends))) (.ow (.fr (rowD o.ans)))) = some (.ok (.tup [rowD o.ends, rowD o.ans]) (hR os (ltab l) (.ow (.fr (.str o.name))) (.ow (.fr (rowD o.ends))) (.ow (.fr (rowD o.ans))))) := by
        refine pu_of ?_
        show (if ([rowD o.ends, rowD o.ans]).length ≤ sizeLine then some (D.tup [rowD o.ends, rowD o.ans]) else none) = _
        rw [if_pos (by rw [sizeLine_eq]; show 2 ≤ 16777216; decide)]
      have e2 : stoD 1 (puV (tupP (lpC (var 3) (lpC (var 4) lpN)))) (var 2) (hR os (ltab l) (.ow (.fr (.str o.name))) (.ow (.fr (rowD o.ends))) (.ow (.fr (rowD o.ans)))) = some (.nx (hR os (ltab (l ++ [o])) (.ow (.fr (.str o.name))) (.ow (.fr (rowD o.ends))) (.ow (.fr (rowD o.ans))))) := by
        unfold stoD
        rw [v]
        dsimp only
        show (if (ltab l).length < sizeLine then some (So.nx ((hR os (ltab l) (.ow (.fr (.str o.name))) (.ow (.fr (rowD o.ends))) (.ow (.fr (rowD o.ans)))).set 1 ((Sl.ow (.od (ltab l))).put (.od (putD (ltab l) (.inr o.name) (.tup [rowD o.ends, rowD o.ans])))))) else none) = _
        rw [if_pos hz, ep]
        rfl
      refine ⟨_, _, ?_, .inl e2, _, _, _, .inr ⟨_, rfl⟩, .inr ⟨_, rfl⟩, .inr ⟨_, rfl⟩, rfl⟩
      simp [gT, gsC, gsN, gN, hR, stb_at, b2, b3, b4, opD]) (hR os (ltab []) .no .no .no) ⟨.no, .no, .no, .inl rfl, .inl rfl, .inl rfl, rfl⟩
  obtain ⟨ρ', e2, s2, s3, s4, _, _, _, rfl⟩ := lp
  rw [List.nil_append] at e2
  have a := frz_fl (call_v (F := F__law_all) (f := puV (var 0)) (ρ := hR os (ltab []) .no .no .no) (d1 := offsD os) rfl (law_all_eq S))
  have c : forS (itS (frzM (callM 1 F__law_all (agV (puV (var 0)) agN)))) (gT 3 (gsC (gN 2) (gsC (gN 3) (gsC (gN 4) gsN)))) (stoD 1 (puV (tupP (lpC (var 3) (lpC (var 4) lpN)))) (var 2)) (hR os (ltab []) .no .no .no) = some (.nx (hR os (ltab (sops os)) s2 s3 s4)) := by
    unfold forS itS
    rw [a]
    exact e2
  unfold F__law_table
  refine run_rt (ρ := [.ow (.fr (offsD os)), .no, s2, s3, s4]) ?_ (by simp) rfl
  show m__law_table [.ow (.fr (offsD os)), .no, .no, .no, .no] = _
  unfold m__law_table
  rw [seq_nx e1, seq_nx c]
  rfl
end K09
set_option maxHeartbeats 4000000
namespace K09
open PySem PySem.Spec L2 Tr
def othO (n : Nat) (o : Opn) : Opn := ⟨o.name, o.ends.map fun e => (n : Int) - 1 - e, o.ans.reverse⟩
def othS (n : Nat) (os : List Off) : List Off := os.map fun f => f.map (othO n)
theorem oth_flat (n : Nat) (os : List Off) : (othS n os).flatten = os.flatten.map (othO n) := by unfold othS; rw [List.map_flatten]
theorem oth_ok {n : Nat} {os : List Off} (S : StOk n os) : StOk n (othS n os) where
  n1 := S.n1
  n2 := S.n2
  ops := fun o ho => by
    rw [oth_flat] at ho
    obtain ⟨p, hp, rfl⟩ := List.mem_map.mp ho
    have h := S.ops p hp
    refine ⟨h.name, ⟨?_, fun x hx => ?_⟩, ⟨?_, fun x hx => ?_⟩⟩
    · show (p.ends.map fun e => (n : Int) - 1 - e).length = n
      rw [List.length_map]; exact h.ends.1
    · obtain ⟨e, he, rfl⟩ := List.mem_map.mp (show x ∈ p.ends.map fun e => (n : Int) - 1 - e from hx)
      have := h.ends.2 e he
      constructor <;> omega
    · show p.ans.reverse.length = n
      rw [List.length_reverse]; exact h.ans.1
    · exact h.ans.2 x (List.mem_reverse.mp hx)
  nd := by
    rw [oth_flat, List.map_map]
    exact S.nd
  lo := by unfold othS; rw [List.length_map]; exact S.lo
  hi := by unfold othS; rw [List.length_map]; exact S.hi
  few := by rw [oth_flat, List.length_map]; exact S.few
end K09
set_option maxHeartbeats 4000000
namespace K09
open PySem PySem.Spec L2 Tr
theorem lcL_A {α : Type} {t : D → Rho → Option Rho} {q : Mo Bool} {fe : Mo O} {vs : List Nat} {f : α → D} {g : α → O} {ρ : Rho} : ∀ as : List α, (∀ a ∈ as, ∃ ρ1 ρ2, t (f a) ρ = some ρ1 ∧ q ρ1 = some (.ok true ρ1) ∧ fe ρ1 = some (.ok (g a) ρ2) ∧ wipeR ρ2 vs = ρ) → lcL t q fe vs (as.map f) ρ = some (as.map g, ρ)
  | [], _ => rfl
  | a :: as, h => by
    obtain ⟨ρ1, ρ2, e1, e2, e3, e4⟩ := h a (List.mem_cons_self ..)
    rw [List.map_cons]
    unfold lcL
    rw [e1]
    dsimp only
    rw [e2]
    dsimp only
    rw [e3]
    dsimp only
    rw [e4, lcL_A as (fun b hb => h b (List.mem_cons_of_mem _ hb))]
    rfl
/-! ### the same names, turned about -/
def xR (os : List Off) (n : Nat) (fd : List D) (s3 s4 s5 s6 s7 : Sl) : Rho := [.ow (.fr (offsD os)), .ow (.fr (.int (Nat.cast n))), .ow (.fl fd), s3, s4, s5, s6, s7]
def xF : Mo O := ofP (pu2 subD (pu2 subD (var 1) (cst (.int 1))) (var 7))
def xE : Mo O := frM (tupV (lvC (puV (var 4)) (lvC (mo1 tupD (frzM (lcM (itS (puV (var 5))) (gN 7) yes xF [7]))) (lvC (puV (pu1 revTD (var 6))) lvN))))
def xB : MS := dropS (appX 2 (mo1 tupD (frzM (lcM (itS (puV (var 3))) (gT 3 (gsC (gN 4) (gsC (gN 5) (gsC (gN 6) gsN)))) yes xE [4, 5, 6]))))
theorem xE_eq {os : List Off} {n : Nat} {fd : List D} {s3 : Sl} (o : Opn) : xE (xR os n fd s3 (.ow (.fr (.str o.name))) (.ow (.fr (rowD o.ends))) (.ow (.fr (rowD o.ans))) .no) = some (.ok (.fr (opD (othO n o))) (xR os n fd s3 (.ow (.fr (.str o.name))) (.ow (.fr (rowD o.ends))) (.ow (.fr (rowD o.ans))) .no)) := by
  let R : Rho := xR os n fd s3 (.ow (.fr (.str o.name))) (.ow (.fr (rowD o.ends))) (.ow (.fr (rowD o.ans))) .no
  have lp : lcL (gN 7) yes xF [7] (o.ends.map D.int) R = some (o.ends.map (fun e => O.fr (.int ((n : Int) - 1 - e))), R) :=
    lcL_A o.ends fun e _ => ⟨xR os n fd s3 (.ow (.fr (.str o.name))) (.ow (.fr (rowD o.ends))) (.ow (.fr (rowD o.ans))) (.ow (.fr (.int e))), _, rfl, rfl, rfl, rfl⟩
  have c := lcM_ok (fe := xF) (mi := itS (puV (var 5))) (ρ := R) (ρ0 := R) rfl (show frOk R [7] = true from rfl) lp
  rw [mkL_map] at c
  have c1 : mo1 tupD (frzM (lcM (itS (puV (var 5))) (gN 7) yes xF [7])) R = some (.ok (rowD (othO n o).ends) R) := by
    unfold mo1
    rw [frz_fl c]
    dsimp only
    show some (Re.ok (D.tup (o.ends.map fun e => D.int ((n : Int) - 1 - e))) R) = some (Re.ok (D.tup ((o.ends.map fun e => (n : Int) - 1 - e).map D.int)) R)
    rw [List.map_map]; rfl
  have c2 : puV (pu1 revTD (var 6)) R = some (.ok (rowD (othO n o).ans) R) := by
    refine pu_of ?_
    show some (D.tup (o.ans.map D.int).reverse) = some (D.tup (o.ans.reverse.map D.int))
    rw [List.map_reverse]
  have l3 := lv_consD (r := lvN) (xs := []) c2 rfl
  have l2 := lv_consD c1 l3
  have l1 := lv_consD (a := puV (var 4)) (ρ := R) (x := .str o.name) rfl l2
  unfold xE frM tupV
  rw [l1]
  dsimp only
  rw [if_pos (show ([D.str o.name, rowD (othO n o).ends, rowD (othO n o).ans]).length ≤ sizeLine by rw [sizeLine_eq]; show 3 ≤ 16777216; decide)]
  rfl
theorem xB_eq {os : List Off} {n : Nat} {fd : List D} (hz : fd.length < 1000000) (f : Off) : xB (xR os n fd (.ow (.fr (offD f))) .no .no .no .no) = some (.nx (xR os n (fd ++ [offD (f.map (othO n))]) (.ow (.fr (offD f))) .no .no .no .no)) := by
  let R : Rho := xR os n fd (.ow (.fr (offD f))) .no .no .no .no
  have lp : lcL (gT 3 (gsC (gN 4) (gsC (gN 5) (gsC (gN 6) gsN)))) yes xE [4, 5, 6] (f.map opD) R = some (f.map (fun o => O.fr (opD (othO n o))), R) :=
    lcL_A f fun o _ => ⟨xR os n fd (.ow (.fr (offD f))) (.ow (.fr (.str o.name))) (.ow (.fr (rowD o.ends))) (.ow (.fr (rowD o.ans))) .no, _, rfl, rfl, xE_eq o, rfl⟩
  have c := lcM_ok (fe := xE) (mi := itS (puV (var 3))) (ρ := R) (ρ0 := R) rfl (show frOk R [4, 5, 6] = true from rfl) lp
  rw [mkL_map] at c
  have c1 : mo1 tupD (frzM (lcM (itS (puV (var 3))) (gT 3 (gsC (gN 4) (gsC (gN 5) (gsC (gN 6) gsN)))) yes xE [4, 5, 6])) R = some (.ok (offD (f.map (othO n))) R) := by
    unfold mo1
    rw [frz_fl c]
    dsimp only
    show some (Re.ok (D.tup (f.map fun o => opD (othO n o))) R) = some (Re.ok (D.tup ((f.map (othO n)).map opD)) R)
    rw [List.map_map]; rfl
  exact (app_of (i := 2) (ρ := R) (ds := fd) rfl c1 hz).trans rfl
theorem law_other_eq {n : Nat} {os : List Off} (S : StOk n os) : F__law_other [.ow (.fr (offsD os)), .ow (.fr (.int (Nat.cast n)))] = some (.ret (.fr (offsD (othS n os))) [.no, .no]) := by
  have hi := S.hi
  let R0 : Rho := [.ow (.fr (offsD os)), .ow (.fr (.int (Nat.cast n))), .no, .no, .no, .no, .no, .no]
  have e1 : setS 2 (lstX lxN) R0 = some (.nx (xR os n ((othS n []).map offD) .no .no .no .no .no)) := rfl
  have lp := forL_inv (α := Off) (t := gN 3) (b := xB) (f := offD) (St := fun l ρ => ∃ s3, frS s3 ∧ ρ = xR os n ((othS n l).map offD) s3 .no .no .no .no) (bs := []) (as := os) (fun f l r hl _ ρ ⟨s3, h3, e⟩ => by
      subst e
      rw [List.nil_append] at hl
      have b3 := frS_stb h3
      have hll : l.length ≤ 8 := by have := congrArg List.length hl; rw [List.length_append] at this; omega
      have hx := xB_eq (os := os) (n := n) (fd := (othS n l).map offD) (by unfold othS; rw [List.length_map, List.length_map]; omega) f
      have hy : (othS n l).map offD ++ [offD (f.map (othO n))] = (othS n (l ++ [f])).map offD := by unfold othS; rw [List.map_append, List.map_append]; rfl
      rw [hy] at hx
      refine ⟨xR os n ((othS n l).map offD) (.ow (.fr (offD f))) .no .no .no .no, _, ?_, .inl hx, _, .inr ⟨_, rfl⟩, rfl⟩
      simp [gN, xR, stb_at, b3]) (xR os n ((othS n []).map offD) .no .no .no .no .no) ⟨.no, .inl rfl, rfl⟩
  obtain ⟨ρ', e2, s3, _, rfl⟩ := lp
  rw [List.nil_append] at e2
  have c : forS (itS (puV (var 0))) (gN 3) xB (xR os n ((othS n []).map offD) .no .no .no .no .no) = some (.nx (xR os n ((othS n os).map offD) s3 .no .no .no .no)) := by
    unfold forS
    rw [show itS (puV (var 0)) (xR os n ((othS n []).map offD) .no .no .no .no .no) = some (.ok (os.map offD) (xR os n ((othS n []).map offD) .no .no .no .no .no)) from rfl]
    exact e2
  unfold F__law_other
  refine run_rt (ρ := xR os n ((othS n os).map offD) s3 .no .no .no .no) ?_ (by simp [xR]) rfl
  have hm : m__law_other = (seqS (setS 2 (lstX lxN)) (seqS (forS (itS (puV (var 0))) (gN 3) xB) (retS (ofP (pu1 tupD (con 2)))))) := by unfold m__law_other xB xE xF; rfl
  show m__law_other R0 = _
  rw [hm, seq_nx e1, seq_nx c]
  rfl
end K09
set_option maxHeartbeats 4000000
namespace K09
open PySem PySem.Spec L2 Tr
/-! ### names that the law draws, plainly -/
def stems : List Str := ["", "", "k", "go", "xyz", "zz"]
def ltS (c : Nat) : Str := ⟨#[97 + c]⟩
theorem low_at : ∀ c, c < 26 → lowS.cps.toList[c]? = some (97 + c) := by
  have : ∀ c : Fin 26, lowS.cps.toList[c.val]? = some (97 + c.val) := by decide
  intro c h
  exact this ⟨c, h⟩
theorem lt_low {c : Nat} (h : c < 26) : isLow (97 + c) := List.mem_of_getElem? (low_at c h)
theorem stem_low : ∀ z ∈ stems, z.length ≤ 3 ∧ ∀ c ∈ z.cps.toList, isLow c := by
  unfold isLow; decide
theorem app_list (a b : Str) : (a ++ b).cps.toList = a.cps.toList ++ b.cps.toList := by
  show (a.cps ++ b.cps).toList = _
  rw [Array.toList_append]
theorem app_len (a b : Str) : (a ++ b).length = a.length + b.length := by
  show (a.cps ++ b.cps).size = _
  rw [Array.size_append]; rfl
theorem str_ext {a b : Str} (h : a.cps.toList = b.cps.toList) : a = b := by
  cases a with
  | mk x => cases b with
    | mk y => rw [Str.mk.injEq]; exact Array.toList_inj.mp h
theorem cut_ok : ∀ z ∈ stems, ∀ j, j < 4 → (cutS z none (some (Nat.cast j))).length + (cutS z (some (Nat.cast j)) none).length ≤ 3 := by
  have : ∀ z ∈ stems, ∀ j : Fin 4, (cutS z none (some (Nat.cast j.val))).length + (cutS z (some (Nat.cast j.val)) none).length ≤ 3 := by decide
  intro z hz j hj
  exact this z hz ⟨j, hj⟩
theorem cut_low {z : Str} (h : ∀ c ∈ z.cps.toList, isLow c) (lo hi : Option Int) : ∀ c ∈ (cutS z lo hi).cps.toList, isLow c := by
  intro c hc
  unfold cutS at hc
  rw [List.toList_toArray] at hc
  exact h c (List.mem_of_mem_drop (List.mem_of_mem_take hc))
def nmK (p q : Str) (f k : Nat) : Str := p ++ ltS ((f + 5 * k) % 26) ++ q
theorem nmK_len (p q : Str) (f k : Nat) : (nmK p q f k).length = p.length + 1 + q.length := by
  unfold nmK
  rw [app_len, app_len]; rfl
theorem nmK_inj {p q : Str} {f j k : Nat} (hj : j < 16) (hk : k < 16) (e : nmK p q f j = nmK p q f k) : j = k := by
  have h : (nmK p q f j).cps.toList = (nmK p q f k).cps.toList := congrArg (fun s : Str => s.cps.toList) e
  unfold nmK at h
  rw [app_list, app_list, app_list, app_list] at h
  have h2 := List.append_cancel_left (List.append_cancel_right h)
  have h3 : 97 + (f + 5 * j) % 26 = 97 + (f + 5 * k) % 26 := by
    have := congrArg List.head? h2
    exact Option.some.inj this
  omega
theorem nmK_low {p q : Str} (hp : ∀ c ∈ p.cps.toList, isLow c) (hq : ∀ c ∈ q.cps.toList, isLow c) (f k : Nat) : ∀ c ∈ (nmK p q f k).cps.toList, isLow c := by
  intro c hc
  unfold nmK at hc
  rw [app_list, app_list] at hc
  rcases List.mem_append.mp hc with h | h
  · rcases List.mem_append.mp h with h | h
    · exact hp c h
    · have : c = 97 + (f + 5 * k) % 26 := List.mem_singleton.mp h
      subst this
      exact lt_low (by omega)
  · exact hq c h
/-- the names: all of one length, or one of them one letter longer -/
def NmsOk (nm : List Str) : Prop := nm.length = 16 ∧ nm.Nodup ∧ ∀ z ∈ nm, NameOk z
def nmA (p q : Str) (f : Nat) : List Str := (List.range 16).map (nmK p q f)
def nmB (p q : Str) (f pl x : Nat) : List Str := (List.range 16).map fun k => if k = pl then nmK p q f k ++ ltS x else nmK p q f k
theorem nodup_on {g : Nat → Str} (h : ∀ j k, j < 16 → k < 16 → g j = g k → j = k) : ((List.range 16).map g).Nodup := by
  unfold List.Nodup
  rw [List.pairwise_map]
  refine List.Pairwise.imp_of_mem ?_ (List.nodup_range (n := 16))
  intro a b ha hb hne e
  exact hne (h a b (List.mem_range.mp ha) (List.mem_range.mp hb) e)
theorem nmA_ok {p q : Str} (h : p.length + q.length ≤ 3) (hp : ∀ c ∈ p.cps.toList, isLow c) (hq : ∀ c ∈ q.cps.toList, isLow c) (f : Nat) : NmsOk (nmA p q f) := by
  refine ⟨by unfold nmA; rw [List.length_map, List.length_range], nodup_on fun j k hj hk => nmK_inj hj hk, fun z hz => ?_⟩
  obtain ⟨k, _, rfl⟩ := List.mem_map.mp hz
  refine ⟨?_, ?_, nmK_low hp hq f k⟩ <;> rw [nmK_len] <;> omega
theorem nmB_ok {p q : Str} (h : p.length + q.length ≤ 3) (hp : ∀ c ∈ p.cps.toList, isLow c) (hq : ∀ c ∈ q.cps.toList, isLow c) (f pl : Nat) {x : Nat} (hx : x < 26) : NmsOk (nmB p q f pl x) := by
  have hl : ∀ k, (nmK p q f k ++ ltS x).length = p.length + 1 + q.length + 1 := fun k => by rw [app_len, nmK_len]; rfl
  refine ⟨by unfold nmB; rw [List.length_map, List.length_range], nodup_on fun j k hj hk e => ?_, fun z hz => ?_⟩
  · by_cases e1 : j = pl
    · by_cases e2 : k = pl
      · rw [e1, e2]
      · rw [if_pos e1, if_neg e2] at e
        have := congrArg Str.length e
        rw [hl, nmK_len] at this
        omega
    · by_cases e2 : k = pl
      · rw [if_neg e1, if_pos e2] at e
        have := congrArg Str.length e
        rw [hl, nmK_len] at this
        omega
      · rw [if_neg e1, if_neg e2] at e
        exact nmK_inj hj hk e
  · obtain ⟨k, _, rfl⟩ := List.mem_map.mp hz
    by_cases e1 : k = pl
    · rw [if_pos e1]
      refine ⟨?_, ?_, fun c hc => ?_⟩
      · rw [hl]; omega
      · rw [hl]; omega
      · rw [app_list] at hc
        rcases List.mem_append.mp hc with hc | hc
        · exact nmK_low hp hq f k c hc
        · have : c = 97 + x := List.mem_singleton.mp hc
          subst this
          exact lt_low hx
    · rw [if_neg e1]
      refine ⟨?_, ?_, nmK_low hp hq f k⟩ <;> rw [nmK_len] <;> omega
theorem nmB_set {p q : Str} {f pl x : Nat} (h : pl < 16) : (nmA p q f).set pl (nmK p q f pl ++ ltS x) = nmB p q f pl x := by
  unfold nmA nmB
  refine List.ext_getElem (by simp) fun i h1 h2 => ?_
  rw [List.getElem_set]
  by_cases e : pl = i
  · subst e; simp
  · rw [if_neg e]; simp; intro e2; exact absurd e2.symm e
end K09
set_option maxHeartbeats 4000000
namespace K09
open PySem PySem.Spec L2 Tr
/-! ### names that the law draws: the walk -/
theorem fr_of {f : Mo D} {ρ ρ1 : Rho} {d : D} (h : f ρ = some (.ok d ρ1)) : frM f ρ = some (.ok (.fr d) ρ1) := by unfold frM; rw [h]
def yR (o : O) (z : Str) (a f : Nat) (fd : List D) (s7 s8 : Sl) : Rho := [.le o, .ow (.fr (.int 16)), .ow (.fr (.str lowS)), .ow (.fr (.str z)), .ow (.fr (.int (Nat.cast a))), .ow (.fr (.int (Nat.cast f))), .ow (.fl fd), s7, s8]
def yV : Pu D := pu2 addD (pu2 addD (slA (var 3) poN (poS (var 4))) (pu2 ixD (var 2) (pu2 modD (pu1 intD (pu2 addD (var 5) (pu2 mulAD (cst (.int 5)) (var 7)))) (cst (.int 26))))) (slA (var 3) (poS (var 4)) poN)
theorem low_ix {c : Nat} (h : c < 26) : ixD (.str lowS) (.int (Nat.cast c)) = some (.str (ltS c)) := by
  show (if lowS.length ≤ sizeLine then (atI lowS.cps.toList (Nat.cast c)).map fun c => D.str ⟨#[c]⟩ else none) = _
  rw [if_pos (by rw [sizeLine_eq]; show 26 ≤ 16777216; decide), L2.atI_nat (low_at c h)]
  rfl
theorem yV_eq {o : O} {z : Str} (hz : z ∈ stems) {a f k : Nat} (ha : a ≤ 3) (hk : k < 16) {fd : List D} {s8 : Sl} :
    yV (yR o z a f fd (.ow (.fr (.int (Nat.cast k)))) s8) = some (.str (nmK (cutS z none (some (Nat.cast a))) (cutS z (some (Nat.cast a)) none) f k)) := by
  have hl := (stem_low z hz).1
  have hc := cut_ok z hz a (by omega)
  have hs : z.length ≤ sizeLine := by rw [sizeLine_eq]; omega
  let R : Rho := yR o z a f fd (.ow (.fr (.int (Nat.cast k)))) s8
  have v1 : slA (var 3) poN (poS (var 4)) R = some (.str (cutS z none (some (Nat.cast a)))) := by
    show (if z.length ≤ sizeLine then some (D.str (cutS z none (some (Nat.cast a)))) else none) = _
    rw [if_pos hs]
  have v2 : slA (var 3) (poS (var 4)) poN R = some (.str (cutS z (some (Nat.cast a)) none)) := by
    show (if z.length ≤ sizeLine then some (D.str (cutS z (some (Nat.cast a)) none)) else none) = _
    rw [if_pos hs]
  have v3 : pu2 modD (pu1 intD (pu2 addD (var 5) (pu2 mulAD (cst (.int 5)) (var 7)))) (cst (.int 26)) R = some (.int (Nat.cast ((f + 5 * k) % 26))) := by
    refine pu2_of (pu1_of (pu2_of rfl (pu2_of rfl rfl (mul_l 5 (Nat.cast k) (by omega))) rfl) rfl) rfl ((mod_eq _ 26 (by omega)).trans ?_)
    rw [show ((Nat.cast f : Int) + 5 * Nat.cast k) % 26 = ((Nat.cast ((f + 5 * k) % 26)) : Int) by omega]
  have v4 : pu2 ixD (var 2) (pu2 modD (pu1 intD (pu2 addD (var 5) (pu2 mulAD (cst (.int 5)) (var 7)))) (cst (.int 26))) R = some (.str (ltS ((f + 5 * k) % 26))) := pu2_of rfl v3 (low_ix (by omega))
  have hlt : (ltS ((f + 5 * k) % 26)).length = 1 := rfl
  have v5 := pu2_of (g := addD) v1 v4 (show addD (.str (cutS z none (some (Nat.cast a)))) (.str (ltS ((f + 5 * k) % 26))) = some (.str (cutS z none (some (Nat.cast a)) ++ ltS ((f + 5 * k) % 26))) from if_pos (by rw [hlt, sizeLine_eq]; omega))
  exact pu2_of (g := addD) v5 v2 (show addD (.str (cutS z none (some (Nat.cast a)) ++ ltS ((f + 5 * k) % 26))) (.str (cutS z (some (Nat.cast a)) none)) = some (.str _) from if_pos (by rw [app_len, hlt, sizeLine_eq]; omega))
theorem names_loop {o : O} {z : Str} (hz : z ∈ stems) {a f : Nat} (ha : a ≤ 3) : ∃ s7, frS s7 ∧ forS (itR1 (puV (var 1))) (gN 7) (dropS (appX 6 (puV yV))) (yR o z a f [] .no .no) = some (.nx (yR o z a f ((nmA (cutS z none (some (Nat.cast a))) (cutS z (some (Nat.cast a)) none) f).map D.str) s7 .no)) := by
  let g := nmK (cutS z none (some (Nat.cast a))) (cutS z (some (Nat.cast a)) none) f
  have lp := forL_inv (α := Nat) (t := gN 7) (b := dropS (appX 6 (puV yV))) (f := fun i => D.int (Nat.cast i)) (St := fun l ρ => ∃ s7, frS s7 ∧ ρ = yR o z a f (l.map fun k => D.str (g k)) s7 .no) (bs := []) (as := List.range 16) (fun k l r hl _ ρ ⟨s7, h7, e⟩ => by
      subst e
      rw [List.nil_append] at hl
      have b7 := frS_stb h7
      have hkm : k ∈ List.range 16 := by rw [hl]; simp
      have hk := List.mem_range.mp hkm
      have hll : l.length ≤ 16 := by have := congrArg List.length hl; rw [List.length_append, List.length_range] at this; omega
      have e1 := (app_of (i := 6) (f := puV yV) (ρ := yR o z a f (l.map fun k => D.str (g k)) (.ow (.fr (.int (Nat.cast k)))) .no) rfl (pu_of (yV_eq hz ha hk)) (by rw [List.length_map]; omega)).trans (show _ = some (So.nx (yR o z a f ((l ++ [k]).map fun k => D.str (g k)) (.ow (.fr (.int (Nat.cast k)))) .no)) by rw [List.map_append]; rfl)
      refine ⟨yR o z a f (l.map fun k => D.str (g k)) (.ow (.fr (.int (Nat.cast k)))) .no, _, ?_, .inl e1, _, .inr ⟨_, rfl⟩, rfl⟩
      simp [gN, yR, stb_at, b7]) (yR o z a f [] .no .no) ⟨.no, .inl rfl, rfl⟩
  obtain ⟨ρ', e2, s7, h7, rfl⟩ := lp
  rw [List.nil_append] at e2
  refine ⟨s7, h7, ?_⟩
  unfold forS
  have it : itR1 (puV (var 1)) (yR o z a f [] .no .no) = some (.ok ((List.range 16).map fun i => D.int (Nat.cast i)) (yR o z a f [] .no .no)) := rfl
  rw [it]
  unfold nmA
  rw [List.map_map]
  exact e2
theorem names_eq {o : O} (ho : HP o) : ∃ (nm : List Str) (o' : O), NmsOk nm ∧ HP o' ∧ F__law_names [.le o, .ow (.fr (.int 16))] = some (.ret (.fl (nm.map D.str)) [.le o', .no]) := by
  let R0 : Rho := [.le o, .ow (.fr (.int 16)), .no, .no, .no, .no, .no, .no, .no]
  let R1 : O → Rho := fun o => [.le o, .ow (.fr (.int 16)), .ow (.fr (.str lowS)), .no, .no, .no, .no, .no, .no]
  let R2 : O → Str → Rho := fun o z => [.le o, .ow (.fr (.int 16)), .ow (.fr (.str lowS)), .ow (.fr (.str z)), .no, .no, .no, .no, .no]
  have e1 : setF 2 (ofP (cst (.str "abcdefghijklmnopqrstuvwxyz"))) R0 = some (.nx (R1 o)) := rfl
  obtain ⟨d, o1, hd, ho1, c1⟩ := call_pick (i := 0) (s0 := .le o) (ρ := R1 o) (ds := stems.map D.str) (f := puV (lstP (lpC (cst (.str "")) (lpC (cst (.str "")) (lpC (cst (.str "k")) (lpC (cst (.str "go")) (lpC (cst (.str "xyz")) (lpC (cst (.str "zz")) lpN)))))))) rfl rfl ho (by
      refine pu_of ?_
      show (if (stems.map D.str).length ≤ sizeLine then some (D.lst (stems.map D.str)) else none) = _
      rw [if_pos (by rw [sizeLine_eq]; show 6 ≤ 16777216; decide)]) (by decide) (by decide)
  obtain ⟨z, hz, rfl⟩ := List.mem_map.mp hd
  have hl := (stem_low z hz).1
  have hlow := (stem_low z hz).2
  have hs : z.length ≤ sizeLine := by rw [sizeLine_eq]; omega
  have e2 := (set_of (i := 3) c1 ⟨.no, rfl, rfl⟩).trans (show _ = some (So.nx (R2 o1 z)) from rfl)
  obtain ⟨r, o2, r0, r1, ho2, c2⟩ := call_take (i := 0) (s0 := .le o1) (ρ := R2 o1 z) (m := Nat.cast z.length + 1) (f := puV (pu2 addD (pu1 lenD (var 3)) (cst (.int 1)))) rfl rfl ho1 (pu_of (pu2_of (pu1_of rfl (if_pos hs)) rfl rfl)) (by omega) (by omega)
  obtain ⟨x, o3, x0, x1, ho3, c3⟩ := call_take (i := 0) (s0 := .le o2) (ρ := R2 o2 z) (m := 26) (f := puV (cst (.int 26))) rfl rfl ho2 rfl (by omega) (by omega)
  obtain ⟨a, rfl⟩ : ∃ a : Nat, r = Nat.cast a := ⟨r.toNat, by omega⟩
  obtain ⟨f, rfl⟩ : ∃ f : Nat, x = Nat.cast f := ⟨x.toNat, by omega⟩
  have ha : a ≤ 3 := by omega
  have e3 : par3 4 5 6 (lxC (frM (frzM (callM 2 F__law_take (agL 0 (agV (puV (pu2 addD (pu1 lenD (var 3)) (cst (.int 1)))) agN))))) (lxC (frM (frzM (callM 2 F__law_take (agL 0 (agV (puV (cst (.int 26))) agN))))) (lxC (lstX lxN) lxN))) (R2 o1 z) = some (.nx (yR o3 z a f [] .no .no)) := by
    have l3 : lxC (lstX lxN) lxN (R2 o3 z) = some (.ok [.fl []] (R2 o3 z)) := rfl
    have l2 := lx_cons (ρ1 := R2 o3 z) (fr_of (frz_x c3)) l3
    have l1 := lx_cons (ρ1 := R2 o2 z) (fr_of (frz_x c2)) l2
    unfold par3
    rw [l1]
    rfl
  obtain ⟨s7, h7, e4⟩ := names_loop (o := o3) (f := f) hz ha
  have hpq := cut_ok z hz a (by omega)
  have hp := cut_low hlow none (some (Nat.cast a))
  have hq := cut_low hlow (some (Nat.cast a)) none
  generalize cutS z none (some (Nat.cast a)) = p at *
  generalize cutS z (some (Nat.cast a)) none = q at *
  obtain ⟨y, o4, y0, y1, ho4, c4⟩ := call_take (i := 0) (s0 := .le o3) (ρ := yR o3 z a f ((nmA p q f).map D.str) s7 .no) (m := 16) (f := puV (var 1)) rfl rfl ho3 rfl (by omega) (by omega)
  obtain ⟨pl, rfl⟩ : ∃ a : Nat, y = Nat.cast a := ⟨y.toNat, by omega⟩
  have hpl : pl < 16 := by omega
  have e5 := (set_of (i := 8) c4 ⟨.no, rfl, rfl⟩).trans (show _ = some (So.nx (yR o4 z a f ((nmA p q f).map D.str) s7 (.ow (.fr (.int (Nat.cast pl)))))) from rfl)
  obtain ⟨w, o5, w0, w1, ho5, c5⟩ := call_take (i := 0) (s0 := .le o4) (ρ := yR o4 z a f ((nmA p q f).map D.str) s7 (.ow (.fr (.int (Nat.cast pl))))) (m := 2) (f := puV (cst (.int 2))) rfl rfl ho4 rfl (by omega) (by omega)
  have q5 : tbM (mo2 eqD (frzM (callM 2 F__law_take (agL 0 (agV (puV (cst (.int 2))) agN)))) (puV (cst (.int 0)))) (yR o4 z a f ((nmA p q f).map D.str) s7 (.ow (.fr (.int (Nat.cast pl))))) = some (.ok (decide (w = 0)) (yR o5 z a f ((nmA p q f).map D.str) s7 (.ow (.fr (.int (Nat.cast pl)))))) := by
    unfold tbM mo2
    rw [frz_x c5]
    dsimp only
    rw [show puV (cst (.int 0)) ((yR o4 z a f ((nmA p q f).map D.str) s7 (.ow (.fr (.int (Nat.cast pl))))).set 0 ((Sl.le o4).put o5)) = some (.ok (.int 0) (yR o5 z a f ((nmA p q f).map D.str) s7 (.ow (.fr (.int (Nat.cast pl)))))) from rfl]
    dsimp only
    rw [eqD_int]
  have hm : m__law_names = (seqS (setF 2 (ofP (cst (.str "abcdefghijklmnopqrstuvwxyz"))))
  (seqS (setF 3 (callM 2 F__law_pick (agL 0 (agV (puV (lstP (lpC (cst (.str "")) (lpC (cst (.str "")) (lpC (cst (.str "k")) (lpC (cst (.str "go")) (lpC (cst (.str "xyz")) (lpC (cst (.str "zz")) lpN)))))))) agN))))
  (seqS (par3 4 5 6 (lxC (frM (frzM (callM 2 F__law_take (agL 0 (agV (puV (pu2 addD (pu1 lenD (var 3)) (cst (.int 1)))) agN))))) (lxC (frM (frzM (callM 2 F__law_take (agL 0 (agV (puV (cst (.int 26))) agN))))) (lxC (lstX lxN) lxN))))
  (seqS (forS (itR1 (puV (var 1))) (gN 7) (dropS (appX 6 (puV yV))))
  (seqS (setF 8 (callM 2 F__law_take (agL 0 (agV (puV (var 1)) agN))))
  (seqS (ifS (tbM (mo2 eqD (frzM (callM 2 F__law_take (agL 0 (agV (puV (cst (.int 2))) agN)))) (puV (cst (.int 0))))) (stoS 6 (mo2 addD (puV (flD (conAt 6 (var 8)))) (mo2 ixD (puV (var 2)) (frzM (callM 2 F__law_take (agL 0 (agV (puV (cst (.int 26))) agN)))))) (var 8)) nxS)
  (retS (mov 6)))))))) := by unfold m__law_names yV; rfl
  have fin1 : ∀ (nm : List Str) (o' : O), NmsOk nm → HP o' → ifS (tbM (mo2 eqD (frzM (callM 2 F__law_take (agL 0 (agV (puV (cst (.int 2))) agN)))) (puV (cst (.int 0))))) (stoS 6 (mo2 addD (puV (flD (conAt 6 (var 8)))) (mo2 ixD (puV (var 2)) (frzM (callM 2 F__law_take (agL 0 (agV (puV (cst (.int 26))) agN)))))) (var 8)) nxS (yR o4 z a f ((nmA p q f).map D.str) s7 (.ow (.fr (.int (Nat.cast pl))))) = some (.nx (yR o' z a f (nm.map D.str) s7 (.ow (.fr (.int (Nat.cast pl)))))) → ∃ (nm : List Str) (o' : O), NmsOk nm ∧ HP o' ∧ F__law_names [.le o, .ow (.fr (.int 16))] = some (.ret (.fl (nm.map D.str)) [.le o', .no]) := by
    intro nm o' hn ho' e6
    refine ⟨nm, o', hn, ho', ?_⟩
    unfold F__law_names
    refine run_rt (ρ := [.le o', .ow (.fr (.int 16)), .ow (.fr (.str lowS)), .ow (.fr (.str z)), .ow (.fr (.int (Nat.cast a))), .ow (.fr (.int (Nat.cast f))), .no, s7, .ow (.fr (.int (Nat.cast pl)))]) ?_ (by simp) rfl
    show m__law_names R0 = _
    rw [hm, seq_nx e1, seq_nx e2, seq_nx e3, seq_nx e4, seq_nx e5, seq_nx e6]
    rfl
  by_cases hw : w = 0
  · rw [decide_eq_true hw] at q5
    obtain ⟨x, o6, x0, x1, ho6, c6⟩ := call_take (i := 0) (s0 := .le o5) (ρ := yR o5 z a f ((nmA p q f).map D.str) s7 (.ow (.fr (.int (Nat.cast pl))))) (m := 26) (f := puV (cst (.int 26))) rfl rfl ho5 rfl (by omega) (by omega)
    obtain ⟨x, rfl⟩ : ∃ a : Nat, x = Nat.cast a := ⟨x.toNat, by omega⟩
    have hx : x < 26 := by omega
    have at6 : flD (conAt 6 (var 8)) (yR o5 z a f ((nmA p q f).map D.str) s7 (.ow (.fr (.int (Nat.cast pl))))) = some (.str (nmK p q f pl)) := by
      have : conAt 6 (var 8) (yR o5 z a f ((nmA p q f).map D.str) s7 (.ow (.fr (.int (Nat.cast pl))))) = some (.str (nmK p q f pl)) := by
        show atI ((nmA p q f).map D.str) (Nat.cast pl) = _
        rw [atI_map, L2.atI_nat (v := nmK p q f pl) (by unfold nmA; rw [List.getElem?_map, List.getElem?_range hpl]; rfl)]
        rfl
      unfold flD; rw [this]
    have v6 : mo2 addD (puV (flD (conAt 6 (var 8)))) (mo2 ixD (puV (var 2)) (frzM (callM 2 F__law_take (agL 0 (agV (puV (cst (.int 26))) agN))))) (yR o5 z a f ((nmA p q f).map D.str) s7 (.ow (.fr (.int (Nat.cast pl))))) = some (.ok (.str (nmK p q f pl ++ ltS x)) (yR o6 z a f ((nmA p q f).map D.str) s7 (.ow (.fr (.int (Nat.cast pl)))))) := by
      have i6 : mo2 ixD (puV (var 2)) (frzM (callM 2 F__law_take (agL 0 (agV (puV (cst (.int 26))) agN)))) (yR o5 z a f ((nmA p q f).map D.str) s7 (.ow (.fr (.int (Nat.cast pl))))) = some (.ok (.str (ltS x)) (yR o6 z a f ((nmA p q f).map D.str) s7 (.ow (.fr (.int (Nat.cast pl)))))) := by
        unfold mo2
        rw [show puV (var 2) (yR o5 z a f ((nmA p q f).map D.str) s7 (.ow (.fr (.int (Nat.cast pl))))) = some (.ok (.str lowS) (yR o5 z a f ((nmA p q f).map D.str) s7 (.ow (.fr (.int (Nat.cast pl)))))) from rfl]
        dsimp only
        rw [frz_x c6]
        dsimp only
        rw [low_ix hx]
        rfl
      unfold mo2 at i6 ⊢
      rw [pu_of at6]
      dsimp only
      rw [i6]
      dsimp only
      rw [show addD (.str (nmK p q f pl)) (.str (ltS x)) = some (.str (nmK p q f pl ++ ltS x)) from if_pos (by rw [nmK_len, show (ltS x).length = 1 from rfl, sizeLine_eq]; omega)]
    refine fin1 (nmB p q f pl x) o6 (nmB_ok hpq hp hq f pl hx) ho6 ((if_t q5).trans ?_)
    unfold stoS
    rw [v6]
    have hix : ixN ((nmA p q f).map D.str).length (Nat.cast pl) = some pl := by
      rw [List.length_map, (nmA_ok hpq hp hq f).1]
      unfold ixN
      rw [if_pos (by omega), if_pos (by omega), Int.toNat_natCast]
    show (match ixN ((nmA p q f).map D.str).length (Nat.cast pl) with
      | some jj => some (So.nx ((yR o6 z a f ((nmA p q f).map D.str) s7 (.ow (.fr (.int (Nat.cast pl))))).set 6 ((Sl.ow (.fl ((nmA p q f).map D.str))).put (.fl (((nmA p q f).map D.str).set jj (.str (nmK p q f pl ++ ltS x)))))))
      | none => none) = _
    rw [hix]
    dsimp only
    rw [← nmB_set hpl, List.map_set]
    rfl
  · rw [decide_eq_false hw] at q5
    exact fin1 (nmA p q f) o5 (nmA_ok hpq hp hq f) ho5 ((if_f q5).trans rfl)
end K09
set_option maxHeartbeats 4000000
namespace K09
open PySem PySem.Spec L2 Tr
/-! ### offices that the law draws: one office -/
theorem app_of' {i : Nat} {f : Mo D} {ρ ρ1 : Rho} {ds0 ds : List D} {d : D} (e0 : ρ[i]? = some (.ow (.fl ds0))) (h : f ρ = some (.ok d ρ1)) (e : ρ1[i]? = some (.ow (.fl ds))) (hz : ds.length < 1000000) : dropS (appX i f) ρ = some (.nx (ρ1.set i (.ow (.fl (ds ++ [d]))))) := by
  refine drop_of (o := .fr .non) ?_
  unfold appX
  rw [e0]
  show (match f ρ with
    | some (.ok d ρ1) => (match ρ1[i]? with
      | some s => (match s.tr with
        | some (.fl ds) => if ds.length < sizeLine then some (Re.ok (O.fr .non) (ρ1.set i (s.put (.fl (ds ++ [d]))))) else none
        | _ => none)
      | none => none)
    | some (.ex c fs ρ1) => some (.ex c fs ρ1)
    | none => none) = _
  rw [h]
  dsimp only
  rw [e]
  show (if ds.length < sizeLine then some (Re.ok (O.fr .non) (ρ1.set i ((Sl.ow (.fl ds)).put (.fl (ds ++ [d]))))) else none) = _
  rw [if_pos (by rw [sizeLine_eq]; omega)]
  rfl
theorem call_lv {F : FS} {i : Nat} {ρ : Rho} {s0 : Sl} {o o' : O} {d : D} {r : O} {f : Mo D} (e : ρ[i]? = some s0) (et : s0.tr = some o) (hf : f ρ = some (.ok d ρ)) (h : F [.le o, .ow (.fr d)] = some (.ret r [.le o', .no])) :
    callM 2 F (agL i (agV f agN)) ρ = some (.ok r (ρ.set i (s0.put o'))) := by
  simp [callM, agL, agV, agN, e, et, hf, toSl, noDup, lents, back, h]
/-- the names of these operations are the first ones of those drawn -/
def NmP (nm : List Str) (pre : List Opn) : Prop := pre.map Opn.name = nm.take pre.length
def zR (o : O) (n many : Nat) (nm : List Str) (fd : List D) (u : Nat) (s6 s7 s8 s9 : Sl) : Rho := [.le o, .ow (.fr (.int (Nat.cast n))), .ow (.fr (.int (Nat.cast many))), .ow (.fr (.lst (nm.map D.str))), .ow (.fl fd), .ow (.fr (.int (Nat.cast u))), s6, s7, s8, s9]
def zT : Mo D := tupV (lvC (puV (pu2 ixD (var 3) (var 5))) (lvC (frzM (callM 2 F__law_ends (agL 0 (agV (puV (var 1)) agN)))) (lvC (frzM (callM 2 F__law_told (agL 0 (agV (puV (var 1)) agN)))) lvN)))
def zI : MS := seqS (dropS (appX 7 zT)) (setF 5 (ofP (pu2 addD (var 5) (cst (.int 1)))))
theorem zI_eq {n many : Nat} (n1 : 1 ≤ n) (n2 : n ≤ 200) {nm : List Str} (hn : NmsOk nm) {fd : List D} {pre f : List Opn} (hpre : NmP nm (pre ++ f)) (hu : (pre ++ f).length < 16) (hf : f.length ≤ 16) {o : O} (ho : HP o) {s6 s8 s9 : Sl} :
    ∃ (p : Opn) (o' : O), OpOk n p ∧ NmP nm (pre ++ (f ++ [p])) ∧ HP o' ∧ zI (zR o n many nm fd (pre ++ f).length s6 (.ow (.fl (f.map opD))) s8 s9) = some (.nx (zR o' n many nm fd (pre ++ (f ++ [p])).length s6 (.ow (.fl ((f ++ [p]).map opD))) s8 s9)) := by
  have hnl := hn.1
  have hul : (pre ++ f).length < nm.length := by omega
  obtain ⟨e, o1, he, ho1, c1⟩ := ends_row n1 n2 ho
  obtain ⟨a, o2, ha, ho2, c2⟩ := told_row n1 n2 ho1
  let R : O → Rho := fun o => zR o n many nm fd (pre ++ f).length s6 (.ow (.fl (f.map opD))) s8 s9
  obtain ⟨z, hz⟩ : ∃ z, nm[(pre ++ f).length]? = some z := ⟨_, List.getElem?_eq_getElem hul⟩
  obtain ⟨p, hp⟩ : ∃ p : Opn, p = ⟨z, e, a⟩ := ⟨_, rfl⟩
  refine ⟨p, o2, by rw [hp]; exact ⟨hn.2.2 _ (List.mem_of_getElem? hz), he, ha⟩, ?_, ho2, ?_⟩
  · unfold NmP at hpre ⊢
    rw [← List.append_assoc, List.map_append, hpre, List.length_append (bs := [p]), List.length_singleton, List.take_succ, hz, hp]
    rfl
  · have k1 := call_lv (i := 0) (s0 := .le o) (ρ := R o) (f := puV (var 1)) rfl rfl rfl c1
    have k2 := call_lv (i := 0) (s0 := .le o1) (ρ := R o1) (f := puV (var 1)) rfl rfl rfl c2
    have v0 : puV (pu2 ixD (var 3) (var 5)) (R o) = some (.ok (.str z) (R o)) := by
      refine pu_of (pu2_of rfl rfl ?_)
      show atI (nm.map D.str) (Nat.cast (pre ++ f).length) = _
      rw [atI_map, L2.atI_nat (v := z) hz]
      rfl
    have l3 := lv_consD (r := lvN) (xs := []) (ρ1 := R o2) (frz_x k2) rfl
    have l2 := lv_consD (ρ1 := R o1) (frz_x k1) l3
    have l1 := lv_consD v0 l2
    have t : zT (R o) = some (.ok (opD p) (R o2)) := by
      unfold zT tupV
      rw [l1]
      dsimp only
      rw [if_pos (show ([D.str z, rowD e, rowD a]).length ≤ sizeLine by rw [sizeLine_eq]; show 3 ≤ 16777216; decide)]
      rw [hp]; rfl
    have e1 := (app_of' (i := 7) (ρ := R o) (ρ1 := R o2) rfl t rfl (by rw [List.length_map]; omega)).trans (show _ = some (So.nx (zR o2 n many nm fd (pre ++ f).length s6 (.ow (.fl ((f ++ [p]).map opD))) s8 s9)) by rw [List.map_append]; rfl)
    have e2 := (set_p (i := 5) (f := pu2 addD (var 5) (cst (.int 1))) (ρ := zR o2 n many nm fd (pre ++ f).length s6 (.ow (.fl ((f ++ [p]).map opD))) s8 s9) (pu2_of rfl rfl rfl) ⟨_, rfl, rfl⟩).trans (show _ = some (So.nx (zR o2 n many nm fd (pre ++ (f ++ [p])).length s6 (.ow (.fl ((f ++ [p]).map opD))) s8 s9)) by rw [← List.append_assoc pre, List.length_append (bs := [p])]; rfl)
    unfold zI
    rw [seq_nx e1, e2]
theorem off_in {n many : Nat} (n1 : 1 ≤ n) (n2 : n ≤ 200) {nm : List Str} (hn : NmsOk nm) {fd : List D} {pre : List Opn} (hpre : NmP nm pre) (c : Nat) (hc : pre.length + c ≤ 16) {o : O} (ho : HP o) {s6 s8 s9 : Sl} (h8 : stbS s8 = true) :
    ∃ (f : Off) (o' : O) (s8' : Sl), f.length = c ∧ (∀ p ∈ f, OpOk n p) ∧ NmP nm (pre ++ f) ∧ HP o' ∧ stbS s8' = true ∧ forL (gN 8) zI ((List.range c).map fun i => D.int (Nat.cast i)) (zR o n many nm fd pre.length s6 (.ow (.fl [])) s8 s9) = some (.nx (zR o' n many nm fd (pre ++ f).length s6 (.ow (.fl (f.map opD))) s8' s9)) := by
  have lp := forL_inv (α := Nat) (t := gN 8) (b := zI) (f := fun i => D.int (Nat.cast i)) (St := fun l ρ => ∃ (f : Off) (o' : O) (s8' : Sl), f.length = l.length ∧ (∀ p ∈ f, OpOk n p) ∧ NmP nm (pre ++ f) ∧ HP o' ∧ stbS s8' = true ∧ ρ = zR o' n many nm fd (pre ++ f).length s6 (.ow (.fl (f.map opD))) s8' s9) (bs := []) (as := List.range c) (fun k l r hl _ ρ ⟨f, o', s8', hf, hok, hp, ho', b8, e⟩ => by
      subst e
      rw [List.nil_append] at hl
      have hll : l.length < c := by have := congrArg List.length hl; rw [List.length_append, List.length_range, List.length_cons] at this; omega
      obtain ⟨p, o2, hp1, hp2, ho2, e⟩ := zI_eq (many := many) n1 n2 hn (fd := fd) hp (by rw [List.length_append]; omega) (by omega) ho' (s6 := s6) (s8 := .ow (.fr (.int (Nat.cast k)))) (s9 := s9)
      refine ⟨zR o' n many nm fd (pre ++ f).length s6 (.ow (.fl (f.map opD))) (.ow (.fr (.int (Nat.cast k)))) s9, _, ?_, .inl e, f ++ [p], o2, _, by rw [List.length_append, List.length_append, hf]; rfl, fun q hq => ?_, hp2, ho2, rfl, rfl⟩
      · simp [gN, zR, stb_at, b8]
      · rcases List.mem_append.mp hq with h | h
        · exact hok q h
        · rw [List.mem_singleton.mp h]; exact hp1) (zR o n many nm fd pre.length s6 (.ow (.fl [])) s8 s9) ⟨[], o, s8, rfl, by simp, by rw [List.append_nil]; exact hpre, ho, h8, by rw [List.append_nil]; rfl⟩
  obtain ⟨ρ', e2, f, o', s8', hf, hok, hp, ho', b8, rfl⟩ := lp
  rw [List.nil_append, List.length_range] at hf
  exact ⟨f, o', s8', hf, hok, hp, ho', b8, e2⟩
end K09
set_option maxHeartbeats 4000000
namespace K09
open PySem PySem.Spec L2 Tr
/-! ### offices that the law draws: all of them -/
def zC : Mo D := ifM (quM (tb (pu2 eqD (var 6) (cst (.int 0))))) (frzM (callM 2 F__law_pick (agL 0 (agV (puV (lstP (lpC (cst (.int 1)) (lpC (cst (.int 2)) (lpC (cst (.int 2)) (lpC (cst (.int 3)) lpN)))))) agN)))) (frzM (callM 2 F__law_pick (agL 0 (agV (puV (ifP (tb (pu2 ltD (var 2) (cst (.int 5)))) (lstP (lpC (cst (.int 0)) (lpC (cst (.int 1)) (lpC (cst (.int 1)) (lpC (cst (.int 2)) lpN))))) (lstP (lpC (cst (.int 0)) (lpC (cst (.int 1)) lpN))))) agN))))
def zB : MS := seqS (setS 7 (lstX lxN)) (seqS (forS (itR1 zC) (gN 8) zI) (dropS (appX 4 (puV (pu1 tupD (con 7))))))
theorem zC_eq {n many : Nat} {nm : List Str} {fd : List D} {u j : Nat} {o : O} (ho : HP o) {s7 s8 s9 : Sl} :
    ∃ (c : Nat) (o' : O), c ≤ 3 ∧ (j ≠ 0 → many < 5 → c ≤ 2) ∧ (j ≠ 0 → 5 ≤ many → c ≤ 1) ∧ HP o' ∧ zC (zR o n many nm fd u (.ow (.fr (.int (Nat.cast j)))) s7 s8 s9) = some (.ok (.int (Nat.cast c)) (zR o' n many nm fd u (.ow (.fr (.int (Nat.cast j)))) s7 s8 s9)) := by
  let R : O → Rho := fun o => zR o n many nm fd u (.ow (.fr (.int (Nat.cast j)))) s7 s8 s9
  have q : quM (tb (pu2 eqD (var 6) (cst (.int 0)))) (R o) = some (.ok (decide ((Nat.cast j : Int) = 0)) (R o)) := qu_of (pu2_of rfl rfl (eqD_int _ _))
  by_cases h0 : j = 0
  · rw [decide_eq_true (by omega)] at q
    obtain ⟨d, o1, hd, ho1, c1⟩ := call_pick (i := 0) (s0 := .le o) (ρ := R o) (ds := [.int 1, .int 2, .int 2, .int 3]) (f := puV (lstP (lpC (cst (.int 1)) (lpC (cst (.int 2)) (lpC (cst (.int 2)) (lpC (cst (.int 3)) lpN)))))) rfl rfl ho (by
      refine pu_of ?_
      show (if ([.int 1, .int 2, .int 2, .int 3] : List D).length ≤ sizeLine then some (D.lst [.int 1, .int 2, .int 2, .int 3]) else none) = _
      rw [if_pos (by rw [sizeLine_eq]; show 4 ≤ 16777216; decide)]) (by decide) (by decide)
    have hx : ∃ c : Nat, c ≤ 3 ∧ d = .int (Nat.cast c) := by
      simp only [List.mem_cons, List.not_mem_nil, or_false] at hd
      rcases hd with rfl | rfl | rfl | rfl
      · exact ⟨1, by omega, rfl⟩
      · exact ⟨2, by omega, rfl⟩
      · exact ⟨2, by omega, rfl⟩
      · exact ⟨3, by omega, rfl⟩
    obtain ⟨c, hc, rfl⟩ := hx
    refine ⟨c, o1, hc, fun h => absurd h0 h, fun h => absurd h0 h, ho1, ?_⟩
    unfold zC ifM
    rw [q]
    exact frz_x c1
  · rw [decide_eq_false (by omega)] at q
    obtain ⟨ds, hds, hv⟩ : ∃ ds : List D, ((many < 5 ∧ ds = [.int 0, .int 1, .int 1, .int 2]) ∨ (5 ≤ many ∧ ds = [.int 0, .int 1])) ∧ ifP (tb (pu2 ltD (var 2) (cst (.int 5)))) (lstP (lpC (cst (.int 0)) (lpC (cst (.int 1)) (lpC (cst (.int 1)) (lpC (cst (.int 2)) lpN))))) (lstP (lpC (cst (.int 0)) (lpC (cst (.int 1)) lpN))) (R o) = some (.lst ds) := by
      have v : tb (pu2 ltD (var 2) (cst (.int 5))) (R o) = some (decide ((Nat.cast many : Int) < 5)) := rfl
      by_cases h5 : many < 5
      · rw [decide_eq_true (by omega)] at v
        refine ⟨_, .inl ⟨h5, rfl⟩, ?_⟩
        unfold ifP
        rw [v]
        show (if ([.int 0, .int 1, .int 1, .int 2] : List D).length ≤ sizeLine then some (D.lst [.int 0, .int 1, .int 1, .int 2]) else none) = _
        rw [if_pos (by rw [sizeLine_eq]; show 4 ≤ 16777216; decide)]
      · rw [decide_eq_false (by omega)] at v
        refine ⟨_, .inr ⟨by omega, rfl⟩, ?_⟩
        unfold ifP
        rw [v]
        show (if ([.int 0, .int 1] : List D).length ≤ sizeLine then some (D.lst [.int 0, .int 1]) else none) = _
        rw [if_pos (by rw [sizeLine_eq]; show 2 ≤ 16777216; decide)]
    obtain ⟨d, o1, hd, ho1, c1⟩ := call_pick (i := 0) (s0 := .le o) (ρ := R o) (ds := ds) rfl rfl ho (pu_of hv) (by rcases hds with ⟨_, rfl⟩ | ⟨_, rfl⟩ <;> decide) (by rcases hds with ⟨_, rfl⟩ | ⟨_, rfl⟩ <;> decide)
    have hx : ∃ c : Nat, (many < 5 → c ≤ 2) ∧ (5 ≤ many → c ≤ 1) ∧ d = .int (Nat.cast c) := by
      rcases hds with ⟨h5, rfl⟩ | ⟨h5, rfl⟩
      · simp only [List.mem_cons, List.not_mem_nil, or_false] at hd
        rcases hd with rfl | rfl | rfl | rfl
        · exact ⟨0, by omega, by omega, rfl⟩
        · exact ⟨1, by omega, by omega, rfl⟩
        · exact ⟨1, by omega, by omega, rfl⟩
        · exact ⟨2, by omega, by omega, rfl⟩
      · simp only [List.mem_cons, List.not_mem_nil, or_false] at hd
        rcases hd with rfl | rfl
        · exact ⟨0, by omega, by omega, rfl⟩
        · exact ⟨1, by omega, by omega, rfl⟩
    obtain ⟨c, g1, g2, rfl⟩ := hx
    refine ⟨c, o1, by omega, fun _ => g1, fun _ => g2, ho1, ?_⟩
    unfold zC ifM
    rw [q]
    exact frz_x c1
/-- how many operations there may be in the first j offices -/
def Few (many j len : Nat) : Prop := (j = 0 → len = 0) ∧ ((many < 5 ∧ len ≤ 1 + 2 * j) ∨ (5 ≤ many ∧ len ≤ 2 + j))
theorem zB_eq {n many : Nat} (n1 : 1 ≤ n) (n2 : n ≤ 200) (hm : many ≤ 8) {nm : List Str} (hn : NmsOk nm) {os : List Off} (hp : NmP nm os.flatten) {j : Nat} (hj : j < many) (hos : os.length = j) (hf : Few many j os.flatten.length) {o : O} (ho : HP o) {s7 s8 s9 : Sl} (h7 : stbS s7 = true) (h8 : stbS s8 = true) :
    ∃ (f : Off) (o' : O) (s7' s8' : Sl), (∀ p ∈ f, OpOk n p) ∧ NmP nm (os ++ [f]).flatten ∧ Few many (j + 1) (os ++ [f]).flatten.length ∧ HP o' ∧ stbS s7' = true ∧ stbS s8' = true ∧ zB (zR o n many nm (os.map offD) os.flatten.length (.ow (.fr (.int (Nat.cast j)))) s7 s8 s9) = some (.nx (zR o' n many nm ((os ++ [f]).map offD) (os ++ [f]).flatten.length (.ow (.fr (.int (Nat.cast j)))) s7' s8' s9)) := by
  obtain ⟨c, o1, c3, ca, cb, ho1, ec⟩ := zC_eq (n := n) (many := many) (nm := nm) (fd := os.map offD) (u := os.flatten.length) (j := j) ho (s7 := .ow (.fl [])) (s8 := s8) (s9 := s9)
  have hc : os.flatten.length + c ≤ 16 := by
    obtain ⟨f0, f1⟩ := hf
    by_cases h0 : j = 0
    · have := f0 h0; omega
    · rcases f1 with ⟨a, b⟩ | ⟨a, b⟩
      · have := ca h0 a; omega
      · have := cb h0 a; omega
  obtain ⟨f, o2, s8', fl, fok, fp, ho2, b8, ef⟩ := off_in (many := many) n1 n2 hn (fd := os.map offD) hp c hc ho1 (s6 := .ow (.fr (.int (Nat.cast j)))) (s9 := s9) h8
  have hfl : (os ++ [f]).flatten = os.flatten ++ f := by rw [List.flatten_append, List.flatten_cons, List.flatten_nil, List.append_nil]
  refine ⟨f, o2, .ow (.fl (f.map opD)), s8', fok, by rw [hfl]; exact fp, ?_, ho2, rfl, b8, ?_⟩
  · rw [hfl, List.length_append, fl]
    refine ⟨fun h => by omega, ?_⟩
    obtain ⟨f0, f1⟩ := hf
    by_cases h0 : j = 0
    · have := f0 h0
      by_cases h5 : many < 5
      · exact .inl ⟨h5, by omega⟩
      · exact .inr ⟨by omega, by omega⟩
    · rcases f1 with ⟨a, b⟩ | ⟨a, b⟩
      · have := ca h0 a; exact .inl ⟨a, by omega⟩
      · have := cb h0 a; exact .inr ⟨a, by omega⟩
  · have e1 : setS 7 (lstX lxN) (zR o n many nm (os.map offD) os.flatten.length (.ow (.fr (.int (Nat.cast j)))) s7 s8 s9) = some (.nx (zR o n many nm (os.map offD) os.flatten.length (.ow (.fr (.int (Nat.cast j)))) (.ow (.fl [])) s8 s9)) := by
      show (if stb 7 (zR o n many nm (os.map offD) os.flatten.length (.ow (.fr (.int (Nat.cast j)))) s7 s8 s9) = true then some (So.nx (zR o n many nm (os.map offD) os.flatten.length (.ow (.fr (.int (Nat.cast j)))) (.ow (.fl [])) s8 s9)) else none) = _
      rw [if_pos (by rw [stb_at]; exact h7)]
    have e2 : forS (itR1 zC) (gN 8) zI (zR o n many nm (os.map offD) os.flatten.length (.ow (.fr (.int (Nat.cast j)))) (.ow (.fl [])) s8 s9) = some (.nx (zR o2 n many nm (os.map offD) (os.flatten ++ f).length (.ow (.fr (.int (Nat.cast j)))) (.ow (.fl (f.map opD))) s8' s9)) := by
      unfold forS
      have it : itR1 zC (zR o n many nm (os.map offD) os.flatten.length (.ow (.fr (.int (Nat.cast j)))) (.ow (.fl [])) s8 s9) = some (.ok ((List.range c).map fun i => D.int (Nat.cast i)) (zR o1 n many nm (os.map offD) os.flatten.length (.ow (.fr (.int (Nat.cast j)))) (.ow (.fl [])) s8 s9)) := by
        unfold itR1
        rw [ec]
        dsimp only
        rw [if_pos ⟨by omega, by omega⟩, Int.toNat_natCast, rngD_eq]
      rw [it]
      exact ef
    have v : pu1 tupD (con 7) (zR o2 n many nm (os.map offD) (os.flatten ++ f).length (.ow (.fr (.int (Nat.cast j)))) (.ow (.fl (f.map opD))) s8' s9) = some (offD f) := rfl
    have e3 := (app_of (i := 4) (ρ := zR o2 n many nm (os.map offD) (os.flatten ++ f).length (.ow (.fr (.int (Nat.cast j)))) (.ow (.fl (f.map opD))) s8' s9) rfl (pu_of v) (by rw [List.length_map]; omega)).trans (show _ = some (So.nx (zR o2 n many nm ((os ++ [f]).map offD) (os ++ [f]).flatten.length (.ow (.fr (.int (Nat.cast j)))) (.ow (.fl (f.map opD))) s8' s9)) by rw [List.map_append, hfl]; rfl)
    unfold zB
    rw [seq_nx e1, seq_nx e2, e3]
theorem off_loop {n many : Nat} (n1 : 1 ≤ n) (n2 : n ≤ 200) (hm : many ≤ 8) {nm : List Str} (hn : NmsOk nm) {o : O} (ho : HP o) :
    ∃ (os : List Off) (o' : O) (s6 s7 s8 : Sl), os.length = many ∧ (∀ p ∈ os.flatten, OpOk n p) ∧ NmP nm os.flatten ∧ Few many many os.flatten.length ∧ HP o' ∧ forS (itR1 (puV (var 2))) (gN 6) zB (zR o n many nm [] 0 .no .no .no .no) = some (.nx (zR o' n many nm (os.map offD) os.flatten.length s6 s7 s8 .no)) := by
  have lp := forL_inv (α := Nat) (t := gN 6) (b := zB) (f := fun i => D.int (Nat.cast i)) (St := fun l ρ => ∃ (os : List Off) (o' : O) (s6 s7 s8 : Sl), os.length = l.length ∧ (∀ p ∈ os.flatten, OpOk n p) ∧ NmP nm os.flatten ∧ Few many l.length os.flatten.length ∧ HP o' ∧ stbS s6 = true ∧ stbS s7 = true ∧ stbS s8 = true ∧ ρ = zR o' n many nm (os.map offD) os.flatten.length s6 s7 s8 .no) (bs := []) (as := List.range many) (fun k l r hl _ ρ ⟨os, o', s6, s7, s8, hos, hok, hp, hf, ho', b6, b7, b8, e⟩ => by
      subst e
      rw [List.nil_append] at hl
      have hk : k = l.length := by
        have h1 : (List.range many)[l.length]? = some k := by rw [hl]; simp
        have h2 : l.length < many := by have := congrArg List.length hl; rw [List.length_append, List.length_range, List.length_cons] at this; omega
        rw [List.getElem?_range h2] at h1
        exact (Option.some.inj h1).symm
      have hll : l.length < many := by have := congrArg List.length hl; rw [List.length_append, List.length_range, List.length_cons] at this; omega
      subst hk
      obtain ⟨f, o2, s7', s8', fok, fp, ff, ho2, c7, c8, e⟩ := zB_eq n1 n2 hm hn hp hll hos hf ho' (s9 := .no) b7 b8
      refine ⟨zR o' n many nm (os.map offD) os.flatten.length (.ow (.fr (.int (Nat.cast l.length)))) s7 s8 .no, _, ?_, .inl e, os ++ [f], o2, _, s7', s8', by rw [List.length_append, List.length_append, hos]; rfl, fun q hq => ?_, fp, by rw [List.length_append]; exact ff, ho2, rfl, c7, c8, rfl⟩
      · simp [gN, zR, stb_at, b6]
      · rw [List.flatten_append, List.flatten_cons, List.flatten_nil, List.append_nil] at hq
        rcases List.mem_append.mp hq with h | h
        · exact hok q h
        · exact fok q h) (zR o n many nm [] 0 .no .no .no .no) ⟨[], o, .no, .no, .no, rfl, by simp, rfl, ⟨fun _ => rfl, by
          by_cases h : many < 5
          · exact .inl ⟨h, by simp⟩
          · exact .inr ⟨by omega, by simp⟩⟩, ho, rfl, rfl, rfl, rfl⟩
  obtain ⟨ρ', e2, os, o', s6, s7, s8, hos, hok, hp, hf, ho', _, _, _, rfl⟩ := lp
  rw [List.nil_append, List.length_range] at hos hf
  refine ⟨os, o', s6, s7, s8, hos, hok, hp, hf, ho', ?_⟩
  unfold forS
  have it : itR1 (puV (var 2)) (zR o n many nm [] 0 .no .no .no .no) = some (.ok ((List.range many).map fun i => D.int (Nat.cast i)) (zR o n many nm [] 0 .no .no .no .no)) := by
    show (if -(2 ^ 62) ≤ (Nat.cast many : Int) ∧ (Nat.cast many : Int) ≤ 16777216 then some (Re.ok (rngD 0 (Nat.cast many : Int).toNat) (zR o n many nm [] 0 .no .no .no .no)) else none) = _
    rw [if_pos ⟨by omega, by omega⟩, Int.toNat_natCast, rngD_eq]
  rw [it]
  exact e2
end K09
set_option maxHeartbeats 4000000
namespace K09
open PySem PySem.Spec L2 Tr
/-! ### offices that the law draws -/
theorem cut_from {α : Type} (xs : List α) (j : Nat) (h : j ≤ xs.length) : cutA xs (some (Nat.cast j)) none = xs.drop j := by
  unfold cutA
  rw [HT.sIx_nat, HT.sIx_none, Nat.min_eq_left h, List.take_of_length_le (by rw [List.length_drop]; omega)]
theorem cut_to {α : Type} (xs : List α) (j : Nat) (h : j ≤ xs.length) : cutA xs none (some (Nat.cast j)) = xs.take j := by
  unfold cutA
  rw [HT.sIx_nat, HT.sIx_none, Nat.min_eq_left h]; rfl
theorem offices_ok {n : Nat} (n1 : 1 ≤ n) (n2 : n ≤ 200) {nm : List Str} (hn : NmsOk nm) {os : List Off} {many : Nat} (hos : os.length = many) (m2 : 2 ≤ many) (m8 : many ≤ 8) (hok : ∀ p ∈ os.flatten, OpOk n p) (hp : NmP nm os.flatten) (hf : Few many many os.flatten.length) (j : Nat) : StOk n (os.drop j ++ os.take j) := by
  have pm : (os.drop j ++ os.take j).Perm os := by
    have := List.perm_append_comm (l₁ := os.drop j) (l₂ := os.take j)
    rwa [List.take_append_drop] at this
  have pf := pm.flatten
  refine ⟨n1, n2, fun p hq => hok p (pf.mem_iff.mp hq), ?_, by rw [pm.length_eq, hos]; exact m2, by rw [pm.length_eq, hos]; exact m8, ?_⟩
  · refine (pf.map Opn.name).nodup_iff.mpr ?_
    rw [hp]
    exact hn.2.1.sublist (List.take_sublist _ _)
  · rw [pf.length_eq]
    rcases hf.2 with ⟨a, b⟩ | ⟨a, b⟩ <;> omega
theorem law_offices_eq {n : Nat} (n1 : 1 ≤ n) (n2 : n ≤ 200) {o : O} (ho : HP o) : ∃ (os : List Off) (o' : O), StOk n os ∧ HP o' ∧ F__law_offices [.le o, .ow (.fr (.int (Nat.cast n)))] = some (.ret (.fr (offsD os)) [.le o', .no]) := by
  let R0 : O → Rho := fun o => [.le o, .ow (.fr (.int (Nat.cast n))), .no, .no, .no, .no, .no, .no, .no, .no]
  obtain ⟨d, o1, hd, ho1, c1⟩ := call_pick (i := 0) (s0 := .le o) (ρ := R0 o) (ds := [.int 2, .int 2, .int 3, .int 2, .int 4, .int 8]) (f := puV (lstP (lpC (cst (.int 2)) (lpC (cst (.int 2)) (lpC (cst (.int 3)) (lpC (cst (.int 2)) (lpC (cst (.int 4)) (lpC (cst (.int 8)) lpN)))))))) rfl rfl ho (by
      refine pu_of ?_
      show (if ([.int 2, .int 2, .int 3, .int 2, .int 4, .int 8] : List D).length ≤ sizeLine then some (D.lst [.int 2, .int 2, .int 3, .int 2, .int 4, .int 8]) else none) = _
      rw [if_pos (by rw [sizeLine_eq]; show 6 ≤ 16777216; decide)]) (by decide) (by decide)
  have hx : ∃ c : Nat, 2 ≤ c ∧ c ≤ 8 ∧ d = .int (Nat.cast c) := by
    simp only [List.mem_cons, List.not_mem_nil, or_false] at hd
    rcases hd with rfl | rfl | rfl | rfl | rfl | rfl
    · exact ⟨2, by omega, by omega, rfl⟩
    · exact ⟨2, by omega, by omega, rfl⟩
    · exact ⟨3, by omega, by omega, rfl⟩
    · exact ⟨2, by omega, by omega, rfl⟩
    · exact ⟨4, by omega, by omega, rfl⟩
    · exact ⟨8, by omega, by omega, rfl⟩
  obtain ⟨many, m2, m8, rfl⟩ := hx
  obtain ⟨nm, o2, hn, ho2, q2⟩ := names_eq ho1
  have c2 := call_lv (i := 0) (s0 := .le o1) (ρ := R0 o1) (f := puV (cst (.int 16))) rfl rfl rfl q2
  have e1 : par4 2 3 4 5 (lxC (frM (frzM (callM 2 F__law_pick (agL 0 (agV (puV (lstP (lpC (cst (.int 2)) (lpC (cst (.int 2)) (lpC (cst (.int 3)) (lpC (cst (.int 2)) (lpC (cst (.int 4)) (lpC (cst (.int 8)) lpN)))))))) agN))))) (lxC (frM (frzM (callM 2 F__law_names (agL 0 (agV (puV (cst (.int 16))) agN))))) (lxC (lstX lxN) (lxC (frM (puV (cst (.int 0)))) lxN)))) (R0 o) = some (.nx (zR o2 n many nm [] 0 .no .no .no .no)) := by
    have l4 : lxC (lstX lxN) (lxC (frM (puV (cst (.int 0)))) lxN) (R0 o2) = some (.ok [.fl [], .fr (.int 0)] (R0 o2)) := rfl
    have l2 := lx_cons (ρ1 := R0 o2) (fr_of (frz_fl c2)) l4
    have l1 := lx_cons (ρ1 := R0 o1) (fr_of (frz_x c1)) l2
    unfold par4
    rw [l1]
    rfl
  obtain ⟨os, o3, s6, s7, s8, hos, hok, hp, hf, ho3, e2⟩ := off_loop n1 n2 m8 hn ho2
  obtain ⟨r, o4, r0, r1, ho4, c4⟩ := call_take (i := 0) (s0 := .le o3) (ρ := zR o3 n many nm (os.map offD) os.flatten.length s6 s7 s8 .no) (m := Nat.cast many) (f := puV (var 2)) rfl rfl ho3 rfl (by omega) (by omega)
  obtain ⟨j, rfl⟩ : ∃ a : Nat, r = Nat.cast a := ⟨r.toNat, by omega⟩
  have hj : j ≤ os.length := by omega
  let Z : Rho := zR o4 n many nm (os.map offD) os.flatten.length s6 s7 s8 (.ow (.fr (.int (Nat.cast j))))
  have e3 := (set_of (i := 9) c4 ⟨.no, rfl, rfl⟩).trans (show _ = some (So.nx Z) from rfl)
  have v1 : slA (con 4) (poS (var 9)) poN Z = some (.lst ((os.drop j).map offD)) := by
    show some (D.lst (cutA (os.map offD) (some (Nat.cast j)) none)) = _
    rw [cut_from _ _ (by rw [List.length_map]; exact hj), List.map_drop]
  have v2 : slA (con 4) poN (poS (var 9)) Z = some (.lst ((os.take j).map offD)) := by
    show some (D.lst (cutA (os.map offD) none (some (Nat.cast j)))) = _
    rw [cut_to _ _ (by rw [List.length_map]; exact hj), List.map_take]
  have v : pu1 tupD (pu2 addD (slA (con 4) (poS (var 9)) poN) (slA (con 4) poN (poS (var 9)))) Z = some (offsD (os.drop j ++ os.take j)) := by
    refine pu1_of (d := .lst ((os.drop j ++ os.take j).map offD)) (pu2_of v1 v2 ?_) rfl
    show (if ((os.drop j).map offD).length + ((os.take j).map offD).length ≤ sizeLine then some (D.lst ((os.drop j).map offD ++ (os.take j).map offD)) else none) = _
    rw [if_pos (by rw [List.length_map, List.length_map, List.length_drop, List.length_take, sizeLine_eq]; omega), List.map_append]
  refine ⟨os.drop j ++ os.take j, o4, offices_ok n1 n2 hn hos m2 m8 hok hp hf j, ho4, ?_⟩
  unfold F__law_offices
  refine run_rt (ρ := Z) ?_ (by simp [Z, zR]) rfl
  have hm : m__law_offices = (seqS (par4 2 3 4 5 (lxC (frM (frzM (callM 2 F__law_pick (agL 0 (agV (puV (lstP (lpC (cst (.int 2)) (lpC (cst (.int 2)) (lpC (cst (.int 3)) (lpC (cst (.int 2)) (lpC (cst (.int 4)) (lpC (cst (.int 8)) lpN)))))))) agN))))) (lxC (frM (frzM (callM 2 F__law_names (agL 0 (agV (puV (cst (.int 16))) agN))))) (lxC (lstX lxN) (lxC (frM (puV (cst (.int 0)))) lxN)))))
  (seqS (forS (itR1 (puV (var 2))) (gN 6) zB)
  (seqS (setF 9 (callM 2 F__law_take (agL 0 (agV (puV (var 2)) agN))))
  (retS (ofP (pu1 tupD (pu2 addD (slA (con 4) (poS (var 9)) poN) (slA (con 4) poN (poS (var 9)))))))))) := by unfold m__law_offices zB zC zI zT; rfl
  show m__law_offices (R0 o) = _
  rw [hm, seq_nx e1, seq_nx e2, seq_nx e3]
  exact ret_p v
end K09
set_option maxHeartbeats 4000000
namespace K09
open PySem PySem.Spec L2 Tr
/-! ### rows shown as texts; equal rows -/
mutual
theorem eqv_refl : ∀ {d : PyData}, d.canLay0 = true → PyData.eqv d d = true
  | .none, _ => by simp [PyData.eqv]
  | .bool _, _ => by simp [PyData.eqv]
  | .int _, _ => by simp [PyData.eqv]
  | .str _, _ => by simp [PyData.eqv]
  | .list xs, h => by
    rw [PyData.canLay0] at h
    rw [PyData.eqv]; exact eqvAll_refl h
  | .tuple xs, h => by
    rw [PyData.canLay0] at h
    rw [PyData.eqv]; exact eqvAll_refl h
  | .dict _, h => by rw [PyData.canLay0] at h; cases h
theorem eqvAll_refl : ∀ {ds : List PyData}, PyData.canLayAll0 ds = true → PyData.eqvAll ds ds = true
  | [], _ => by rw [PyData.eqvAll]
  | d :: ds, h => by
    rw [PyData.canLayAll0, Bool.and_eq_true] at h
    rw [PyData.eqvAll, eqv_refl h.1, eqvAll_refl h.2]; rfl
end
theorem lay_of_ok {d : D} (h : okPy d = true) : d.py.canLay0 = true := by
  unfold okPy at h
  rw [Bool.and_eq_true] at h
  exact SeqAt.canLay_of_shaped h.2
theorem eqD_refl {d : D} (h : okPy d = true) : eqD d d = some (.bl true) := by
  unfold eqD
  rw [if_pos ⟨h, h⟩, eqv_refl (lay_of_ok h)]
theorem neD_refl {d : D} (h : okPy d = true) : neD d d = some (.bl false) := by
  unfold neD
  rw [if_pos ⟨h, h⟩, eqv_refl (lay_of_ok h)]; rfl
theorem int_ok (x : Int) : okPy (.int x) = true := by rfl
theorem rowD_ok (r : List Int) : okPy (rowD r) = true := by
  unfold okPy SeqAt.shaped
  rw [rowD_py]
  unfold rowD
  rw [D.py, pys_map, PyData.canLay0, PyData.depth, (lay_map r).1, (lay_map r).2]; rfl
theorem sm_int {x : Int} (h0 : 0 ≤ x) (h1 : x < 1000000000001) : (PyData.int x).showable = true ∧ (PyData.int x).leavesShort 13 = true ∧ (PyData.int x).weight ≤ 40 := by
  have hl : x.natAbs ≠ 0 → x.natAbs.log2 < 40 := fun h => (Nat.log2_lt h).mpr (Nat.lt_of_le_of_lt (show x.natAbs ≤ 1000000000000 by omega) (by decide))
  refine ⟨?_, ?_, ?_⟩
  · rw [PyData.showable]
    by_cases h : x.natAbs = 0
    · rw [h]; decide
    · exact decide_eq_true (by have := hl h; omega)
  · rw [PyData.leavesShort]
    by_cases h : x = 1000000000000
    · subst h; decide +kernel
    · exact decide_eq_true (PyData.shown_int_le2 (by omega) (by omega))
  · rw [PyData.weight]
    by_cases h : x.natAbs = 0
    · have : x = 0 := by omega
      subst this; decide
    · have := hl h
      split <;> omega
theorem sm_row : ∀ {r : List Int}, (∀ x ∈ r, 0 ≤ x ∧ x < 1000000000001) → PyData.showableAll (r.map PyData.int) = true ∧ PyData.leavesShortAll 13 (r.map PyData.int) = true ∧ PyData.weightAll (r.map PyData.int) ≤ 41 * r.length
  | [], _ => by simp [PyData.showableAll, PyData.leavesShortAll, PyData.weightAll]
  | x :: r, h => by
    obtain ⟨a, b, c⟩ := sm_int (h x (by simp)).1 (h x (by simp)).2
    obtain ⟨a', b', c'⟩ := sm_row (r := r) (fun y m => h y (by simp [m]))
    rw [List.map_cons, PyData.showableAll, PyData.leavesShortAll, PyData.weightAll, a, b, a', b', List.length_cons]
    exact ⟨rfl, rfl, by omega⟩
theorem rep_of {d : D} (h1 : okPy d = true) (h2 : d.py.showable = true) (h3 : d.py.leavesShort 13 = true) (h4 : d.py.weight ≤ 2 ^ 20) : reprD d = some (.str d.py.shown) := by
  unfold reprD reprOk
  rw [h1, h2, decide_eq_true (PyData.shown_fits (by omega) (by omega) h3 h4)]; rfl
theorem rep_row {r : List Int} (hl : r.length ≤ 20000) (h : ∀ x ∈ r, 0 ≤ x ∧ x < 1000000000001) : reprD (rowD r) = some (.str (rowD r).py.shown) := by
  obtain ⟨a, b, c⟩ := sm_row h
  refine rep_of (rowD_ok r) ?_ ?_ ?_ <;> unfold rowD <;> rw [D.py, pys_map]
  · rw [PyData.showable]; exact a
  · rw [PyData.leavesShort]; exact b
  · rw [PyData.weight]; have : (2 : Nat) ^ 20 = 1048576 := by decide
    omega
theorem neS_self (s : Str) : neS (.str s) (.str s) = some (.bl false) := by unfold neS; simp
theorem eqS_self (s : Str) : eqS (.str s) (.str s) = some (.bl true) := by unfold eqS; simp
theorem mo1_of {g : D → Option D} {f : Mo D} {ρ ρ1 : Rho} {d e : D} (hf : f ρ = some (.ok d ρ1)) (hg : g d = some e) : mo1 g f ρ = some (.ok e ρ1) := by
  unfold mo1
  rw [hf]; dsimp only; rw [hg]
theorem mo2_of {g : D → D → Option D} {f h : Mo D} {ρ ρ1 ρ2 : Rho} {d e r : D} (hf : f ρ = some (.ok d ρ1)) (hh : h ρ1 = some (.ok e ρ2)) (hg : g d e = some r) : mo2 g f h ρ = some (.ok r ρ2) := by
  unfold mo2
  rw [hf]; dsimp only; rw [hh]; dsimp only; rw [hg]
theorem tbM_of {f : Mo D} {ρ ρ1 : Rho} {b : Bool} (h : f ρ = some (.ok (.bl b) ρ1)) : tbM f ρ = some (.ok b ρ1) := by unfold tbM; rw [h]
theorem ne_rep {f g : Mo D} {ρ ρ1 ρ2 : Rho} {s : Str} (hf : f ρ = some (.ok (.str s) ρ1)) (hg : g ρ1 = some (.ok (.str s) ρ2)) : tbM (mo2 neS f g) ρ = some (.ok false ρ2) := tbM_of (mo2_of hf hg (neS_self s))
theorem ne_eqD {f g : Mo D} {ρ ρ1 ρ2 : Rho} {d : D} (hd : okPy d = true) (hf : f ρ = some (.ok d ρ1)) (hg : g ρ1 = some (.ok d ρ2)) : tbM (mo2 neD f g) ρ = some (.ok false ρ2) := tbM_of (mo2_of hf hg (neD_refl hd))
/-- the states that a run passes, and its answers, are small -/
theorem pas_lt {n : Nat} : ∀ (l : List Opn) {s : Int}, (∀ o ∈ l, OpOk n o) → 0 ≤ s ∧ s < n → ∀ x ∈ pas s l, 0 ≤ x ∧ x < n
  | [], s, _, hs, x, hx => by rw [List.mem_singleton.mp hx]; exact hs
  | o :: l, s, h, hs, x, hx => by
    rcases List.mem_cons.mp hx with rfl | hx
    · exact hs
    · exact pas_lt l (s := stp s o) (fun p hp => h p (List.mem_cons_of_mem _ hp)) (row_at (h o (List.mem_cons_self ..)).ends hs).2 x hx
theorem anss_lt {n : Nat} : ∀ (l : List Opn) {s : Int}, (∀ o ∈ l, OpOk n o) → 0 ≤ s ∧ s < n → ∀ x ∈ anss s l, 0 ≤ x ∧ x < 1000000000001
  | [], s, _, hs, x, hx => by cases hx
  | o :: l, s, h, hs, x, hx => by
    rcases List.mem_cons.mp hx with rfl | hx
    · exact (row_at (h o (List.mem_cons_self ..)).ans hs).2
    · exact anss_lt l (s := stp s o) (fun p hp => h p (List.mem_cons_of_mem _ hp)) (row_at (h o (List.mem_cons_self ..)).ends hs).2 x hx
theorem ees_row (n : Nat) (l : List Opn) : D.tup (ees n l) = rowD ((List.range n).map fun i => fin (Nat.cast i) l) := by
  unfold ees rowD
  rw [List.map_map]; rfl
end K09
set_option maxHeartbeats 4000000
namespace K09
open PySem PySem.Spec L2 Tr
/-! ### right -/
def vR (A : Addr) (n : Nat) (os : List Off) (rs : List Opn) (fd : List D) (s5 s6 s7 s8 : Sl) : Rho := [.ow (.fr (storeD A n os)), .ow (.fr (.dic (ltab (sops os)))), .ow (.fr (.int (Nat.cast n))), .ow (.fr (nmD rs)), .ow (.fl fd), s5, s6, s7, s8]
noncomputable def v1S : MS := asgS (frzM (callM 3 F__law_walk (agV (puV (var 1)) (agV (puV (var 5)) (agV (puV (var 3)) agN))))) (gT 2 (gsC (gN 6) (gsC (gN 7) gsN)))
noncomputable def v2S (A_Store : Addr) : MS := setF 8 (callM 3 (F_after A_Store) (agV (puV (var 0)) (agV (puV (var 5)) (agV (puV (var 3)) agN))))
noncomputable def v3S (A_Store : Addr) : MS := ifS (orY (tbM (mo2 neS (mo1 reprD (frzM (callM 3 (F_passed A_Store) (agV (puV (var 0)) (agV (puV (var 5)) (agV (puV (var 3)) agN)))))) (puV (pu1 reprD (var 6))))) (tbM (mo2 neS (mo1 reprD (frzM (callM 3 (F_answers_of A_Store) (agV (puV (var 0)) (agV (puV (var 5)) (agV (puV (var 3)) agN)))))) (puV (pu1 reprD (var 7)))))) (retS (ofP (cst (.bl false)))) nxS
noncomputable def v4S : MS := ifS (quM (tb (pu2 neD (var 8) (pu2 ixD (var 6) (pu1 negD (cst (.int 1))))))) (retS (ofP (cst (.bl false)))) nxS
noncomputable def v5S (A_Store : Addr) : MS := ifS (orY (quM (tb (pu1 (isiD "bool") (var 8)))) (tbM (mo2 neD (frzM (callM 3 (F_after A_Store) (perG [1, 2, 0] (lpC (var 3) (lpC (var 0) (lpC (var 5) lpN)))))) (puV (var 8))))) (retS (ofP (cst (.bl false)))) nxS
noncomputable def v6S : MS := dropS (appX 4 (puV (pu2 ixD (var 6) (pu1 negD (cst (.int 1))))))
noncomputable def vB (A_Store : Addr) : MS := seqS v1S (seqS (v2S A_Store) (seqS (v3S A_Store) (seqS v4S (seqS (v5S A_Store) v6S))))
theorem sops_in {os : List Off} {rs : List Opn} (hr : ∀ o ∈ rs, o ∈ os.flatten) : ∀ o ∈ rs, o ∈ sops os := fun o ho => (sops_perm os).mem_iff.mpr (hr o ho)
theorem vB_eq (A : Addr) {n : Nat} {os : List Off} (S : StOk n os) {rs : List Opn} (hr : ∀ o ∈ rs, o ∈ os.flatten) (hz : rs.length ≤ 10000) {i : Nat} (hi : i < n) {fd : List D} (hfd : fd.length ≤ 1000) {s6 s7 s8 : Sl} (b6 : stbS s6 = true) (b7 : stbS s7 = true) (b8 : stbS s8 = true) :
    ∃ s6' s7' s8', stbS s6' = true ∧ stbS s7' = true ∧ stbS s8' = true ∧ vB A (vR A n os rs fd (.ow (.fr (.int (Nat.cast i)))) s6 s7 s8) = some (.nx (vR A n os rs (fd ++ [.int (fin (Nat.cast i) rs)]) (.ow (.fr (.int (Nat.cast i)))) s6' s7' s8')) := by
  have hs : 0 ≤ (Nat.cast i : Int) ∧ (Nat.cast i : Int) < n := by omega
  have hro : ∀ o ∈ rs, OpOk n o := fun o ho => S.ops o (hr o ho)
  have hso : ∀ o ∈ sops os, OpOk n o := fun o ho => S.ops o ((sops_perm os).mem_iff.mp ho)
  let s : Int := Nat.cast i
  have n2 := S.n2
  have p1 : reprD (rowD (pas s rs)) = some (.str (rowD (pas s rs)).py.shown) := rep_row (by rw [pas_len]; omega) fun x hx => by have := pas_lt rs hro hs x hx; omega
  have p2 : reprD (rowD (anss s rs)) = some (.str (rowD (anss s rs)).py.shown) := rep_row (by rw [anss_len]; omega) (anss_lt rs hro hs)
  let V0 : Rho := vR A n os rs fd (.ow (.fr (.int s))) s6 s7 s8
  let V1 : Rho := vR A n os rs fd (.ow (.fr (.int s))) (.ow (.fr (rowD (pas s rs)))) (.ow (.fr (rowD (anss s rs)))) s8
  let V2 : Rho := vR A n os rs fd (.ow (.fr (.int s))) (.ow (.fr (rowD (pas s rs)))) (.ow (.fr (rowD (anss s rs)))) (.ow (.fr (.int (fin s rs))))
  have e1 : v1S V0 = some (.nx V1) := by
    have c := call_b3 (F := F__law_walk) (f := puV (var 1)) (g := puV (var 5)) (h := puV (var 3)) (ρ := V0) rfl rfl rfl (law_walk_eq (sops_nd S) hso hs (sops_in hr) (by omega))
    unfold v1S asgS
    rw [c]
    simp [gT, gsC, gsN, gN, V0, V1, vR, stb_at, b6, b7, s]
  have a2 := call_vvv (F := F_after A) (f := puV (var 0)) (g := puV (var 5)) (h := puV (var 3)) (ρ := V1) rfl rfl rfl (after_eq A S hs hr (by omega))
  have e2 : v2S A V1 = some (.nx V2) := (set_of (i := 8) a2 ⟨s8, rfl, b8⟩).trans rfl
  have e3 : v3S A V2 = some (.nx V2) := by
    refine (if_f (ρ' := V2) (or_ff (ρ1 := V2) ?_ ?_)).trans rfl
    · exact ne_rep (mo1_of (call_b3 (ρ := V2) (f := puV (var 0)) (g := puV (var 5)) (h := puV (var 3)) rfl rfl rfl (passed_eq A S hs hr (by omega))) p1) (pu_of (pu1_of rfl p1))
    · exact ne_rep (mo1_of (call_b3 (ρ := V2) (f := puV (var 0)) (g := puV (var 5)) (h := puV (var 3)) rfl rfl rfl (answers_eq A S hs hr (by omega))) p2) (pu_of (pu1_of rfl p2))
  have x6 : pu2 ixD (var 6) (pu1 negD (cst (.int 1))) V2 = some (.int (fin s rs)) := by
    refine pu2_of (e := .int (-1)) rfl rfl ?_
    show atI ((pas s rs).map D.int) (-1) = _
    obtain ⟨p, ep⟩ := pas_last s rs
    rw [ep, List.map_append]
    exact L2.atI_last _ _
  have e4 : v4S V2 = some (.nx V2) := (if_f (ρ' := V2) (qu_of (pu2_of rfl x6 (neD_refl (int_ok _))))).trans rfl
  have e5 : v5S A V2 = some (.nx V2) := by
    refine (if_f (ρ' := V2) (or_ff (ρ1 := V2) (qu_of (pu1_of (f := var 8) (d := .int (fin s rs)) rfl rfl)) ?_)).trans rfl
    refine ne_eqD (int_ok (fin s rs)) (ρ1 := V2) (frz_x ?_) rfl
    have := after_eq A S hs hr (by omega)
    simp [callM, perG, lpC, lpN, var, V2, vR, toSl, noDup, lents, back, this, s]
  have e6 : v6S V2 = some (.nx (vR A n os rs (fd ++ [.int (fin s rs)]) (.ow (.fr (.int s))) (.ow (.fr (rowD (pas s rs)))) (.ow (.fr (rowD (anss s rs)))) (.ow (.fr (.int (fin s rs)))))) := (app_of (i := 4) (ρ := V2) (ds := fd) rfl (pu_of x6) (by omega)).trans rfl
  refine ⟨.ow (.fr (rowD (pas s rs))), .ow (.fr (rowD (anss s rs))), .ow (.fr (.int (fin s rs))), rfl, rfl, rfl, ?_⟩
  show vB A V0 = _
  unfold vB
  rw [seq_nx e1, seq_nx e2, seq_nx e3, seq_nx e4, seq_nx e5, e6]
theorem right_eq (A : Addr) {n : Nat} {os : List Off} (S : StOk n os) {rs : List Opn} (hr : ∀ o ∈ rs, o ∈ os.flatten) (hz : rs.length ≤ 10000) :
    F__law_right A [.ow (.fr (storeD A n os)), .ow (.fr (.dic (ltab (sops os)))), .ow (.fr (.int (Nat.cast n))), .ow (.fr (nmD rs))] = some (.ret (.fr (.bl true)) [.no, .no, .no, .no]) := by
  have hro : ∀ o ∈ rs, OpOk n o := fun o ho => S.ops o (hr o ho)
  have n2 := S.n2
  let R0 : Rho := [.ow (.fr (storeD A n os)), .ow (.fr (.dic (ltab (sops os)))), .ow (.fr (.int (Nat.cast n))), .ow (.fr (nmD rs)), .no, .no, .no, .no, .no]
  let g : Nat → D := fun i => .int (fin (Nat.cast i) rs)
  have e1 : setS 4 (lstX lxN) R0 = some (.nx (vR A n os rs [] .no .no .no .no)) := rfl
  have lp := forL_inv (α := Nat) (t := gN 5) (b := vB A) (f := fun i => D.int (Nat.cast i)) (St := fun l ρ => ∃ s5 s6 s7 s8, stbS s5 = true ∧ stbS s6 = true ∧ stbS s7 = true ∧ stbS s8 = true ∧ ρ = vR A n os rs (l.map g) s5 s6 s7 s8) (bs := []) (as := List.range n) (fun k l r hl _ ρ ⟨s5, s6, s7, s8, b5, b6, b7, b8, e⟩ => by
      subst e
      rw [List.nil_append] at hl
      have hk := List.mem_range.mp (show k ∈ List.range n by rw [hl]; simp)
      have hll : l.length ≤ n := by have := congrArg List.length hl; rw [List.length_append, List.length_range] at this; omega
      obtain ⟨s6', s7', s8', c6, c7, c8, e⟩ := vB_eq A S hr hz hk (fd := l.map g) (by rw [List.length_map]; omega) b6 b7 b8
      refine ⟨vR A n os rs (l.map g) (.ow (.fr (.int (Nat.cast k)))) s6 s7 s8, _, ?_, .inl e, _, s6', s7', s8', rfl, c6, c7, c8, by rw [List.map_append]; rfl⟩
      simp [gN, vR, stb_at, b5]) (vR A n os rs [] .no .no .no .no) ⟨.no, .no, .no, .no, rfl, rfl, rfl, rfl, rfl⟩
  obtain ⟨ρ', e2, s5, s6, s7, s8, _, _, _, _, rfl⟩ := lp
  rw [List.nil_append] at e2
  let V : Rho := vR A n os rs (ees n rs) s5 s6 s7 s8
  have c2 : forS (itR1 (puV (var 2))) (gN 5) (vB A) (vR A n os rs [] .no .no .no .no) = some (.nx V) := by
    unfold forS
    have it : itR1 (puV (var 2)) (vR A n os rs [] .no .no .no .no) = some (.ok ((List.range n).map fun i => D.int (Nat.cast i)) (vR A n os rs [] .no .no .no .no)) := by
      show (if -(2 ^ 62) ≤ (Nat.cast n : Int) ∧ (Nat.cast n : Int) ≤ 16777216 then some (Re.ok (rngD 0 (Nat.cast n : Int).toNat) (vR A n os rs [] .no .no .no .no)) else none) = _
      rw [if_pos ⟨by omega, by omega⟩, Int.toNat_natCast, rngD_eq]
    rw [it]
    exact e2
  have hrep : reprD (.tup (ees n rs)) = some (.str (D.tup (ees n rs)).py.shown) := by
    rw [ees_row]
    refine rep_row (by rw [List.length_map, List.length_range]; omega) fun x hx => ?_
    obtain ⟨i, hi, rfl⟩ := List.mem_map.mp hx
    have hi := List.mem_range.mp hi
    have := fin_lt (n := n) rs hro (s := Nat.cast i) (by omega)
    omega
  have e3 : retS (frM (mo2 eqS (mo1 reprD (frzM (callM 2 (F_run_ends A) (agV (puV (var 0)) (agV (puV (var 3)) agN))))) (puV (pu1 reprD (pu1 tupD (con 4)))))) V = some (.rt (.fr (.bl true)) V) := by
    have k1 := mo1_of (g := reprD) (frz_x (call_vv (F := F_run_ends A) (f := puV (var 0)) (g := puV (var 3)) (ρ := V) rfl rfl (run_ends_eq A S hr))) hrep
    have k2 : puV (pu1 reprD (pu1 tupD (con 4))) V = some (.ok (.str (D.tup (ees n rs)).py.shown) V) := pu_of (pu1_of (pu1_of (d := .lst (ees n rs)) rfl rfl) hrep)
    unfold retS
    rw [fr_of (mo2_of k1 k2 (eqS_self _))]
  unfold F__law_right
  refine run_rt (ρ := V) ?_ (by simp [V, vR]) rfl
  have hm : m__law_right A = (seqS (setS 4 (lstX lxN)) (seqS (forS (itR1 (puV (var 2))) (gN 5) (vB A)) (retS (frM (mo2 eqS (mo1 reprD (frzM (callM 2 (F_run_ends A) (agV (puV (var 0)) (agV (puV (var 3)) agN))))) (puV (pu1 reprD (pu1 tupD (con 4))))))))) := by unfold m__law_right vB v1S v2S v3S v4S v5S v6S; rfl
  show m__law_right A R0 = _
  rw [hm, seq_nx e1, seq_nx c2]
  exact e3
end K09
set_option maxHeartbeats 4000000
namespace K09
open PySem PySem.Spec L2 Tr
/-! ### joined -/
theorem fin_app (s : Int) (a b : List Opn) : fin s (a ++ b) = fin (fin s a) b := by unfold fin; rw [List.foldl_append]
theorem anss_app : ∀ (s : Int) (a b : List Opn), anss s (a ++ b) = anss s a ++ anss (fin s a) b
  | s, [], b => rfl
  | s, o :: a, b => by
    rw [List.cons_append, anss, anss, anss_app (stp s o) a b, List.cons_append]; rfl
theorem pas_app : ∀ (s : Int) (a : List Opn), ∃ p, pas s a = p ++ [fin s a] ∧ ∀ b, pas s (a ++ b) = p ++ pas (fin s a) b
  | s, [] => ⟨[], rfl, fun b => rfl⟩
  | s, o :: a => by
    obtain ⟨p, e1, e2⟩ := pas_app (stp s o) a
    refine ⟨s :: p, by rw [pas, e1]; rfl, fun b => ?_⟩
    rw [List.cons_append, pas, e2]; rfl
theorem cut_but1 {α : Type} (p : List α) (x : α) : cutA (p ++ [x]) none (some (-1)) = p := by
  unfold cutA
  have h1 : HT.sIx (p ++ [x]).length 0 none = 0 := rfl
  have h2 : HT.sIx (p ++ [x]).length (p ++ [x]).length (some (-1)) = p.length := by
    show (if (-1 : Int) < 0 then (-1 + ((p ++ [x]).length : Int)).toNat else min (Int.toNat (-1)) (p ++ [x]).length) = _
    rw [if_pos (by omega), List.length_append, List.length_singleton]
    omega
  rw [h1, h2]
  simp
def jR (A : Addr) (n : Nat) (os : List Off) (a b : List Opn) (s7 s8 : Sl) : Rho := [.ow (.fr (storeD A n os)), .ow (.fr (.int (Nat.cast n))), .ow (.fr (nmD a)), .ow (.fr (nmD b)), .ow (.fr (.tup (ees n a))), .ow (.fr (.tup (ees n b))), .ow (.fr (nmD (a ++ b))), s7, s8]
noncomputable def j1S (A_Store : Addr) : MS := setF 8 (callM 3 (F_after A_Store) (agV (puV (var 0)) (agV (puV (var 7)) (agV (puV (var 2)) agN))))
noncomputable def j2S (A_Store : Addr) : MS := ifS (orY (tbM (mo2 neD (frzM (callM 3 (F_after A_Store) (agV (puV (var 0)) (agV (puV (var 7)) (agV (puV (var 6)) agN))))) (frzM (callM 3 (F_after A_Store) (agV (puV (var 0)) (agV (puV (var 8)) (agV (puV (var 3)) agN))))))) (tbM (mo2 neD (puV (pu2 ixD (var 5) (pu2 ixD (var 4) (var 7)))) (frzM (callM 3 (F_after A_Store) (agV (puV (var 0)) (agV (puV (var 7)) (agV (puV (var 6)) agN)))))))) (retS (ofP (cst (.bl false)))) nxS
noncomputable def j3S (A_Store : Addr) : MS := ifS (tbM (mo2 neD (frzM (callM 3 (F_answers_of A_Store) (agV (puV (var 0)) (agV (puV (var 7)) (agV (puV (var 6)) agN))))) (mo2 addD (frzM (callM 3 (F_answers_of A_Store) (agV (puV (var 0)) (agV (puV (var 7)) (agV (puV (var 2)) agN))))) (frzM (callM 3 (F_answers_of A_Store) (agV (puV (var 0)) (agV (puV (var 8)) (agV (puV (var 3)) agN)))))))) (retS (ofP (cst (.bl false)))) nxS
noncomputable def j4S (A_Store : Addr) : MS := ifS (tbM (mo2 neD (frzM (callM 3 (F_passed A_Store) (perG [0, 1, 2] (lpC (var 0) (lpC (var 7) (lpC (var 6) lpN)))))) (mo2 addD (slM (frzM (callM 3 (F_passed A_Store) (agV (puV (var 0)) (agV (puV (var 7)) (agV (puV (var 2)) agN))))) poN (poS (pu1 negD (cst (.int 1))))) (frzM (callM 3 (F_passed A_Store) (agV (puV (var 0)) (agV (puV (var 8)) (agV (puV (var 3)) agN)))))))) (retS (ofP (cst (.bl false)))) nxS
noncomputable def jB (A_Store : Addr) : MS := seqS (j1S A_Store) (seqS (j2S A_Store) (seqS (j3S A_Store) (j4S A_Store)))
theorem ees_at {n : Nat} (l : List Opn) {s : Int} (hs : 0 ≤ s ∧ s < n) : ixD (.tup (ees n l)) (.int s) = some (.int (fin s l)) := by
  show atI (ees n l) s = _
  obtain ⟨i, rfl⟩ : ∃ i : Nat, s = Nat.cast i := ⟨s.toNat, by omega⟩
  exact L2.atI_nat (by unfold ees; rw [List.getElem?_map, List.getElem?_range (by omega)]; rfl)
theorem jB_eq (A : Addr) {n : Nat} {os : List Off} (S : StOk n os) {a b : List Opn} (ha : ∀ o ∈ a, o ∈ os.flatten) (hb : ∀ o ∈ b, o ∈ os.flatten) (hz : a.length + b.length ≤ 10000) {s : Int} (hs : 0 ≤ s ∧ s < n) {s8 : Sl} (b8 : stbS s8 = true) :
    jB A (jR A n os a b (.ow (.fr (.int s))) s8) = some (.nx (jR A n os a b (.ow (.fr (.int s))) (.ow (.fr (.int (fin s a)))))) := by
  have hab : ∀ o ∈ a ++ b, o ∈ os.flatten := fun o ho => by
    rcases List.mem_append.mp ho with h | h
    · exact ha o h
    · exact hb o h
  have hm := fin_lt a (fun o ho => S.ops o (ha o ho)) hs
  have lab : (a ++ b).length ≤ 100000 := by rw [List.length_append]; omega
  have e1 : j1S A (jR A n os a b (.ow (.fr (.int s))) s8) = some (.nx (jR A n os a b (.ow (.fr (.int s))) (.ow (.fr (.int (fin s a)))))) := (set_of (i := 8) (call_vvv (F := F_after A) (f := puV (var 0)) (g := puV (var 7)) (h := puV (var 2)) (ρ := jR A n os a b (.ow (.fr (.int s))) s8) rfl rfl rfl (after_eq A S hs ha (by omega))) ⟨s8, rfl, b8⟩).trans rfl
  let V : Rho := jR A n os a b (.ow (.fr (.int s))) (.ow (.fr (.int (fin s a))))
  have f1 := call_b3 (ρ := V) (f := puV (var 0)) (g := puV (var 7)) (h := puV (var 6)) rfl rfl rfl (after_eq A S hs hab lab)
  have f2 := call_b3 (ρ := V) (f := puV (var 0)) (g := puV (var 8)) (h := puV (var 3)) rfl rfl rfl (after_eq A S hm hb (by omega))
  rw [← fin_app] at f2
  have e2 : j2S A V = some (.nx V) := by
    refine (if_f (ρ' := V) (or_ff (ρ1 := V) (ne_eqD (int_ok _) f1 f2) ?_)).trans rfl
    refine ne_eqD (int_ok (fin s (a ++ b))) (ρ1 := V) (pu_of (pu2_of rfl (pu2_of rfl rfl (ees_at a hs)) ?_)) f1
    rw [fin_app]
    exact ees_at b hm
  have g1 := call_b3 (ρ := V) (f := puV (var 0)) (g := puV (var 7)) (h := puV (var 6)) rfl rfl rfl (answers_eq A S hs hab lab)
  have g2 := call_b3 (ρ := V) (f := puV (var 0)) (g := puV (var 7)) (h := puV (var 2)) rfl rfl rfl (answers_eq A S hs ha (by omega))
  have g3 := call_b3 (ρ := V) (f := puV (var 0)) (g := puV (var 8)) (h := puV (var 3)) rfl rfl rfl (answers_eq A S hm hb (by omega))
  have e3 : j3S A V = some (.nx V) := by
    refine (if_f (ρ' := V) (ne_eqD (rowD_ok _) g1 (mo2_of g2 g3 ?_))).trans rfl
    show (if ((anss s a).map D.int).length + ((anss (fin s a) b).map D.int).length ≤ sizeLine then some (D.tup ((anss s a).map D.int ++ (anss (fin s a) b).map D.int)) else none) = some (D.tup ((anss s (a ++ b)).map D.int))
    rw [if_pos (by rw [List.length_map, List.length_map, anss_len, anss_len, sizeLine_eq]; omega), anss_app, List.map_append]
  have p1 : frzM (callM 3 (F_passed A) (perG [0, 1, 2] (lpC (var 0) (lpC (var 7) (lpC (var 6) lpN))))) V = some (.ok (rowD (pas s (a ++ b))) V) := by
    refine frz_x ?_
    have := passed_eq A S hs hab lab
    simp [callM, perG, lpC, lpN, var, V, jR, toSl, noDup, lents, back, this, rowD]
  have p2 := call_b3 (ρ := V) (f := puV (var 0)) (g := puV (var 7)) (h := puV (var 2)) rfl rfl rfl (passed_eq A S hs ha (by omega))
  have p3 := call_b3 (ρ := V) (f := puV (var 0)) (g := puV (var 8)) (h := puV (var 3)) rfl rfl rfl (passed_eq A S hm hb (by omega))
  obtain ⟨p, q1, q2⟩ := pas_app s a
  have p4 : slM (frzM (callM 3 (F_passed A) (agV (puV (var 0)) (agV (puV (var 7)) (agV (puV (var 2)) agN))))) poN (poS (pu1 negD (cst (.int 1)))) V = some (.ok (.tup (p.map D.int)) V) := by
    unfold slM
    rw [p2]
    dsimp only
    show (match slAD (.tup ((pas s a).map D.int)) none (some (-1)) with
      | some z => some (Re.ok z V)
      | none => none) = _
    rw [show slAD (.tup ((pas s a).map D.int)) none (some (-1)) = some (.tup (cutA ((pas s a).map D.int) none (some (-1)))) from rfl, q1, List.map_append]
    rw [show (p.map D.int ++ [fin s a].map D.int) = p.map D.int ++ [D.int (fin s a)] from rfl, cut_but1]
  have e4 : j4S A V = some (.nx V) := by
    refine (if_f (ρ' := V) (ne_eqD (rowD_ok _) p1 (mo2_of p4 p3 ?_))).trans rfl
    show (if (p.map D.int).length + ((pas (fin s a) b).map D.int).length ≤ sizeLine then some (D.tup (p.map D.int ++ (pas (fin s a) b).map D.int)) else none) = some (D.tup ((pas s (a ++ b)).map D.int))
    have hpl : p.length ≤ a.length := by
      have := congrArg List.length q1
      rw [pas_len, List.length_append, List.length_singleton] at this
      omega
    rw [if_pos (by rw [List.length_map, List.length_map, pas_len, sizeLine_eq]; omega), q2, List.map_append]
  unfold jB
  rw [seq_nx e1, seq_nx e2, seq_nx e3, e4]
theorem joined_eq (A : Addr) {n : Nat} {os : List Off} (S : StOk n os) {a b : List Opn} (ha : ∀ o ∈ a, o ∈ os.flatten) (hb : ∀ o ∈ b, o ∈ os.flatten) (hz : a.length + b.length ≤ 10000) :
    F__law_joined A [.ow (.fr (storeD A n os)), .ow (.fr (.int (Nat.cast n))), .ow (.fr (nmD a)), .ow (.fr (nmD b))] = some (.ret (.fr (.bl true)) [.no, .no, .no, .no]) := by
  have n1 := S.n1
  have n2 := S.n2
  let R0 : Rho := [.ow (.fr (storeD A n os)), .ow (.fr (.int (Nat.cast n))), .ow (.fr (nmD a)), .ow (.fr (nmD b)), .no, .no, .no, .no, .no]
  have k1 := frz_x (call_vv (F := F_run_ends A) (f := puV (var 0)) (g := puV (var 2)) (ρ := R0) rfl rfl (run_ends_eq A S ha))
  have k2 : frzM (callM 2 (F_run_ends A) (perG [1, 0] (lpC (var 3) (lpC (var 0) lpN)))) R0 = some (.ok (.tup (ees n b)) R0) := by
    refine frz_x ?_
    have := run_ends_eq A S hb
    simp [callM, perG, lpC, lpN, var, R0, toSl, noDup, lents, back, this]
  have k3 : puV (pu2 addD (var 2) (var 3)) R0 = some (.ok (nmD (a ++ b)) R0) := by
    refine pu_of (pu2_of rfl rfl ?_)
    show (if ((a.map Opn.name).map D.str).length + ((b.map Opn.name).map D.str).length ≤ sizeLine then some (D.tup ((a.map Opn.name).map D.str ++ (b.map Opn.name).map D.str)) else none) = some (D.tup (((a ++ b).map Opn.name).map D.str))
    rw [if_pos (by rw [List.length_map, List.length_map, List.length_map, List.length_map, sizeLine_eq]; omega), List.map_append, List.map_append]
  have e1 : par3 4 5 6 (lxC (frM (frzM (callM 2 (F_run_ends A) (agV (puV (var 0)) (agV (puV (var 2)) agN))))) (lxC (frM (frzM (callM 2 (F_run_ends A) (perG [1, 0] (lpC (var 3) (lpC (var 0) lpN)))))) (lxC (frM (puV (pu2 addD (var 2) (var 3)))) lxN))) R0 = some (.nx (jR A n os a b .no .no)) := by
    have l3 := lx_cons (r := lxN) (xs := []) (fr_of k3) rfl
    have l2 := lx_cons (fr_of k2) l3
    have l1 := lx_cons (fr_of k1) l2
    unfold par3
    rw [l1]
    rfl
  have lp := forL_inv (α := Nat) (t := gN 7) (b := jB A) (f := fun i => D.int (Nat.cast i)) (St := fun l ρ => ∃ s7 s8, stbS s7 = true ∧ stbS s8 = true ∧ ρ = jR A n os a b s7 s8) (bs := []) (as := List.range n) (fun k l r hl _ ρ ⟨s7, s8, b7, b8, e⟩ => by
      subst e
      rw [List.nil_append] at hl
      have hk := List.mem_range.mp (show k ∈ List.range n by rw [hl]; simp)
      refine ⟨jR A n os a b (.ow (.fr (.int (Nat.cast k)))) s8, _, ?_, .inl (jB_eq A S ha hb hz (s := Nat.cast k) (by omega) b8), _, _, rfl, rfl, rfl⟩
      simp [gN, jR, stb_at, b7]) (jR A n os a b .no .no) ⟨.no, .no, rfl, rfl, rfl⟩
  obtain ⟨ρ', e2, s7, s8, _, _, rfl⟩ := lp
  let V : Rho := jR A n os a b s7 s8
  have c2 : forS (itR1 (puV (var 1))) (gN 7) (jB A) (jR A n os a b .no .no) = some (.nx V) := by
    unfold forS
    have it : itR1 (puV (var 1)) (jR A n os a b .no .no) = some (.ok ((List.range n).map fun i => D.int (Nat.cast i)) (jR A n os a b .no .no)) := by
      show (if -(2 ^ 62) ≤ (Nat.cast n : Int) ∧ (Nat.cast n : Int) ≤ 16777216 then some (Re.ok (rngD 0 (Nat.cast n : Int).toNat) (jR A n os a b .no .no)) else none) = _
      rw [if_pos ⟨by omega, by omega⟩, Int.toNat_natCast, rngD_eq]
    rw [it]
    exact e2
  have hans := answers_eq A S (s := 0) (by omega) ha (by omega)
  have e3 : retS (frM (mo2 eqD (frzM (callM 3 (F_answers_of A) (perG [2, 1, 0] (lpC (var 2) (lpC (cst (.int 0)) (lpC (var 0) lpN)))))) (frzM (callM 3 (F_answers_of A) (agV (puV (var 0)) (agV (puV (cst (.int 0))) (agV (puV (var 2)) agN))))))) V = some (.rt (.fr (.bl true)) V) := by
    have k4 : frzM (callM 3 (F_answers_of A) (perG [2, 1, 0] (lpC (var 2) (lpC (cst (.int 0)) (lpC (var 0) lpN))))) V = some (.ok (rowD (anss 0 a)) V) := by
      refine frz_x ?_
      simp [callM, perG, lpC, lpN, var, cst, V, jR, toSl, noDup, lents, back, hans]
    have k5 := call_b3 (ρ := V) (f := puV (var 0)) (g := puV (cst (.int 0))) (h := puV (var 2)) rfl rfl rfl hans
    unfold retS
    rw [fr_of (mo2_of k4 k5 (eqD_refl (rowD_ok _)))]
  unfold F__law_joined
  refine run_rt (ρ := V) ?_ (by simp [V, jR]) rfl
  have hm : m__law_joined A = (seqS (par3 4 5 6 (lxC (frM (frzM (callM 2 (F_run_ends A) (agV (puV (var 0)) (agV (puV (var 2)) agN))))) (lxC (frM (frzM (callM 2 (F_run_ends A) (perG [1, 0] (lpC (var 3) (lpC (var 0) lpN)))))) (lxC (frM (puV (pu2 addD (var 2) (var 3)))) lxN)))) (seqS (forS (itR1 (puV (var 1))) (gN 7) (jB A)) (retS (frM (mo2 eqD (frzM (callM 3 (F_answers_of A) (perG [2, 1, 0] (lpC (var 2) (lpC (cst (.int 0)) (lpC (var 0) lpN)))))) (frzM (callM 3 (F_answers_of A) (agV (puV (var 0)) (agV (puV (cst (.int 0))) (agV (puV (var 2)) agN)))))))))) := by unfold m__law_joined jB j1S j2S j3S j4S; rfl
  show m__law_joined A R0 = _
  rw [hm, seq_nx e1, seq_nx c2]
  exact e3
end K09
set_option maxHeartbeats 4000000
namespace K09
open PySem PySem.Spec L2 Tr
/-! ### the law's body: one box, its store and runs -/
abbrev fz (d : D) : Sl := .ow (.fr d)
def lQ (ns : List Int) (s1 s2 s3 s4 s5 s6 s7 s8 s9 s10 s11 s12 s13 : Sl) : Rho := [fz (.scr ns), s1, s2, s3, s4, s5, s6, s7, s8, s9, s10, s11, s12, s13, .no]
noncomputable def l1 : MS := setS 2 (callM 2 F__law_box (agV (puV (var 0)) (agV (puV (var 1)) agN)))
noncomputable def l2 : MS := setF 3 (frM (mo2 addD (puV (cst (.int 1))) (frzM (callM 2 F__law_take (agL 2 (agV (puV (cst (.int 5))) agN))))))
noncomputable def l3 : MS := setF 4 (callM 2 F__law_offices (agL 2 (agV (puV (var 3)) agN)))
noncomputable def l4 : MS := par2 5 6 (lxC (frM (frzM (lcM (itS (frzM (callM 1 F__law_all (agV (puV (var 4)) agN)))) (gN 14) yes (ofP (pu2 ixD (var 14) (cst (.int 0)))) [14]))) (lxC (frM (frzM (callM 2 F__law_other (agV (puV (var 4)) (agV (puV (var 3)) agN))))) lxN))
noncomputable def l5 (A_Store : Addr) : MS := par2 7 8 (lxC (frM (frzM (mkM A_Store "size" "offices" F_check_offices (agV (puV (var 3)) (agV (puV (var 4)) agN))))) (lxC (frM (frzM (mkM A_Store "size" "offices" F_check_offices (agV (puV (var 3)) (agV (puV (var 6)) agN))))) lxN))
noncomputable def l6 : MS := par2 9 10 (lxC (frM (frzM (callM 3 F__law_run (agL 2 (agV (puV (var 5)) (agV (puV (cst (.int 5))) agN)))))) (lxC (frM (frzM (callM 3 F__law_run (agL 2 (agV (puV (var 5)) (agV (puV (cst (.int 9))) agN)))))) lxN))
noncomputable def l7 : MS := ifS (tbM (mo2 eqD (frzM (callM 2 F__law_take (agL 2 (agV (puV (cst (.int 12))) agN)))) (puV (cst (.int 5))))) (setF 10 (ofP (pu2 mulAD (var 10) (cst (.int 20))))) nxS
theorem mk_eq (A : Addr) {n : Nat} {os : List Off} (S : StOk n os) {f g : Mo D} {ρ : Rho} (hf : f ρ = some (.ok (.int (Nat.cast n)) ρ)) (hg : g ρ = some (.ok (offsD os) ρ)) : frzM (mkM A "size" "offices" F_check_offices (agV f (agV g agN))) ρ = some (.ok (storeD A n os) ρ) := by
  refine frz_x ?_
  unfold mkM
  have ha : agV f (agV g agN) ρ = some (.ok [.v (.int (Nat.cast n)), .v (offsD os)] ρ) := by simp [agV, agN, hf, hg]
  rw [ha]
  dsimp only
  rw [check_offices_eq S]
  rfl
theorem call_lvv {F : FS} {i : Nat} {ρ : Rho} {s0 : Sl} {o o' : O} {d1 d2 : D} {r : O} {f g : Mo D} (e : ρ[i]? = some s0) (et : s0.tr = some o) (hf : f ρ = some (.ok d1 ρ)) (hg : g ρ = some (.ok d2 ρ)) (h : F [.le o, .ow (.fr d1), .ow (.fr d2)] = some (.ret r [.le o', .no, .no])) :
    callM 3 F (agL i (agV f (agV g agN))) ρ = some (.ok r (ρ.set i (s0.put o'))) := by
  simp [callM, agL, agV, agN, e, et, hf, hg, toSl, noDup, lents, back, h]
variable {ns : List Int} {s1 s2 s3 s4 s5 s6 s7 s8 s9 s10 s11 s12 s13 : Sl} {o : O} {n : Nat} {os : List Off}
theorem l1_eq {k : Nat} (hk : k < ns.length ∨ ns.length = 0) (b2 : stbS s2 = true) : ∃ o, HP o ∧ l1 (lQ ns (fz (.int (Nat.cast k))) s2 s3 s4 s5 s6 s7 s8 s9 s10 s11 s12 s13) = some (.nx (lQ ns (fz (.int (Nat.cast k))) (.ow o) s3 s4 s5 s6 s7 s8 s9 s10 s11 s12 s13)) := by
  obtain ⟨o, ho, e⟩ := box_eq ns k hk
  refine ⟨o, ho, ?_⟩
  have c := call_vv (F := F__law_box) (f := puV (var 0)) (g := puV (var 1)) (ρ := lQ ns (fz (.int (Nat.cast k))) s2 s3 s4 s5 s6 s7 s8 s9 s10 s11 s12 s13) (d1 := .scr ns) (d2 := .int (Nat.cast k)) rfl rfl e
  unfold l1 setS
  rw [c]
  dsimp only
  rw [if_pos (by rw [stb_at]; exact b2)]
  rfl
theorem l2_eq (ho : HP o) (b3 : stbS s3 = true) : ∃ (n : Nat) (o' : O), 1 ≤ n ∧ n ≤ 200 ∧ HP o' ∧ l2 (lQ ns s1 (.ow o) s3 s4 s5 s6 s7 s8 s9 s10 s11 s12 s13) = some (.nx (lQ ns s1 (.ow o') (fz (.int (Nat.cast n))) s4 s5 s6 s7 s8 s9 s10 s11 s12 s13)) := by
  obtain ⟨r, o', r0, r1, ho', c⟩ := call_take (i := 2) (s0 := .ow o) (ρ := lQ ns s1 (.ow o) s3 s4 s5 s6 s7 s8 s9 s10 s11 s12 s13) (m := 5) (f := puV (cst (.int 5))) rfl rfl ho rfl (by omega) (by omega)
  obtain ⟨a, rfl⟩ : ∃ a : Nat, r = Nat.cast a := ⟨r.toNat, by omega⟩
  refine ⟨1 + a, o', by omega, by omega, ho', ?_⟩
  have m : mo2 addD (puV (cst (.int 1))) (frzM (callM 2 F__law_take (agL 2 (agV (puV (cst (.int 5))) agN)))) (lQ ns s1 (.ow o) s3 s4 s5 s6 s7 s8 s9 s10 s11 s12 s13) = some (.ok (.int (Nat.cast (1 + a))) (lQ ns s1 (.ow o') s3 s4 s5 s6 s7 s8 s9 s10 s11 s12 s13)) := mo2_of (d := .int 1) rfl (frz_x c) (show some (D.int (1 + Nat.cast a)) = some (D.int (Nat.cast (1 + a))) by rw [Int.natCast_add]; rfl)
  exact (set_of (i := 3) (fr_of m) ⟨s3, rfl, b3⟩).trans rfl
theorem l3_eq (n1 : 1 ≤ n) (n2 : n ≤ 200) (ho : HP o) (b4 : stbS s4 = true) : ∃ (os : List Off) (o' : O), StOk n os ∧ HP o' ∧ l3 (lQ ns s1 (.ow o) (fz (.int (Nat.cast n))) s4 s5 s6 s7 s8 s9 s10 s11 s12 s13) = some (.nx (lQ ns s1 (.ow o') (fz (.int (Nat.cast n))) (fz (offsD os)) s5 s6 s7 s8 s9 s10 s11 s12 s13)) := by
  obtain ⟨os, o', S, ho', e⟩ := law_offices_eq n1 n2 ho
  refine ⟨os, o', S, ho', ?_⟩
  have c := call_lv (F := F__law_offices) (i := 2) (s0 := .ow o) (f := puV (var 3)) (ρ := lQ ns s1 (.ow o) (fz (.int (Nat.cast n))) s4 s5 s6 s7 s8 s9 s10 s11 s12 s13) rfl rfl rfl e
  exact (set_of (i := 4) c ⟨s4, rfl, b4⟩).trans rfl
theorem l4_eq (S : StOk n os) (b5 : stbS s5 = true) (b6 : stbS s6 = true) : l4 (lQ ns s1 s2 (fz (.int (Nat.cast n))) (fz (offsD os)) s5 s6 s7 s8 s9 s10 s11 s12 s13) = some (.nx (lQ ns s1 s2 (fz (.int (Nat.cast n))) (fz (offsD os)) (fz (nlD (sops os))) (fz (offsD (othS n os))) s7 s8 s9 s10 s11 s12 s13)) := by
  let R : Rho := lQ ns s1 s2 (fz (.int (Nat.cast n))) (fz (offsD os)) s5 s6 s7 s8 s9 s10 s11 s12 s13
  have a := frz_fl (call_v (F := F__law_all) (f := puV (var 4)) (ρ := R) (d1 := offsD os) rfl (law_all_eq S))
  have it : itS (frzM (callM 1 F__law_all (agV (puV (var 4)) agN))) R = some (.ok ((sops os).map opD) R) := by
    unfold itS; rw [a]; rfl
  have lp : lcL (gN 14) yes (ofP (pu2 ixD (var 14) (cst (.int 0)))) [14] ((sops os).map opD) R = some ((sops os).map (fun o => O.fr (.str o.name)), R) :=
    lcL_A (sops os) fun o _ => ⟨R.set 14 (fz (opD o)), R.set 14 (fz (opD o)), rfl, rfl, rfl, rfl⟩
  have c := lcM_ok (fe := ofP (pu2 ixD (var 14) (cst (.int 0)))) (ρ := R) (ρ0 := R) it (show frOk R [14] = true from rfl) lp
  rw [mkL_map] at c
  have k1 := fr_of (frz_fl c)
  have k2 := fr_of (frz_x (call_vv (F := F__law_other) (f := puV (var 4)) (g := puV (var 3)) (ρ := R) rfl rfl (law_other_eq S)))
  have l2 := lx_cons (r := lxN) (xs := []) k2 rfl
  have l1 := lx_cons (ρ1 := R) k1 l2
  unfold l4 par2
  rw [l1]
  dsimp only
  rw [if_pos ⟨by rw [stb_at]; exact b5, by rw [stb_at]; exact b6⟩]
  rfl
theorem l5_eq (A : Addr) (S : StOk n os) (b7 : stbS s7 = true) (b8 : stbS s8 = true) : l5 A (lQ ns s1 s2 (fz (.int (Nat.cast n))) (fz (offsD os)) s5 (fz (offsD (othS n os))) s7 s8 s9 s10 s11 s12 s13) = some (.nx (lQ ns s1 s2 (fz (.int (Nat.cast n))) (fz (offsD os)) s5 (fz (offsD (othS n os))) (fz (storeD A n os)) (fz (storeD A n (othS n os))) s9 s10 s11 s12 s13)) := by
  let R : Rho := lQ ns s1 s2 (fz (.int (Nat.cast n))) (fz (offsD os)) s5 (fz (offsD (othS n os))) s7 s8 s9 s10 s11 s12 s13
  have k1 := fr_of (mk_eq A S (f := puV (var 3)) (g := puV (var 4)) (ρ := R) rfl rfl)
  have k2 := fr_of (mk_eq A (oth_ok S) (f := puV (var 3)) (g := puV (var 6)) (ρ := R) rfl rfl)
  have l2 := lx_cons (r := lxN) (xs := []) k2 rfl
  have l1 := lx_cons (ρ1 := R) k1 l2
  unfold l5 par2
  rw [l1]
  dsimp only
  rw [if_pos ⟨by rw [stb_at]; exact b7, by rw [stb_at]; exact b8⟩]
  rfl
theorem l6_eq (S : StOk n os) (ho : HP o) (b9 : stbS s9 = true) (b10 : stbS s10 = true) : ∃ (a b : List Opn) (o' : O), a.length ≤ 5 ∧ b.length ≤ 9 ∧ (∀ p ∈ a, p ∈ os.flatten) ∧ (∀ p ∈ b, p ∈ os.flatten) ∧ HP o' ∧ l6 (lQ ns s1 (.ow o) s3 s4 (fz (nlD (sops os))) s6 s7 s8 s9 s10 s11 s12 s13) = some (.nx (lQ ns s1 (.ow o') s3 s4 (fz (nlD (sops os))) s6 s7 s8 (fz (nmD a)) (fz (nmD b)) s11 s12 s13)) := by
  have hl := sops_len S
  obtain ⟨a, o1, la, ma, ho1, e1⟩ := law_run_eq (ops := sops os) (by omega) (k := 5) (by omega) ho
  obtain ⟨b, o2, lb, mb, ho2, e2⟩ := law_run_eq (ops := sops os) (by omega) (k := 9) (by omega) ho1
  refine ⟨a, b, o2, la, lb, fun p hp => (sops_perm os).mem_iff.mp (ma p hp), fun p hp => (sops_perm os).mem_iff.mp (mb p hp), ho2, ?_⟩
  let R : O → Rho := fun o => lQ ns s1 (.ow o) s3 s4 (fz (nlD (sops os))) s6 s7 s8 s9 s10 s11 s12 s13
  have k1 := fr_of (frz_x (call_lvv (F := F__law_run) (i := 2) (s0 := .ow o) (f := puV (var 5)) (g := puV (cst (.int 5))) (ρ := R o) rfl rfl rfl rfl e1))
  have k2 := fr_of (frz_x (call_lvv (F := F__law_run) (i := 2) (s0 := .ow o1) (f := puV (var 5)) (g := puV (cst (.int 9))) (ρ := R o1) rfl rfl rfl rfl e2))
  have l2 := lx_cons (r := lxN) (xs := []) (ρ2 := R o2) k2 rfl
  have l1 := lx_cons (ρ1 := R o1) k1 l2
  unfold l6 par2
  rw [l1]
  dsimp only
  rw [if_pos ⟨by rw [stb_at]; exact b9, by rw [stb_at]; exact b10⟩]
  rfl
theorem mul_run (b : List Opn) (hb : b.length ≤ 9) : mulAD (nmD b) (.int 20) = some (nmD (List.replicate 20 b).flatten) := by
  have e : nmD (List.replicate 20 b).flatten = .tup (List.replicate 20 ((b.map Opn.name).map D.str)).flatten := by
    unfold nmD runD
    rw [List.map_flatten, List.map_flatten, List.map_replicate, List.map_replicate]
  rw [e]
  show (if (b.map Opn.name).map D.str = [] ∨ (20 : Int) = 1 then (if -(2 ^ 62) ≤ (20 : Int) ∧ (20 : Int) ≤ 2 ^ 62 then some (D.tup ((b.map Opn.name).map D.str)) else none) else if 2 ≤ (20 : Int) ∧ (20 : Int).toNat * ((b.map Opn.name).map D.str).length ≤ 1000000 then some (D.tup (List.replicate (20 : Int).toNat ((b.map Opn.name).map D.str)).flatten) else none) = _
  by_cases h : (b.map Opn.name).map D.str = []
  · rw [h, if_pos (.inl rfl), if_pos (by omega)]; rfl
  · rw [if_neg (by intro z; rcases z with z | z; exact h z; omega), if_pos ⟨by omega, by rw [List.length_map, List.length_map]; show 20 * b.length ≤ 1000000; omega⟩]; rfl
theorem rep_len (b : List Opn) : (List.replicate 20 b).flatten.length = 20 * b.length := by rw [List.length_flatten, List.map_replicate, List.sum_replicate_nat]
theorem rep_mem {b : List Opn} {p : Opn} (h : p ∈ (List.replicate 20 b).flatten) : p ∈ b := by
  obtain ⟨l, hl, hp⟩ := List.mem_flatten.mp h
  rw [List.eq_of_mem_replicate hl] at hp
  exact hp
theorem l7_eq {b : List Opn} (ho : HP o) (hb : b.length ≤ 9) : ∃ (b' : List Opn) (o' : O), b'.length ≤ 180 ∧ (∀ p ∈ b', p ∈ b) ∧ HP o' ∧ l7 (lQ ns s1 (.ow o) s3 s4 s5 s6 s7 s8 s9 (fz (nmD b)) s11 s12 s13) = some (.nx (lQ ns s1 (.ow o') s3 s4 s5 s6 s7 s8 s9 (fz (nmD b')) s11 s12 s13)) := by
  obtain ⟨r, o', r0, r1, ho', c⟩ := call_take (i := 2) (s0 := .ow o) (ρ := lQ ns s1 (.ow o) s3 s4 s5 s6 s7 s8 s9 (fz (nmD b)) s11 s12 s13) (m := 12) (f := puV (cst (.int 12))) rfl rfl ho rfl (by omega) (by omega)
  let R : Rho := lQ ns s1 (.ow o') s3 s4 s5 s6 s7 s8 s9 (fz (nmD b)) s11 s12 s13
  have q := tbM_of (mo2_of (g := eqD) (h := puV (cst (.int 5))) (ρ2 := R) (frz_x c) rfl (eqD_int r 5))
  by_cases h : r = 5
  · rw [decide_eq_true h] at q
    refine ⟨(List.replicate 20 b).flatten, o', by rw [rep_len]; omega, fun p hp => rep_mem hp, ho', (if_t q).trans ?_⟩
    exact (set_p (i := 10) (ρ := R) (pu2_of rfl rfl (mul_run b hb)) ⟨_, rfl, rfl⟩).trans rfl
  · rw [decide_eq_false h] at q
    exact ⟨b, o', by omega, fun p hp => hp, ho', (if_f q).trans rfl⟩
end K09
set_option maxHeartbeats 4000000
namespace K09
open PySem PySem.Spec L2 Tr
/-! ### the law's body: what is asked of one box -/
noncomputable def l8b (A_Store : Addr) : MS := ifS (notY (tbM (frzM (callM 4 (F__law_right A_Store) (agV (puV (var 7)) (agV (frzM (callM 1 F__law_table (agV (puV (var 4)) agN))) (agV (puV (var 3)) (agV (puV (var 11)) agN)))))))) (retS (ofP (cst (.bl false)))) nxS
noncomputable def l8 (A_Store : Addr) : MS := forS (itS (puV (lstP (lpC (var 9) (lpC (var 10) (lpC (pu2 addD (var 9) (var 10)) (lpC (tupP lpN) lpN))))))) (gN 11) (l8b A_Store)
noncomputable def l9 (A_Store : Addr) : MS := ifS (orY (notY (tbM (frzM (callM 4 (F__law_right A_Store) (agV (puV (var 8)) (agV (frzM (callM 1 F__law_table (agV (puV (var 6)) agN))) (agV (puV (var 3)) (agV (puV (var 9)) agN)))))))) (notY (tbM (frzM (callM 4 (F__law_right A_Store) (agV (puV (var 7)) (agV (frzM (callM 1 F__law_table (agV (puV (var 4)) agN))) (agV (puV (var 3)) (agV (puV (var 9)) agN))))))))) (retS (ofP (cst (.bl false)))) nxS
noncomputable def l10 (A_Store : Addr) : MS := ifS (notY (tbM (frzM (callM 4 (F__law_joined A_Store) (agV (puV (var 7)) (agV (puV (var 3)) (agV (puV (var 9)) (agV (puV (var 10)) agN)))))))) (retS (ofP (cst (.bl false)))) nxS
noncomputable def lB (A_Store : Addr) : MS := seqS l1 (seqS l2 (seqS l3 (seqS l4 (seqS (l5 A_Store) (seqS l6 (seqS l7 (seqS (l8 A_Store) (seqS (l9 A_Store) (l10 A_Store)))))))))
theorem call_v4 {F : FS} {f g h i : Mo D} {ρ : Rho} {d1 d2 d3 d4 : D} {r : O} (h1 : f ρ = some (.ok d1 ρ)) (h2 : g ρ = some (.ok d2 ρ)) (h3 : h ρ = some (.ok d3 ρ)) (h5 : i ρ = some (.ok d4 ρ)) (h4 : F [.ow (.fr d1), .ow (.fr d2), .ow (.fr d3), .ow (.fr d4)] = some (.ret r [.no, .no, .no, .no])) : callM 4 F (agV f (agV g (agV h (agV i agN)))) ρ = some (.ok r ρ) := by
  simp [callM, agV, agN, h1, h2, h3, h5, toSl, noDup, lents, back, h4]
variable {ns : List Int} {s1 s2 s3 s4 s5 s6 s7 s8 s9 s10 s11 s12 s13 : Sl} {o : O} {n : Nat} {os : List Off}
theorem nmD_app {a b : List Opn} (h : a.length + b.length ≤ 10000) : addD (nmD a) (nmD b) = some (nmD (a ++ b)) := by
  show (if ((a.map Opn.name).map D.str).length + ((b.map Opn.name).map D.str).length ≤ sizeLine then some (D.tup ((a.map Opn.name).map D.str ++ (b.map Opn.name).map D.str)) else none) = some (D.tup (((a ++ b).map Opn.name).map D.str))
  rw [if_pos (by rw [List.length_map, List.length_map, List.length_map, List.length_map, sizeLine_eq]; omega), List.map_append, List.map_append]
theorem nmD_oth (n : Nat) (a : List Opn) : nmD (a.map (othO n)) = nmD a := by
  unfold nmD
  rw [List.map_map]; rfl
theorem l8b_eq (A : Addr) (S : StOk n os) {r : List Opn} (hr : ∀ p ∈ r, p ∈ os.flatten) (hz : r.length ≤ 10000) : l8b A (lQ ns s1 s2 (fz (.int (Nat.cast n))) (fz (offsD os)) s5 s6 (fz (storeD A n os)) s8 s9 s10 (fz (nmD r)) s12 s13) = some (.nx (lQ ns s1 s2 (fz (.int (Nat.cast n))) (fz (offsD os)) s5 s6 (fz (storeD A n os)) s8 s9 s10 (fz (nmD r)) s12 s13)) := by
  let R : Rho := lQ ns s1 s2 (fz (.int (Nat.cast n))) (fz (offsD os)) s5 s6 (fz (storeD A n os)) s8 s9 s10 (fz (nmD r)) s12 s13
  have t := frz_od (call_v (F := F__law_table) (f := puV (var 4)) (ρ := R) (d1 := offsD os) rfl (law_table_eq S))
  exact (if_f (ρ' := R) (not_t (frz_x (call_v4 (F := F__law_right A) (f := puV (var 7)) (h := puV (var 3)) (i := puV (var 11)) (ρ := R) rfl t rfl rfl (right_eq A S hr hz))))).trans rfl
theorem l8_eq (A : Addr) (S : StOk n os) {a b : List Opn} (ha : ∀ p ∈ a, p ∈ os.flatten) (hb : ∀ p ∈ b, p ∈ os.flatten) (hz : a.length + b.length ≤ 10000) (b11 : stbS s11 = true) :
    ∃ s11', stbS s11' = true ∧ l8 A (lQ ns s1 s2 (fz (.int (Nat.cast n))) (fz (offsD os)) s5 s6 (fz (storeD A n os)) s8 (fz (nmD a)) (fz (nmD b)) s11 s12 s13) = some (.nx (lQ ns s1 s2 (fz (.int (Nat.cast n))) (fz (offsD os)) s5 s6 (fz (storeD A n os)) s8 (fz (nmD a)) (fz (nmD b)) s11' s12 s13)) := by
  let Q : Sl → Rho := fun s11 => lQ ns s1 s2 (fz (.int (Nat.cast n))) (fz (offsD os)) s5 s6 (fz (storeD A n os)) s8 (fz (nmD a)) (fz (nmD b)) s11 s12 s13
  have lp := forL_inv (α := List Opn) (t := gN 11) (b := l8b A) (f := nmD) (St := fun l ρ => ∃ s11, stbS s11 = true ∧ ρ = Q s11) (bs := []) (as := [a, b, a ++ b, []]) (fun r l r' hl _ ρ ⟨s11, b11, e⟩ => by
      subst e
      rw [List.nil_append] at hl
      have hm : r ∈ [a, b, a ++ b, []] := by rw [hl]; simp
      have hr : (∀ p ∈ r, p ∈ os.flatten) ∧ r.length ≤ 10000 := by
        simp only [List.mem_cons, List.not_mem_nil, or_false] at hm
        rcases hm with rfl | rfl | rfl | rfl
        · exact ⟨ha, by omega⟩
        · exact ⟨hb, by omega⟩
        · refine ⟨fun p hp => ?_, by rw [List.length_append]; omega⟩
          rcases List.mem_append.mp hp with h | h
          · exact ha p h
          · exact hb p h
        · exact ⟨by simp, by simp⟩
      refine ⟨Q (fz (nmD r)), _, ?_, .inl (l8b_eq A S hr.1 hr.2), _, rfl, rfl⟩
      simp [gN, Q, lQ, stb_at, b11]) (Q s11) ⟨s11, b11, rfl⟩
  obtain ⟨ρ', e2, s11', b11', rfl⟩ := lp
  refine ⟨s11', b11', ?_⟩
  unfold l8 forS
  have it : itS (puV (lstP (lpC (var 9) (lpC (var 10) (lpC (pu2 addD (var 9) (var 10)) (lpC (tupP lpN) lpN)))))) (Q s11) = some (.ok ([a, b, a ++ b, []].map nmD) (Q s11)) := by
    have v : pu2 addD (var 9) (var 10) (Q s11) = some (nmD (a ++ b)) := pu2_of rfl rfl (nmD_app hz)
    have l : lstP (lpC (var 9) (lpC (var 10) (lpC (pu2 addD (var 9) (var 10)) (lpC (tupP lpN) lpN)))) (Q s11) = some (.lst [nmD a, nmD b, nmD (a ++ b), nmD []]) := by
      have g : lpC (var 9) (lpC (var 10) (lpC (pu2 addD (var 9) (var 10)) (lpC (tupP lpN) lpN))) (Q s11) = some [nmD a, nmD b, nmD (a ++ b), nmD []] := by
        have g3 : lpC (pu2 addD (var 9) (var 10)) (lpC (tupP lpN) lpN) (Q s11) = some [nmD (a ++ b), nmD []] := by
          unfold lpC; rw [v]; rfl
        have g2 : lpC (var 10) (lpC (pu2 addD (var 9) (var 10)) (lpC (tupP lpN) lpN)) (Q s11) = some [nmD b, nmD (a ++ b), nmD []] := by
          unfold lpC at g3 ⊢; rw [g3]; rfl
        unfold lpC at g2 ⊢; rw [g2]; rfl
      unfold lstP
      rw [g]
      dsimp only
      rw [if_pos (show ([nmD a, nmD b, nmD (a ++ b), nmD []]).length ≤ sizeLine by rw [sizeLine_eq]; show 4 ≤ 16777216; decide)]
    unfold itS
    rw [pu_of l]
    rfl
  rw [it]
  exact e2
theorem l9_eq (A : Addr) (S : StOk n os) {a : List Opn} (ha : ∀ p ∈ a, p ∈ os.flatten) (hz : a.length ≤ 10000) : l9 A (lQ ns s1 s2 (fz (.int (Nat.cast n))) (fz (offsD os)) s5 (fz (offsD (othS n os))) (fz (storeD A n os)) (fz (storeD A n (othS n os))) (fz (nmD a)) s10 s11 s12 s13) = some (.nx (lQ ns s1 s2 (fz (.int (Nat.cast n))) (fz (offsD os)) s5 (fz (offsD (othS n os))) (fz (storeD A n os)) (fz (storeD A n (othS n os))) (fz (nmD a)) s10 s11 s12 s13)) := by
  let R : Rho := lQ ns s1 s2 (fz (.int (Nat.cast n))) (fz (offsD os)) s5 (fz (offsD (othS n os))) (fz (storeD A n os)) (fz (storeD A n (othS n os))) (fz (nmD a)) s10 s11 s12 s13
  have t1 := frz_od (call_v (F := F__law_table) (f := puV (var 6)) (ρ := R) (d1 := offsD (othS n os)) rfl (law_table_eq (oth_ok S)))
  have t2 := frz_od (call_v (F := F__law_table) (f := puV (var 4)) (ρ := R) (d1 := offsD os) rfl (law_table_eq S))
  have r1 := right_eq A (oth_ok S) (rs := a.map (othO n)) (fun p hp => by
    obtain ⟨q, hq, rfl⟩ := List.mem_map.mp hp
    rw [oth_flat]
    exact List.mem_map.mpr ⟨q, ha q hq, rfl⟩) (by rw [List.length_map]; exact hz)
  rw [nmD_oth] at r1
  have c1 := not_t (frz_x (call_v4 (F := F__law_right A) (f := puV (var 8)) (h := puV (var 3)) (i := puV (var 9)) (ρ := R) rfl t1 rfl rfl r1))
  have c2 := not_t (frz_x (call_v4 (F := F__law_right A) (f := puV (var 7)) (h := puV (var 3)) (i := puV (var 9)) (ρ := R) rfl t2 rfl rfl (right_eq A S ha hz)))
  exact (if_f (ρ' := R) (or_ff c1 c2)).trans rfl
theorem l10_eq (A : Addr) (S : StOk n os) {a b : List Opn} (ha : ∀ p ∈ a, p ∈ os.flatten) (hb : ∀ p ∈ b, p ∈ os.flatten) (hz : a.length + b.length ≤ 10000) : l10 A (lQ ns s1 s2 (fz (.int (Nat.cast n))) s4 s5 s6 (fz (storeD A n os)) s8 (fz (nmD a)) (fz (nmD b)) s11 s12 s13) = some (.nx (lQ ns s1 s2 (fz (.int (Nat.cast n))) s4 s5 s6 (fz (storeD A n os)) s8 (fz (nmD a)) (fz (nmD b)) s11 s12 s13)) := by
  let R : Rho := lQ ns s1 s2 (fz (.int (Nat.cast n))) s4 s5 s6 (fz (storeD A n os)) s8 (fz (nmD a)) (fz (nmD b)) s11 s12 s13
  exact (if_f (ρ' := R) (not_t (frz_x (call_v4 (F := F__law_joined A) (f := puV (var 7)) (g := puV (var 3)) (h := puV (var 9)) (i := puV (var 10)) (ρ := R) rfl rfl rfl rfl (joined_eq A S ha hb hz))))).trans rfl
/-- all slots that a box writes may hold anything of one's own -/
def BxOk (ns : List Int) (o : O) (ρ : Rho) : Prop := ∃ s1 s3 s4 s5 s6 s7 s8 s9 s10 s11, stbS s1 = true ∧ stbS s3 = true ∧ stbS s4 = true ∧ stbS s5 = true ∧ stbS s6 = true ∧ stbS s7 = true ∧ stbS s8 = true ∧ stbS s9 = true ∧ stbS s10 = true ∧ stbS s11 = true ∧ ρ = lQ ns s1 (.ow o) s3 s4 s5 s6 s7 s8 s9 s10 s11 .no .no
theorem lB_eq (A : Addr) {k : Nat} (hk : k < ns.length ∨ ns.length = 0) (b2 : stbS s2 = true) (b3 : stbS s3 = true) (b4 : stbS s4 = true) (b5 : stbS s5 = true) (b6 : stbS s6 = true) (b7 : stbS s7 = true) (b8 : stbS s8 = true) (b9 : stbS s9 = true) (b10 : stbS s10 = true) (b11 : stbS s11 = true) :
    ∃ o ρ, HP o ∧ BxOk ns o ρ ∧ lB A (lQ ns (fz (.int (Nat.cast k))) s2 s3 s4 s5 s6 s7 s8 s9 s10 s11 .no .no) = some (.nx ρ) := by
  obtain ⟨o1, ho1, e1⟩ := l1_eq (s3 := s3) (s4 := s4) (s5 := s5) (s6 := s6) (s7 := s7) (s8 := s8) (s9 := s9) (s10 := s10) (s11 := s11) (s12 := .no) (s13 := .no) hk b2
  obtain ⟨n, o2, n1, n2, ho2, e2⟩ := l2_eq (ns := ns) (s1 := fz (.int (Nat.cast k))) (s3 := s3) (s4 := s4) (s5 := s5) (s6 := s6) (s7 := s7) (s8 := s8) (s9 := s9) (s10 := s10) (s11 := s11) (s12 := .no) (s13 := .no) ho1 b3
  obtain ⟨os, o3, S, ho3, e3⟩ := l3_eq (ns := ns) (s1 := fz (.int (Nat.cast k))) (s4 := s4) (s5 := s5) (s6 := s6) (s7 := s7) (s8 := s8) (s9 := s9) (s10 := s10) (s11 := s11) (s12 := .no) (s13 := .no) n1 n2 ho2 b4
  have e4 := l4_eq (ns := ns) (s1 := fz (.int (Nat.cast k))) (s2 := .ow o3) (s7 := s7) (s8 := s8) (s9 := s9) (s10 := s10) (s11 := s11) (s12 := .no) (s13 := .no) S b5 b6
  have e5 := l5_eq (ns := ns) (s1 := fz (.int (Nat.cast k))) (s2 := .ow o3) (s5 := fz (nlD (sops os))) (s9 := s9) (s10 := s10) (s11 := s11) (s12 := .no) (s13 := .no) A S b7 b8
  obtain ⟨a, b0, o4, la, lb0, ma, mb0, ho4, e6⟩ := l6_eq (ns := ns) (s1 := fz (.int (Nat.cast k))) (s3 := fz (.int (Nat.cast n))) (s4 := fz (offsD os)) (s6 := fz (offsD (othS n os))) (s7 := fz (storeD A n os)) (s8 := fz (storeD A n (othS n os))) (s11 := s11) (s12 := .no) (s13 := .no) S ho3 b9 b10
  obtain ⟨b, o5, lb, mb, ho5, e7⟩ := l7_eq (ns := ns) (s1 := fz (.int (Nat.cast k))) (s3 := fz (.int (Nat.cast n))) (s4 := fz (offsD os)) (s5 := fz (nlD (sops os))) (s6 := fz (offsD (othS n os))) (s7 := fz (storeD A n os)) (s8 := fz (storeD A n (othS n os))) (s9 := fz (nmD a)) (s11 := s11) (s12 := .no) (s13 := .no) ho4 lb0
  have mb : ∀ p ∈ b, p ∈ os.flatten := fun p hp => mb0 p (mb p hp)
  have hz : a.length + b.length ≤ 10000 := by omega
  obtain ⟨s11', c11, e8⟩ := l8_eq (ns := ns) (s1 := fz (.int (Nat.cast k))) (s2 := .ow o5) (s5 := fz (nlD (sops os))) (s6 := fz (offsD (othS n os))) (s8 := fz (storeD A n (othS n os))) (s12 := .no) (s13 := .no) A S ma mb hz b11
  have e9 := l9_eq (ns := ns) (s1 := fz (.int (Nat.cast k))) (s2 := .ow o5) (s5 := fz (nlD (sops os))) (s10 := fz (nmD b)) (s11 := s11') (s12 := .no) (s13 := .no) A S ma (by omega)
  have e10 := l10_eq (ns := ns) (s1 := fz (.int (Nat.cast k))) (s2 := .ow o5) (s4 := fz (offsD os)) (s5 := fz (nlD (sops os))) (s6 := fz (offsD (othS n os))) (s8 := fz (storeD A n (othS n os))) (s11 := s11') (s12 := .no) (s13 := .no) A S ma mb hz
  refine ⟨o5, _, ho5, ⟨fz (.int (Nat.cast k)), fz (.int (Nat.cast n)), fz (offsD os), fz (nlD (sops os)), fz (offsD (othS n os)), fz (storeD A n os), fz (storeD A n (othS n os)), fz (nmD a), fz (nmD b), s11', rfl, rfl, rfl, rfl, rfl, rfl, rfl, rfl, rfl, c11, rfl⟩, ?_⟩
  unfold lB
  rw [seq_nx e1, seq_nx e2, seq_nx e3, seq_nx e4, seq_nx e5, seq_nx e6, seq_nx e7, seq_nx e8, seq_nx e9]
  exact e10
theorem law_loop (A : Addr) (ns : List Int) (h : ns.length ≤ 63) : ∃ o ρ, HP o ∧ BxOk ns o ρ ∧ forS (itR1 (puV (pu2 addD (cst (.int 1)) (pu1 intD (pu2 gtD (pu1 lenD (var 0)) (cst (.int 2))))))) (gN 1) (lB A) (lQ ns .no .no .no .no .no .no .no .no .no .no .no .no .no) = some (.nx ρ) := by
  obtain ⟨m, hm1, hm2, hm⟩ : ∃ m : Nat, 1 ≤ m ∧ (m ≤ 1 ∨ m ≤ 2 ∧ 2 < ns.length) ∧ pu2 addD (cst (.int 1)) (pu1 intD (pu2 gtD (pu1 lenD (var 0)) (cst (.int 2)))) (lQ ns .no .no .no .no .no .no .no .no .no .no .no .no .no) = some (.int (Nat.cast m)) := by
    have hl : pu1 lenD (var 0) (lQ ns .no .no .no .no .no .no .no .no .no .no .no .no .no) = some (.int (Nat.cast ns.length)) := by
      show some (D.int (Nat.cast (ns.map D.int).length)) = _
      rw [List.length_map]
    have hg : pu2 gtD (pu1 lenD (var 0)) (cst (.int 2)) (lQ ns .no .no .no .no .no .no .no .no .no .no .no .no .no) = some (.bl (decide ((2 : Int) < Nat.cast ns.length))) := pu2_of hl rfl rfl
    by_cases h2 : 2 < ns.length
    · rw [decide_eq_true (by omega)] at hg
      exact ⟨2, by omega, .inr ⟨by omega, h2⟩, pu2_of (e := .int 1) rfl (pu1_of hg rfl) rfl⟩
    · rw [decide_eq_false (by omega)] at hg
      exact ⟨1, by omega, .inl (by omega), pu2_of (e := .int 0) rfl (pu1_of hg rfl) rfl⟩
  have lp := forL_inv (α := Nat) (t := gN 1) (b := lB A) (f := fun i => D.int (Nat.cast i)) (St := fun l ρ => (l = [] ∧ ρ = lQ ns .no .no .no .no .no .no .no .no .no .no .no .no .no) ∨ ∃ o, HP o ∧ BxOk ns o ρ) (bs := []) (as := List.range m) (fun k l r hl _ ρ hst => by
      rw [List.nil_append] at hl
      have hk := List.mem_range.mp (show k ∈ List.range m by rw [hl]; simp)
      have hkk : k < ns.length ∨ ns.length = 0 := by omega
      obtain ⟨s1, s2, s3, s4, s5, s6, s7, s8, s9, s10, s11, b1, b2, b3, b4, b5, b6, b7, b8, b9, b10, b11, rfl⟩ : ∃ s1 s2 s3 s4 s5 s6 s7 s8 s9 s10 s11, stbS s1 = true ∧ stbS s2 = true ∧ stbS s3 = true ∧ stbS s4 = true ∧ stbS s5 = true ∧ stbS s6 = true ∧ stbS s7 = true ∧ stbS s8 = true ∧ stbS s9 = true ∧ stbS s10 = true ∧ stbS s11 = true ∧ ρ = lQ ns s1 s2 s3 s4 s5 s6 s7 s8 s9 s10 s11 .no .no := by
        rcases hst with ⟨_, e⟩ | ⟨o, _, s1, s3, s4, s5, s6, s7, s8, s9, s10, s11, b1, b3, b4, b5, b6, b7, b8, b9, b10, b11, e⟩
        · exact ⟨.no, .no, .no, .no, .no, .no, .no, .no, .no, .no, .no, rfl, rfl, rfl, rfl, rfl, rfl, rfl, rfl, rfl, rfl, rfl, e⟩
        · exact ⟨s1, .ow o, s3, s4, s5, s6, s7, s8, s9, s10, s11, b1, rfl, b3, b4, b5, b6, b7, b8, b9, b10, b11, e⟩
      obtain ⟨o, ρ2, ho, hb, e⟩ := lB_eq A hkk b2 b3 b4 b5 b6 b7 b8 b9 b10 b11
      refine ⟨_, ρ2, ?_, .inl e, .inr ⟨o, ho, hb⟩⟩
      simp [gN, lQ, stb_at, b1]) (lQ ns .no .no .no .no .no .no .no .no .no .no .no .no .no) (.inl ⟨rfl, rfl⟩)
  obtain ⟨ρ', e2, hst⟩ := lp
  rw [List.nil_append] at hst
  rcases hst with ⟨z, _⟩ | ⟨o, ho, hb⟩
  · have := congrArg List.length z
    rw [List.length_range] at this
    simp at this
    omega
  · refine ⟨o, ρ', ho, hb, ?_⟩
    unfold forS
    have it : itR1 (puV (pu2 addD (cst (.int 1)) (pu1 intD (pu2 gtD (pu1 lenD (var 0)) (cst (.int 2)))))) (lQ ns .no .no .no .no .no .no .no .no .no .no .no .no .no) = some (.ok ((List.range m).map fun i => D.int (Nat.cast i)) (lQ ns .no .no .no .no .no .no .no .no .no .no .no .no .no)) := by
      unfold itR1
      rw [pu_of hm]
      dsimp only
      rw [if_pos ⟨by omega, by omega⟩, Int.toNat_natCast, rngD_eq]
    rw [it]
    exact e2
end K09
set_option maxHeartbeats 4000000
namespace K09
open PySem PySem.Spec L2 Tr
/-! ### the lamp -/
def flipO : Opn := ⟨"flip", [1, 0], [0, 1000000000000]⟩
def offO : Opn := ⟨"off", [0, 0], [7, 8]⟩
def lampS : List Off := [[flipO], [offO]]
theorem lamp_ok : StOk 2 lampS where
  n1 := by omega
  n2 := by omega
  ops := fun o ho => by
    have : o = flipO ∨ o = offO := by simpa [lampS] using ho
    rcases this with rfl | rfl
    · exact ⟨⟨by decide, by decide, by unfold isLow; decide⟩, ⟨rfl, by decide⟩, ⟨rfl, by decide⟩⟩
    · exact ⟨⟨by decide, by decide, by unfold isLow; decide⟩, ⟨rfl, by decide⟩, ⟨rfl, by decide⟩⟩
  nd := by decide
  lo := by decide
  hi := by decide
  few := by decide
def blk : List Opn := [flipO, flipO, offO, flipO]
def longR : List Opn := (List.replicate 2500 blk).flatten
theorem blk_fin : ∀ k, fin 1 (List.replicate k blk).flatten = 1
  | 0 => rfl
  | k + 1 => by
    rw [List.replicate_succ, List.flatten_cons, fin_app, show fin 1 blk = 1 by decide]
    exact blk_fin k
theorem long_fin : fin 0 longR = 1 := by
  unfold longR
  rw [List.replicate_succ, List.flatten_cons, fin_app, show fin 0 blk = 1 by decide]
  exact blk_fin _
theorem blk_ans : ∀ k, anss 1 (List.replicate k blk).flatten = (List.replicate k [1000000000000, 0, 8, 0]).flatten
  | 0 => rfl
  | k + 1 => by
    rw [List.replicate_succ, List.flatten_cons, anss_app, show fin 1 blk = 1 by decide, show anss 1 blk = [1000000000000, 0, 8, 0] by decide, List.replicate_succ, List.flatten_cons, blk_ans k]
theorem long_len : longR.length = 10000 := by
  unfold longR
  rw [List.length_flatten, List.map_replicate, List.sum_replicate_nat]; rfl
theorem long_mem : ∀ o ∈ longR, o ∈ lampS.flatten := by
  intro o ho
  obtain ⟨l, hl, hp⟩ := List.mem_flatten.mp ho
  rw [List.eq_of_mem_replicate hl] at hp
  simp only [blk, List.mem_cons, List.not_mem_nil, or_false] at hp
  rcases hp with rfl | rfl | rfl | rfl <;> simp [lampS]
theorem long_ans : (anss 1 longR).drop 9994 = [8, 0, 1000000000000, 0, 8, 0] := by
  have e : longR = (List.replicate 2498 blk).flatten ++ (blk ++ blk) := by
    unfold longR
    rw [show (2500 : Nat) = 2498 + 2 from rfl, ← List.replicate_append_replicate, List.flatten_append]
    rfl
  have hl : ((List.replicate 2498 ([1000000000000, 0, 8, 0] : List Int)).flatten).length = 9992 := by
    rw [List.length_flatten, List.map_replicate, List.sum_replicate_nat]; rfl
  rw [e, anss_app, blk_fin, blk_ans, List.drop_append, hl, List.drop_of_length_le (by rw [hl]; omega)]
  decide
theorem tup_of {f : Pu (List D)} {ρ : Rho} {ds : List D} (h : f ρ = some ds) (hl : ds.length ≤ 1000) : tupP f ρ = some (.tup ds) := by
  unfold tupP
  rw [h]
  dsimp only
  rw [if_pos (by rw [sizeLine_eq]; omega)]
theorem lp_of {f : Pu D} {g : Pu (List D)} {ρ : Rho} {d : D} {ds : List D} (h : f ρ = some d) (hg : g ρ = some ds) : lpC f g ρ = some (d :: ds) := by
  unfold lpC
  rw [h, hg]
theorem pow12 {ρ : Rho} : pu2 powD (cst (.int 10)) (cst (.int 12)) ρ = some (.int 1000000000000) := by
  refine pu2_of (d := .int 10) (e := .int 12) rfl rfl ?_
  have := pow_eq 12 (by decide)
  rw [show ((10 : Int) ^ 12) = 1000000000000 from by decide] at this
  exact this
variable {ns : List Int} {s1 s2 s3 s4 s5 s6 s7 s8 s9 s10 s11 s12 s13 : Sl} {o : O} {n : Nat} {os : List Off}
noncomputable def l11 (A_Store : Addr) : MS := setF 12 (mkM A_Store "size" "offices" F_check_offices (agV (puV (cst (.int 2))) (agV (puV (tupP (lpC (tupP (lpC (tupP (lpC (cst (.str "flip")) (lpC (tupP (lpC (cst (.int 1)) (lpC (cst (.int 0)) lpN))) (lpC (tupP (lpC (cst (.int 0)) (lpC (pu2 powD (cst (.int 10)) (cst (.int 12))) lpN))) lpN)))) lpN)) (lpC (tupP (lpC (tupP (lpC (cst (.str "off")) (lpC (tupP (lpC (cst (.int 0)) (lpC (cst (.int 0)) lpN))) (lpC (tupP (lpC (cst (.int 7)) (lpC (cst (.int 8)) lpN))) lpN)))) lpN)) lpN)))) agN)))
noncomputable def l12a : MS := par2 11 13 (lxC (frM (puV (pu2 mulAD (tupP (lpC (cst (.str "flip")) (lpC (cst (.str "flip")) (lpC (cst (.str "off")) (lpC (cst (.str "flip")) lpN))))) (cst (.int 2500))))) (lxC (frM (frzM (callM 2 F__law_take (agL 2 (agV (puV (cst (.int 2))) agN))))) lxN))
noncomputable def l12b (A_Store : Addr) : MS := ifS (andY (quM (tb (pu2 eqD (var 13) (cst (.int 0))))) (tbM (mo2 neD (frzM (callM 3 (F_after A_Store) (agV (puV (var 12)) (agV (puV (cst (.int 0))) (agV (puV (var 11)) agN))))) (puV (cst (.int 1)))))) (retS (ofP (cst (.bl false)))) nxS
noncomputable def l12c (A_Store : Addr) : MS := ifS (andY (quM (tb (pu2 eqD (var 13) (cst (.int 1))))) (tbM (mo2 neD (slM (frzM (callM 3 (F_answers_of A_Store) (agV (puV (var 12)) (agV (puV (cst (.int 1))) (agV (puV (var 11)) agN))))) (poS (cst (.int 9994))) poN) (puV (tupP (lpC (cst (.int 8)) (lpC (cst (.int 0)) (lpC (pu2 powD (cst (.int 10)) (cst (.int 12))) (lpC (cst (.int 0)) (lpC (cst (.int 8)) (lpC (cst (.int 0)) lpN))))))))))) (retS (ofP (cst (.bl false)))) nxS
noncomputable def l12 (A_Store : Addr) : MS := ifS (tbM (mo2 eqD (frzM (callM 2 F__law_take (agL 2 (agV (puV (cst (.int 24))) agN)))) (puV (cst (.int 7))))) (seqS l12a (seqS (l12b A_Store) (l12c A_Store))) nxS
noncomputable def l13 : MS := setF 11 (ofP (tupP (lpC (cst (.str "flip")) (lpC (cst (.str "off")) (lpC (cst (.str "flip")) (lpC (cst (.str "flip")) (lpC (cst (.str "flip")) lpN)))))))
noncomputable def l14 (A_Store : Addr) : MS := retS (frM (andV (mo2 eqD (frzM (callM 3 (F_passed A_Store) (agV (puV (var 12)) (agV (puV (cst (.int 0))) (agV (puV (var 11)) agN))))) (puV (tupP (lpC (cst (.int 0)) (lpC (cst (.int 1)) (lpC (cst (.int 0)) (lpC (cst (.int 1)) (lpC (cst (.int 0)) (lpC (cst (.int 1)) lpN))))))))) (mo2 eqD (frzM (callM 3 (F_answers_of A_Store) (agV (puV (var 12)) (agV (puV (cst (.int 0))) (agV (puV (var 11)) agN))))) (puV (tupP (lpC (cst (.int 0)) (lpC (cst (.int 8)) (lpC (cst (.int 0)) (lpC (pu2 powD (cst (.int 10)) (cst (.int 12))) (lpC (cst (.int 0)) lpN)))))))))) 
theorem mk_o (A : Addr) {n : Nat} {os : List Off} (S : StOk n os) {f g : Mo D} {ρ : Rho} (hf : f ρ = some (.ok (.int (Nat.cast n)) ρ)) (hg : g ρ = some (.ok (offsD os) ρ)) : mkM A "size" "offices" F_check_offices (agV f (agV g agN)) ρ = some (.ok (.fr (storeD A n os)) ρ) := by
  unfold mkM
  have ha : agV f (agV g agN) ρ = some (.ok [.v (.int (Nat.cast n)), .v (offsD os)] ρ) := by simp [agV, agN, hf, hg]
  rw [ha]
  dsimp only
  rw [check_offices_eq S]
  rfl
theorem l11_eq (A : Addr) : l11 A (lQ ns s1 s2 s3 s4 s5 s6 s7 s8 s9 s10 s11 .no s13) = some (.nx (lQ ns s1 s2 s3 s4 s5 s6 s7 s8 s9 s10 s11 (fz (storeD A 2 lampS)) s13)) := by
  let R : Rho := lQ ns s1 s2 s3 s4 s5 s6 s7 s8 s9 s10 s11 .no s13
  have v : tupP (lpC (tupP (lpC (tupP (lpC (cst (.str "flip")) (lpC (tupP (lpC (cst (.int 1)) (lpC (cst (.int 0)) lpN))) (lpC (tupP (lpC (cst (.int 0)) (lpC (pu2 powD (cst (.int 10)) (cst (.int 12))) lpN))) lpN)))) lpN)) (lpC (tupP (lpC (tupP (lpC (cst (.str "off")) (lpC (tupP (lpC (cst (.int 0)) (lpC (cst (.int 0)) lpN))) (lpC (tupP (lpC (cst (.int 7)) (lpC (cst (.int 8)) lpN))) lpN)))) lpN)) lpN)) R = some (offsD lampS) := by
    have a1 : tupP (lpC (cst (.int 1)) (lpC (cst (.int 0)) lpN)) R = some (.tup [.int 1, .int 0]) := tup_of (lp_of rfl (lp_of rfl rfl)) (by decide)
    have a2 : tupP (lpC (cst (.int 0)) (lpC (pu2 powD (cst (.int 10)) (cst (.int 12))) lpN)) R = some (.tup [.int 0, .int 1000000000000]) := tup_of (lp_of rfl (lp_of pow12 rfl)) (by decide)
    have a3 : tupP (lpC (cst (.int 0)) (lpC (cst (.int 0)) lpN)) R = some (.tup [.int 0, .int 0]) := tup_of (lp_of rfl (lp_of rfl rfl)) (by decide)
    have a4 : tupP (lpC (cst (.int 7)) (lpC (cst (.int 8)) lpN)) R = some (.tup [.int 7, .int 8]) := tup_of (lp_of rfl (lp_of rfl rfl)) (by decide)
    have b1 := tup_of (lp_of (f := cst (.str "flip")) (d := .str "flip") rfl (lp_of a1 (lp_of (g := lpN) (ds := []) a2 rfl))) (by show 3 ≤ 1000; decide)
    have b2 := tup_of (lp_of (f := cst (.str "off")) (d := .str "off") rfl (lp_of a3 (lp_of (g := lpN) (ds := []) a4 rfl))) (by show 3 ≤ 1000; decide)
    have d1 := tup_of (lp_of (g := lpN) (ds := []) b1 rfl) (by show 1 ≤ 1000; decide)
    have d2 := tup_of (lp_of (g := lpN) (ds := []) b2 rfl) (by show 1 ≤ 1000; decide)
    exact tup_of (lp_of d1 (lp_of (g := lpN) (ds := []) d2 rfl)) (by show 2 ≤ 1000; decide)
  have c : mkM A "size" "offices" F_check_offices (agV (puV (cst (.int 2))) (agV (puV (tupP (lpC (tupP (lpC (tupP (lpC (cst (.str "flip")) (lpC (tupP (lpC (cst (.int 1)) (lpC (cst (.int 0)) lpN))) (lpC (tupP (lpC (cst (.int 0)) (lpC (pu2 powD (cst (.int 10)) (cst (.int 12))) lpN))) lpN)))) lpN)) (lpC (tupP (lpC (tupP (lpC (cst (.str "off")) (lpC (tupP (lpC (cst (.int 0)) (lpC (cst (.int 0)) lpN))) (lpC (tupP (lpC (cst (.int 7)) (lpC (cst (.int 8)) lpN))) lpN)))) lpN)) lpN)))) agN)) R = some (.ok (.fr (storeD A 2 lampS)) R) := mk_o A lamp_ok (f := puV (cst (.int 2))) (ρ := R) rfl (pu_of v)
  exact (set_of (i := 12) c ⟨.no, rfl, rfl⟩).trans rfl
theorem lamp_run {ρ : Rho} : pu2 mulAD (tupP (lpC (cst (.str "flip")) (lpC (cst (.str "flip")) (lpC (cst (.str "off")) (lpC (cst (.str "flip")) lpN))))) (cst (.int 2500)) ρ = some (nmD longR) := by
  have v : tupP (lpC (cst (.str "flip")) (lpC (cst (.str "flip")) (lpC (cst (.str "off")) (lpC (cst (.str "flip")) lpN)))) ρ = some (.tup [.str "flip", .str "flip", .str "off", .str "flip"]) := tup_of (lp_of rfl (lp_of rfl (lp_of rfl (lp_of rfl rfl)))) (by show 4 ≤ 1000; decide)
  refine pu2_of (e := .int 2500) v rfl ?_
  have e : nmD longR = .tup (List.replicate 2500 ([.str "flip", .str "flip", .str "off", .str "flip"] : List D)).flatten := by
    unfold nmD runD longR
    rw [List.map_flatten, List.map_flatten, List.map_replicate, List.map_replicate]
    rfl
  rw [e]
  show (if ([.str "flip", .str "flip", .str "off", .str "flip"] : List D) = [] ∨ (2500 : Int) = 1 then (if -(2 ^ 62) ≤ (2500 : Int) ∧ (2500 : Int) ≤ 2 ^ 62 then some (D.tup [.str "flip", .str "flip", .str "off", .str "flip"]) else none) else if 2 ≤ (2500 : Int) ∧ (2500 : Int).toNat * ([.str "flip", .str "flip", .str "off", .str "flip"] : List D).length ≤ 1000000 then some (D.tup (List.replicate (2500 : Int).toNat ([.str "flip", .str "flip", .str "off", .str "flip"] : List D)).flatten) else none) = _
  rw [if_neg (by intro z; rcases z with z | z; cases z; omega), if_pos ⟨by omega, by show 2500 * 4 ≤ 1000000; omega⟩]
  rfl
theorem and_f1 {f g : Mo Bool} {ρ ρ1 : Rho} (h : f ρ = some (.ok false ρ1)) : andY f g ρ = some (.ok false ρ1) := by unfold andY; rw [h]
theorem and_f2 {f g : Mo Bool} {ρ ρ1 ρ2 : Rho} (h : f ρ = some (.ok true ρ1)) (hg : g ρ1 = some (.ok false ρ2)) : andY f g ρ = some (.ok false ρ2) := by unfold andY; rw [h]; exact hg
theorem l12_eq (A : Addr) (ho : HP o) (b11 : stbS s11 = true) : ∃ (o' : O) (s11' s13' : Sl), stbS s11' = true ∧ l12 A (lQ ns s1 (.ow o) s3 s4 s5 s6 s7 s8 s9 s10 s11 (fz (storeD A 2 lampS)) .no) = some (.nx (lQ ns s1 (.ow o') s3 s4 s5 s6 s7 s8 s9 s10 s11' (fz (storeD A 2 lampS)) s13')) := by
  obtain ⟨r, o1, r0, r1, ho1, c⟩ := call_take (i := 2) (s0 := .ow o) (ρ := lQ ns s1 (.ow o) s3 s4 s5 s6 s7 s8 s9 s10 s11 (fz (storeD A 2 lampS)) .no) (m := 24) (f := puV (cst (.int 24))) rfl rfl ho rfl (by omega) (by omega)
  let R : Rho := lQ ns s1 (.ow o1) s3 s4 s5 s6 s7 s8 s9 s10 s11 (fz (storeD A 2 lampS)) .no
  have q := tbM_of (mo2_of (g := eqD) (h := puV (cst (.int 7))) (ρ2 := R) (frz_x c) rfl (eqD_int r 7))
  by_cases h : r = 7
  · rw [decide_eq_true h] at q
    obtain ⟨kd, o2, k0, k1, ho2, c2⟩ := call_take (i := 2) (s0 := .ow o1) (ρ := R) (m := 2) (f := puV (cst (.int 2))) rfl rfl ho1 rfl (by omega) (by omega)
    let R2 : Rho := lQ ns s1 (.ow o2) s3 s4 s5 s6 s7 s8 s9 s10 (fz (nmD longR)) (fz (storeD A 2 lampS)) (fz (.int kd))
    have e1 : l12a R = some (.nx R2) := by
      have l2 := lx_cons (r := lxN) (xs := []) (ρ2 := lQ ns s1 (.ow o2) s3 s4 s5 s6 s7 s8 s9 s10 s11 (fz (storeD A 2 lampS)) .no) (fr_of (frz_x c2)) rfl
      have l1 := lx_cons (ρ1 := R) (fr_of (pu_of lamp_run)) l2
      unfold l12a par2
      rw [l1]
      dsimp only
      rw [if_pos ⟨by rw [stb_at]; exact b11, by rw [stb_at]; rfl⟩]
      rfl
    have lz : longR.length ≤ 100000 := by rw [long_len]; omega
    have e2 : l12b A R2 = some (.nx R2) := by
      refine (if_f (ρ' := R2) ?_).trans rfl
      have q0 : quM (tb (pu2 eqD (var 13) (cst (.int 0)))) R2 = some (.ok (decide (kd = 0)) R2) := qu_of (pu2_of rfl rfl (eqD_int kd 0))
      by_cases hk : kd = 0
      · rw [decide_eq_true hk] at q0
        have f := call_b3 (ρ := R2) (f := puV (var 12)) (g := puV (cst (.int 0))) (h := puV (var 11)) rfl rfl rfl (after_eq A lamp_ok (s := 0) (by omega) long_mem lz)
        rw [long_fin] at f
        exact and_f2 q0 (ne_eqD (int_ok 1) f rfl)
      · rw [decide_eq_false hk] at q0
        exact and_f1 q0
    have e3 : l12c A R2 = some (.nx R2) := by
      refine (if_f (ρ' := R2) ?_).trans rfl
      have q0 : quM (tb (pu2 eqD (var 13) (cst (.int 1)))) R2 = some (.ok (decide (kd = 1)) R2) := qu_of (pu2_of rfl rfl (eqD_int kd 1))
      by_cases hk : kd = 1
      · rw [decide_eq_true hk] at q0
        have f := call_b3 (ρ := R2) (f := puV (var 12)) (g := puV (cst (.int 1))) (h := puV (var 11)) rfl rfl rfl (answers_eq A lamp_ok (s := 1) (by omega) long_mem lz)
        have f2 : slM (frzM (callM 3 (F_answers_of A) (agV (puV (var 12)) (agV (puV (cst (.int 1))) (agV (puV (var 11)) agN))))) (poS (cst (.int 9994))) poN R2 = some (.ok (rowD [8, 0, 1000000000000, 0, 8, 0]) R2) := by
          unfold slM
          rw [f]
          dsimp only
          show (match slAD (.tup ((anss 1 longR).map D.int)) (some (Nat.cast (9994 : Nat))) none with
            | some z => some (Re.ok z R2)
            | none => none) = _
          rw [show slAD (.tup ((anss 1 longR).map D.int)) (some (Nat.cast (9994 : Nat))) none = some (.tup (cutA ((anss 1 longR).map D.int) (some (Nat.cast (9994 : Nat))) none)) from rfl, cut_from _ _ (by rw [List.length_map, anss_len, long_len]; omega), ← List.map_drop, long_ans]
          rfl
        refine and_f2 q0 (ne_eqD (rowD_ok _) f2 (pu_of ?_))
        exact tup_of (lp_of rfl (lp_of rfl (lp_of pow12 (lp_of rfl (lp_of rfl (lp_of rfl rfl)))))) (by show 6 ≤ 1000; decide)
      · rw [decide_eq_false hk] at q0
        exact and_f1 q0
    refine ⟨o2, fz (nmD longR), fz (.int kd), rfl, (if_t q).trans ?_⟩
    show seqS l12a (seqS (l12b A) (l12c A)) R = _
    rw [seq_nx e1, seq_nx e2, e3]
  · rw [decide_eq_false h] at q
    exact ⟨o1, s11, .no, b11, (if_f q).trans rfl⟩
def shortR : List Opn := [flipO, offO, flipO, flipO, flipO]
theorem l13_eq (b11 : stbS s11 = true) : l13 (lQ ns s1 s2 s3 s4 s5 s6 s7 s8 s9 s10 s11 s12 s13) = some (.nx (lQ ns s1 s2 s3 s4 s5 s6 s7 s8 s9 s10 (fz (nmD shortR)) s12 s13)) := by
  unfold l13
  refine (set_p (i := 11) (ρ := lQ ns s1 s2 s3 s4 s5 s6 s7 s8 s9 s10 s11 s12 s13) (d := nmD shortR) ?_ ⟨s11, rfl, b11⟩).trans rfl
  exact tup_of (lp_of rfl (lp_of rfl (lp_of rfl (lp_of rfl (lp_of rfl rfl))))) (by show 5 ≤ 1000; decide)
theorem l14_eq (A : Addr) : l14 A (lQ ns s1 s2 s3 s4 s5 s6 s7 s8 s9 s10 (fz (nmD shortR)) (fz (storeD A 2 lampS)) s13) = some (.rt (.fr (.bl true)) (lQ ns s1 s2 s3 s4 s5 s6 s7 s8 s9 s10 (fz (nmD shortR)) (fz (storeD A 2 lampS)) s13)) := by
  let R : Rho := lQ ns s1 s2 s3 s4 s5 s6 s7 s8 s9 s10 (fz (nmD shortR)) (fz (storeD A 2 lampS)) s13
  have hm : ∀ o ∈ shortR, o ∈ lampS.flatten := by
    intro o ho
    simp only [shortR, List.mem_cons, List.not_mem_nil, or_false] at ho
    rcases ho with rfl | rfl | rfl | rfl | rfl <;> simp [lampS]
  have f1 := call_b3 (ρ := R) (f := puV (var 12)) (g := puV (cst (.int 0))) (h := puV (var 11)) rfl rfl rfl (passed_eq A lamp_ok (s := 0) (by omega) hm (by decide))
  have f2 := call_b3 (ρ := R) (f := puV (var 12)) (g := puV (cst (.int 0))) (h := puV (var 11)) rfl rfl rfl (answers_eq A lamp_ok (s := 0) (by omega) hm (by decide))
  rw [show pas 0 shortR = [0, 1, 0, 1, 0, 1] by decide] at f1
  rw [show anss 0 shortR = [0, 8, 0, 1000000000000, 0] by decide] at f2
  have g1 : puV (tupP (lpC (cst (.int 0)) (lpC (cst (.int 1)) (lpC (cst (.int 0)) (lpC (cst (.int 1)) (lpC (cst (.int 0)) (lpC (cst (.int 1)) lpN))))))) R = some (.ok (rowD [0, 1, 0, 1, 0, 1]) R) := pu_of (tup_of (lp_of rfl (lp_of rfl (lp_of rfl (lp_of rfl (lp_of rfl (lp_of rfl rfl)))))) (by show 6 ≤ 1000; decide))
  have g2 : puV (tupP (lpC (cst (.int 0)) (lpC (cst (.int 8)) (lpC (cst (.int 0)) (lpC (pu2 powD (cst (.int 10)) (cst (.int 12))) (lpC (cst (.int 0)) lpN)))))) R = some (.ok (rowD [0, 8, 0, 1000000000000, 0]) R) := pu_of (tup_of (lp_of rfl (lp_of rfl (lp_of rfl (lp_of pow12 (lp_of rfl rfl))))) (by show 5 ≤ 1000; decide))
  have h1 := mo2_of (g := eqD) f1 g1 (eqD_refl (rowD_ok _))
  have h2 := mo2_of (g := eqD) f2 g2 (eqD_refl (rowD_ok _))
  show l14 A R = _
  unfold l14 retS frM andV
  rw [h1]
  dsimp only
  rw [h2]
theorem ends (A : Nat) (ns : List Int) (h : ns.length ≤ 63) : ∃ outs, F_law A [.ow (.fr (.scr ns))] = some (.ret (.fr (.bl true)) outs) := by
  obtain ⟨o, ρ, ho, ⟨s1, s3, s4, s5, s6, s7, s8, s9, s10, s11, b1, b3, b4, b5, b6, b7, b8, b9, b10, b11, rfl⟩, e1⟩ := law_loop A ns h
  have e2 := l11_eq (ns := ns) (s1 := s1) (s2 := .ow o) (s3 := s3) (s4 := s4) (s5 := s5) (s6 := s6) (s7 := s7) (s8 := s8) (s9 := s9) (s10 := s10) (s11 := s11) (s13 := .no) A
  obtain ⟨o', s11', s13', c11, e3⟩ := l12_eq (ns := ns) (s1 := s1) (s3 := s3) (s4 := s4) (s5 := s5) (s6 := s6) (s7 := s7) (s8 := s8) (s9 := s9) (s10 := s10) (s11 := s11) A ho b11
  have e4 := l13_eq (ns := ns) (s1 := s1) (s2 := .ow o') (s3 := s3) (s4 := s4) (s5 := s5) (s6 := s6) (s7 := s7) (s8 := s8) (s9 := s9) (s10 := s10) (s11 := s11') (s12 := fz (storeD A 2 lampS)) (s13 := s13') c11
  have e5 := l14_eq (ns := ns) (s1 := s1) (s2 := .ow o') (s3 := s3) (s4 := s4) (s5 := s5) (s6 := s6) (s7 := s7) (s8 := s8) (s9 := s9) (s10 := s10) (s13 := s13') A
  refine ⟨[.no], ?_⟩
  unfold F_law
  refine run_rt (ρ := lQ ns s1 (.ow o') s3 s4 s5 s6 s7 s8 s9 s10 (fz (nmD shortR)) (fz (storeD A 2 lampS)) s13') ?_ (by simp [lQ]) rfl
  have hm : m_law A = seqS (forS (itR1 (puV (pu2 addD (cst (.int 1)) (pu1 intD (pu2 gtD (pu1 lenD (var 0)) (cst (.int 2))))))) (gN 1) (lB A)) (seqS (l11 A) (seqS (l12 A) (seqS l13 (l14 A)))) := by unfold m_law lB l1 l2 l3 l4 l5 l6 l7 l8 l8b l9 l10 l11 l12 l12a l12b l12c l13 l14; rfl
  show m_law A (lQ ns .no .no .no .no .no .no .no .no .no .no .no .no .no) = _
  rw [hm, seq_nx e1, seq_nx e2, seq_nx e3, seq_nx e4]
  exact e5
end K09
set_option maxHeartbeats 4000000
namespace K09
open PySem PySem.Spec PyProof.Rows L2 Tr
theorem all_mk {l : PySem.W.OpenLaw} {w : World} {K : PySem.W.Frag} {h : Heap} {mg : Str → Option Value} {fa : Addr} (X : K.In h) (G : h.Ns mainGlobals mg) (hfa : mg "law" = some (.ref fa))
    {f_is_integer : Addr} {od_is_integer an_is_integer : Option Addr} {sl_is_integer : Array (Option Value)} {oc_is_integer kV_is_integer dc_is_integer pm_is_integer cd_is_integer ct_is_integer : Value} {f_is_number : Addr} {od_is_number an_is_number : Option Addr} {sl_is_number : Array (Option Value)} {oc_is_number kV_is_number dc_is_number pm_is_number cd_is_number ct_is_number : Value} {f_is_below : Addr} {od_is_below an_is_below : Option Addr} {sl_is_below : Array (Option Value)} {oc_is_below kV_is_below dc_is_below pm_is_below cd_is_below ct_is_below : Value} {f_is_letter : Addr} {od_is_letter an_is_letter : Option Addr} {sl_is_letter : Array (Option Value)} {oc_is_letter kV_is_letter dc_is_letter pm_is_letter cd_is_letter ct_is_letter : Value} {f_is_name : Addr} {od_is_name an_is_name : Option Addr} {sl_is_name : Array (Option Value)} {oc_is_name kV_is_name dc_is_name pm_is_name cd_is_name ct_is_name : Value} {f_is_row : Addr} {od_is_row an_is_row : Option Addr} {sl_is_row : Array (Option Value)} {oc_is_row kV_is_row dc_is_row pm_is_row cd_is_row ct_is_row : Value} {f_check_state : Addr} {od_check_state an_check_state : Option Addr} {sl_check_state : Array (Option Value)} {oc_check_state kV_check_state dc_check_state pm_check_state cd_check_state ct_check_state : Value} {f_need_office : Addr} {od_need_office an_need_office : Option Addr} {sl_need_office : Array (Option Value)} {oc_need_office kV_need_office dc_need_office pm_need_office cd_need_office ct_need_office : Value} {f_need_offices : Addr} {od_need_offices an_need_offices : Option Addr} {sl_need_offices : Array (Option Value)} {oc_need_offices kV_need_offices dc_need_offices pm_need_offices cd_need_offices ct_need_offices : Value} {f_operation_table : Addr} {od_operation_table an_operation_table : Option Addr} {sl_operation_table : Array (Option Value)} {oc_operation_table kV_operation_table dc_operation_table pm_operation_table cd_operation_table ct_operation_table : Value} {f_operations_of : Addr} {od_operations_of an_operations_of : Option Addr} {sl_operations_of : Array (Option Value)} {oc_operations_of kV_operations_of dc_operations_of pm_operations_of cd_operations_of ct_operations_of : Value} {f_check_run : Addr} {od_check_run an_check_run : Option Addr} {sl_check_run : Array (Option Value)} {oc_check_run dc_check_run pm_check_run cd_check_run ct_check_run : Value} {Dk_check_run : Addr} {f_passed : Addr} {od_passed an_passed : Option Addr} {sl_passed : Array (Option Value)} {oc_passed kV_passed dc_passed pm_passed cd_passed ct_passed : Value} {f_after : Addr} {od_after an_after : Option Addr} {sl_after : Array (Option Value)} {oc_after kV_after dc_after pm_after cd_after ct_after : Value} {f_answers_of : Addr} {od_answers_of an_answers_of : Option Addr} {sl_answers_of : Array (Option Value)} {oc_answers_of kV_answers_of dc_answers_of pm_answers_of cd_answers_of ct_answers_of : Value} {f_run_ends : Addr} {od_run_ends an_run_ends : Option Addr} {sl_run_ends : Array (Option Value)} {oc_run_ends kV_run_ends dc_run_ends pm_run_ends cd_run_ends ct_run_ends : Value} {f_is_operation : Addr} {od_is_operation an_is_operation : Option Addr} {sl_is_operation : Array (Option Value)} {oc_is_operation kV_is_operation dc_is_operation pm_is_operation cd_is_operation ct_is_operation : Value} {f_check_offices : Addr} {od_check_offices an_check_offices : Option Addr} {sl_check_offices : Array (Option Value)} {oc_check_offices kV_check_offices dc_check_offices pm_check_offices cd_check_offices ct_check_offices : Value} {f__law_box : Addr} {od__law_box an__law_box : Option Addr} {sl__law_box : Array (Option Value)} {oc__law_box kV__law_box dc__law_box pm__law_box cd__law_box ct__law_box : Value} {f__law_take : Addr} {od__law_take an__law_take : Option Addr} {sl__law_take : Array (Option Value)} {oc__law_take kV__law_take dc__law_take pm__law_take cd__law_take ct__law_take : Value} {f__law_pick : Addr} {od__law_pick an__law_pick : Option Addr} {sl__law_pick : Array (Option Value)} {oc__law_pick kV__law_pick dc__law_pick pm__law_pick cd__law_pick ct__law_pick : Value} {f__law_names : Addr} {od__law_names an__law_names : Option Addr} {sl__law_names : Array (Option Value)} {oc__law_names kV__law_names dc__law_names pm__law_names cd__law_names ct__law_names : Value} {f__law_ends : Addr} {od__law_ends an__law_ends : Option Addr} {sl__law_ends : Array (Option Value)} {oc__law_ends kV__law_ends dc__law_ends pm__law_ends cd__law_ends ct__law_ends : Value} {f__law_told : Addr} {od__law_told an__law_told : Option Addr} {sl__law_told : Array (Option Value)} {oc__law_told kV__law_told dc__law_told pm__law_told cd__law_told ct__law_told : Value} {f__law_offices : Addr} {od__law_offices an__law_offices : Option Addr} {sl__law_offices : Array (Option Value)} {oc__law_offices kV__law_offices dc__law_offices pm__law_offices cd__law_offices ct__law_offices : Value} {f__law_all : Addr} {od__law_all an__law_all : Option Addr} {sl__law_all : Array (Option Value)} {oc__law_all kV__law_all dc__law_all pm__law_all cd__law_all ct__law_all : Value} {f__law_run : Addr} {od__law_run an__law_run : Option Addr} {sl__law_run : Array (Option Value)} {oc__law_run kV__law_run dc__law_run pm__law_run cd__law_run ct__law_run : Value} {f__law_walk : Addr} {od__law_walk an__law_walk : Option Addr} {sl__law_walk : Array (Option Value)} {oc__law_walk kV__law_walk dc__law_walk pm__law_walk cd__law_walk ct__law_walk : Value} {f__law_table : Addr} {od__law_table an__law_table : Option Addr} {sl__law_table : Array (Option Value)} {oc__law_table kV__law_table dc__law_table pm__law_table cd__law_table ct__law_table : Value} {f__law_other : Addr} {od__law_other an__law_other : Option Addr} {sl__law_other : Array (Option Value)} {oc__law_other kV__law_other dc__law_other pm__law_other cd__law_other ct__law_other : Value} {f__law_right : Addr} {od__law_right an__law_right : Option Addr} {sl__law_right : Array (Option Value)} {oc__law_right kV__law_right dc__law_right pm__law_right cd__law_right ct__law_right : Value} {f__law_joined : Addr} {od__law_joined an__law_joined : Option Addr} {sl__law_joined : Array (Option Value)} {oc__law_joined kV__law_joined dc__law_joined pm__law_joined cd__law_joined ct__law_joined : Value} {f_law : Addr} {od_law an_law : Option Addr} {sl_law : Array (Option Value)} {oc_law kV_law dc_law pm_law cd_law ct_law : Value} {t_LETTERS : Tok} {t_LONGEST_NAME : Tok} {t_MOST_ANSWER : Tok} {t_MOST_STATES : Tok} {t_LEAST_OFFICES : Tok} {t_MOST_OFFICES : Tok} {t_MOST_OPERATIONS : Tok} {A_Store fI_Store : Addr} {odI_Store anI_Store : Option Addr} {slI_Store : Array (Option Value)} {ocI_Store kVI_Store dcI_Store pmI_Store cdI_Store ctI_Store : Value}
    (a_is_integer : PySem.W.nsIn K mainGlobals "is_integer" = some (some (.ref f_is_integer))) (l_is_integer : K.lookup f_is_integer = some ⟨oc_is_integer, od_is_integer, .func (PySem.W.fnOf "is_integer" "is_integer" (defArgs s_is_integer) (defBody s_is_integer) (defScope s_is_integer) .none kV_is_integer dc_is_integer pm_is_integer an_is_integer cd_is_integer ct_is_integer), sl_is_integer⟩) (d_is_integer : PySem.W.codeIn K cd_is_integer "is_integer" = true) (k_is_integer : PySem.W.keepIn K (.ref f_is_integer) = true) (a_is_number : PySem.W.nsIn K mainGlobals "is_number" = some (some (.ref f_is_number))) (l_is_number : K.lookup f_is_number = some ⟨oc_is_number, od_is_number, .func (PySem.W.fnOf "is_number" "is_number" (defArgs s_is_number) (defBody s_is_number) (defScope s_is_number) .none kV_is_number dc_is_number pm_is_number an_is_number cd_is_number ct_is_number), sl_is_number⟩) (d_is_number : PySem.W.codeIn K cd_is_number "is_number" = true) (k_is_number : PySem.W.keepIn K (.ref f_is_number) = true) (a_is_below : PySem.W.nsIn K mainGlobals "is_below" = some (some (.ref f_is_below))) (l_is_below : K.lookup f_is_below = some ⟨oc_is_below, od_is_below, .func (PySem.W.fnOf "is_below" "is_below" (defArgs s_is_below) (defBody s_is_below) (defScope s_is_below) .none kV_is_below dc_is_below pm_is_below an_is_below cd_is_below ct_is_below), sl_is_below⟩) (d_is_below : PySem.W.codeIn K cd_is_below "is_below" = true) (k_is_below : PySem.W.keepIn K (.ref f_is_below) = true) (a_is_letter : PySem.W.nsIn K mainGlobals "is_letter" = some (some (.ref f_is_letter))) (l_is_letter : K.lookup f_is_letter = some ⟨oc_is_letter, od_is_letter, .func (PySem.W.fnOf "is_letter" "is_letter" (defArgs s_is_letter) (defBody s_is_letter) (defScope s_is_letter) .none kV_is_letter dc_is_letter pm_is_letter an_is_letter cd_is_letter ct_is_letter), sl_is_letter⟩) (d_is_letter : PySem.W.codeIn K cd_is_letter "is_letter" = true) (k_is_letter : PySem.W.keepIn K (.ref f_is_letter) = true) (a_is_name : PySem.W.nsIn K mainGlobals "is_name" = some (some (.ref f_is_name))) (l_is_name : K.lookup f_is_name = some ⟨oc_is_name, od_is_name, .func (PySem.W.fnOf "is_name" "is_name" (defArgs s_is_name) (defBody s_is_name) (defScope s_is_name) .none kV_is_name dc_is_name pm_is_name an_is_name cd_is_name ct_is_name), sl_is_name⟩) (d_is_name : PySem.W.codeIn K cd_is_name "is_name" = true) (k_is_name : PySem.W.keepIn K (.ref f_is_name) = true) (a_is_row : PySem.W.nsIn K mainGlobals "is_row" = some (some (.ref f_is_row))) (l_is_row : K.lookup f_is_row = some ⟨oc_is_row, od_is_row, .func (PySem.W.fnOf "is_row" "is_row" (defArgs s_is_row) (defBody s_is_row) (defScope s_is_row) .none kV_is_row dc_is_row pm_is_row an_is_row cd_is_row ct_is_row), sl_is_row⟩) (d_is_row : PySem.W.codeIn K cd_is_row "is_row" = true) (k_is_row : PySem.W.keepIn K (.ref f_is_row) = true) (a_check_state : PySem.W.nsIn K mainGlobals "check_state" = some (some (.ref f_check_state))) (l_check_state : K.lookup f_check_state = some ⟨oc_check_state, od_check_state, .func (PySem.W.fnOf "check_state" "check_state" (defArgs s_check_state) (defBody s_check_state) (defScope s_check_state) .none kV_check_state dc_check_state pm_check_state an_check_state cd_check_state ct_check_state), sl_check_state⟩) (d_check_state : PySem.W.codeIn K cd_check_state "check_state" = true) (k_check_state : PySem.W.keepIn K (.ref f_check_state) = true) (a_need_office : PySem.W.nsIn K mainGlobals "need_office" = some (some (.ref f_need_office))) (l_need_office : K.lookup f_need_office = some ⟨oc_need_office, od_need_office, .func (PySem.W.fnOf "need_office" "need_office" (defArgs s_need_office) (defBody s_need_office) (defScope s_need_office) .none kV_need_office dc_need_office pm_need_office an_need_office cd_need_office ct_need_office), sl_need_office⟩) (d_need_office : PySem.W.codeIn K cd_need_office "need_office" = true) (k_need_office : PySem.W.keepIn K (.ref f_need_office) = true) (a_need_offices : PySem.W.nsIn K mainGlobals "need_offices" = some (some (.ref f_need_offices))) (l_need_offices : K.lookup f_need_offices = some ⟨oc_need_offices, od_need_offices, .func (PySem.W.fnOf "need_offices" "need_offices" (defArgs s_need_offices) (defBody s_need_offices) (defScope s_need_offices) .none kV_need_offices dc_need_offices pm_need_offices an_need_offices cd_need_offices ct_need_offices), sl_need_offices⟩) (d_need_offices : PySem.W.codeIn K cd_need_offices "need_offices" = true) (k_need_offices : PySem.W.keepIn K (.ref f_need_offices) = true) (a_operation_table : PySem.W.nsIn K mainGlobals "operation_table" = some (some (.ref f_operation_table))) (l_operation_table : K.lookup f_operation_table = some ⟨oc_operation_table, od_operation_table, .func (PySem.W.fnOf "operation_table" "operation_table" (defArgs s_operation_table) (defBody s_operation_table) (defScope s_operation_table) .none kV_operation_table dc_operation_table pm_operation_table an_operation_table cd_operation_table ct_operation_table), sl_operation_table⟩) (d_operation_table : PySem.W.codeIn K cd_operation_table "operation_table" = true) (k_operation_table : PySem.W.keepIn K (.ref f_operation_table) = true) (a_operations_of : PySem.W.nsIn K mainGlobals "operations_of" = some (some (.ref f_operations_of))) (l_operations_of : K.lookup f_operations_of = some ⟨oc_operations_of, od_operations_of, .func (PySem.W.fnOf "operations_of" "operations_of" (defArgs s_operations_of) (defBody s_operations_of) (defScope s_operations_of) .none kV_operations_of dc_operations_of pm_operations_of an_operations_of cd_operations_of ct_operations_of), sl_operations_of⟩) (d_operations_of : PySem.W.codeIn K cd_operations_of "operations_of" = true) (k_operations_of : PySem.W.keepIn K (.ref f_operations_of) = true) (a_check_run : PySem.W.nsIn K mainGlobals "check_run" = some (some (.ref f_check_run))) (l_check_run : K.lookup f_check_run = some ⟨oc_check_run, od_check_run, .func (PySem.W.fnOf "check_run" "check_run" (defArgs s_check_run) (defBody s_check_run) (defScope s_check_run) .none (.ref Dk_check_run) dc_check_run pm_check_run an_check_run cd_check_run ct_check_run), sl_check_run⟩) (d_check_run : PySem.W.codeIn K cd_check_run "check_run" = true) (k_check_run : PySem.W.keepIn K (.ref f_check_run) = true) (kn_check_run : PySem.W.nsIn K Dk_check_run "office" = some (some .none)) (a_passed : PySem.W.nsIn K mainGlobals "passed" = some (some (.ref f_passed))) (l_passed : K.lookup f_passed = some ⟨oc_passed, od_passed, .func (PySem.W.fnOf "passed" "passed" (defArgs s_passed) (defBody s_passed) (defScope s_passed) .none kV_passed dc_passed pm_passed an_passed cd_passed ct_passed), sl_passed⟩) (d_passed : PySem.W.codeIn K cd_passed "passed" = true) (k_passed : PySem.W.keepIn K (.ref f_passed) = true) (a_after : PySem.W.nsIn K mainGlobals "after" = some (some (.ref f_after))) (l_after : K.lookup f_after = some ⟨oc_after, od_after, .func (PySem.W.fnOf "after" "after" (defArgs s_after) (defBody s_after) (defScope s_after) .none kV_after dc_after pm_after an_after cd_after ct_after), sl_after⟩) (d_after : PySem.W.codeIn K cd_after "after" = true) (k_after : PySem.W.keepIn K (.ref f_after) = true) (a_answers_of : PySem.W.nsIn K mainGlobals "answers_of" = some (some (.ref f_answers_of))) (l_answers_of : K.lookup f_answers_of = some ⟨oc_answers_of, od_answers_of, .func (PySem.W.fnOf "answers_of" "answers_of" (defArgs s_answers_of) (defBody s_answers_of) (defScope s_answers_of) .none kV_answers_of dc_answers_of pm_answers_of an_answers_of cd_answers_of ct_answers_of), sl_answers_of⟩) (d_answers_of : PySem.W.codeIn K cd_answers_of "answers_of" = true) (k_answers_of : PySem.W.keepIn K (.ref f_answers_of) = true) (a_run_ends : PySem.W.nsIn K mainGlobals "run_ends" = some (some (.ref f_run_ends))) (l_run_ends : K.lookup f_run_ends = some ⟨oc_run_ends, od_run_ends, .func (PySem.W.fnOf "run_ends" "run_ends" (defArgs s_run_ends) (defBody s_run_ends) (defScope s_run_ends) .none kV_run_ends dc_run_ends pm_run_ends an_run_ends cd_run_ends ct_run_ends), sl_run_ends⟩) (d_run_ends : PySem.W.codeIn K cd_run_ends "run_ends" = true) (k_run_ends : PySem.W.keepIn K (.ref f_run_ends) = true) (a_is_operation : PySem.W.nsIn K mainGlobals "is_operation" = some (some (.ref f_is_operation))) (l_is_operation : K.lookup f_is_operation = some ⟨oc_is_operation, od_is_operation, .func (PySem.W.fnOf "is_operation" "is_operation" (defArgs s_is_operation) (defBody s_is_operation) (defScope s_is_operation) .none kV_is_operation dc_is_operation pm_is_operation an_is_operation cd_is_operation ct_is_operation), sl_is_operation⟩) (d_is_operation : PySem.W.codeIn K cd_is_operation "is_operation" = true) (k_is_operation : PySem.W.keepIn K (.ref f_is_operation) = true) (a_check_offices : PySem.W.nsIn K mainGlobals "check_offices" = some (some (.ref f_check_offices))) (l_check_offices : K.lookup f_check_offices = some ⟨oc_check_offices, od_check_offices, .func (PySem.W.fnOf "check_offices" "check_offices" (defArgs s_check_offices) (defBody s_check_offices) (defScope s_check_offices) .none kV_check_offices dc_check_offices pm_check_offices an_check_offices cd_check_offices ct_check_offices), sl_check_offices⟩) (d_check_offices : PySem.W.codeIn K cd_check_offices "check_offices" = true) (k_check_offices : PySem.W.keepIn K (.ref f_check_offices) = true) (a__law_box : PySem.W.nsIn K mainGlobals "_law_box" = some (some (.ref f__law_box))) (l__law_box : K.lookup f__law_box = some ⟨oc__law_box, od__law_box, .func (PySem.W.fnOf "_law_box" "_law_box" (defArgs s__law_box) (defBody s__law_box) (defScope s__law_box) .none kV__law_box dc__law_box pm__law_box an__law_box cd__law_box ct__law_box), sl__law_box⟩) (d__law_box : PySem.W.codeIn K cd__law_box "_law_box" = true) (k__law_box : PySem.W.keepIn K (.ref f__law_box) = true) (a__law_take : PySem.W.nsIn K mainGlobals "_law_take" = some (some (.ref f__law_take))) (l__law_take : K.lookup f__law_take = some ⟨oc__law_take, od__law_take, .func (PySem.W.fnOf "_law_take" "_law_take" (defArgs s__law_take) (defBody s__law_take) (defScope s__law_take) .none kV__law_take dc__law_take pm__law_take an__law_take cd__law_take ct__law_take), sl__law_take⟩) (d__law_take : PySem.W.codeIn K cd__law_take "_law_take" = true) (k__law_take : PySem.W.keepIn K (.ref f__law_take) = true) (a__law_pick : PySem.W.nsIn K mainGlobals "_law_pick" = some (some (.ref f__law_pick))) (l__law_pick : K.lookup f__law_pick = some ⟨oc__law_pick, od__law_pick, .func (PySem.W.fnOf "_law_pick" "_law_pick" (defArgs s__law_pick) (defBody s__law_pick) (defScope s__law_pick) .none kV__law_pick dc__law_pick pm__law_pick an__law_pick cd__law_pick ct__law_pick), sl__law_pick⟩) (d__law_pick : PySem.W.codeIn K cd__law_pick "_law_pick" = true) (k__law_pick : PySem.W.keepIn K (.ref f__law_pick) = true) (a__law_names : PySem.W.nsIn K mainGlobals "_law_names" = some (some (.ref f__law_names))) (l__law_names : K.lookup f__law_names = some ⟨oc__law_names, od__law_names, .func (PySem.W.fnOf "_law_names" "_law_names" (defArgs s__law_names) (defBody s__law_names) (defScope s__law_names) .none kV__law_names dc__law_names pm__law_names an__law_names cd__law_names ct__law_names), sl__law_names⟩) (d__law_names : PySem.W.codeIn K cd__law_names "_law_names" = true) (k__law_names : PySem.W.keepIn K (.ref f__law_names) = true) (a__law_ends : PySem.W.nsIn K mainGlobals "_law_ends" = some (some (.ref f__law_ends))) (l__law_ends : K.lookup f__law_ends = some ⟨oc__law_ends, od__law_ends, .func (PySem.W.fnOf "_law_ends" "_law_ends" (defArgs s__law_ends) (defBody s__law_ends) (defScope s__law_ends) .none kV__law_ends dc__law_ends pm__law_ends an__law_ends cd__law_ends ct__law_ends), sl__law_ends⟩) (d__law_ends : PySem.W.codeIn K cd__law_ends "_law_ends" = true) (k__law_ends : PySem.W.keepIn K (.ref f__law_ends) = true) (a__law_told : PySem.W.nsIn K mainGlobals "_law_told" = some (some (.ref f__law_told))) (l__law_told : K.lookup f__law_told = some ⟨oc__law_told, od__law_told, .func (PySem.W.fnOf "_law_told" "_law_told" (defArgs s__law_told) (defBody s__law_told) (defScope s__law_told) .none kV__law_told dc__law_told pm__law_told an__law_told cd__law_told ct__law_told), sl__law_told⟩) (d__law_told : PySem.W.codeIn K cd__law_told "_law_told" = true) (k__law_told : PySem.W.keepIn K (.ref f__law_told) = true) (a__law_offices : PySem.W.nsIn K mainGlobals "_law_offices" = some (some (.ref f__law_offices))) (l__law_offices : K.lookup f__law_offices = some ⟨oc__law_offices, od__law_offices, .func (PySem.W.fnOf "_law_offices" "_law_offices" (defArgs s__law_offices) (defBody s__law_offices) (defScope s__law_offices) .none kV__law_offices dc__law_offices pm__law_offices an__law_offices cd__law_offices ct__law_offices), sl__law_offices⟩) (d__law_offices : PySem.W.codeIn K cd__law_offices "_law_offices" = true) (k__law_offices : PySem.W.keepIn K (.ref f__law_offices) = true) (a__law_all : PySem.W.nsIn K mainGlobals "_law_all" = some (some (.ref f__law_all))) (l__law_all : K.lookup f__law_all = some ⟨oc__law_all, od__law_all, .func (PySem.W.fnOf "_law_all" "_law_all" (defArgs s__law_all) (defBody s__law_all) (defScope s__law_all) .none kV__law_all dc__law_all pm__law_all an__law_all cd__law_all ct__law_all), sl__law_all⟩) (d__law_all : PySem.W.codeIn K cd__law_all "_law_all" = true) (k__law_all : PySem.W.keepIn K (.ref f__law_all) = true) (a__law_run : PySem.W.nsIn K mainGlobals "_law_run" = some (some (.ref f__law_run))) (l__law_run : K.lookup f__law_run = some ⟨oc__law_run, od__law_run, .func (PySem.W.fnOf "_law_run" "_law_run" (defArgs s__law_run) (defBody s__law_run) (defScope s__law_run) .none kV__law_run dc__law_run pm__law_run an__law_run cd__law_run ct__law_run), sl__law_run⟩) (d__law_run : PySem.W.codeIn K cd__law_run "_law_run" = true) (k__law_run : PySem.W.keepIn K (.ref f__law_run) = true) (a__law_walk : PySem.W.nsIn K mainGlobals "_law_walk" = some (some (.ref f__law_walk))) (l__law_walk : K.lookup f__law_walk = some ⟨oc__law_walk, od__law_walk, .func (PySem.W.fnOf "_law_walk" "_law_walk" (defArgs s__law_walk) (defBody s__law_walk) (defScope s__law_walk) .none kV__law_walk dc__law_walk pm__law_walk an__law_walk cd__law_walk ct__law_walk), sl__law_walk⟩) (d__law_walk : PySem.W.codeIn K cd__law_walk "_law_walk" = true) (k__law_walk : PySem.W.keepIn K (.ref f__law_walk) = true) (a__law_table : PySem.W.nsIn K mainGlobals "_law_table" = some (some (.ref f__law_table))) (l__law_table : K.lookup f__law_table = some ⟨oc__law_table, od__law_table, .func (PySem.W.fnOf "_law_table" "_law_table" (defArgs s__law_table) (defBody s__law_table) (defScope s__law_table) .none kV__law_table dc__law_table pm__law_table an__law_table cd__law_table ct__law_table), sl__law_table⟩) (d__law_table : PySem.W.codeIn K cd__law_table "_law_table" = true) (k__law_table : PySem.W.keepIn K (.ref f__law_table) = true) (a__law_other : PySem.W.nsIn K mainGlobals "_law_other" = some (some (.ref f__law_other))) (l__law_other : K.lookup f__law_other = some ⟨oc__law_other, od__law_other, .func (PySem.W.fnOf "_law_other" "_law_other" (defArgs s__law_other) (defBody s__law_other) (defScope s__law_other) .none kV__law_other dc__law_other pm__law_other an__law_other cd__law_other ct__law_other), sl__law_other⟩) (d__law_other : PySem.W.codeIn K cd__law_other "_law_other" = true) (k__law_other : PySem.W.keepIn K (.ref f__law_other) = true) (a__law_right : PySem.W.nsIn K mainGlobals "_law_right" = some (some (.ref f__law_right))) (l__law_right : K.lookup f__law_right = some ⟨oc__law_right, od__law_right, .func (PySem.W.fnOf "_law_right" "_law_right" (defArgs s__law_right) (defBody s__law_right) (defScope s__law_right) .none kV__law_right dc__law_right pm__law_right an__law_right cd__law_right ct__law_right), sl__law_right⟩) (d__law_right : PySem.W.codeIn K cd__law_right "_law_right" = true) (k__law_right : PySem.W.keepIn K (.ref f__law_right) = true) (a__law_joined : PySem.W.nsIn K mainGlobals "_law_joined" = some (some (.ref f__law_joined))) (l__law_joined : K.lookup f__law_joined = some ⟨oc__law_joined, od__law_joined, .func (PySem.W.fnOf "_law_joined" "_law_joined" (defArgs s__law_joined) (defBody s__law_joined) (defScope s__law_joined) .none kV__law_joined dc__law_joined pm__law_joined an__law_joined cd__law_joined ct__law_joined), sl__law_joined⟩) (d__law_joined : PySem.W.codeIn K cd__law_joined "_law_joined" = true) (k__law_joined : PySem.W.keepIn K (.ref f__law_joined) = true) (a_law : PySem.W.nsIn K mainGlobals "law" = some (some (.ref f_law))) (l_law : K.lookup f_law = some ⟨oc_law, od_law, .func (PySem.W.fnOf "law" "law" (defArgs s_law) (defBody s_law) (defScope s_law) .none kV_law dc_law pm_law an_law cd_law ct_law), sl_law⟩) (d_law : PySem.W.codeIn K cd_law "law" = true) (k_law : PySem.W.keepIn K (.ref f_law) = true) (y_abs : PySem.W.nsIn K mainGlobals "abs" = some none) (y_all : PySem.W.nsIn K mainGlobals "all" = some none) (y_bool : PySem.W.nsIn K mainGlobals "bool" = some none) (y_enumerate : PySem.W.nsIn K mainGlobals "enumerate" = some none) (y_int : PySem.W.nsIn K mainGlobals "int" = some none) (y_isinstance : PySem.W.nsIn K mainGlobals "isinstance" = some none) (y_len : PySem.W.nsIn K mainGlobals "len" = some none) (y_list : PySem.W.nsIn K mainGlobals "list" = some none) (y_range : PySem.W.nsIn K mainGlobals "range" = some none) (y_repr : PySem.W.nsIn K mainGlobals "repr" = some none) (y_sorted : PySem.W.nsIn K mainGlobals "sorted" = some none) (y_str : PySem.W.nsIn K mainGlobals "str" = some none) (y_tuple : PySem.W.nsIn K mainGlobals "tuple" = some none) (gc_LETTERS : PySem.W.nsIn K mainGlobals "LETTERS" = some (some (.str "abcdefghijklmnopqrstuvwxyz" t_LETTERS))) (gc_LONGEST_NAME : PySem.W.nsIn K mainGlobals "LONGEST_NAME" = some (some (.int 5 t_LONGEST_NAME))) (gc_MOST_ANSWER : PySem.W.nsIn K mainGlobals "MOST_ANSWER" = some (some (.int 1000000000000 t_MOST_ANSWER))) (gc_MOST_STATES : PySem.W.nsIn K mainGlobals "MOST_STATES" = some (some (.int 200 t_MOST_STATES))) (gc_LEAST_OFFICES : PySem.W.nsIn K mainGlobals "LEAST_OFFICES" = some (some (.int 2 t_LEAST_OFFICES))) (gc_MOST_OFFICES : PySem.W.nsIn K mainGlobals "MOST_OFFICES" = some (some (.int 8 t_MOST_OFFICES))) (gc_MOST_OPERATIONS : PySem.W.nsIn K mainGlobals "MOST_OPERATIONS" = some (some (.int 40 t_MOST_OPERATIONS))) (aC_Store : PySem.W.nsIn K mainGlobals "Store" = some (some (.ref A_Store))) (j1_Store : PySem.W.findIn K (.ref A_Store) "__init__" = some (some (.ref fI_Store))) (j2_Store : PySem.W.isFn K (.ref fI_Store) = true) (j3_Store : K.lookup fI_Store = some ⟨ocI_Store, odI_Store, .func (PySem.W.fnOf "__init__" "Store.__init__" (defArgs s_Store_init) (defBody s_Store_init) (defScope s_Store_init) .none kVI_Store dcI_Store pmI_Store anI_Store cdI_Store ctI_Store), slI_Store⟩) (j4_Store : PySem.W.codeIn K cdI_Store "Store.__init__" = true) (j5_Store : PySem.W.keepIn K (.ref fI_Store) = true) (j6_Store : PySem.W.plainGet K A_Store Str.empty = true) (j7_Store : PySem.W.hasDictIn K A_Store = true) (j8_Store : PySem.W.plainOver K A_Store = true) (j9_Store : PySem.W.findIn K (.ref A_Store) "__setattr__" = some (some (.builtin "object.__setattr__"))) (ja_Store : PySem.W.makesIn K A_Store = true) (jb_Store : PySem.W.keepIn K (.ref A_Store) = true) (jn_Store_size : PySem.W.findIn K (.ref A_Store) "size" = some none) (jn_Store_offices : PySem.W.findIn K (.ref A_Store) "offices" = some none)
    (hend : ∀ (A_Store : Addr) (ns : List Int), ns.length ≤ 63 → ∃ outs, (F_law A_Store) [.ow (.fr (.scr ns))] = some (.ret (.fr (.bl true)) outs)) :
    ∃ fd : FuncData, (∀ (s : Shared) (v : Value), BindsTo s fd ⟨[v], []⟩ [("_law_script", v)]) ∧ ∀ base : Heap, K.In base → base.Ns mainGlobals mg → FnG l.prog w K mg base 9 fa fd ["_law_script"] (fun vs H Q E => ∃ (a : Addr) (ns : List Int), vs = [.ref a] ∧ ns.length ≤ 63 ∧ SqL K H a (ns.map V.int) ∧ Q = (fun v _ => v = .bl true) ∧ E = fun _ _ _ => False) := by
  have e := hfa.symm.trans (PySem.W.mg_of X G a_law)
  cases e
  have z_abs := PySem.W.mg_none_of X G y_abs
  have z_all := PySem.W.mg_none_of X G y_all
  have z_bool := PySem.W.mg_none_of X G y_bool
  have z_enumerate := PySem.W.mg_none_of X G y_enumerate
  have z_int := PySem.W.mg_none_of X G y_int
  have z_isinstance := PySem.W.mg_none_of X G y_isinstance
  have z_len := PySem.W.mg_none_of X G y_len
  have z_list := PySem.W.mg_none_of X G y_list
  have z_range := PySem.W.mg_none_of X G y_range
  have z_repr := PySem.W.mg_none_of X G y_repr
  have z_sorted := PySem.W.mg_none_of X G y_sorted
  have z_str := PySem.W.mg_none_of X G y_str
  have z_tuple := PySem.W.mg_none_of X G y_tuple
  have c_LETTERS := PySem.W.mg_of X G gc_LETTERS
  have c_LONGEST_NAME := PySem.W.mg_of X G gc_LONGEST_NAME
  have c_MOST_ANSWER := PySem.W.mg_of X G gc_MOST_ANSWER
  have c_MOST_STATES := PySem.W.mg_of X G gc_MOST_STATES
  have c_LEAST_OFFICES := PySem.W.mg_of X G gc_LEAST_OFFICES
  have c_MOST_OFFICES := PySem.W.mg_of X G gc_MOST_OFFICES
  have c_MOST_OPERATIONS := PySem.W.mg_of X G gc_MOST_OPERATIONS
  have g_Store := PySem.W.mg_of X G aC_Store
  have cl_Store : Cls K A_Store := ⟨j6_Store, j7_Store, j8_Store, j9_Store⟩
  have qI_Store := fun_mk (st := s_Store_init) j3_Store j4_Store j5_Store
  have q_is_integer := fun_mk (st := s_is_integer) l_is_integer d_is_integer k_is_integer
  have q_is_number := fun_mk (st := s_is_number) l_is_number d_is_number k_is_number
  have q_is_below := fun_mk (st := s_is_below) l_is_below d_is_below k_is_below
  have q_is_letter := fun_mk (st := s_is_letter) l_is_letter d_is_letter k_is_letter
  have q_is_name := fun_mk (st := s_is_name) l_is_name d_is_name k_is_name
  have q_is_row := fun_mk (st := s_is_row) l_is_row d_is_row k_is_row
  have q_check_state := fun_mk (st := s_check_state) l_check_state d_check_state k_check_state
  have q_need_office := fun_mk (st := s_need_office) l_need_office d_need_office k_need_office
  have q_need_offices := fun_mk (st := s_need_offices) l_need_offices d_need_offices k_need_offices
  have q_operation_table := fun_mk (st := s_operation_table) l_operation_table d_operation_table k_operation_table
  have q_operations_of := fun_mk (st := s_operations_of) l_operations_of d_operations_of k_operations_of
  have q_check_run := fun_mk (st := s_check_run) l_check_run d_check_run k_check_run
  have q_passed := fun_mk (st := s_passed) l_passed d_passed k_passed
  have q_after := fun_mk (st := s_after) l_after d_after k_after
  have q_answers_of := fun_mk (st := s_answers_of) l_answers_of d_answers_of k_answers_of
  have q_run_ends := fun_mk (st := s_run_ends) l_run_ends d_run_ends k_run_ends
  have q_is_operation := fun_mk (st := s_is_operation) l_is_operation d_is_operation k_is_operation
  have q_check_offices := fun_mk (st := s_check_offices) l_check_offices d_check_offices k_check_offices
  have q__law_box := fun_mk (st := s__law_box) l__law_box d__law_box k__law_box
  have q__law_take := fun_mk (st := s__law_take) l__law_take d__law_take k__law_take
  have q__law_pick := fun_mk (st := s__law_pick) l__law_pick d__law_pick k__law_pick
  have q__law_names := fun_mk (st := s__law_names) l__law_names d__law_names k__law_names
  have q__law_ends := fun_mk (st := s__law_ends) l__law_ends d__law_ends k__law_ends
  have q__law_told := fun_mk (st := s__law_told) l__law_told d__law_told k__law_told
  have q__law_offices := fun_mk (st := s__law_offices) l__law_offices d__law_offices k__law_offices
  have q__law_all := fun_mk (st := s__law_all) l__law_all d__law_all k__law_all
  have q__law_run := fun_mk (st := s__law_run) l__law_run d__law_run k__law_run
  have q__law_walk := fun_mk (st := s__law_walk) l__law_walk d__law_walk k__law_walk
  have q__law_table := fun_mk (st := s__law_table) l__law_table d__law_table k__law_table
  have q__law_other := fun_mk (st := s__law_other) l__law_other d__law_other k__law_other
  have q__law_right := fun_mk (st := s__law_right) l__law_right d__law_right k__law_right
  have q__law_joined := fun_mk (st := s__law_joined) l__law_joined d__law_joined k__law_joined
  have q_law := fun_mk (st := s_law) l_law d_law k_law
  have b_is_integer : Binds K _ ["value"] [] := q_is_integer.binds (ps := ["value"]) fun _ _ _ _ _ _ us hl => match us, hl with | [_], _ => rfl
  have b_is_number : Binds K _ ["value"] [] := q_is_number.binds (ps := ["value"]) fun _ _ _ _ _ _ us hl => match us, hl with | [_], _ => rfl
  have b_is_below : Binds K _ ["value", "bound"] [] := q_is_below.binds (ps := ["value", "bound"]) fun _ _ _ _ _ _ us hl => match us, hl with | [_, _], _ => rfl
  have b_is_letter : Binds K _ ["sign"] [] := q_is_letter.binds (ps := ["sign"]) fun _ _ _ _ _ _ us hl => match us, hl with | [_], _ => rfl
  have b_is_name : Binds K _ ["value"] [] := q_is_name.binds (ps := ["value"]) fun _ _ _ _ _ _ us hl => match us, hl with | [_], _ => rfl
  have b_is_row : Binds K _ ["value", "size", "bound"] [] := q_is_row.binds (ps := ["value", "size", "bound"]) fun _ _ _ _ _ _ us hl => match us, hl with | [_, _, _], _ => rfl
  have b_check_state : Binds K _ ["store", "value"] [] := q_check_state.binds (ps := ["store", "value"]) fun _ _ _ _ _ _ us hl => match us, hl with | [_, _], _ => rfl
  have b_need_office : Binds K _ ["store", "office"] [] := q_need_office.binds (ps := ["store", "office"]) fun _ _ _ _ _ _ us hl => match us, hl with | [_, _], _ => rfl
  have b_need_offices : Binds K _ ["store", "offices"] [] := q_need_offices.binds (ps := ["store", "offices"]) fun _ _ _ _ _ _ us hl => match us, hl with | [_, _], _ => rfl
  have b_operation_table : Binds K _ ["store"] [] := q_operation_table.binds (ps := ["store"]) fun _ _ _ _ _ _ us hl => match us, hl with | [_], _ => rfl
  have b_operations_of : Binds K _ ["store", "offices"] [] := q_operations_of.binds (ps := ["store", "offices"]) fun _ _ _ _ _ _ us hl => match us, hl with | [_, _], _ => rfl
  have b_passed : Binds K _ ["store", "state", "run"] [] := q_passed.binds (ps := ["store", "state", "run"]) fun _ _ _ _ _ _ us hl => match us, hl with | [_, _, _], _ => rfl
  have b_after : Binds K _ ["store", "state", "run"] [] := q_after.binds (ps := ["store", "state", "run"]) fun _ _ _ _ _ _ us hl => match us, hl with | [_, _, _], _ => rfl
  have b_answers_of : Binds K _ ["store", "state", "run"] [] := q_answers_of.binds (ps := ["store", "state", "run"]) fun _ _ _ _ _ _ us hl => match us, hl with | [_, _, _], _ => rfl
  have b_run_ends : Binds K _ ["store", "run"] [] := q_run_ends.binds (ps := ["store", "run"]) fun _ _ _ _ _ _ us hl => match us, hl with | [_, _], _ => rfl
  have b_is_operation : Binds K _ ["value", "size"] [] := q_is_operation.binds (ps := ["value", "size"]) fun _ _ _ _ _ _ us hl => match us, hl with | [_, _], _ => rfl
  have b_check_offices : Binds K _ ["size", "offices"] [] := q_check_offices.binds (ps := ["size", "offices"]) fun _ _ _ _ _ _ us hl => match us, hl with | [_, _], _ => rfl
  have b__law_box : Binds K _ ["_law_script", "_law_k"] [] := q__law_box.binds (ps := ["_law_script", "_law_k"]) fun _ _ _ _ _ _ us hl => match us, hl with | [_, _], _ => rfl
  have b__law_take : Binds K _ ["_law_box_here", "_law_many"] [] := q__law_take.binds (ps := ["_law_box_here", "_law_many"]) fun _ _ _ _ _ _ us hl => match us, hl with | [_, _], _ => rfl
  have b__law_pick : Binds K _ ["_law_box_here", "_law_some"] [] := q__law_pick.binds (ps := ["_law_box_here", "_law_some"]) fun _ _ _ _ _ _ us hl => match us, hl with | [_, _], _ => rfl
  have b__law_names : Binds K _ ["_law_box_here", "_law_many"] [] := q__law_names.binds (ps := ["_law_box_here", "_law_many"]) fun _ _ _ _ _ _ us hl => match us, hl with | [_, _], _ => rfl
  have b__law_ends : Binds K _ ["_law_box_here", "_law_size"] [] := q__law_ends.binds (ps := ["_law_box_here", "_law_size"]) fun _ _ _ _ _ _ us hl => match us, hl with | [_, _], _ => rfl
  have b__law_told : Binds K _ ["_law_box_here", "_law_size"] [] := q__law_told.binds (ps := ["_law_box_here", "_law_size"]) fun _ _ _ _ _ _ us hl => match us, hl with | [_, _], _ => rfl
  have b__law_offices : Binds K _ ["_law_box_here", "_law_size"] [] := q__law_offices.binds (ps := ["_law_box_here", "_law_size"]) fun _ _ _ _ _ _ us hl => match us, hl with | [_, _], _ => rfl
  have b__law_all : Binds K _ ["_law_offices_here"] [] := q__law_all.binds (ps := ["_law_offices_here"]) fun _ _ _ _ _ _ us hl => match us, hl with | [_], _ => rfl
  have b__law_run : Binds K _ ["_law_box_here", "_law_names_here", "_law_most"] [] := q__law_run.binds (ps := ["_law_box_here", "_law_names_here", "_law_most"]) fun _ _ _ _ _ _ us hl => match us, hl with | [_, _, _], _ => rfl
  have b__law_walk : Binds K _ ["_law_table_here", "_law_state", "_law_run_here"] [] := q__law_walk.binds (ps := ["_law_table_here", "_law_state", "_law_run_here"]) fun _ _ _ _ _ _ us hl => match us, hl with | [_, _, _], _ => rfl
  have b__law_table : Binds K _ ["_law_offices_here"] [] := q__law_table.binds (ps := ["_law_offices_here"]) fun _ _ _ _ _ _ us hl => match us, hl with | [_], _ => rfl
  have b__law_other : Binds K _ ["_law_offices_here", "_law_size"] [] := q__law_other.binds (ps := ["_law_offices_here", "_law_size"]) fun _ _ _ _ _ _ us hl => match us, hl with | [_, _], _ => rfl
  have b__law_right : Binds K _ ["_law_store", "_law_table_here", "_law_size", "_law_run_here"] [] := q__law_right.binds (ps := ["_law_store", "_law_table_here", "_law_size", "_law_run_here"]) fun _ _ _ _ _ _ us hl => match us, hl with | [_, _, _, _], _ => rfl
  have b__law_joined : Binds K _ ["_law_store", "_law_size", "_law_one", "_law_other_here"] [] := q__law_joined.binds (ps := ["_law_store", "_law_size", "_law_one", "_law_other_here"]) fun _ _ _ _ _ _ us hl => match us, hl with | [_, _, _, _], _ => rfl
  have b_law : Binds K _ ["_law_script"] [] := q_law.binds (ps := ["_law_script"]) fun _ _ _ _ _ _ us hl => match us, hl with | [_], _ => rfl
  have bI_Store : Binds K _ ["self", "size", "offices"] [] := qI_Store.binds (ps := ["self", "size", "offices"]) fun _ _ _ _ _ _ us hl => match us, hl with | [_, _, _], _ => rfl
  refine ⟨PySem.W.fnOf "law" "law" (defArgs s_law) (defBody s_law) (defScope s_law) .none kV_law dc_law pm_law an_law cd_law ct_law, fun s v => .of_eq rfl, fun base _ _ => ?_⟩
  have O_is_integer := ok_is_integer (P := l.prog) (w := w) (mg := mg) (base := base) q_is_integer z_bool z_int z_isinstance
  have C_is_integer : CalG l.prog w K mg base 1 "is_integer" 1 F_is_integer := ⟨_, _, _, rfl, O_is_integer, PySem.W.mg_of X G a_is_integer, k_is_integer, b_is_integer⟩
  have O_is_number := ok_is_number (P := l.prog) (w := w) (mg := mg) (base := base) q_is_number C_is_integer
  have C_is_number : CalG l.prog w K mg base 2 "is_number" 1 F_is_number := ⟨_, _, _, rfl, O_is_number, PySem.W.mg_of X G a_is_number, k_is_number, b_is_number⟩
  have O_is_below := ok_is_below (P := l.prog) (w := w) (mg := mg) (base := base) q_is_below C_is_number
  have C_is_below : CalG l.prog w K mg base 3 "is_below" 2 F_is_below := ⟨_, _, _, rfl, O_is_below, PySem.W.mg_of X G a_is_below, k_is_below, b_is_below⟩
  have O_is_letter := ok_is_letter (P := l.prog) (w := w) (mg := mg) (base := base) q_is_letter z_len c_LETTERS
  have C_is_letter : CalG l.prog w K mg base 1 "is_letter" 1 F_is_letter := ⟨_, _, _, rfl, O_is_letter, PySem.W.mg_of X G a_is_letter, k_is_letter, b_is_letter⟩
  have O_is_name := ok_is_name (P := l.prog) (w := w) (mg := mg) (base := base) q_is_name z_all z_isinstance z_len z_str c_LONGEST_NAME C_is_letter
  have C_is_name : CalG l.prog w K mg base 2 "is_name" 1 F_is_name := ⟨_, _, _, rfl, O_is_name, PySem.W.mg_of X G a_is_name, k_is_name, b_is_name⟩
  have O_is_row := ok_is_row (P := l.prog) (w := w) (mg := mg) (base := base) q_is_row z_all z_isinstance z_len z_tuple C_is_below
  have C_is_row : CalG l.prog w K mg base 4 "is_row" 3 F_is_row := ⟨_, _, _, rfl, O_is_row, PySem.W.mg_of X G a_is_row, k_is_row, b_is_row⟩
  have O_check_state := ok_check_state (P := l.prog) (w := w) (mg := mg) (base := base) (A_Store := A_Store) q_check_state cl_Store jn_Store_size jn_Store_offices C_is_below
  have C_check_state : CalG l.prog w K mg base 4 "check_state" 2 (F_check_state A_Store) := ⟨_, _, _, rfl, O_check_state, PySem.W.mg_of X G a_check_state, k_check_state, b_check_state⟩
  have O_need_office := ok_need_office (P := l.prog) (w := w) (mg := mg) (base := base) (A_Store := A_Store) q_need_office z_len cl_Store jn_Store_size jn_Store_offices C_is_below
  have C_need_office : CalG l.prog w K mg base 4 "need_office" 2 (F_need_office A_Store) := ⟨_, _, _, rfl, O_need_office, PySem.W.mg_of X G a_need_office, k_need_office, b_need_office⟩
  have O_need_offices := ok_need_offices (P := l.prog) (w := w) (mg := mg) (base := base) (A_Store := A_Store) q_need_offices z_len z_range z_tuple cl_Store jn_Store_size jn_Store_offices
  have C_need_offices : CalG l.prog w K mg base 1 "need_offices" 2 (F_need_offices A_Store) := ⟨_, _, _, rfl, O_need_offices, PySem.W.mg_of X G a_need_offices, k_need_offices, b_need_offices⟩
  have O_operation_table := ok_operation_table (P := l.prog) (w := w) (mg := mg) (base := base) (A_Store := A_Store) q_operation_table cl_Store jn_Store_size jn_Store_offices
  have C_operation_table : CalG l.prog w K mg base 1 "operation_table" 1 (F_operation_table A_Store) := ⟨_, _, _, rfl, O_operation_table, PySem.W.mg_of X G a_operation_table, k_operation_table, b_operation_table⟩
  have O_operations_of := ok_operations_of (P := l.prog) (w := w) (mg := mg) (base := base) (A_Store := A_Store) q_operations_of z_sorted z_tuple cl_Store jn_Store_size jn_Store_offices
  have C_operations_of : CalG l.prog w K mg base 1 "operations_of" 2 (F_operations_of A_Store) := ⟨_, _, _, rfl, O_operations_of, PySem.W.mg_of X G a_operations_of, k_operations_of, b_operations_of⟩
  have O_check_run := ok_check_run (P := l.prog) (w := w) (mg := mg) (base := base) (A_Store := A_Store) q_check_run z_enumerate z_isinstance z_tuple C_is_name C_need_office C_need_offices C_operations_of
  have D_check_run : CalD l.prog w K mg base 5 "check_run" 3 (F_check_run A_Store) [.non] := calD_none (n := 2) l_check_run d_check_run k_check_run kn_check_run rfl O_check_run (PySem.W.mg_of X G a_check_run) (fun _ _ _ _ _ _ us ks hl hk => match us, ks, hl, hk with | [_, _], [_], _, _ => ⟨_, _, _, _, _, _, rfl, rfl, rfl⟩)
  have O_passed := ok_passed (P := l.prog) (w := w) (mg := mg) (base := base) (A_Store := A_Store) q_passed z_tuple C_check_state C_operation_table D_check_run
  have C_passed : CalG l.prog w K mg base 6 "passed" 3 (F_passed A_Store) := ⟨_, _, _, rfl, O_passed, PySem.W.mg_of X G a_passed, k_passed, b_passed⟩
  have K_passed_012 : KwG l.prog w K mg base 6 "passed" ["store", "state", "run"] [0, 1, 2] 3 (F_passed A_Store) := ⟨_, _, _, rfl, O_passed, PySem.W.mg_of X G a_passed, k_passed, kb_mk q_passed (fun _ _ _ _ _ _ us hl => match us, hl with | [_, _, _], _ => rfl), rfl⟩
  have O_after := ok_after (P := l.prog) (w := w) (mg := mg) (base := base) (A_Store := A_Store) q_after C_passed
  have C_after : CalG l.prog w K mg base 7 "after" 3 (F_after A_Store) := ⟨_, _, _, rfl, O_after, PySem.W.mg_of X G a_after, k_after, b_after⟩
  have K_after_120 : KwG l.prog w K mg base 7 "after" ["run", "store", "state"] [1, 2, 0] 3 (F_after A_Store) := ⟨_, _, _, rfl, O_after, PySem.W.mg_of X G a_after, k_after, kb_mk q_after (fun _ _ _ _ _ _ us hl => match us, hl with | [_, _, _], _ => rfl), rfl⟩
  have O_answers_of := ok_answers_of (P := l.prog) (w := w) (mg := mg) (base := base) (A_Store := A_Store) q_answers_of z_enumerate z_tuple C_operation_table C_passed
  have C_answers_of : CalG l.prog w K mg base 7 "answers_of" 3 (F_answers_of A_Store) := ⟨_, _, _, rfl, O_answers_of, PySem.W.mg_of X G a_answers_of, k_answers_of, b_answers_of⟩
  have K_answers_of_210 : KwG l.prog w K mg base 7 "answers_of" ["run", "state", "store"] [2, 1, 0] 3 (F_answers_of A_Store) := ⟨_, _, _, rfl, O_answers_of, PySem.W.mg_of X G a_answers_of, k_answers_of, kb_mk q_answers_of (fun _ _ _ _ _ _ us hl => match us, hl with | [_, _, _], _ => rfl), rfl⟩
  have O_run_ends := ok_run_ends (P := l.prog) (w := w) (mg := mg) (base := base) (A_Store := A_Store) q_run_ends z_list z_range z_tuple cl_Store jn_Store_size jn_Store_offices C_operation_table D_check_run
  have C_run_ends : CalG l.prog w K mg base 6 "run_ends" 2 (F_run_ends A_Store) := ⟨_, _, _, rfl, O_run_ends, PySem.W.mg_of X G a_run_ends, k_run_ends, b_run_ends⟩
  have K_run_ends_10 : KwG l.prog w K mg base 6 "run_ends" ["run", "store"] [1, 0] 2 (F_run_ends A_Store) := ⟨_, _, _, rfl, O_run_ends, PySem.W.mg_of X G a_run_ends, k_run_ends, kb_mk q_run_ends (fun _ _ _ _ _ _ us hl => match us, hl with | [_, _], _ => rfl), rfl⟩
  have O_is_operation := ok_is_operation (P := l.prog) (w := w) (mg := mg) (base := base) q_is_operation z_isinstance z_len z_tuple c_MOST_ANSWER C_is_name C_is_row
  have C_is_operation : CalG l.prog w K mg base 5 "is_operation" 2 F_is_operation := ⟨_, _, _, rfl, O_is_operation, PySem.W.mg_of X G a_is_operation, k_is_operation, b_is_operation⟩
  have O_check_offices := ok_check_offices (P := l.prog) (w := w) (mg := mg) (base := base) q_check_offices z_enumerate z_isinstance z_len z_tuple c_MOST_STATES c_LEAST_OFFICES c_MOST_OFFICES c_MOST_OPERATIONS C_is_below C_is_operation
  have C_check_offices : CalG l.prog w K mg base 6 "check_offices" 2 F_check_offices := ⟨_, _, _, rfl, O_check_offices, PySem.W.mg_of X G a_check_offices, k_check_offices, b_check_offices⟩
  have M_Store : MkG l.prog w K mg base 7 "Store" "size" "offices" F_check_offices A_Store := ⟨_, _, ⟨ja_Store, j1_Store, j2_Store, jb_Store⟩, ok_Store_init qI_Store cl_Store jn_Store_size jn_Store_offices C_check_offices, bI_Store, g_Store⟩
  have O__law_box := ok__law_box (P := l.prog) (w := w) (mg := mg) (base := base) q__law_box z_abs z_int z_len
  have C__law_box : CalG l.prog w K mg base 1 "_law_box" 2 F__law_box := ⟨_, _, _, rfl, O__law_box, PySem.W.mg_of X G a__law_box, k__law_box, b__law_box⟩
  have O__law_take := ok__law_take (P := l.prog) (w := w) (mg := mg) (base := base) q__law_take z_int
  have C__law_take : CalG l.prog w K mg base 1 "_law_take" 2 F__law_take := ⟨_, _, _, rfl, O__law_take, PySem.W.mg_of X G a__law_take, k__law_take, b__law_take⟩
  have O__law_pick := ok__law_pick (P := l.prog) (w := w) (mg := mg) (base := base) q__law_pick z_len C__law_take
  have C__law_pick : CalG l.prog w K mg base 2 "_law_pick" 2 F__law_pick := ⟨_, _, _, rfl, O__law_pick, PySem.W.mg_of X G a__law_pick, k__law_pick, b__law_pick⟩
  have O__law_names := ok__law_names (P := l.prog) (w := w) (mg := mg) (base := base) q__law_names z_int z_len z_range C__law_pick C__law_take
  have C__law_names : CalG l.prog w K mg base 3 "_law_names" 2 F__law_names := ⟨_, _, _, rfl, O__law_names, PySem.W.mg_of X G a__law_names, k__law_names, b__law_names⟩
  have O__law_ends := ok__law_ends (P := l.prog) (w := w) (mg := mg) (base := base) q__law_ends z_int z_range z_tuple C__law_take
  have C__law_ends : CalG l.prog w K mg base 2 "_law_ends" 2 F__law_ends := ⟨_, _, _, rfl, O__law_ends, PySem.W.mg_of X G a__law_ends, k__law_ends, b__law_ends⟩
  have O__law_told := ok__law_told (P := l.prog) (w := w) (mg := mg) (base := base) q__law_told z_range z_tuple C__law_pick C__law_take
  have C__law_told : CalG l.prog w K mg base 3 "_law_told" 2 F__law_told := ⟨_, _, _, rfl, O__law_told, PySem.W.mg_of X G a__law_told, k__law_told, b__law_told⟩
  have O__law_offices := ok__law_offices (P := l.prog) (w := w) (mg := mg) (base := base) q__law_offices z_range z_tuple C__law_ends C__law_names C__law_pick C__law_take C__law_told
  have C__law_offices : CalG l.prog w K mg base 4 "_law_offices" 2 F__law_offices := ⟨_, _, _, rfl, O__law_offices, PySem.W.mg_of X G a__law_offices, k__law_offices, b__law_offices⟩
  have O__law_all := ok__law_all (P := l.prog) (w := w) (mg := mg) (base := base) q__law_all z_list z_sorted
  have C__law_all : CalG l.prog w K mg base 1 "_law_all" 1 F__law_all := ⟨_, _, _, rfl, O__law_all, PySem.W.mg_of X G a__law_all, k__law_all, b__law_all⟩
  have O__law_run := ok__law_run (P := l.prog) (w := w) (mg := mg) (base := base) q__law_run z_len z_range z_tuple C__law_pick C__law_take
  have C__law_run : CalG l.prog w K mg base 3 "_law_run" 3 F__law_run := ⟨_, _, _, rfl, O__law_run, PySem.W.mg_of X G a__law_run, k__law_run, b__law_run⟩
  have O__law_walk := ok__law_walk (P := l.prog) (w := w) (mg := mg) (base := base) q__law_walk z_tuple
  have C__law_walk : CalG l.prog w K mg base 1 "_law_walk" 3 F__law_walk := ⟨_, _, _, rfl, O__law_walk, PySem.W.mg_of X G a__law_walk, k__law_walk, b__law_walk⟩
  have O__law_table := ok__law_table (P := l.prog) (w := w) (mg := mg) (base := base) q__law_table C__law_all
  have C__law_table : CalG l.prog w K mg base 2 "_law_table" 1 F__law_table := ⟨_, _, _, rfl, O__law_table, PySem.W.mg_of X G a__law_table, k__law_table, b__law_table⟩
  have O__law_other := ok__law_other (P := l.prog) (w := w) (mg := mg) (base := base) q__law_other z_tuple
  have C__law_other : CalG l.prog w K mg base 1 "_law_other" 2 F__law_other := ⟨_, _, _, rfl, O__law_other, PySem.W.mg_of X G a__law_other, k__law_other, b__law_other⟩
  have O__law_right := ok__law_right (P := l.prog) (w := w) (mg := mg) (base := base) (A_Store := A_Store) q__law_right z_bool z_isinstance z_range z_repr z_tuple C__law_walk C_after C_answers_of C_passed C_run_ends K_after_120
  have C__law_right : CalG l.prog w K mg base 8 "_law_right" 4 (F__law_right A_Store) := ⟨_, _, _, rfl, O__law_right, PySem.W.mg_of X G a__law_right, k__law_right, b__law_right⟩
  have O__law_joined := ok__law_joined (P := l.prog) (w := w) (mg := mg) (base := base) (A_Store := A_Store) q__law_joined z_range C_after C_answers_of C_passed C_run_ends K_run_ends_10 K_passed_012 K_answers_of_210
  have C__law_joined : CalG l.prog w K mg base 8 "_law_joined" 4 (F__law_joined A_Store) := ⟨_, _, _, rfl, O__law_joined, PySem.W.mg_of X G a__law_joined, k__law_joined, b__law_joined⟩
  have O_law := ok_law (P := l.prog) (w := w) (mg := mg) (base := base) (A_Store := A_Store) q_law z_int z_len z_range C__law_all C__law_box C__law_joined C__law_offices C__law_other C__law_right C__law_run C__law_table C__law_take C_after C_answers_of C_passed M_Store
  refine O_law.weak fun vs H Q E ⟨a, ns, e1, e2, e3, e4, e5⟩ => ?_
  subst e1 e4 e5
  exact law_sp e2 e3 (hend A_Store ns e2)
end K09
open PySem PySem.W PyProof.Rows
set_option maxHeartbeats 0 in
theorem PySem.Challenge.cw_sharedunseen_k09_whole_ends_and_answers_holds : PySem.Challenge.rw_sharedunseen_k09_whole_ends_and_answers.Holds := by
  w_on; o_law; k_head; (case hw => w_witness2)
  k_fill
  refine Tr.walkG (l := PySem.Challenge.rw_sharedunseen_k09_whole_ends_and_answers) (n := 63) (k := 9) (x := "_law_script") (sp := fun w => fun vs H Q E => ∃ (a : Addr) (ns : List Int), vs = [.ref a] ∧ ns.length ≤ 63 ∧ L2.SqL _ H a (ns.map L2.V.int) ∧ Q = (fun v _ => v = .bl true) ∧ E = fun _ _ _ => False) rfl (by decide) rfl ⟨⟨rfl, by decide, by decide⟩, rfl⟩ (fun w h Y => PySem.W.kIn_of Y) ?F (fun _ _ a ns hl _ hS => ⟨a, ns, rfl, hl, hS, rfl, rfl⟩)
  case F =>
    intro w mg fa h KX G hmg
    refine' K09.all_mk KX G hmg ?a_is_integer ?l_is_integer ?d_is_integer ?k_is_integer ?a_is_number ?l_is_number ?d_is_number ?k_is_number ?a_is_below ?l_is_below ?d_is_below ?k_is_below ?a_is_letter ?l_is_letter ?d_is_letter ?k_is_letter ?a_is_name ?l_is_name ?d_is_name ?k_is_name ?a_is_row ?l_is_row ?d_is_row ?k_is_row ?a_check_state ?l_check_state ?d_check_state ?k_check_state ?a_need_office ?l_need_office ?d_need_office ?k_need_office ?a_need_offices ?l_need_offices ?d_need_offices ?k_need_offices ?a_operation_table ?l_operation_table ?d_operation_table ?k_operation_table ?a_operations_of ?l_operations_of ?d_operations_of ?k_operations_of ?a_check_run ?l_check_run ?d_check_run ?k_check_run ?kn_check_run ?a_passed ?l_passed ?d_passed ?k_passed ?a_after ?l_after ?d_after ?k_after ?a_answers_of ?l_answers_of ?d_answers_of ?k_answers_of ?a_run_ends ?l_run_ends ?d_run_ends ?k_run_ends ?a_is_operation ?l_is_operation ?d_is_operation ?k_is_operation ?a_check_offices ?l_check_offices ?d_check_offices ?k_check_offices ?a__law_box ?l__law_box ?d__law_box ?k__law_box ?a__law_take ?l__law_take ?d__law_take ?k__law_take ?a__law_pick ?l__law_pick ?d__law_pick ?k__law_pick ?a__law_names ?l__law_names ?d__law_names ?k__law_names ?a__law_ends ?l__law_ends ?d__law_ends ?k__law_ends ?a__law_told ?l__law_told ?d__law_told ?k__law_told ?a__law_offices ?l__law_offices ?d__law_offices ?k__law_offices ?a__law_all ?l__law_all ?d__law_all ?k__law_all ?a__law_run ?l__law_run ?d__law_run ?k__law_run ?a__law_walk ?l__law_walk ?d__law_walk ?k__law_walk ?a__law_table ?l__law_table ?d__law_table ?k__law_table ?a__law_other ?l__law_other ?d__law_other ?k__law_other ?a__law_right ?l__law_right ?d__law_right ?k__law_right ?a__law_joined ?l__law_joined ?d__law_joined ?k__law_joined ?a_law ?l_law ?d_law ?k_law ?y_abs ?y_all ?y_bool ?y_enumerate ?y_int ?y_isinstance ?y_len ?y_list ?y_range ?y_repr ?y_sorted ?y_str ?y_tuple ?gc_LETTERS ?gc_LONGEST_NAME ?gc_MOST_ANSWER ?gc_MOST_STATES ?gc_LEAST_OFFICES ?gc_MOST_OFFICES ?gc_MOST_OPERATIONS ?aC_Store ?j1_Store ?j2_Store ?j3_Store ?j4_Store ?j5_Store ?j6_Store ?j7_Store ?j8_Store ?j9_Store ?ja_Store ?jb_Store ?jn_Store_size ?jn_Store_offices K09.ends
    (case a_is_integer => k_is)
    (case l_is_integer => k_is)
    (case d_is_integer => k_is)
    (case k_is_integer => k_is)
    (case a_is_number => k_is)
    (case l_is_number => k_is)
    (case d_is_number => k_is)
    (case k_is_number => k_is)
    (case a_is_below => k_is)
    (case l_is_below => k_is)
    (case d_is_below => k_is)
    (case k_is_below => k_is)
    (case a_is_letter => k_is)
    (case l_is_letter => k_is)
    (case d_is_letter => k_is)
    (case k_is_letter => k_is)
    (case a_is_name => k_is)
    (case l_is_name => k_is)
    (case d_is_name => k_is)
    (case k_is_name => k_is)
    (case a_is_row => k_is)
    (case l_is_row => k_is)
    (case d_is_row => k_is)
    (case k_is_row => k_is)
    (case a_check_state => k_is)
    (case l_check_state => k_is)
    (case d_check_state => k_is)
    (case k_check_state => k_is)
    (case a_need_office => k_is)
    (case l_need_office => k_is)
    (case d_need_office => k_is)
    (case k_need_office => k_is)
    (case a_need_offices => k_is)
    (case l_need_offices => k_is)
    (case d_need_offices => k_is)
    (case k_need_offices => k_is)
    (case a_operation_table => k_is)
    (case l_operation_table => k_is)
    (case d_operation_table => k_is)
    (case k_operation_table => k_is)
    (case a_operations_of => k_is)
    (case l_operations_of => k_is)
    (case d_operations_of => k_is)
    (case k_operations_of => k_is)
    (case a_check_run => k_is)
    (case l_check_run => k_is)
    (case d_check_run => k_is)
    (case k_check_run => k_is)
    (case kn_check_run => k_is)
    (case a_passed => k_is)
    (case l_passed => k_is)
    (case d_passed => k_is)
    (case k_passed => k_is)
    (case a_after => k_is)
    (case l_after => k_is)
    (case d_after => k_is)
    (case k_after => k_is)
    (case a_answers_of => k_is)
    (case l_answers_of => k_is)
    (case d_answers_of => k_is)
    (case k_answers_of => k_is)
    (case a_run_ends => k_is)
    (case l_run_ends => k_is)
    (case d_run_ends => k_is)
    (case k_run_ends => k_is)
    (case a_is_operation => k_is)
    (case l_is_operation => k_is)
    (case d_is_operation => k_is)
    (case k_is_operation => k_is)
    (case a_check_offices => k_is)
    (case l_check_offices => k_is)
    (case d_check_offices => k_is)
    (case k_check_offices => k_is)
    (case a__law_box => k_is)
    (case l__law_box => k_is)
    (case d__law_box => k_is)
    (case k__law_box => k_is)
    (case a__law_take => k_is)
    (case l__law_take => k_is)
    (case d__law_take => k_is)
    (case k__law_take => k_is)
    (case a__law_pick => k_is)
    (case l__law_pick => k_is)
    (case d__law_pick => k_is)
    (case k__law_pick => k_is)
    (case a__law_names => k_is)
    (case l__law_names => k_is)
    (case d__law_names => k_is)
    (case k__law_names => k_is)
    (case a__law_ends => k_is)
    (case l__law_ends => k_is)
    (case d__law_ends => k_is)
    (case k__law_ends => k_is)
    (case a__law_told => k_is)
    (case l__law_told => k_is)
    (case d__law_told => k_is)
    (case k__law_told => k_is)
    (case a__law_offices => k_is)
    (case l__law_offices => k_is)
    (case d__law_offices => k_is)
    (case k__law_offices => k_is)
    (case a__law_all => k_is)
    (case l__law_all => k_is)
    (case d__law_all => k_is)
    (case k__law_all => k_is)
    (case a__law_run => k_is)
    (case l__law_run => k_is)
    (case d__law_run => k_is)
    (case k__law_run => k_is)
    (case a__law_walk => k_is)
    (case l__law_walk => k_is)
    (case d__law_walk => k_is)
    (case k__law_walk => k_is)
    (case a__law_table => k_is)
    (case l__law_table => k_is)
    (case d__law_table => k_is)
    (case k__law_table => k_is)
    (case a__law_other => k_is)
    (case l__law_other => k_is)
    (case d__law_other => k_is)
    (case k__law_other => k_is)
    (case a__law_right => k_is)
    (case l__law_right => k_is)
    (case d__law_right => k_is)
    (case k__law_right => k_is)
    (case a__law_joined => k_is)
    (case l__law_joined => k_is)
    (case d__law_joined => k_is)
    (case k__law_joined => k_is)
    (case a_law => k_is)
    (case l_law => k_is)
    (case d_law => k_is)
    (case k_law => k_is)
    (case y_abs => k_is)
    (case y_all => k_is)
    (case y_bool => k_is)
    (case y_enumerate => k_is)
    (case y_int => k_is)
    (case y_isinstance => k_is)
    (case y_len => k_is)
    (case y_list => k_is)
    (case y_range => k_is)
    (case y_repr => k_is)
    (case y_sorted => k_is)
    (case y_str => k_is)
    (case y_tuple => k_is)
    (case gc_LETTERS => k_is)
    (case gc_LONGEST_NAME => k_is)
    (case gc_MOST_ANSWER => k_is)
    (case gc_MOST_STATES => k_is)
    (case gc_LEAST_OFFICES => k_is)
    (case gc_MOST_OFFICES => k_is)
    (case gc_MOST_OPERATIONS => k_is)
    (case aC_Store => k_is)
    (case j1_Store => k_is)
    (case j2_Store => k_is)
    (case j3_Store => k_is)
    (case j4_Store => k_is)
    (case j5_Store => k_is)
    (case j6_Store => k_is)
    (case j7_Store => k_is)
    (case j8_Store => k_is)
    (case j9_Store => k_is)
    (case ja_Store => k_is)
    (case jb_Store => k_is)
    (case jn_Store_size => k_is)
    (case jn_Store_offices => k_is)
