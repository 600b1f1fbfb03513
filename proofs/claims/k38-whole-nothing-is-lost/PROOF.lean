import PyProof.Rows.All
import Wide.All
import OpenK.AllK
import Wide.FinOn
import HandS.ClsMeth
import HandS.Conv
import HandS.Dict
import HandS.Flow
import HandS.ForExc
import HandS.ForMost
import HandS.IsInst
import HandS.Iter
import HandS.Property
import HandS.RevRange
import HandS.SortInts
import HandS.SortOrd
import HandS.SortRule
import HandS.Star
import HandS.Style
import HandS.TryMany
import HandS.TupAny
import HandS.Wide
import KE.KDictPairs
import PySem.Challenge.RW_heapeffects_k38_whole_nothing_is_lost
set_option Elab.async false
set_option linter.all false
set_option maxRecDepth 100000
set_option maxHeartbeats 4000000
/-! tuples of which it is known that they have no dict of their own -/
namespace DL
open PySem PySem.Spec PyProof.Rows L2
def tupOb (its : List Value) : Obj := { cls := .type "tuple", data := .seq its.toArray }
def SqN (K : PySem.W.Frag) (F : Hp) (a : Addr) (vs : List V) : Prop :=
  (∃ o, F a = some (.frz o (.tup vs)) ∧ o.dict = none) ∨ ∃ o its n, K.lookup a = some o ∧ o.cls = .type "tuple" ∧ o.dict = none ∧ o.data = .seq its n ∧ its.size ≤ sizeLine ∧ Vals vs its.toList
theorem SqN.t {K : PySem.W.Frag} {F : Hp} {a : Addr} {vs : List V} (h : SqN K F a vs) : SqT K F a vs := by
  rcases h with ⟨o, h, _⟩ | ⟨o, its, n, h1, h2, _, h3, h4, h5⟩
  · exact .inl (.inr ⟨o, h⟩)
  · exact .inr ⟨o, its, n, h1, h2, h3, h4, h5⟩
section
variable {X : Cx} {pins : List (Addr × Obj)} {σ : L2.St} {H : Hp} {s : Shared} {xs ys : List V} {us : List Value} {a : Addr}
theorem tup_laid {h : Heap} {t' : Nat} (I : Inv X pins σ H { s with heap := h }) (r : Vals xs us) (z : xs.length ≤ sizeLine) : Inv X pins σ (upd H h.objs.size (.frz (tupOb us) (.tup xs))) { s with heap := h.push (tupOb us), toks := t' } :=
  I.laid (s := { s with heap := h }) (t' := t') (o := .frz (tupOb us) (.tup xs)) (fun b u e => Heap.get?_push_of_some _ e) (Nat.le_refl _) ⟨Heap.get?_push_size _ rfl, z, us, r, ⟨_, Heap.get?_push_size _ rfl, rfl, _, rfl⟩⟩
theorem tup_nodict (I : Inv X pins σ H s) (h : SqN X.K H a xs) : ∃ (its : List Value) (o : Obj) (n : Nat), Vals xs its ∧ xs.length ≤ sizeLine ∧ s.heap.get? a = some o ∧ o.cls = .type "tuple" ∧ o.dict = none ∧ o.data = .seq its.toArray n := by
  rcases h with ⟨o, h, hd⟩ | ⟨o, its, n, hk, hc, hd, hs, hz, r⟩
  · obtain ⟨e, z, its, r, o', e', hc, n, hs⟩ := I.hok a _ h
    rw [e] at e'
    cases e'
    exact ⟨its, o, n, r, z, e, hc, hd, hs⟩
  · refine ⟨its.toList, o, n, r, ?_, I.kIn a o hk, hc, hd, by simpa using hs⟩
    have e := r.length
    simp only [Array.length_toList] at e
    omega
/-- for a new tuple -/
def newT (xs : List V) (H : Hp) (Q : VK) : Prop := ∀ p o, o.dict = none → H p = none → Q (.ref p) (upd H p (.frz o (.tup xs)))
def tTupN (t : TA) : TE := fun σ H Q => t σ H fun xs H1 => xs.length ≤ sizeLine ∧ newT xs H1 Q
theorem pe_tupN {es : List Expr} {x1 pos} {t : TA} (h : PA X es t) : PE X (.Tuple es x1 pos) (tTupN t) := ⟨fun pins s σ H Q I hq =>
  wpAny_Tuple_spliced (thn (h.run pos pins s σ H _ I hq) fun us s1 ⟨xs, H1, I1, r, z, q⟩ => ⟨by rw [← r.length]; exact z,
    .ref s1.heap.objs.size, _, tup_laid (s := s1) (h := s1.heap) (t' := s1.toks) I1 r z, rfl, q _ _ rfl (I1.hok.fresh (Nat.le_refl _))⟩)⟩
/-- tuple(xs) -/
def rTupN (K : PySem.W.Frag) : List V → Hp → VK → Prop := fun xs H Q => ∃ p ys, xs = [.ref p] ∧ ((SqL K H p ys ∧ newT ys H Q) ∨ (SqT K H p ys ∧ Q (.ref p) H))
theorem call_tupN : CallR X (.type "tuple") (rTupN X.K) := by
  rintro pins s σ H xs us Q I r ⟨p, ys, rfl, h⟩
  obtain ⟨u, rfl, rx⟩ := vals1 r
  cases rx
  rcases h with ⟨hq, q⟩ | ⟨hq, q⟩
  · obtain ⟨its, r2, pl, hz⟩ := I.list hq
    have hlen := r2.length
    refine call_tuple_list pl.isList (fun g kp => ?_) (by simp only [List.size_toArray] <;> omega)
    have J : Inv X pins σ H { s with heap := g } := I.kept (t' := s.toks) kp
    exact ⟨.ref g.objs.size, _, tup_laid (s := s) (t' := s.toks) J r2 hz, rfl, q _ _ rfl (J.hok.fresh (Nat.le_refl _))⟩
  · obtain ⟨its, r2, pl, hz⟩ := I.tuple hq
    exact call_tuple_same pl ⟨.ref p, H, I, rfl, q⟩
/-- t + u -/
def rCatN (K : PySem.W.Frag) : R2 := fun x y H Q => ∃ a b xs ys, x = .ref a ∧ y = .ref b ∧ SqT K H a xs ∧ SqT K H b ys ∧ xs.length + ys.length ≤ sizeLine ∧
  (xs = [] → Q (.ref b) H) ∧ (xs ≠ [] → ys = [] → Q (.ref a) H) ∧ (xs ≠ [] → ys ≠ [] → newT (xs ++ ys) H Q)
theorem op_catN : OpR X (binaryOp .Add) (rCatN X.K) := by
  rintro pins s σ H x y v u Q I rx ry ⟨a, b, xs, ys, rfl, rfl, ha, hb, hz, q0, q1, q2⟩
  by_cases hx : xs = []
  · exact op_catA pins s σ H _ _ v u Q I rx ry ⟨a, b, xs, ys, rfl, rfl, ha, hb, hz, q0, q1, fun z => absurd hx z⟩
  · cases rx
    cases ry
    obtain ⟨its, r1, p1, _⟩ := I.tuple ha
    obtain ⟨jts, r2, p2, _⟩ := I.tuple hb
    refine HT.cat_tup p1 p2 (fun z => hx (r1.nil_iff.mp z)) (fun z => ⟨.ref a, H, I, rfl, q1 hx (r2.nil_iff.mp z)⟩) (fun z => ?_) (by rw [← r1.length, ← r2.length]; exact hz)
    exact ⟨.ref s.heap.objs.size, _, tup_laid (s := s) (h := s.heap) (t' := s.toks) I (r1.append r2) (by rw [List.length_append]; exact hz), rfl, q2 hx (fun w => z (r2.nil_iff.mpr w)) _ _ rfl (I.hok.fresh (Nat.le_refl _))⟩
/-- t[lo:hi] -/
def rSlN (K : PySem.W.Frag) : V → Option Int → Option Int → Hp → VK → Prop := fun x lo hi H Q => ∃ a xs, x = .ref a ∧ SqT K H a xs ∧
  (HT.sIx xs.length 0 lo = 0 ∧ HT.sIx xs.length xs.length hi = xs.length → Q (.ref a) H) ∧ (¬ (HT.sIx xs.length 0 lo = 0 ∧ HT.sIx xs.length xs.length hi = xs.length) → newT (cutV xs lo hi) H Q)
theorem sl_tupN : SlR X (rSlN X.K) := by
  rintro pins s σ H x v vl vu lo hi sl Q I rx hs pl pu ⟨a, xs, rfl, hx, q1, q2⟩
  by_cases hw : HT.sIx xs.length 0 lo = 0 ∧ HT.sIx xs.length xs.length hi = xs.length
  · exact sl_tupA pins s σ H _ v vl vu lo hi sl Q I rx hs pl pu ⟨a, xs, rfl, hx, q1, fun z => absurd hw z⟩
  · cases rx
    obtain ⟨its, r, ht, hz⟩ := I.tuple hx
    have hn : its.toArray.size = xs.length := by rw [List.size_toArray]; exact r.length.symm
    refine ⟨"tuple", _, PyProof.Rows.slot_tuple_getitem.lookup, ht.typeIs, HT.getItem_tuple_cut ht hs pl pu (by rw [hn]; exact hw) ?_ (by rw [hn]; exact hz)⟩
    rw [hn]
    exact ⟨.ref s.heap.objs.size, _, tup_laid (s := s) (h := s.heap) (t' := s.toks) I ((r.drop (HT.sIx xs.length 0 lo)).take (HT.sIx xs.length xs.length hi - HT.sIx xs.length 0 lo)) (Nat.le_trans (cutV_length xs lo hi) hz), rfl, q2 hw _ _ rfl (I.hok.fresh (Nat.le_refl _))⟩
end
end DL

/-! The data layer: what stands in the heap is told as data; only what is to be changed keeps its address. -/
namespace DL
open PySem PySem.Spec PyProof.Rows L2

/-- data: scalars, tuples, lists and instances that nobody changes any more; a reference to what may change or to a thing of the text -/
inductive D where
  | non | bl (b : Bool) | int (i : Int) | str (x : Str) | ref (a : Addr) | ty (n : String)
  | tup (ds : List D) | lst (ds : List D) | ins (C : Addr) (ns : List Str) (ds : List D) | dct (ks : List Key) (ds : List D) | pr (ds : List D)
instance : Inhabited D := ⟨.non⟩
abbrev Fr := PySem.W.Frag

mutual
/-- the value v stands for the data, in the part F of the heap that nobody changes -/
def Rep (K : Fr) (F : Hp) : D → V → Prop
  | .non, v => v = .non
  | .bl b, v => v = .bl b
  | .int i, v => v = .int i
  | .str x, v => v = .str x
  | .ref a, v => v = .ref a
  | .ty n, v => v = .ty n
  | .tup ds, v => ∃ a vs, v = .ref a ∧ SqN K F a vs ∧ Reps K F ds vs
  | .pr ds, v => ∃ a vs, v = .ref a ∧ SqT K F a vs ∧ Reps K F ds vs
  | .lst ds, v => ∃ a vs, v = .ref a ∧ SqL K F a vs ∧ Reps K F ds vs
  | .ins C ns ds, v => ∃ a dx fs, v = .ref a ∧ F a = some (.ins C dx fs) ∧ fs.map (·.1) = ns ∧ Reps K F ds (fs.map (·.2))
  | .dct ks ds, v => ∃ a kvs, v = .ref a ∧ F a = some (.dK kvs) ∧ kvs.map (·.1) = ks ∧ Reps K F ds (kvs.map (·.2))
def Reps (K : Fr) (F : Hp) : List D → List V → Prop
  | [], vs => vs = []
  | d :: ds, vs => ∃ v r, vs = v :: r ∧ Rep K F d v ∧ Reps K F ds r
end

/-- F grows to F' -/
def Le (F F' : Hp) : Prop := ∀ a o, F a = some o → F' a = some o
theorem Le.refl (F : Hp) : Le F F := fun _ _ h => h
theorem Le.trans {F G H : Hp} (a : Le F G) (b : Le G H) : Le F H := fun c o h => b c o (a c o h)
theorem Le.tup {K : Fr} {F F' : Hp} (l : Le F F') {a : Addr} {vs : List V} (h : SqT K F a vs) : SqT K F' a vs := by
  rcases h with (h | ⟨o, h⟩) | h
  · exact .inl (.inl (l _ _ h))
  · exact .inl (.inr ⟨o, l _ _ h⟩)
  · exact .inr h
theorem Le.tupN {K : Fr} {F F' : Hp} (l : Le F F') {a : Addr} {vs : List V} (h : SqN K F a vs) : SqN K F' a vs := by
  rcases h with ⟨o, h, e⟩ | h
  · exact .inl ⟨o, l _ _ h, e⟩
  · exact .inr h
theorem Le.lst {K : Fr} {F F' : Hp} (l : Le F F') {a : Addr} {vs : List V} (h : SqL K F a vs) : SqL K F' a vs := by
  rcases h with (h | ⟨o, h⟩) | h
  · exact .inl (.inl (l _ _ h))
  · exact .inl (.inr ⟨o, l _ _ h⟩)
  · exact .inr h


mutual
theorem Rep.mono {K : Fr} {F F' : Hp} (l : Le F F') : ∀ {d : D} {v : V}, Rep K F d v → Rep K F' d v
  | .non, _, h => h
  | .bl _, _, h => h
  | .int _, _, h => h
  | .str _, _, h => h
  | .ref _, _, h => h
  | .ty _, _, h => h
  | .tup ds, v, h => by
    unfold Rep at h ⊢
    obtain ⟨a, vs, e, q, r⟩ := h
    exact ⟨a, vs, e, l.tupN q, Reps.mono l r⟩
  | .pr ds, v, h => by
    unfold Rep at h ⊢
    obtain ⟨a, vs, e, q, r⟩ := h
    exact ⟨a, vs, e, l.tup q, Reps.mono l r⟩
  | .lst ds, v, h => by
    unfold Rep at h ⊢
    obtain ⟨a, vs, e, q, r⟩ := h
    exact ⟨a, vs, e, l.lst q, Reps.mono l r⟩
  | .ins C ns ds, v, h => by
    unfold Rep at h ⊢
    obtain ⟨a, dx, fs, e, q, n, r⟩ := h
    exact ⟨a, dx, fs, e, l _ _ q, n, Reps.mono l r⟩
  | .dct ks ds, v, h => by
    unfold Rep at h ⊢
    obtain ⟨a, kvs, e, q, n, r⟩ := h
    exact ⟨a, kvs, e, l _ _ q, n, Reps.mono l r⟩
theorem Reps.mono {K : Fr} {F F' : Hp} (l : Le F F') : ∀ {ds : List D} {vs : List V}, Reps K F ds vs → Reps K F' ds vs
  | [], _, h => h
  | d :: ds, vs, h => by
    unfold Reps at h ⊢
    obtain ⟨v, r, e, h1, h2⟩ := h
    exact ⟨v, r, e, Rep.mono l h1, Reps.mono l h2⟩
end
section
variable {K : Fr} {F : Hp}
theorem Reps.length : ∀ {ds : List D} {vs : List V}, Reps K F ds vs → ds.length = vs.length
  | [], _, h => by unfold Reps at h; subst h; rfl
  | d :: ds, vs, h => by
    unfold Reps at h
    obtain ⟨v, r, e, h1, h2⟩ := h
    subst e
    simp only [List.length_cons, Reps.length h2]
theorem Reps.nil : Reps K F [] [] := by unfold Reps; rfl
theorem Reps.cons {d : D} {v : V} {ds : List D} {vs : List V} (h : Rep K F d v) (r : Reps K F ds vs) : Reps K F (d :: ds) (v :: vs) := by
  unfold Reps; exact ⟨v, vs, rfl, h, r⟩
theorem Reps.get : ∀ {ds : List D} {vs : List V} {i : Nat} {v : V}, Reps K F ds vs → vs[i]? = some v → ∃ d, ds[i]? = some d ∧ Rep K F d v
  | [], vs, i, v, h, e => by unfold Reps at h; subst h; simp at e
  | d :: ds, vs, i, v, h, e => by
    unfold Reps at h
    obtain ⟨w, r, q, h1, h2⟩ := h
    subst q
    cases i with
    | zero => simp at e; subst e; exact ⟨d, rfl, h1⟩
    | succ i => simp at e; obtain ⟨d', e', r'⟩ := Reps.get h2 e; exact ⟨d', by simpa using e', r'⟩
theorem Reps.getD : ∀ {ds : List D} {vs : List V} {i : Nat} {d : D}, Reps K F ds vs → ds[i]? = some d → ∃ v, vs[i]? = some v ∧ Rep K F d v
  | [], vs, i, d, h, e => by simp at e
  | c :: ds, vs, i, d, h, e => by
    unfold Reps at h
    obtain ⟨w, r, q, h1, h2⟩ := h
    subst q
    cases i with
    | zero => simp at e; subst e; exact ⟨w, rfl, h1⟩
    | succ i => simp at e; obtain ⟨d', e', r'⟩ := Reps.getD h2 e; exact ⟨d', by simpa using e', r'⟩
theorem Reps.append : ∀ {ds es : List D} {vs ws : List V}, Reps K F ds vs → Reps K F es ws → Reps K F (ds ++ es) (vs ++ ws)
  | [], es, vs, ws, h, g => by unfold Reps at h; subst h; exact g
  | d :: ds, es, vs, ws, h, g => by
    unfold Reps at h
    obtain ⟨w, r, q, h1, h2⟩ := h
    subst q
    exact .cons h1 (Reps.append h2 g)
theorem Reps.set : ∀ {ds : List D} {vs : List V} {d : D} {v : V} (i : Nat), Reps K F ds vs → Rep K F d v → Reps K F (ds.set i d) (vs.set i v)
  | [], vs, d, v, i, h, g => by unfold Reps at h; subst h; exact .nil
  | c :: ds, vs, d, v, i, h, g => by
    unfold Reps at h
    obtain ⟨w, r, q, h1, h2⟩ := h
    subst q
    cases i with
    | zero => exact .cons g h2
    | succ i => exact .cons h1 (Reps.set i h2 g)
theorem Reps.take : ∀ {ds : List D} {vs : List V} (n : Nat), Reps K F ds vs → Reps K F (ds.take n) (vs.take n)
  | [], vs, n, h => by unfold Reps at h; subst h; simp only [List.take_nil]; exact .nil
  | c :: ds, vs, n, h => by
    unfold Reps at h
    obtain ⟨w, r, q, h1, h2⟩ := h
    subst q
    cases n with
    | zero => exact .nil
    | succ n => exact .cons h1 (Reps.take n h2)
theorem Reps.drop : ∀ {ds : List D} {vs : List V} (n : Nat), Reps K F ds vs → Reps K F (ds.drop n) (vs.drop n)
  | [], vs, n, h => by unfold Reps at h; subst h; simp only [List.drop_nil]; exact .nil
  | c :: ds, vs, n, h => by
    unfold Reps at h
    obtain ⟨w, r, q, h1, h2⟩ := h
    subst q
    cases n with
    | zero => exact .cons h1 h2
    | succ n => exact Reps.drop n h2
theorem Reps.reverse : ∀ {ds : List D} {vs : List V}, Reps K F ds vs → Reps K F ds.reverse vs.reverse
  | [], vs, h => by unfold Reps at h; subst h; exact .nil
  | c :: ds, vs, h => by
    unfold Reps at h
    obtain ⟨w, r, q, h1, h2⟩ := h
    subst q
    simp only [List.reverse_cons]
    exact (Reps.reverse h2).append (.cons h1 .nil)
theorem Reps.of_append : ∀ {ds es : List D} {vs : List V}, Reps K F (ds ++ es) vs → ∃ v1 v2, vs = v1 ++ v2 ∧ Reps K F ds v1 ∧ Reps K F es v2
  | [], es, vs, h => ⟨[], vs, rfl, .nil, h⟩
  | d :: ds, es, vs, h => by
    rw [List.cons_append] at h
    unfold Reps at h
    obtain ⟨w, r, q, h1, h2⟩ := h
    subst q
    obtain ⟨v1, v2, e, g1, g2⟩ := Reps.of_append h2
    subst e
    exact ⟨w :: v1, v2, rfl, .cons h1 g1, g2⟩
end

/-! ### what may change -/
inductive MO where
  | lst (ds : List D) | dK (kvs : List (Key × D)) | ins (C : Addr) (fs : List (Str × D))
abbrev MH := Addr → Option MO
def sett (M : MH) (a : Addr) (o : MO) : MH := fun b => if b = a then some o else M b
def dell (M : MH) (a : Addr) : MH := fun b => if b = a then none else M b
theorem sett_same {M : MH} {a : Addr} {o : MO} : sett M a o a = some o := by unfold sett; rw [if_pos rfl]
theorem sett_ne {M : MH} {a b : Addr} {o : MO} (h : b ≠ a) : sett M a o b = M b := by unfold sett; rw [if_neg h]
theorem sett_sett {M : MH} {a : Addr} {o u : MO} : sett (sett M a o) a u = sett M a u := by funext b; unfold sett; split <;> rfl
theorem dell_same {M : MH} {a : Addr} : dell M a a = none := by unfold dell; rw [if_pos rfl]
theorem dell_ne {M : MH} {a b : Addr} (h : b ≠ a) : dell M a b = M b := by unfold dell; rw [if_neg h]
theorem dell_sett {M : MH} {a : Addr} {o : MO} (h : M a = none) : dell (sett M a o) a = M := by
  funext b
  by_cases e : b = a
  · subst e; rw [dell_same, h]
  · rw [dell_ne e, sett_ne e]
theorem sett_comm {M : MH} {a b : Addr} {o u : MO} (h : a ≠ b) : sett (sett M a o) b u = sett (sett M b u) a o := by
  funext c; unfold sett
  by_cases h1 : c = b
  · subst h1; rw [if_pos rfl, if_neg (Ne.symm h), if_pos rfl]
  · rw [if_neg h1, if_neg h1]
/-- less may be changed: the rest is let lie -/
def Sub (M' M : MH) : Prop := ∀ a o, M' a = some o → M a = some o
theorem Sub.refl (M : MH) : Sub M M := fun _ _ h => h
theorem Sub.trans {A B C : MH} (h : Sub A B) (g : Sub B C) : Sub A C := fun a o q => g a o (h a o q)
theorem Sub.sett {M : MH} {p : Addr} {o : MO} (h : M p = none) : Sub M (sett M p o) := fun a u e => by
  by_cases q : a = p
  · subst q; rw [h] at e; cases e
  · rw [sett_ne q]; exact e
theorem Sub.sett' {M N : MH} {p : Addr} {o : MO} (s : Sub N M) (h : N p = none) : Sub N (DL.sett M p o) := fun a u e => by
  by_cases q : a = p
  · subst q; rw [h] at e; cases e
  · rw [sett_ne q]; exact s a u e
theorem Sub.dell {M : MH} {p : Addr} : Sub (dell M p) M := fun a u e => by
  by_cases q : a = p
  · subst q; rw [dell_same] at e; cases e
  · rw [dell_ne q] at e; exact e

def frz (M : MH) (H : Hp) : Hp := fun a => if (M a).isSome then none else H a
theorem frz_some {M : MH} {H : Hp} {a : Addr} {o : HO} (h : frz M H a = some o) : M a = none ∧ H a = some o := by
  unfold frz at h
  cases e : M a with
  | none => rw [e] at h; exact ⟨rfl, by simpa using h⟩
  | some u => rw [e] at h; simp at h
theorem frz_of {M : MH} {H : Hp} {a : Addr} {o : HO} (h : M a = none) (g : H a = some o) : frz M H a = some o := by
  unfold frz; rw [h]; simpa using g
theorem frz_le {M : MH} {H : Hp} : Le (frz M H) H := fun _ _ h => (frz_some h).2

def RepO (K : Fr) (F : Hp) : MO → HO → Prop
  | .lst ds, o => ∃ vs, o = .lst vs ∧ Reps K F ds vs
  | .dK kvs, o => ∃ us, o = .dK us ∧ us.map (·.1) = kvs.map (·.1) ∧ Reps K F (kvs.map (·.2)) (us.map (·.2))
  | .ins C fs, o => ∃ dx us, o = .ins C dx us ∧ us.map (·.1) = fs.map (·.1) ∧ Reps K F (fs.map (·.2)) (us.map (·.2))
theorem RepO.mono {K : Fr} {F F' : Hp} (l : Le F F') : ∀ {m : MO} {o : HO}, RepO K F m o → RepO K F' m o
  | .lst ds, o, h => by obtain ⟨vs, e, r⟩ := h; exact ⟨vs, e, r.mono l⟩
  | .dK kvs, o, h => by obtain ⟨us, e, n, r⟩ := h; exact ⟨us, e, n, r.mono l⟩
  | .ins C fs, o, h => by obtain ⟨dx, us, e, n, r⟩ := h; exact ⟨dx, us, e, n, r.mono l⟩
theorem RepO.mut {K : Fr} {F : Hp} : ∀ {m : MO} {o : HO}, RepO K F m o → Mut (some o)
  | .lst ds, o, h => by obtain ⟨vs, e, r⟩ := h; subst e; trivial
  | .dK kvs, o, h => by obtain ⟨us, e, n, r⟩ := h; subst e; trivial
  | .ins C fs, o, h => by obtain ⟨dx, us, e, n, r⟩ := h; subst e; trivial
/-- the heap holds what M says -/
def Sim (K : Fr) (M : MH) (H : Hp) : Prop := ∀ a o, M a = some o → ∃ ho, H a = some ho ∧ RepO K (frz M H) o ho
/-- what nobody changes stays -/
def Grow (M : MH) (H : Hp) (M' : MH) (H' : Hp) : Prop := Le (frz M H) (frz M' H')
theorem Grow.refl (M : MH) (H : Hp) : Grow M H M H := Le.refl _
theorem Grow.trans {M M1 M2 : MH} {H H1 H2 : Hp} (a : Grow M H M1 H1) (b : Grow M1 H1 M2 H2) : Grow M H M2 H2 := Le.trans a b

/-- a new thing that nobody will change -/
theorem grow_new {M : MH} {H : Hp} {p : Addr} {o : HO} (h : H p = none) : Grow M H M (upd H p o) := fun a u e => by
  obtain ⟨e1, e2⟩ := frz_some e
  exact frz_of e1 (by rw [upd_ne (ne_of_none e2 h)]; exact e2)
theorem Sim.free {K : Fr} {M : MH} {H : Hp} (s : Sim K M H) {p : Addr} (h : H p = none) : M p = none := by
  cases e : M p with
  | none => rfl
  | some o => obtain ⟨ho, q, _⟩ := s p o e; rw [h] at q; cases q
theorem Sim.new {K : Fr} {M : MH} {H : Hp} (s : Sim K M H) {p : Addr} {o : HO} (h : H p = none) : Sim K M (upd H p o) := fun a u e => by
  obtain ⟨ho, q, r⟩ := s a u e
  exact ⟨ho, by rw [upd_ne (ne_of_none q h)]; exact q, r.mono (grow_new h)⟩
theorem frz_new {M : MH} {H : Hp} {p : Addr} {o : HO} (h : M p = none) : frz M (upd H p o) p = some o := frz_of h upd_same
/-- a new thing that will be changed -/
theorem grow_newM {M : MH} {H : Hp} {p : Addr} {o : HO} {m : MO} (h : H p = none) : Grow M H (sett M p m) (upd H p o) := fun a u e => by
  obtain ⟨e1, e2⟩ := frz_some e
  have n := ne_of_none e2 h
  exact frz_of (by rw [sett_ne n]; exact e1) (by rw [upd_ne n]; exact e2)
theorem Sim.newM {K : Fr} {M : MH} {H : Hp} (s : Sim K M H) {p : Addr} {o : HO} {m : MO} (h : H p = none) (r : RepO K (frz M H) m o) : Sim K (sett M p m) (upd H p o) := fun a u e => by
  by_cases q : a = p
  · subst q; rw [sett_same] at e; cases e; exact ⟨o, upd_same, r.mono (grow_newM h)⟩
  · rw [sett_ne q] at e
    obtain ⟨ho, q1, r1⟩ := s a u e
    exact ⟨ho, by rw [upd_ne q]; exact q1, r1.mono (grow_newM h)⟩
/-- a change -/
theorem grow_put {M : MH} {H : Hp} {p : Addr} {o : HO} {m m0 : MO} (h : M p = some m0) : Grow M H (sett M p m) (upd H p o) := fun a u e => by
  obtain ⟨e1, e2⟩ := frz_some e
  have n : a ≠ p := fun z => by rw [z, h] at e1; cases e1
  exact frz_of (by rw [sett_ne n]; exact e1) (by rw [upd_ne n]; exact e2)
theorem Sim.put {K : Fr} {M : MH} {H : Hp} (s : Sim K M H) {p : Addr} {o : HO} {m m0 : MO} (h : M p = some m0) (r : RepO K (frz M H) m o) : Sim K (sett M p m) (upd H p o) := fun a u e => by
  by_cases q : a = p
  · subst q; rw [sett_same] at e; cases e; exact ⟨o, upd_same, r.mono (grow_put h)⟩
  · rw [sett_ne q] at e
    obtain ⟨ho, q1, r1⟩ := s a u e
    exact ⟨ho, by rw [upd_ne q]; exact q1, r1.mono (grow_put h)⟩
/-- to let lie -/
theorem grow_sub {M M' : MH} {H : Hp} (h : Sub M' M) : Grow M H M' H := fun a u e => by
  obtain ⟨e1, e2⟩ := frz_some e
  refine frz_of ?_ e2
  cases q : M' a with
  | none => rfl
  | some o => have := h a o q; rw [e1] at this; cases this
theorem Sim.sub {K : Fr} {M M' : MH} {H : Hp} (s : Sim K M H) (h : Sub M' M) : Sim K M' H := fun a u e => by
  obtain ⟨ho, q, r⟩ := s a u (h a u e)
  exact ⟨ho, q, r.mono (grow_sub h)⟩

/-! ### slots -/
abbrev Ro := List (Option D)
structure Slots (K : Fr) (F : Hp) (ρ : Ro) (σ : L2.St) : Prop where
  len : ρ.length = σ.length
  at_ : ∀ (i : Nat) (d : D), ρ[i]? = some (some d) → ∃ v, σ[i]? = some (some v) ∧ Rep K F d v
theorem Slots.mono {K : Fr} {F F' : Hp} {ρ : Ro} {σ : L2.St} (s : Slots K F ρ σ) (l : Le F F') : Slots K F' ρ σ :=
  ⟨s.len, fun i d e => let ⟨v, q, r⟩ := s.at_ i d e; ⟨v, q, r.mono l⟩⟩
theorem Slots.set {K : Fr} {F : Hp} {ρ : Ro} {σ : L2.St} (s : Slots K F ρ σ) {d : D} {v : V} (i : Nat) (r : Rep K F d v) : Slots K F (ρ.set i (some d)) (σ.set i (some v)) := by
  refine ⟨by simp [s.len], fun j e h => ?_⟩
  by_cases q : i = j
  · subst q
    by_cases hl : i < ρ.length
    · rw [List.getElem?_set_self hl] at h; cases h
      exact ⟨v, by rw [List.getElem?_set_self (by rw [← s.len]; exact hl)], r⟩
    · rw [List.getElem?_eq_none (by simpa using hl)] at h; cases h
  · rw [List.getElem?_set_ne q] at h ⊢
    exact s.at_ j e h
theorem Slots.none {K : Fr} {F : Hp} {ρ : Ro} {σ : L2.St} (s : Slots K F ρ σ) (i : Nat) : Slots K F (ρ.set i none) (σ.set i none) := by
  refine ⟨by simp [s.len], fun j e h => ?_⟩
  by_cases q : i = j
  · subst q
    by_cases hl : i < ρ.length
    · rw [List.getElem?_set_self hl] at h; cases h
    · rw [List.getElem?_eq_none (by simpa using hl)] at h; cases h
  · rw [List.getElem?_set_ne q] at h ⊢
    exact s.at_ j e h
theorem Slots.forget {K : Fr} {F : Hp} {ρ : Ro} {σ : L2.St} (s : Slots K F ρ σ) (i : Nat) : Slots K F (ρ.set i Option.none) σ := by
  refine ⟨by simp [s.len], fun j e h => ?_⟩
  by_cases q : i = j
  · subst q
    by_cases hl : i < ρ.length
    · rw [List.getElem?_set_self hl] at h; cases h
    · rw [List.getElem?_eq_none (by simpa using hl)] at h; cases h
  · rw [List.getElem?_set_ne q] at h
    exact s.at_ j e h

/-! ### judgements over data -/
/-- what is wanted of an exception: its class, its field's name and data, what may change -/
abbrev EX := Addr → Str → D → MH → Prop
abbrev DTE := Ro → MH → (D → MH → Prop) → EX → Prop
abbrev DTT := Ro → MH → (Bool → MH → Prop) → EX → Prop
abbrev DTA := Ro → MH → (List D → MH → Prop) → EX → Prop
structure DEnds where
  nx : Ro → MH → Prop
  rt : D → MH → Prop
  bk : Ro → MH → Prop := fun _ _ => False
  ct : Ro → MH → Prop := fun _ _ => False
  ex : Addr → Str → D → Ro → MH → Prop
abbrev DTS := DEnds → Ro → MH → Prop
abbrev DTG := D → Ro → MH → (Ro → MH → Prop) → Prop
abbrev DTGs := List D → Ro → MH → (Ro → MH → Prop) → Prop
abbrev DTI := Ro → MH → (List D → MH → Prop) → EX → Prop

/-- the exception's way out -/
def exK (K : Fr) (W : WX) (M : MH) (H : Hp) (σ : L2.St) (E : EX) : Prop :=
  ∀ C f d M' H' dd v, E C f d M' → Sim K M' H' → Grow M H M' H' → H' dd = some (.xd [(f, v)]) → Rep K (frz M' H') d v → W (.ref C) (some dd) σ H'
def lE (K : Fr) (W : WX) (t : DTE) : TE := fun σ H Q => ∃ ρ M P E, Slots K (frz M H) ρ σ ∧ Sim K M H ∧ t ρ M P E ∧
  (∀ d M' v H', P d M' → Sim K M' H' → Grow M H M' H' → Rep K (frz M' H') d v → Q v H') ∧ exK K W M H σ E
def lT (K : Fr) (W : WX) (t : DTT) : TT := fun σ H Q => ∃ ρ M P E, Slots K (frz M H) ρ σ ∧ Sim K M H ∧ t ρ M P E ∧
  (∀ b M' H', P b M' → Sim K M' H' → Grow M H M' H' → Q b H') ∧ exK K W M H σ E
def lA (K : Fr) (W : WX) (t : DTA) : TA := fun σ H Q => ∃ ρ M P E, Slots K (frz M H) ρ σ ∧ Sim K M H ∧ t ρ M P E ∧
  (∀ ds M' vs H', P ds M' → Sim K M' H' → Grow M H M' H' → Reps K (frz M' H') ds vs → Q vs H') ∧ exK K W M H σ E
def exKS (K : Fr) (W : WX) (M : MH) (H : Hp) (E : Addr → Str → D → Ro → MH → Prop) : Prop :=
  ∀ C f d ρ' M' σ' H' dd v, E C f d ρ' M' → Slots K (frz M' H') ρ' σ' → Sim K M' H' → Grow M H M' H' → H' dd = some (.xd [(f, v)]) → Rep K (frz M' H') d v → W (.ref C) (some dd) σ' H'
def nxK (K : Fr) (M : MH) (H : Hp) (P : Ro → MH → Prop) (Q : L2.St → Hp → Prop) : Prop :=
  ∀ ρ' M' σ' H', P ρ' M' → Slots K (frz M' H') ρ' σ' → Sim K M' H' → Grow M H M' H' → Q σ' H'
def rtK (K : Fr) (M : MH) (H : Hp) (P : D → MH → Prop) (Q : VK) : Prop :=
  ∀ d M' v H', P d M' → Sim K M' H' → Grow M H M' H' → Rep K (frz M' H') d v → Q v H'
structure EndK (K : Fr) (W : WX) (M : MH) (H : Hp) (N : DEnds) (DD : Ends) : Prop where
  nx : nxK K M H N.nx DD.nx
  rt : rtK K M H N.rt DD.rt
  bk : nxK K M H N.bk DD.bk
  ct : nxK K M H N.ct DD.ct
  ex : exKS K W M H N.ex
def lS (K : Fr) (W : WX) (t : DTS) : TS := fun DD σ H => ∃ ρ M N, Slots K (frz M H) ρ σ ∧ Sim K M H ∧ t N ρ M ∧ EndK K W M H N DD
def lG (K : Fr) (t : DTG) : TG := fun v σ H Q => ∃ ρ M d P, Slots K (frz M H) ρ σ ∧ Sim K M H ∧ Rep K (frz M H) d v ∧ t d ρ M P ∧ nxK K M H P Q
def lGs (K : Fr) (t : DTGs) : TGs := fun vs σ H Q => ∃ ρ M ds P, Slots K (frz M H) ρ σ ∧ Sim K M H ∧ Reps K (frz M H) ds vs ∧ t ds ρ M P ∧ nxK K M H P Q
/-- J walks ds, whatever happens to what may change -/
structure Wk (K : Fr) (J : It) (ds : List D) (F : Hp) : Prop where
  go : ∀ M H, Sim K M H → Le F (frz M H) → ∀ i d, ds[i]? = some d → J.go i H ∧ ∀ x H', J.yld i H x H' → Sim K M H' ∧ Grow M H M H' ∧ Rep K (frz M H') d x
  stop : ∀ M H, Sim K M H → Le F (frz M H) → ∀ i, ds.length ≤ i → J.stop i H
def lI (K : Fr) (W : WX) (t : DTI) : TI := fun σ H R => ∃ ρ M P E, Slots K (frz M H) ρ σ ∧ Sim K M H ∧ t ρ M P E ∧
  (∀ ds M' J H', P ds M' → Sim K M' H' → Grow M H M' H' → Wk K J ds (frz M' H') → R J H') ∧ exK K W M H σ E

abbrev DE (X : Cx) (W : WX) (e : Expr) (t : DTE) : Prop := PE X e (lE X.K W t)
abbrev DT (X : Cx) (W : WX) (e : Expr) (t : DTT) : Prop := PT X e (lT X.K W t)
abbrev DW (X : Cx) (W : WX) (e : Expr) (t : DTT) : Prop := PW X e (lT X.K W t)
abbrev DA (X : Cx) (W : WX) (es : List Expr) (t : DTA) : Prop := PA X es (lA X.K W t)
abbrev DS (X : Cx) (W : WX) (st : Stmt) (t : DTS) : Prop := PS X st (lS X.K W t)
abbrev DSs (X : Cx) (W : WX) (st : List Stmt) (t : DTS) : Prop := PSs X st (lS X.K W t)
abbrev DG (X : Cx) (e : Expr) (t : DTG) : Prop := PG X e (lG X.K t)
abbrev DGs (X : Cx) (e : List Expr) (t : DTGs) : Prop := PGs X e (lGs X.K t)
abbrev DI (X : Cx) (W : WX) (tg it : Expr) (t : DTI) : Prop := PI X tg it (lI X.K W t)

theorem PE.to {X : Cx} {e : Expr} {t u : TE} (h : PE X e t) (q : ∀ σ H Q, u σ H Q → t σ H Q) : PE X e u := ⟨fun p s σ H Q I w => h.run p s σ H Q I (q _ _ _ w)⟩
theorem PT.to {X : Cx} {e : Expr} {t u : TT} (h : PT X e t) (q : ∀ σ H Q, u σ H Q → t σ H Q) : PT X e u := ⟨fun p s σ H Q I w => h.run p s σ H Q I (q _ _ _ w)⟩
theorem PW.to {X : Cx} {e : Expr} {t u : TT} (h : PW X e t) (q : ∀ σ H Q, u σ H Q → t σ H Q) : PW X e u := ⟨fun wh p s σ H Q I w => h.run wh p s σ H Q I (q _ _ _ w)⟩
theorem PA.to {X : Cx} {e : List Expr} {t u : TA} (h : PA X e t) (q : ∀ σ H Q, u σ H Q → t σ H Q) : PA X e u := ⟨fun pos p s σ H Q I w => h.run pos p s σ H Q I (q _ _ _ w)⟩
theorem PS.to {X : Cx} {e : Stmt} {t u : TS} (h : PS X e t) (q : ∀ D σ H, u D σ H → t D σ H) : PS X e u := ⟨fun p s σ H D I w => h.run p s σ H D I (q _ _ _ w)⟩
theorem PSs.to {X : Cx} {e : List Stmt} {t u : TS} (h : PSs X e t) (q : ∀ D σ H, u D σ H → t D σ H) : PSs X e u := ⟨fun p s σ H D I w => h.run p s σ H D I (q _ _ _ w)⟩
theorem PG.to {X : Cx} {e : Expr} {t u : TG} (h : PG X e t) (q : ∀ v σ H Q, u v σ H Q → t v σ H Q) : PG X e u := ⟨fun p s σ H v w Q I r z => h.run p s σ H v w Q I r (q _ _ _ _ z)⟩
theorem PGs.to {X : Cx} {e : List Expr} {t u : TGs} (h : PGs X e t) (q : ∀ v σ H Q, u v σ H Q → t v σ H Q) : PGs X e u := ⟨fun p s σ H v w Q I r z => h.run p s σ H v w Q I r (q _ _ _ _ z)⟩
theorem PI.to {X : Cx} {tg e : Expr} {t u : TI} (h : PI X tg e t) (q : ∀ σ H R, u σ H R → t σ H R) : PI X tg e u := ⟨fun p s σ H R I w => h.run p s σ H R I (q _ _ _ w)⟩

section
variable {K : Fr} {W : WX} {M M1 M2 : MH} {H H1 H2 : Hp} {σ : L2.St} {E : EX}
theorem exK.later (h : exK K W M H σ E) (g : Grow M H M1 H1) : exK K W M1 H1 σ E := fun C f d M' H' dd v e s gg x r => h C f d M' H' dd v e s (g.trans gg) x r
theorem exKS.later {E : Addr → Str → D → Ro → MH → Prop} (h : exKS K W M H E) (g : Grow M H M1 H1) : exKS K W M1 H1 E := fun C f d ρ' M' σ' H' dd v e sl s gg x r => h C f d ρ' M' σ' H' dd v e sl s (g.trans gg) x r
theorem nxK.later {P : Ro → MH → Prop} {Q : L2.St → Hp → Prop} (h : nxK K M H P Q) (g : Grow M H M1 H1) : nxK K M1 H1 P Q := fun ρ' M' σ' H' p sl s gg => h ρ' M' σ' H' p sl s (g.trans gg)
theorem rtK.later {P : D → MH → Prop} {Q : VK} (h : rtK K M H P Q) (g : Grow M H M1 H1) : rtK K M1 H1 P Q := fun d M' v H' p s gg r => h d M' v H' p s (g.trans gg) r
theorem EndK.later {N : DEnds} {DD : Ends} (h : EndK K W M H N DD) (g : Grow M H M1 H1) : EndK K W M1 H1 N DD := ⟨h.nx.later g, h.rt.later g, h.bk.later g, h.ct.later g, h.ex.later g⟩
theorem EndK.exE {N : DEnds} {DD : Ends} {ρ : Ro} (h : EndK K W M H N DD) (sl : Slots K (frz M H) ρ σ) : exK K W M H σ (fun C f d M' => N.ex C f d ρ M') :=
  fun C f d M' H' dd v e s g x r => h.ex C f d ρ M' σ H' dd v e (sl.mono g) s g x r
end
end DL

namespace DL
open PySem PySem.Spec PyProof.Rows L2

section
variable {X : Cx} {W : WX} {a b c e : Expr} {es : List Expr} {ta tb tc : DTE} {pos p p' : Pos}

/-! ### names and constants -/
def dVar (i : Nat) : DTE := fun ρ M P _ => match ρ[i]? with | some (some d) => P d M | _ => False
def dC (d : D) : DTE := fun _ M P _ => P d M
theorem de_of {e : Expr} {te : TE} {t : DTE} (h : PE X e te) (q : ∀ σ H Q ρ M P E, Slots X.K (frz M H) ρ σ → Sim X.K M H → t ρ M P E → rtK X.K M H P Q → exK X.K W M H σ E → te σ H Q) : DE X W e t :=
  PE.to h fun σ H Q ⟨ρ, M, P, E, sl, s, w, k, ex⟩ => q σ H Q ρ M P E sl s w k ex
theorem dv (i : Nat) {x : Str} {pos : Pos} (hN : X.N[i]? = some x := by rfl) (hv : Vis X.env.scope x := by first | exact Or.inl rfl | exact Or.inr (Or.inl rfl) | exact Or.inr (Or.inr rfl)) (hd : (x == ("__debug__" : Str)) = false := by decide)
    (hcd : (x == ("__classdict__" : Str)) = false := by decide) : DE X W (.Name x pos) (dVar i) := de_of (pe_var hN hv hd hcd) fun σ H Q ρ M P E sl s w k ex => by
  unfold dVar at w
  split at w
  · rename_i d h
    obtain ⟨v, q, r⟩ := sl.at_ i d h
    exact ⟨v, q, k d M v H w s (.refl _ _) r⟩
  · exact w.elim
theorem rep_non {K : Fr} {F : Hp} : Rep K F .non .non := by unfold Rep; rfl
theorem rep_bl {K : Fr} {F : Hp} {b : Bool} : Rep K F (.bl b) (.bl b) := by unfold Rep; rfl
theorem rep_int {K : Fr} {F : Hp} {i : Int} : Rep K F (.int i) (.int i) := by unfold Rep; rfl
theorem rep_str {K : Fr} {F : Hp} {i : Str} : Rep K F (.str i) (.str i) := by unfold Rep; rfl
theorem rep_ref {K : Fr} {F : Hp} {i : Addr} : Rep K F (.ref i) (.ref i) := by unfold Rep; rfl
theorem rep_ty {K : Fr} {F : Hp} {i : String} : Rep K F (.ty i) (.ty i) := by unfold Rep; rfl
theorem rep_lst {K : Fr} {F : Hp} {a : Addr} {ds : List D} {vs : List V} (h : SqL K F a vs) (r : Reps K F ds vs) : Rep K F (.lst ds) (.ref a) := by unfold Rep; exact ⟨a, vs, rfl, h, r⟩
theorem rep_tup {K : Fr} {F : Hp} {a : Addr} {ds : List D} {vs : List V} (h : SqN K F a vs) (r : Reps K F ds vs) : Rep K F (.tup ds) (.ref a) := by unfold Rep; exact ⟨a, vs, rfl, h, r⟩
theorem rep_pr {K : Fr} {F : Hp} {a : Addr} {ds : List D} {vs : List V} (h : SqT K F a vs) (r : Reps K F ds vs) : Rep K F (.pr ds) (.ref a) := by unfold Rep; exact ⟨a, vs, rfl, h, r⟩
theorem de_c {te : TE} {d : D} {v : V} (h : PE X e (tC v)) (r : ∀ F, Rep X.K F d v) : DE X W e (dC d) := de_of h fun σ H Q ρ M P E sl s w k ex => k d M v H w s (.refl _ _) (r _)
theorem de_int {i j pos} : DE X W (.Constant (.int i) j pos) (dC (.int i)) := de_c (te := tC .non) pe_int fun _ => rep_int
theorem de_bl {b j pos} : DE X W (.Constant (.bool b) j pos) (dC (.bl b)) := de_c (te := tC .non) pe_bl fun _ => rep_bl
theorem de_non {j pos} : DE X W (.Constant .none j pos) (dC .non) := de_c (te := tC .non) pe_non fun _ => rep_non
theorem de_str {x j pos} : DE X W (.Constant (.str x) j pos) (dC (.str x)) := de_c (te := tC .non) pe_str fun _ => rep_str
/-- a module's name: an int, a reference, or written data -/
theorem de_glob {x : Str} {d : D} {v : V} {u : Value} {pos : Pos} (hg : Gl X x) (hm : X.mg x = some u) (r : RelV v u) (rd : ∀ F, Rep X.K F d v) (hd : (x == ("__debug__" : Str)) = false := by decide) : DE X W (.Name x pos) (dC d) :=
  de_c (te := tC .non) (pe_glob hg hm r hd) rd
theorem de_bltn {x : Str} {T : String} {pos : Pos} (hg : Gl X x) (hm : X.mg x = none) (hv : bootBuiltins x = some (.type T)) (hn : x ≠ "__name__" := by decide) (hd : (x == ("__debug__" : Str)) = false := by decide) : DE X W (.Name x pos) (dC (.ty T)) :=
  de_c (te := tC .non) (pe_bltn (v := .ty T) hg hm hv rfl hn hd) fun _ => rep_ty

/-! ### operators by values -/
abbrev DR2 := D → D → MH → (D → MH → Prop) → Prop
def OpD (K : Fr) (r : R2) (r' : DR2) : Prop := ∀ M H x y vx vy P Q, Sim K M H → Rep K (frz M H) x vx → Rep K (frz M H) y vy → r' x y M P → rtK K M H P Q → r vx vy H Q
def dOp (r : DR2) (ta tb : DTE) : DTE := fun ρ M P E => ta ρ M (fun x M1 => tb ρ M1 (fun y M2 => r x y M2 P) E) E
theorem lE_intro {K : Fr} {W : WX} {t : DTE} {σ : L2.St} {H : Hp} {ρ : Ro} {M : MH} {P : D → MH → Prop} {E : EX} {Q : VK} (sl : Slots K (frz M H) ρ σ) (s : Sim K M H) (w : t ρ M P E)
    (k : rtK K M H P Q) (ex : exK K W M H σ E) : lE K W t σ H Q := ⟨ρ, M, P, E, sl, s, w, k, ex⟩
theorem op_to {r : R2} {r' : DR2} (h : OpD X.K r r') {σ : L2.St} {H : Hp} {Q : VK} {ρ : Ro} {M : MH} {P : D → MH → Prop} {E : EX} (sl : Slots X.K (frz M H) ρ σ) (s : Sim X.K M H) (w : dOp r' ta tb ρ M P E)
    (k : rtK X.K M H P Q) (ex : exK X.K W M H σ E) : tOp r (lE X.K W ta) (lE X.K W tb) σ H Q :=
  lE_intro sl s w (fun x M1 vx H1 w1 s1 g1 r1 => lE_intro (sl.mono g1) s1 w1 (fun y M2 vy H2 w2 s2 g2 r2 => h M2 H2 x y vx vy P Q s2 (r1.mono g2) r2 w2 (k.later (g1.trans g2))) (ex.later g1)) ex
theorem de_op {op : Operator} {r : R2} {r' : DR2} (ho : OpR X (binaryOp op) r) (h : OpD X.K r r') (ha : DE X W a ta) (hb : DE X W b tb) : DE X W (.BinOp a op b pos) (dOp r' ta tb) :=
  de_of (pe_op ho ha hb) fun σ H Q ρ M P E sl s w k ex => op_to h sl s w k ex
theorem de_cmp {op : CmpOp} {r : R2} {r' : DR2} (ho : OpR X (compareOp op) r) (h : OpD X.K r r') (ha : DE X W a ta) (hb : DE X W b tb) (hm : behindInMarks op b = false) : DE X W (.Compare a [op] [b] pos) (dOp r' ta tb) :=
  de_of (pe_cmpR ho ha hb hm) fun σ H Q ρ M P E sl s w k ex => op_to h sl s w k ex
theorem de_ix {r : R2} {r' : DR2} (ho : IxR X r) (h : OpD X.K r r') (ha : DE X W a ta) (hb : DE X W b tb) (hs : PlainIx b) : DE X W (.Subscript a b pos) (dOp r' ta tb) :=
  de_of (pe_ix ho ha hb hs) fun σ H Q ρ M P E sl s w k ex => op_to h sl s w k ex
/-- ints under a condition -/
def dI (C : Int → Int → Prop) (g : Int → Int → D) : DR2 := fun x y M P => match x, y with | .int i, .int j => C i j ∧ P (g i j) M | _, _ => False
def dI0 (g : Int → Int → D) : DR2 := fun x y M P => match x, y with | .int i, .int j => P (g i j) M | _, _ => False
theorem rep_int_inv {K : Fr} {F : Hp} {i : Int} {v : V} (h : Rep K F (.int i) v) : v = .int i := by unfold Rep at h; exact h
theorem rep_bl_inv {K : Fr} {F : Hp} {i : Bool} {v : V} (h : Rep K F (.bl i) v) : v = .bl i := by unfold Rep at h; exact h
theorem rep_ref_inv {K : Fr} {F : Hp} {i : Addr} {v : V} (h : Rep K F (.ref i) v) : v = .ref i := by unfold Rep at h; exact h
theorem opd_I {C : Int → Int → Prop} {g : Int → Int → Int} {K : Fr} : OpD K (rI C fun i j => .int (g i j)) (dI C fun i j => .int (g i j)) := by
  intro M H x y vx vy P Q s rx ry w k
  unfold dI at w
  split at w
  · rename_i i j
    rw [rep_int_inv rx, rep_int_inv ry]
    exact ⟨i, j, rfl, rfl, w.1, k _ M _ H w.2 s (.refl _ _) rep_int⟩
  · exact w.elim
theorem opd_I0 {g : Int → Int → Int} {K : Fr} : OpD K (rI0 fun i j => .int (g i j)) (dI0 fun i j => .int (g i j)) := by
  intro M H x y vx vy P Q s rx ry w k
  unfold dI0 at w
  split at w
  · rename_i i j
    rw [rep_int_inv rx, rep_int_inv ry]
    exact ⟨i, j, rfl, rfl, k _ M _ H w s (.refl _ _) rep_int⟩
  · exact w.elim
theorem opd_B0 {g : Int → Int → Bool} {K : Fr} : OpD K (rI0 fun i j => .bl (g i j)) (dI0 fun i j => .bl (g i j)) := by
  intro M H x y vx vy P Q s rx ry w k
  unfold dI0 at w
  split at w
  · rename_i i j
    rw [rep_int_inv rx, rep_int_inv ry]
    exact ⟨i, j, rfl, rfl, k _ M _ H w s (.refl _ _) rep_bl⟩
  · exact w.elim
abbrev dAdd := dOp (dI0 fun i j => .int (i + j))
abbrev dSub := dOp (dI0 fun i j => .int (i - j))
abbrev dMul := dOp (dI CMul fun i j => .int (i * j))
abbrev dMulW := dOp (dI IntMulOk fun i j => .int (i * j))
abbrev dMod := dOp (dI (fun _ j => 0 < j) fun i j => .int (i % j))
abbrev dPow := dOp (dI CPow fun i j => .int (i ^ j.toNat))
abbrev dLt := dOp (dI0 fun i j => .bl (decide (i < j)))
abbrev dLe := dOp (dI0 fun i j => .bl (decide (i ≤ j)))
abbrev dGt := dOp (dI0 fun i j => .bl (decide (j < i)))
abbrev dGe := dOp (dI0 fun i j => .bl (decide (j ≤ i)))
theorem de_add (ha : DE X W a ta) (hb : DE X W b tb) : DE X W (.BinOp a .Add b pos) (dAdd ta tb) := de_op op_add opd_I0 ha hb
theorem de_sub (ha : DE X W a ta) (hb : DE X W b tb) : DE X W (.BinOp a .Sub b pos) (dSub ta tb) := de_op op_sub opd_I0 ha hb
theorem de_mul (ha : DE X W a ta) (hb : DE X W b tb) : DE X W (.BinOp a .Mult b pos) (dMul ta tb) := de_op op_mul opd_I ha hb
theorem op_mulK : OpR X (binaryOp .Mult) (rI IntMulOk fun i j => .int (i * j)) := opI fun _ _ _ _ _ _ _ hc q => mul_int q hc
theorem de_mulW (ha : DE X W a ta) (hb : DE X W b tb) : DE X W (.BinOp a .Mult b pos) (dMulW ta tb) := de_op op_mulK opd_I ha hb
theorem de_mod (ha : DE X W a ta) (hb : DE X W b tb) : DE X W (.BinOp a .Mod b pos) (dMod ta tb) := de_op op_mod opd_I ha hb
theorem de_pow (ha : DE X W a ta) (hb : DE X W b tb) : DE X W (.BinOp a .Pow b pos) (dPow ta tb) := de_op op_pow opd_I ha hb
theorem de_lt (ha : DE X W a ta) (hb : DE X W b tb) : DE X W (.Compare a [.Lt] [b] pos) (dLt ta tb) := de_cmp op_lt opd_B0 ha hb (nomark _)
theorem de_le (ha : DE X W a ta) (hb : DE X W b tb) : DE X W (.Compare a [.LtE] [b] pos) (dLe ta tb) := de_cmp op_le opd_B0 ha hb (nomark _)
theorem de_gt (ha : DE X W a ta) (hb : DE X W b tb) : DE X W (.Compare a [.Gt] [b] pos) (dGt ta tb) := de_cmp op_gt opd_B0 ha hb (nomark _)
theorem de_ge (ha : DE X W a ta) (hb : DE X W b tb) : DE X W (.Compare a [.GtE] [b] pos) (dGe ta tb) := de_cmp op_ge opd_B0 ha hb (nomark _)
end
end DL

namespace DL
open PySem PySem.Spec PyProof.Rows L2
/-! ### equality of data -/
mutual
def toP : D → PyData
  | .bl b => .bool b
  | .int i => .int i
  | .str x => .str x
  | .tup ds => .tuple (toPs ds)
  | .lst ds => .list (toPs ds)
  | _ => .none
def toPs : List D → List PyData
  | [] => []
  | d :: ds => toP d :: toPs ds
end
mutual
/-- scalars, tuples and lists of them -/
def okD : D → Bool
  | .non => true
  | .bl _ => true
  | .int _ => true
  | .str x => PyData.canLay0 (.str x)
  | .tup ds => okDs ds
  | .lst ds => okDs ds
  | _ => false
def okDs : List D → Bool
  | [] => true
  | d :: ds => okD d && okDs ds
end
mutual
def dep : D → Nat
  | .tup ds => deps ds + 1
  | .lst ds => deps ds + 1
  | _ => 0
def deps : List D → Nat
  | [] => 0
  | d :: ds => max (dep d) (deps ds)
end
mutual
/-- no bool meets an int -/
def eqOk : D → D → Bool
  | .bl _, .int _ => false
  | .int _, .bl _ => false
  | .tup xs, .tup ys => eqOks xs ys
  | .lst xs, .lst ys => eqOks xs ys
  | _, _ => true
def eqOks : List D → List D → Bool
  | x :: xs, y :: ys => eqOk x y && eqOks xs ys
  | _, _ => true
end
mutual
def noBl : D → Bool
  | .bl _ => false
  | .tup ds => noBls ds
  | .lst ds => noBls ds
  | _ => true
def noBls : List D → Bool
  | [] => true
  | d :: ds => noBl d && noBls ds
end
mutual
theorem eqOk_no : ∀ {x y : D}, noBl x = true → noBl y = true → eqOk x y = true
  | .bl _, _, h, _ => by simp [noBl] at h
  | .tup xs, .tup ys, h, g => by unfold eqOk; unfold noBl at h g; exact eqOks_no h g
  | .lst xs, .lst ys, h, g => by unfold eqOk; unfold noBl at h g; exact eqOks_no h g
  | .int _, .bl _, _, g => by simp [noBl] at g
  | .non, .non, _, _ => rfl | .non, .bl _, _, _ => rfl | .non, .int _, _, _ => rfl | .non, .str _, _, _ => rfl | .non, .ref _, _, _ => rfl | .non, .ty _, _, _ => rfl | .non, .tup _, _, _ => rfl | .non, .lst _, _, _ => rfl | .non, .ins _ _ _, _, _ => rfl | .non, .dct _ _, _, _ => rfl | .non, .pr _, _, _ => rfl
  | .int _, .non, _, _ => rfl | .int _, .int _, _, _ => rfl | .int _, .str _, _, _ => rfl | .int _, .ref _, _, _ => rfl | .int _, .ty _, _, _ => rfl | .int _, .tup _, _, _ => rfl | .int _, .lst _, _, _ => rfl | .int _, .ins _ _ _, _, _ => rfl | .int _, .dct _ _, _, _ => rfl | .int _, .pr _, _, _ => rfl
  | .str _, .non, _, _ => rfl | .str _, .bl _, _, _ => rfl | .str _, .int _, _, _ => rfl | .str _, .str _, _, _ => rfl | .str _, .ref _, _, _ => rfl | .str _, .ty _, _, _ => rfl | .str _, .tup _, _, _ => rfl | .str _, .lst _, _, _ => rfl | .str _, .ins _ _ _, _, _ => rfl | .str _, .dct _ _, _, _ => rfl | .str _, .pr _, _, _ => rfl
  | .ref _, y, _, _ => by cases y <;> rfl
  | .ty _, y, _, _ => by cases y <;> rfl
  | .ins _ _ _, y, _, _ => by cases y <;> rfl
  | .dct _ _, y, _, _ => by cases y <;> rfl
  | .pr _, y, _, _ => by cases y <;> rfl
  | .tup _, .non, _, _ => rfl | .tup _, .bl _, _, _ => rfl | .tup _, .int _, _, _ => rfl | .tup _, .str _, _, _ => rfl | .tup _, .ref _, _, _ => rfl | .tup _, .ty _, _, _ => rfl | .tup _, .lst _, _, _ => rfl | .tup _, .ins _ _ _, _, _ => rfl | .tup _, .dct _ _, _, _ => rfl | .tup _, .pr _, _, _ => rfl
  | .lst _, .non, _, _ => rfl | .lst _, .bl _, _, _ => rfl | .lst _, .int _, _, _ => rfl | .lst _, .str _, _, _ => rfl | .lst _, .ref _, _, _ => rfl | .lst _, .ty _, _, _ => rfl | .lst _, .tup _, _, _ => rfl | .lst _, .ins _ _ _, _, _ => rfl | .lst _, .dct _ _, _, _ => rfl | .lst _, .pr _, _, _ => rfl
theorem eqOks_no : ∀ {xs ys : List D}, noBls xs = true → noBls ys = true → eqOks xs ys = true
  | [], _, _, _ => by unfold eqOks; rfl
  | _ :: _, [], _, _ => by unfold eqOks; rfl
  | x :: xs, y :: ys, h, g => by
    unfold noBls at h g
    rw [Bool.and_eq_true] at h g
    unfold eqOks
    rw [eqOk_no h.1 g.1, eqOks_no h.2 g.2]; rfl
end
noncomputable instance : DecidableEq D := fun _ _ => Classical.propDecidable _
theorem dec_congr {p q : Prop} [Decidable p] [Decidable q] (h : p ↔ q) : decide p = decide q := by
  by_cases hp : p
  · rw [decide_eq_true hp, decide_eq_true (h.mp hp)]
  · rw [decide_eq_false hp, decide_eq_false (fun z => hp (h.mpr z))]
theorem dec_no {p : Prop} [Decidable p] (h : ¬ p) : false = decide p := (decide_eq_false h).symm
mutual
theorem eqv_dec : ∀ (x y : D), okD x = true → okD y = true → eqOk x y = true → PyData.eqv (toP x) (toP y) = decide (x = y)
  | .non, y, hx, hy, hc => by
    cases y with
    | non => simp [toP, PyData.eqv]
    | bl b => simp [toP, PyData.eqv]
    | int i => simp [toP, PyData.eqv]
    | str x => simp [toP, PyData.eqv]
    | tup ds => simp [toP, PyData.eqv]
    | lst ds => simp [toP, PyData.eqv]
    | _ => simp [okD] at hy
  | .bl b, y, hx, hy, hc => by
    cases y with
    | non => simp [toP, PyData.eqv]
    | bl b => simp [toP, PyData.eqv, Bool.beq_eq_decide_eq]
    | int i => simp [eqOk] at hc
    | str x => simp [toP, PyData.eqv]
    | tup ds => simp [toP, PyData.eqv]
    | lst ds => simp [toP, PyData.eqv]
    | _ => simp [okD] at hy
  | .int i, y, hx, hy, hc => by
    cases y with
    | non => simp [toP, PyData.eqv]
    | bl b => simp [eqOk] at hc
    | int j => simp only [toP, PyData.eqv, D.int.injEq]; exact Bool.beq_eq_decide_eq i j
    | str x => simp [toP, PyData.eqv]
    | tup ds => simp [toP, PyData.eqv]
    | lst ds => simp [toP, PyData.eqv]
    | _ => simp [okD] at hy
  | .str x, y, hx, hy, hc => by
    cases y with
    | non => simp [toP, PyData.eqv]
    | bl b => simp [toP, PyData.eqv]
    | int i => simp [toP, PyData.eqv]
    | str z => simp only [toP, PyData.eqv, D.str.injEq]; rw [Bool.eq_iff_iff]; simp
    | tup ds => simp [toP, PyData.eqv]
    | lst ds => simp [toP, PyData.eqv]
    | _ => simp [okD] at hy
  | .tup xs, y, hx, hy, hc => by
    cases y with
    | non => simp [toP, PyData.eqv]
    | bl b => simp [toP, PyData.eqv]
    | int i => simp [toP, PyData.eqv]
    | str x => simp [toP, PyData.eqv]
    | tup ys =>
      unfold okD at hx hy
      unfold eqOk at hc
      have h := eqv_decs xs ys hx hy hc
      simp only [toP, PyData.eqv]
      rw [h]
      exact dec_congr (by simp)
    | lst ds => simp [toP, PyData.eqv]
    | _ => simp [okD] at hy
  | .lst xs, y, hx, hy, hc => by
    cases y with
    | non => simp [toP, PyData.eqv]
    | bl b => simp [toP, PyData.eqv]
    | int i => simp [toP, PyData.eqv]
    | str x => simp [toP, PyData.eqv]
    | tup ds => simp [toP, PyData.eqv]
    | lst ys =>
      unfold okD at hx hy
      unfold eqOk at hc
      have h := eqv_decs xs ys hx hy hc
      simp only [toP, PyData.eqv]
      rw [h]
      exact dec_congr (by simp)
    | _ => simp [okD] at hy
  | .ref _, _, hx, _, _ => by simp [okD] at hx
  | .ty _, _, hx, _, _ => by simp [okD] at hx
  | .ins _ _ _, _, hx, _, _ => by simp [okD] at hx
  | .dct _ _, _, hx, _, _ => by simp [okD] at hx
theorem eqv_decs : ∀ (xs ys : List D), okDs xs = true → okDs ys = true → eqOks xs ys = true → PyData.eqvAll (toPs xs) (toPs ys) = decide (xs = ys)
  | [], [], _, _, _ => by simp [toPs, PyData.eqvAll]
  | [], _ :: _, _, _, _ => by simp [toPs, PyData.eqvAll]
  | _ :: _, [], _, _, _ => by simp [toPs, PyData.eqvAll]
  | x :: xs, y :: ys, hx, hy, hc => by
    unfold okDs at hx hy
    unfold eqOks at hc
    rw [Bool.and_eq_true] at hx hy hc
    simp only [toPs, PyData.eqvAll]
    rw [eqv_dec x y hx.1 hy.1 hc.1, eqv_decs xs ys hx.2 hy.2 hc.2, ← Bool.decide_and]
    exact dec_congr (by simp)
end
mutual
theorem toP_ok : ∀ d : D, okD d = true → (toP d).canLay0 = true
  | .non, _ => rfl
  | .bl _, _ => rfl
  | .int _, _ => rfl
  | .str x, h => by unfold okD at h; exact h
  | .tup ds, h => by unfold okD at h; simp only [toP, PyData.canLay0]; exact toPs_ok ds h
  | .lst ds, h => by unfold okD at h; simp only [toP, PyData.canLay0]; exact toPs_ok ds h
  | .ref _, h => by simp [okD] at h
  | .ty _, h => by simp [okD] at h
  | .ins _ _ _, h => by simp [okD] at h
  | .dct _ _, h => by simp [okD] at h
theorem toPs_ok : ∀ ds : List D, okDs ds = true → PyData.canLayAll0 (toPs ds) = true
  | [], _ => rfl
  | d :: ds, h => by
    unfold okDs at h
    rw [Bool.and_eq_true] at h
    simp only [toPs, PyData.canLayAll0]
    rw [toP_ok d h.1, toPs_ok ds h.2]; rfl
end
end DL

namespace DL
open PySem PySem.Spec PyProof.Rows L2
mutual
theorem toP_dep : ∀ d : D, okD d = true → (toP d).depth = dep d
  | .non, _ => rfl
  | .bl _, _ => rfl
  | .int _, _ => rfl
  | .str x, h => rfl
  | .tup ds, h => by unfold okD at h; simp only [toP, PyData.depth, dep]; rw [toPs_dep ds h]
  | .lst ds, h => by unfold okD at h; simp only [toP, PyData.depth, dep]; rw [toPs_dep ds h]
  | .ref _, h => by simp [okD] at h
  | .ty _, h => by simp [okD] at h
  | .ins _ _ _, h => by simp [okD] at h
  | .dct _ _, h => by simp [okD] at h
  | .pr _, h => by simp [okD] at h
theorem toPs_dep : ∀ ds : List D, okDs ds = true → PyData.depthAll (toPs ds) = deps ds
  | [], _ => rfl
  | d :: ds, h => by
    unfold okDs at h
    rw [Bool.and_eq_true] at h
    simp only [toPs, PyData.depthAll, deps]
    rw [toP_dep d h.1, toPs_dep ds h.2]
end
mutual
theorem rep_dp {K : Fr} {F H : Hp} (l : Le F H) : ∀ {d : D} {v : V}, okD d = true → Rep K F d v → Dp K H v (toP d)
  | .non, v, _, r => by unfold Rep at r; subst r; exact .non
  | .bl b, v, _, r => by unfold Rep at r; subst r; exact .bl b
  | .int i, v, _, r => by unfold Rep at r; subst r; exact .int i
  | .str x, v, _, r => by unfold Rep at r; subst r; exact .str x
  | .tup ds, v, h, r => by
    unfold Rep at r; unfold okD at h
    obtain ⟨a, vs, e, q, r⟩ := r
    subst e
    exact .tup (l.tup q.t) (reps_dp l h r)
  | .lst ds, v, h, r => by
    unfold Rep at r; unfold okD at h
    obtain ⟨a, vs, e, q, r⟩ := r
    subst e
    exact .lst (l.lst q) (reps_dp l h r)
  | .ref _, _, h, _ => by simp [okD] at h
  | .ty _, _, h, _ => by simp [okD] at h
  | .ins _ _ _, _, h, _ => by simp [okD] at h
  | .dct _ _, _, h, _ => by simp [okD] at h
  | .pr _, _, h, _ => by simp [okD] at h
theorem reps_dp {K : Fr} {F H : Hp} (l : Le F H) : ∀ {ds : List D} {vs : List V}, okDs ds = true → Reps K F ds vs → DpAll K H vs (toPs ds)
  | [], vs, _, r => by unfold Reps at r; subst r; exact .nil
  | d :: ds, vs, h, r => by
    unfold okDs at h
    rw [Bool.and_eq_true] at h
    unfold Reps at r
    obtain ⟨v, vr, e, r1, r2⟩ := r
    subst e
    exact .cons (rep_dp l h.1 r1) (reps_dp l h.2 r2)
end
/-- what may be compared -/
def EqC (x y : D) : Prop := okD x = true ∧ okD y = true ∧ eqOk x y = true ∧ dep x ≤ 60 ∧ dep y ≤ 60
/-- a list that may be changed, as it stands now -/
def vw (M : MH) : D → D
  | .ref a => (match M a with | some (.lst ds) => .lst ds | _ => .ref a)
  | x => x
theorem lst_sq {K : Fr} {H : Hp} {a : Addr} {vs : List V} (h : H a = some (.lst vs)) : SqL K H a vs := .inl (.inl h)
theorem vw_dp {K : Fr} {M : MH} {H : Hp} {d : D} {v : V} (s : Sim K M H) (h : okD (vw M d) = true) (r : Rep K (frz M H) d v) : Dp K H v (toP (vw M d)) := by
  cases d <;> first | exact rep_dp frz_le h r | skip
  rename_i a
  simp only [vw] at h ⊢
  split at h
  · rename_i ds e
    obtain ⟨ho, eh, us, rfl, ru⟩ := s _ _ e
    unfold Rep at r
    subst r
    unfold okD at h
    exact .lst (lst_sq eh) (reps_dp frz_le h ru)
  · simp [okD] at h
def dEq0 : DR2 := fun x y M P => EqC (vw M x) (vw M y) ∧ P (.bl (decide (vw M x = vw M y))) M
def dNe0 : DR2 := fun x y M P => EqC (vw M x) (vw M y) ∧ P (.bl (!decide (vw M x = vw M y))) M
theorem shaped_of {x : D} (h : okD x = true) (g : dep x ≤ 60) : SeqAt.shaped (toP x) = true := by
  unfold SeqAt.shaped
  rw [toP_ok x h, toP_dep x h, decide_eq_true (show dep x ≤ 64 by omega)]; rfl
theorem opd_eq {K : Fr} : OpD K (rEqD K) dEq0 := by
  intro M H x y vx vy P Q s rx ry w k
  obtain ⟨⟨h1, h2, h3, h4, h5⟩, w⟩ := w
  refine ⟨toP (vw M x), toP (vw M y), vw_dp s h1 rx, vw_dp s h2 ry, shaped_of h1 h4, shaped_of h2 h5, ?_⟩
  rw [eqv_dec _ _ h1 h2 h3]
  exact k _ M _ H w s (.refl _ _) rep_bl
theorem opd_ne {K : Fr} : OpD K (rNeD K) dNe0 := by
  intro M H x y vx vy P Q s rx ry w k
  obtain ⟨⟨h1, h2, h3, h4, h5⟩, w⟩ := w
  refine ⟨toP (vw M x), toP (vw M y), vw_dp s h1 rx, vw_dp s h2 ry, shaped_of h1 h4, shaped_of h2 h5, ?_⟩
  rw [eqv_dec _ _ h1 h2 h3]
  exact k _ M _ H w s (.refl _ _) rep_bl
def isNon : D → Bool | .non => true | _ => false
theorem isNon_v {K : Fr} {F : Hp} {d : D} {v : V} (r : Rep K F d v) : decide (v = .non) = isNon d := by
  cases d <;> unfold Rep at r <;> first
    | (subst r; simp [isNon])
    | (obtain ⟨a, vs, e, _⟩ := r; subst e; simp [isNon])
    | (obtain ⟨a, dx, vs, e, _⟩ := r; subst e; simp [isNon])

section
variable {X : Cx} {W : WX} {a b c e : Expr} {es : List Expr} {rest : List Expr} {ta tb tc : DTE} {tA tB' : DTT} {pos p p' : Pos}
abbrev dEq := dOp dEq0
abbrev dNe := dOp dNe0
theorem de_eq {k : Nat} (hr : Room k X.A) (ha : DE X W a ta) (hb : DE X W b tb) : DE X W (.Compare a [.Eq] [b] pos) (dEq ta tb) := de_cmp (op_eqD hr.units) opd_eq ha hb (nomark _)
theorem de_ne {k : Nat} (hr : Room k X.A) (ha : DE X W a ta) (hb : DE X W b tb) : DE X W (.Compare a [.NotEq] [b] pos) (dNe ta tb) := de_cmp (op_neD hr.units) opd_ne ha hb (nomark _)
def dIsN (ta : DTE) : DTE := fun ρ M P E => ta ρ M (fun x M1 => P (.bl (isNon x)) M1) E
def dNotN (ta : DTE) : DTE := fun ρ M P E => ta ρ M (fun x M1 => P (.bl (!isNon x)) M1) E
theorem de_isN {j pos'} (ha : DE X W a ta) : DE X W (.Compare a [.Is] [.Constant .none j pos'] pos) (dIsN ta) :=
  de_of (pe_cmp (pc_isN ha) rfl) fun σ H Q ρ M P E sl s w k ex => lE_intro sl s w (fun x M1 vx H1 w1 s1 g1 r1 => by rw [isNon_v r1]; exact k _ _ _ _ w1 s1 g1 rep_bl) ex
theorem de_notN {j pos'} (ha : DE X W a ta) : DE X W (.Compare a [.IsNot] [.Constant .none j pos'] pos) (dNotN ta) :=
  de_of (pe_cmp (pc_notN ha) rfl) fun σ H Q ρ M P E sl s w k ex => lE_intro sl s w (fun x M1 vx H1 w1 s1 g1 r1 => by rw [isNon_v r1]; exact k _ _ _ _ w1 s1 g1 rep_bl) ex
/-- is True, is not True of bools -/
def dIsB (neg : Bool) : DR2 := fun x y M P => match x, y with | .bl i, .bl j => P (.bl (if neg then !decide (i = j) else decide (i = j))) M | _, _ => False
theorem opd_isB {K : Fr} : OpD K rIsB (dIsB false) := by
  intro M H x y vx vy P Q s rx ry w k
  unfold dIsB at w
  split at w
  · rename_i i j
    rw [rep_bl_inv rx, rep_bl_inv ry]
    exact ⟨i, j, rfl, rfl, k _ M _ H w s (.refl _ _) rep_bl⟩
  · exact w.elim
theorem opd_notB {K : Fr} : OpD K rNotB (dIsB true) := by
  intro M H x y vx vy P Q s rx ry w k
  unfold dIsB at w
  split at w
  · rename_i i j
    rw [rep_bl_inv rx, rep_bl_inv ry]
    exact ⟨i, j, rfl, rfl, k _ M _ H w s (.refl _ _) rep_bl⟩
  · exact w.elim
theorem de_isB (ha : DE X W a ta) (hb : DE X W b tb) : DE X W (.Compare a [.Is] [b] pos) (dOp (dIsB false) ta tb) := de_cmp op_isBl opd_isB ha hb (nomark _)
theorem de_notB (ha : DE X W a ta) (hb : DE X W b tb) : DE X W (.Compare a [.IsNot] [b] pos) (dOp (dIsB true) ta tb) := de_cmp op_notBl opd_notB ha hb (nomark _)

/-! ### tests -/
theorem dt_of {e : Expr} {te : TT} {t : DTT} (h : PT X e te) (q : ∀ σ H Q ρ M P E, Slots X.K (frz M H) ρ σ → Sim X.K M H → t ρ M P E → (∀ b M' H', P b M' → Sim X.K M' H' → Grow M H M' H' → Q b H') → exK X.K W M H σ E → te σ H Q) : DT X W e t :=
  PT.to h fun σ H Q ⟨ρ, M, P, E, sl, s, w, k, ex⟩ => q σ H Q ρ M P E sl s w k ex
def dB (t : DTE) : DTT := fun ρ M P E => t ρ M (fun x M1 => match x with | .bl k => P k M1 | _ => False) E
theorem dB_to {t : DTE} {σ : L2.St} {H : Hp} {Q : Bool → Hp → Prop} {ρ : Ro} {M : MH} {P : Bool → MH → Prop} {E : EX} (sl : Slots X.K (frz M H) ρ σ) (s : Sim X.K M H) (w : dB t ρ M P E)
    (k : ∀ b M' H', P b M' → Sim X.K M' H' → Grow M H M' H' → Q b H') (ex : exK X.K W M H σ E) : lE X.K W t σ H fun x H1 => ∃ c, x = .bl c ∧ Q c H1 :=
  lE_intro sl s w (fun x M1 vx H1 w1 s1 g1 r1 => by
    split at w1
    · rw [rep_bl_inv r1]; exact ⟨_, rfl, k _ _ _ w1 s1 g1⟩
    · exact w1.elim) ex
/-- a comparison as a test -/
theorem dt_cmp {op : CmpOp} {r : R2} {r' : DR2} (ho : OpR X (compareOp op) r) (h : OpD X.K r r') (ha : DE X W a ta) (hb : DE X W b tb) (hm : behindInMarks op b = false) : DT X W (.Compare a [op] [b] pos) (dB (dOp r' ta tb)) :=
  dt_of (pt_cmpR ho ha hb hm) fun σ H Q ρ M P E sl s w k ex => by
    have h2 := op_to (W := W) (Q := fun x H1 => ∃ c, x = .bl c ∧ Q c H1) h sl s w (fun x M1 vx H1 w1 s1 g1 r1 => by
      split at w1
      · rw [rep_bl_inv r1]; exact ⟨_, rfl, k _ _ _ w1 s1 g1⟩
      · exact w1.elim) ex
    exact h2
theorem dt_lt (ha : DE X W a ta) (hb : DE X W b tb) : DT X W (.Compare a [.Lt] [b] pos) (dB (dLt ta tb)) := dt_cmp op_lt opd_B0 ha hb (nomark _)
theorem dt_le (ha : DE X W a ta) (hb : DE X W b tb) : DT X W (.Compare a [.LtE] [b] pos) (dB (dLe ta tb)) := dt_cmp op_le opd_B0 ha hb (nomark _)
theorem dt_gt (ha : DE X W a ta) (hb : DE X W b tb) : DT X W (.Compare a [.Gt] [b] pos) (dB (dGt ta tb)) := dt_cmp op_gt opd_B0 ha hb (nomark _)
theorem dt_ge (ha : DE X W a ta) (hb : DE X W b tb) : DT X W (.Compare a [.GtE] [b] pos) (dB (dGe ta tb)) := dt_cmp op_ge opd_B0 ha hb (nomark _)
theorem dt_eq {k : Nat} (hr : Room k X.A) (ha : DE X W a ta) (hb : DE X W b tb) : DT X W (.Compare a [.Eq] [b] pos) (dB (dEq ta tb)) := dt_cmp (op_eqD hr.units) opd_eq ha hb (nomark _)
theorem dt_ne {k : Nat} (hr : Room k X.A) (ha : DE X W a ta) (hb : DE X W b tb) : DT X W (.Compare a [.NotEq] [b] pos) (dB (dNe ta tb)) := dt_cmp (op_neD hr.units) opd_ne ha hb (nomark _)
theorem dt_isB (ha : DE X W a ta) (hb : DE X W b tb) : DT X W (.Compare a [.Is] [b] pos) (dB (dOp (dIsB false) ta tb)) := dt_cmp op_isBl opd_isB ha hb (nomark _)
theorem dt_notB (ha : DE X W a ta) (hb : DE X W b tb) : DT X W (.Compare a [.IsNot] [b] pos) (dB (dOp (dIsB true) ta tb)) := dt_cmp op_notBl opd_notB ha hb (nomark _)
theorem dt_isN {j pos'} (ha : DE X W a ta) : DT X W (.Compare a [.Is] [.Constant .none j pos'] pos) (dB (dIsN ta)) :=
  dt_of (pt_cmp (pc_isN ha) rfl) fun σ H Q ρ M P E sl s w k ex => lE_intro sl s w (fun x M1 vx H1 w1 s1 g1 r1 => by rw [isNon_v r1]; exact ⟨_, rfl, k _ _ _ w1 s1 g1⟩) ex
theorem dt_notN {j pos'} (ha : DE X W a ta) : DT X W (.Compare a [.IsNot] [.Constant .none j pos'] pos) (dB (dNotN ta)) :=
  dt_of (pt_cmp (pc_notN ha) rfl) fun σ H Q ρ M P E sl s w k ex => lE_intro sl s w (fun x M1 vx H1 w1 s1 g1 r1 => by rw [isNon_v r1]; exact ⟨_, rfl, k _ _ _ w1 s1 g1⟩) ex
/-- any other expression of a bool -/
theorem dt_val {t : DTE} (h : DE X W e t) (he : ∀ whole, isTrue e X.env whole = (do let v ← whole; standAt e.pos; holding [v] (truthy v)) := by intro _; rfl) : DT X W e (dB t) :=
  dt_of (pt_val h he) fun σ H Q ρ M P E sl s w k ex => dB_to sl s w k ex
def dAndT (t u : DTT) : DTT := fun ρ M P E => t ρ M (fun c M1 => if c = true then u ρ M1 P E else P false M1) E
def dOrT (t u : DTT) : DTT := fun ρ M P E => t ρ M (fun c M1 => if c = true then P true M1 else u ρ M1 P E) E
def dNotT (t : DTT) : DTT := fun ρ M P E => t ρ M (fun c M1 => P (!c) M1) E
theorem lT_intro {K : Fr} {W : WX} {t : DTT} {σ : L2.St} {H : Hp} {ρ : Ro} {M : MH} {P : Bool → MH → Prop} {E : EX} {Q : Bool → Hp → Prop} (sl : Slots K (frz M H) ρ σ) (s : Sim K M H) (w : t ρ M P E)
    (k : ∀ b M' H', P b M' → Sim K M' H' → Grow M H M' H' → Q b H') (ex : exK K W M H σ E) : lT K W t σ H Q := ⟨ρ, M, P, E, sl, s, w, k, ex⟩
theorem dw_and1 (ha : DT X W a tA) : DW X W (.BoolOp .And [a] pos) tA := pw_and1 ha
theorem dw_or1 (ha : DT X W a tA) : DW X W (.BoolOp .Or [a] pos) tA := pw_or1 ha
theorem dw_and (ha : DT X W a tA) (hb : DW X W (.BoolOp .And (b :: rest) pos) tB') : DW X W (.BoolOp .And (a :: b :: rest) pos) (dAndT tA tB') :=
  PW.to (pw_and ha hb) fun σ H Q ⟨ρ, M, P, E, sl, s, w, k, ex⟩ => lT_intro sl s w (fun c M1 H1 w1 s1 g1 => by
    cases c with
    | true => rw [if_pos rfl] at w1 ⊢; exact lT_intro (sl.mono g1) s1 w1 (fun b M2 H2 w2 s2 g2 => k b M2 H2 w2 s2 (g1.trans g2)) (ex.later g1)
    | false => rw [if_neg Bool.false_ne_true] at w1 ⊢; exact k _ _ _ w1 s1 g1) ex
theorem dw_or (ha : DT X W a tA) (hb : DW X W (.BoolOp .Or (b :: rest) pos) tB') : DW X W (.BoolOp .Or (a :: b :: rest) pos) (dOrT tA tB') :=
  PW.to (pw_or ha hb) fun σ H Q ⟨ρ, M, P, E, sl, s, w, k, ex⟩ => lT_intro sl s w (fun c M1 H1 w1 s1 g1 => by
    cases c with
    | false => rw [if_neg Bool.false_ne_true] at w1 ⊢; exact lT_intro (sl.mono g1) s1 w1 (fun b M2 H2 w2 s2 g2 => k b M2 H2 w2 s2 (g1.trans g2)) (ex.later g1)
    | true => rw [if_pos rfl] at w1 ⊢; exact k _ _ _ w1 s1 g1) ex
theorem DWt (h : DW X W e tA) : DT X W e tA := PW.pt h
theorem dt_not (ha : DT X W a tA) : DT X W (.UnaryOp .Not a pos) (dNotT tA) :=
  dt_of (pt_not ha) fun σ H Q ρ M P E sl s w k ex => lT_intro sl s w (fun c M1 H1 w1 s1 g1 => k _ _ _ w1 s1 g1) ex
/-- values: and, or, not of bools; one if test else other -/
def dAnd (ta tb : DTE) : DTE := fun ρ M P E => ta ρ M (fun x M1 => match x with | .bl true => tb ρ M1 P E | .bl false => P (.bl false) M1 | _ => False) E
def dOr (ta tb : DTE) : DTE := fun ρ M P E => ta ρ M (fun x M1 => match x with | .bl false => tb ρ M1 P E | .bl true => P (.bl true) M1 | _ => False) E
def dNot (ta : DTE) : DTE := fun ρ M P E => ta ρ M (fun x M1 => match x with | .bl k => P (.bl (!k)) M1 | _ => False) E
theorem de_one {op} {t : DTE} (h : DE X W a t) : DE X W (.BoolOp op [a] pos) t := pe_one h
theorem de_and (ha : DE X W a ta) (hb : DE X W (.BoolOp .And (b :: rest) pos) tb) : DE X W (.BoolOp .And (a :: b :: rest) pos) (dAnd ta tb) :=
  de_of (pe_and ha hb) fun σ H Q ρ M P E sl s w k ex => lE_intro sl s w (fun x M1 vx H1 w1 s1 g1 r1 => by
    split at w1
    · rw [rep_bl_inv r1]; exact ⟨true, rfl, by rw [if_pos rfl]; exact lE_intro (sl.mono g1) s1 w1 (k.later g1) (ex.later g1)⟩
    · rw [rep_bl_inv r1]; exact ⟨false, rfl, by rw [if_neg Bool.false_ne_true]; exact k _ _ _ _ w1 s1 g1 rep_bl⟩
    · exact w1.elim) ex
theorem de_or (ha : DE X W a ta) (hb : DE X W (.BoolOp .Or (b :: rest) pos) tb) : DE X W (.BoolOp .Or (a :: b :: rest) pos) (dOr ta tb) :=
  de_of (pe_or ha hb) fun σ H Q ρ M P E sl s w k ex => lE_intro sl s w (fun x M1 vx H1 w1 s1 g1 r1 => by
    split at w1
    · rw [rep_bl_inv r1]; exact ⟨false, rfl, by rw [if_neg Bool.false_ne_true]; exact lE_intro (sl.mono g1) s1 w1 (k.later g1) (ex.later g1)⟩
    · rw [rep_bl_inv r1]; exact ⟨true, rfl, by rw [if_pos rfl]; exact k _ _ _ _ w1 s1 g1 rep_bl⟩
    · exact w1.elim) ex
theorem de_not (ha : DE X W a ta) : DE X W (.UnaryOp .Not a pos) (dNot ta) :=
  de_of (pe_not ha) fun σ H Q ρ M P E sl s w k ex => lE_intro sl s w (fun x M1 vx H1 w1 s1 g1 r1 => by
    split at w1
    · rw [rep_bl_inv r1]; exact ⟨_, rfl, k _ _ _ _ w1 s1 g1 rep_bl⟩
    · exact w1.elim) ex
def dIf (t : DTT) (ta tb : DTE) : DTE := fun ρ M P E => t ρ M (fun c M1 => if c = true then ta ρ M1 P E else tb ρ M1 P E) E
theorem de_if (hc : DT X W c tA) (ha : DE X W a ta) (hb : DE X W b tb) : DE X W (.IfExp c a b pos) (dIf tA ta tb) :=
  de_of (pe_ifExp hc ha hb) fun σ H Q ρ M P E sl s w k ex => lT_intro sl s w (fun x M1 H1 w1 s1 g1 => by
    cases x with
    | true => rw [if_pos rfl] at w1 ⊢; exact lE_intro (sl.mono g1) s1 w1 (k.later g1) (ex.later g1)
    | false => rw [if_neg Bool.false_ne_true] at w1 ⊢; exact lE_intro (sl.mono g1) s1 w1 (k.later g1) (ex.later g1)) ex
def dNeg (ta : DTE) : DTE := fun ρ M P E => ta ρ M (fun x M1 => match x with | .int i => P (.int (-i)) M1 | _ => False) E
theorem de_neg (ha : DE X W a ta) : DE X W (.UnaryOp .USub a pos) (dNeg ta) :=
  de_of (pe_un un_neg ha) fun σ H Q ρ M P E sl s w k ex => lE_intro sl s w (fun x M1 vx H1 w1 s1 g1 r1 => by
    split at w1
    · rw [rep_int_inv r1]; exact ⟨_, rfl, k _ _ _ _ w1 s1 g1 rep_int⟩
    · exact w1.elim) ex
/-- low <= x <= high -/
def dChain (r r' : DR2) (ta tb tc : DTE) : DTE := fun ρ M P E => ta ρ M (fun x M1 => tb ρ M1 (fun y M2 => r x y M2 fun z M3 => match z with | .bl true => tc ρ M3 (fun u M4 => r' y u M4 P) E | .bl false => P (.bl false) M3 | _ => False) E) E
theorem de_chain {op op' : CmpOp} {r r' : R2} {q q' : DR2} (ho : OpR X (compareOp op) r) (h : OpD X.K r q) (ho' : OpR X (compareOp op') r') (h' : OpD X.K r' q') (ha : DE X W a ta) (hb : DE X W b tb) (hc : DE X W c tc)
    (hpe : PE X (.Compare a [op, op'] [b, c] pos) (tChain r r' (lE X.K W ta) (lE X.K W tb) (lE X.K W tc))) : DE X W (.Compare a [op, op'] [b, c] pos) (dChain q q' ta tb tc) :=
  de_of hpe fun σ H Q ρ M P E sl s w k ex =>
    lE_intro sl s w (fun x M1 vx H1 w1 s1 g1 r1 => lE_intro (sl.mono g1) s1 w1 (fun y M2 vy H2 w2 s2 g2 r2 => h M2 H2 x y vx vy _ _ s2 (r1.mono g2) r2 w2 fun z M3 vz H3 w3 s3 g3 r3 => by
      split at w3
      · rw [rep_bl_inv r3]
        refine ⟨true, rfl, ?_⟩
        rw [if_pos rfl]
        exact lE_intro (sl.mono ((g1.trans g2).trans g3)) s3 w3 (fun u M4 vu H4 w4 s4 g4 r4 => h' M4 H4 y u vy vu P Q s4 (r2.mono (g3.trans g4)) r4 w4 (k.later (((g1.trans g2).trans g3).trans g4))) (ex.later ((g1.trans g2).trans g3))
      · rw [rep_bl_inv r3]
        refine ⟨false, rfl, ?_⟩
        rw [if_neg Bool.false_ne_true]
        exact k _ _ _ _ w3 s3 ((g1.trans g2).trans g3) rep_bl
      · exact w3.elim) (ex.later g1)) ex
theorem dt_chain {op op' : CmpOp} {r r' : R2} {q q' : DR2} (ho : OpR X (compareOp op) r) (h : OpD X.K r q) (ho' : OpR X (compareOp op') r') (h' : OpD X.K r' q') (ha : DE X W a ta) (hb : DE X W b tb) (hc : DE X W c tc)
    (hpe : PT X (.Compare a [op, op'] [b, c] pos) (tTest (tChain r r' (lE X.K W ta) (lE X.K W tb) (lE X.K W tc)))) : DT X W (.Compare a [op, op'] [b, c] pos) (dB (dChain q q' ta tb tc)) :=
  dt_of hpe fun σ H Q ρ M P E sl s w k ex => by
    have kk : rtK X.K M H (fun x M1 => match x with | .bl k => P k M1 | _ => False) (fun x H' => ∃ k, x = .bl k ∧ Q k H') := fun x M1 vx H1 w1 s1 g1 r1 => by
      dsimp only at w1
      split at w1
      · rw [rep_bl_inv r1]; exact ⟨_, rfl, k _ _ _ w1 s1 g1⟩
      · exact w1.elim
    exact lE_intro sl s w (fun x M1 vx H1 w1 s1 g1 r1 => lE_intro (sl.mono g1) s1 w1 (fun y M2 vy H2 w2 s2 g2 r2 => h M2 H2 x y vx vy _ _ s2 (r1.mono g2) r2 w2 fun z M3 vz H3 w3 s3 g3 r3 => by
      split at w3
      · rw [rep_bl_inv r3]
        refine ⟨true, rfl, ?_⟩
        rw [if_pos rfl]
        exact lE_intro (sl.mono ((g1.trans g2).trans g3)) s3 w3 (fun u M4 vu H4 w4 s4 g4 r4 => h' M4 H4 y u vy vu _ _ s4 (r2.mono (g3.trans g4)) r4 w4 (kk.later (((g1.trans g2).trans g3).trans g4))) (ex.later ((g1.trans g2).trans g3))
      · rw [rep_bl_inv r3]
        refine ⟨false, rfl, ?_⟩
        rw [if_neg Bool.false_ne_true]
        exact kk _ _ _ _ w3 s3 ((g1.trans g2).trans g3) rep_bl
      · exact w3.elim) (ex.later g1)) ex
abbrev dLeLe := dChain (dI0 fun i j => .bl (decide (i ≤ j))) (dI0 fun i j => .bl (decide (i ≤ j)))
abbrev dLeLt := dChain (dI0 fun i j => .bl (decide (i ≤ j))) (dI0 fun i j => .bl (decide (i < j)))
theorem de_leLe (ha : DE X W a ta) (hb : DE X W b tb) (hc : DE X W c tc) (hm : lastMarks [.LtE, .LtE] [b, c] = false := by with_unfolding_all rfl) : DE X W (.Compare a [.LtE, .LtE] [b, c] pos) (dLeLe ta tb tc) :=
  de_chain op_le opd_B0 op_le opd_B0 ha hb hc (pe_chain op_le op_le ha hb hc hm)
theorem de_leLt (ha : DE X W a ta) (hb : DE X W b tb) (hc : DE X W c tc) (hm : lastMarks [.LtE, .Lt] [b, c] = false := by with_unfolding_all rfl) : DE X W (.Compare a [.LtE, .Lt] [b, c] pos) (dLeLt ta tb tc) :=
  de_chain op_le opd_B0 op_lt opd_B0 ha hb hc (pe_chain op_le op_lt ha hb hc hm)
theorem dt_leLe (ha : DE X W a ta) (hb : DE X W b tb) (hc : DE X W c tc) (hm : lastMarks [.LtE, .LtE] [b, c] = false := by with_unfolding_all rfl) : DT X W (.Compare a [.LtE, .LtE] [b, c] pos) (dB (dLeLe ta tb tc)) :=
  dt_chain op_le opd_B0 op_le opd_B0 ha hb hc (pt_chain op_le op_le ha hb hc hm)
theorem dt_leLt (ha : DE X W a ta) (hb : DE X W b tb) (hc : DE X W c tc) (hm : lastMarks [.LtE, .Lt] [b, c] = false := by with_unfolding_all rfl) : DT X W (.Compare a [.LtE, .Lt] [b, c] pos) (dB (dLeLt ta tb tc)) :=
  dt_chain op_le opd_B0 op_lt opd_B0 ha hb hc (pt_chain op_le op_lt ha hb hc hm)
end
end DL

namespace DL
open PySem PySem.Spec PyProof.Rows L2

section
variable {K : Fr} {M : MH} {H : Hp} {P : D → MH → Prop} {Q : VK}
/-- the new object is let lie -/
theorem new_lst {ds : List D} {vs : List V} (s : Sim K M H) (r : Reps K (frz M H) ds vs) (w : P (.lst ds) M) (k : rtK K M H P Q) {p : Addr} (hp : H p = none) : Q (.ref p) (upd H p (.lst vs)) :=
  k _ M _ _ w (s.new hp) (grow_new hp) (rep_lst (.inl (.inl (frz_new (s.free hp)))) (r.mono (grow_new hp)))
theorem new_tup {ds : List D} {vs : List V} (s : Sim K M H) (r : Reps K (frz M H) ds vs) (w : P (.tup ds) M) (k : rtK K M H P Q) : newT vs H Q := fun p o ho hp =>
  k _ M _ _ w (s.new hp) (grow_new hp) (rep_tup (.inl ⟨o, frz_new (s.free hp), ho⟩) (r.mono (grow_new hp)))
/-- .. or will be changed -/
theorem new_lstM {ds : List D} {vs : List V} (s : Sim K M H) (r : Reps K (frz M H) ds vs) (w : ∀ p, M p = none → P (.ref p) (sett M p (.lst ds))) (k : rtK K M H P Q) {p : Addr} (hp : H p = none) : Q (.ref p) (upd H p (.lst vs)) :=
  k _ _ _ _ (w p (s.free hp)) (s.newM hp ⟨vs, rfl, r⟩) (grow_newM hp) rep_ref
end

/-- the items of a list -/
def seqL (M : MH) : D → Option (List D)
  | .lst ds => some ds
  | .ref a => match M a with | some (.lst ds) => some ds | _ => none
  | _ => none
/-- of a list or a tuple -/
def seqD (M : MH) : D → Option (List D)
  | .tup ds => some ds
  | .pr ds => some ds
  | x => seqL M x
/-- of a list or a tuple that is known well -/
def seqT (M : MH) : D → Option (List D)
  | .tup ds => some ds
  | x => seqL M x
theorem seqL_rep {K : Fr} {M : MH} {H : Hp} {x : D} {v : V} {ds : List D} (s : Sim K M H) (r : Rep K (frz M H) x v) (h : seqL M x = some ds) : ∃ a vs, v = .ref a ∧ SqL K H a vs ∧ Reps K (frz M H) ds vs := by
  cases x <;> simp only [seqL] at h <;> try cases h
  · unfold Rep at r
    subst r
    split at h
    · rename_i a es e
      cases h
      obtain ⟨ho, q, vs, e2, r2⟩ := s _ _ e
      subst e2
      exact ⟨_, vs, rfl, .inl (.inl q), r2⟩
    · cases h
  · unfold Rep at r
    obtain ⟨a, vs, e, q, r⟩ := r
    exact ⟨a, vs, e, frz_le.lst q, r⟩
theorem seqD_rep {K : Fr} {M : MH} {H : Hp} {x : D} {v : V} {ds : List D} (s : Sim K M H) (r : Rep K (frz M H) x v) (h : seqD M x = some ds) : ∃ a vs, v = .ref a ∧ (SqL K H a vs ∨ SqT K H a vs) ∧ Reps K (frz M H) ds vs := by
  cases x
  case tup es =>
    simp only [seqD] at h
    cases h
    unfold Rep at r
    obtain ⟨a, vs, e, q, r⟩ := r
    exact ⟨a, vs, e, .inr (frz_le.tup q.t), r⟩
  case pr es =>
    simp only [seqD] at h
    cases h
    unfold Rep at r
    obtain ⟨a, vs, e, q, r⟩ := r
    exact ⟨a, vs, e, .inr (frz_le.tup q), r⟩
  all_goals
    obtain ⟨a, vs, e, q, r⟩ := seqL_rep s r h
    exact ⟨a, vs, e, .inl q, r⟩

section
variable {X : Cx} {W : WX} {a b c e : Expr} {es : List Expr} {rest : List Expr} {ta tb tc : DTE} {tA tB' : DTT} {t : DTA} {pos p p' : Pos}

/-! ### argument lists, displays -/
def dNil : DTA := fun _ M P _ => P [] M
def dCons (ta : DTE) (tr : DTA) : DTA := fun ρ M P E => ta ρ M (fun x M1 => tr ρ M1 (fun xs M2 => P (x :: xs) M2) E) E
theorem lA_intro {K : Fr} {W : WX} {t : DTA} {σ : L2.St} {H : Hp} {ρ : Ro} {M : MH} {P : List D → MH → Prop} {E : EX} {Q : List V → Hp → Prop} (sl : Slots K (frz M H) ρ σ) (s : Sim K M H) (w : t ρ M P E)
    (k : ∀ ds M' vs H', P ds M' → Sim K M' H' → Grow M H M' H' → Reps K (frz M' H') ds vs → Q vs H') (ex : exK K W M H σ E) : lA K W t σ H Q := ⟨ρ, M, P, E, sl, s, w, k, ex⟩
theorem da_nil : DA X W [] dNil := PA.to pa_nil fun σ H Q ⟨ρ, M, P, E, sl, s, w, k, ex⟩ => k _ _ _ _ w s (.refl _ _) .nil
theorem da_cons (ha : DE X W e ta) (hr : DA X W es t) (hs : starEach (e :: es) X.env = (false, eval e X.env) :: starEach es X.env := by rfl) : DA X W (e :: es) (dCons ta t) :=
  PA.to (pa_cons ha hr hs) fun σ H Q ⟨ρ, M, P, E, sl, s, w, k, ex⟩ =>
    lE_intro sl s w (fun x M1 vx H1 w1 s1 g1 r1 => lA_intro (sl.mono g1) s1 w1 (fun ds M2 vs H2 w2 s2 g2 r2 => k _ _ _ _ w2 s2 (g1.trans g2) (.cons (r1.mono g2) r2)) (ex.later g1)) ex
def dTup (t : DTA) : DTE := fun ρ M P E => t ρ M (fun xs M1 => xs.length ≤ sizeLine ∧ P (.tup xs) M1) E
def dLst (t : DTA) : DTE := fun ρ M P E => t ρ M (fun xs M1 => xs.length ≤ sizeLine ∧ P (.lst xs) M1) E
/-- a list that will be changed -/
def dLstM (t : DTA) : DTE := fun ρ M P E => t ρ M (fun xs M1 => xs.length ≤ sizeLine ∧ ∀ p, M1 p = none → P (.ref p) (sett M1 p (.lst xs))) E
theorem de_tup {x1} (h : DA X W es t) : DE X W (.Tuple es x1 pos) (dTup t) := de_of (pe_tupN h) fun σ H Q ρ M P E sl s w k ex =>
  lA_intro sl s w (fun ds M1 vs H1 w1 s1 g1 r1 => ⟨by rw [← r1.length]; exact w1.1, new_tup s1 r1 w1.2 (k.later g1)⟩) ex
theorem de_lst (h : DA X W es t) : DE X W (.List es pos) (dLst t) := de_of (pe_lst h) fun σ H Q ρ M P E sl s w k ex =>
  lA_intro sl s w (fun ds M1 vs H1 w1 s1 g1 r1 => ⟨by rw [← r1.length]; exact w1.1, fun p hp => new_lst s1 r1 w1.2 (k.later g1) hp⟩) ex
theorem de_lstM (h : DA X W es t) : DE X W (.List es pos) (dLstM t) := de_of (pe_lst h) fun σ H Q ρ M P E sl s w k ex =>
  lA_intro sl s w (fun ds M1 vs H1 w1 s1 g1 r1 => ⟨by rw [← r1.length]; exact w1.1, fun p hp => new_lstM s1 r1 w1.2 (k.later g1) hp⟩) ex

/-! ### items, slices, sums -/
def dIx0 : DR2 := fun x y M P => match y, seqD M x with
  | .int i, some ds => (match atI ds i with | some d => P d M | none => False)
  | _, _ => False
theorem atI_rep {K : Fr} {F : Hp} {ds : List D} {vs : List V} {i : Int} {d : D} (r : Reps K F ds vs) (h : atI ds i = some d) : ∃ v, atI vs i = some v ∧ Rep K F d v := by
  unfold atI at h ⊢
  rw [← r.length]
  cases e : ixN ds.length i with
  | none => rw [e] at h; cases h
  | some j =>
    rw [e] at h
    simp only [Option.bind_some] at h ⊢
    exact r.getD h
theorem opd_ix {K : Fr} : OpD K (fun x y H Q => rIxL K x y H Q ∨ rIxT K x y H Q) dIx0 := by
  intro M H x y vx vy P Q s rx ry w k
  unfold dIx0 at w
  split at w
  · rename_i i ds e
    split at w
    · rename_i d ed
      obtain ⟨a, vs, rfl, q, r⟩ := seqD_rep s rx e
      obtain ⟨v, ev, rv⟩ := atI_rep r ed
      rw [rep_int_inv ry]
      rcases q with q | q
      · exact .inl ⟨a, vs, i, v, rfl, rfl, q, ev, k _ M _ H w s (.refl _ _) rv⟩
      · exact .inr ⟨a, vs, i, v, rfl, rfl, q, ev, k _ M _ H w s (.refl _ _) rv⟩
    · exact w.elim
  · exact w.elim
abbrev dIx := dOp dIx0
theorem de_idx (ha : DE X W a ta) (hb : DE X W b tb) (hs : PlainIx b := by exact fun _ _ => rfl) : DE X W (.Subscript a b pos) (dIx ta tb) := de_ix (IxR.or ix_list ix_tup) opd_ix ha hb hs

abbrev DTO := Ro → MH → (Option Int → MH → Prop) → EX → Prop
def lO (K : Fr) (W : WX) (t : DTO) : TO := fun σ H Q => ∃ ρ M P E, Slots K (frz M H) ρ σ ∧ Sim K M H ∧ t ρ M P E ∧ (∀ o M' H', P o M' → Sim K M' H' → Grow M H M' H' → Q o H') ∧ exK K W M H σ E
theorem PO.to {X : Cx} {e : Option Expr} {t u : TO} (h : PO X e t) (q : ∀ σ H Q, u σ H Q → t σ H Q) : PO X e u := ⟨fun p s σ H Q I w => h.run p s σ H Q I (q _ _ _ w)⟩
abbrev DOp (X : Cx) (W : WX) (e : Option Expr) (t : DTO) : Prop := PO X e (lO X.K W t)
def dNoPart : DTO := fun _ M P _ => P none M
def dPart (ta : DTE) : DTO := fun ρ M P E => ta ρ M (fun x M1 => match x with | .int i => P (some i) M1 | _ => False) E
theorem do_none : DOp X W none dNoPart := PO.to po_none fun σ H Q ⟨ρ, M, P, E, sl, s, w, k, ex⟩ => k _ _ _ w s (.refl _ _)
theorem do_some (h : DE X W e ta) : DOp X W (some e) (dPart ta) := PO.to (po_some h) fun σ H Q ⟨ρ, M, P, E, sl, s, w, k, ex⟩ =>
  lE_intro sl s w (fun x M1 vx H1 w1 s1 g1 r1 => by
    split at w1
    · rw [rep_int_inv r1]; exact ⟨_, rfl, k _ _ _ w1 s1 g1⟩
    · exact w1.elim) ex
theorem lO_intro {K : Fr} {W : WX} {t : DTO} {σ : L2.St} {H : Hp} {ρ : Ro} {M : MH} {P : Option Int → MH → Prop} {E : EX} {Q : Option Int → Hp → Prop} (sl : Slots K (frz M H) ρ σ) (s : Sim K M H) (w : t ρ M P E)
    (k : ∀ o M' H', P o M' → Sim K M' H' → Grow M H M' H' → Q o H') (ex : exK K W M H σ E) : lO K W t σ H Q := ⟨ρ, M, P, E, sl, s, w, k, ex⟩
def cutD (ds : List D) (lo hi : Option Int) : List D := (ds.drop (HT.sIx ds.length 0 lo)).take (HT.sIx ds.length ds.length hi - HT.sIx ds.length 0 lo)
theorem cut_rep {K : Fr} {F : Hp} {ds : List D} {vs : List V} (r : Reps K F ds vs) (lo hi : Option Int) : Reps K F (cutD ds lo hi) (cutV vs lo hi) := by
  unfold cutD cutV
  rw [← r.length]
  exact (r.drop _).take _
theorem cut_whole {ds : List D} {lo hi : Option Int} (h : HT.sIx ds.length 0 lo = 0 ∧ HT.sIx ds.length ds.length hi = ds.length) : cutD ds lo hi = ds := by
  unfold cutD
  rw [h.1, h.2]
  simp
/-- a slice: of a tuple a tuple, of a list a new list that is let lie -/
def dSl (ta : DTE) (tl th : DTO) : DTE := fun ρ M P E => ta ρ M (fun x M1 => tl ρ M1 (fun l M2 => th ρ M2 (fun h M3 => match x with
  | .tup ds => P (.tup (cutD ds l h)) M3
  | y => (match seqL M3 y with | some ds => P (.lst (cutD ds l h)) M3 | none => False)) E) E) E
theorem de_slice {lo hi : Option Expr} {tl th : DTO} {p2 : Pos} (he : DE X W e ta) (hl : DOp X W lo tl) (hh : DOp X W hi th) : DE X W (.Subscript e (.Slice lo hi none p2) pos) (dSl ta tl th) :=
  de_of (pe_slice (SlR.or sl_list sl_tupN) he hl hh) fun σ H Q ρ M P E sl s w k ex =>
    lE_intro sl s w (fun x M1 vx H1 w1 s1 g1 r1 => lO_intro (sl.mono g1) s1 w1 (fun l M2 H2 w2 s2 g2 => lO_intro (sl.mono (g1.trans g2)) s2 w2 (fun u M3 H3 w3 s3 g3 => by
      have r3 := r1.mono (g2.trans g3)
      have k3 := k.later ((g1.trans g2).trans g3)
      cases x
      case tup ds =>
        dsimp only at w3
        unfold Rep at r3
        obtain ⟨a, vs, e, q, r⟩ := r3
        subst e
        refine .inr ⟨a, vs, rfl, frz_le.tup q.t, fun hw => ?_, fun _ => new_tup s3 (cut_rep r l u) w3 k3⟩
        rw [← r.length] at hw
        rw [cut_whole hw] at w3
        exact k3 _ _ _ _ w3 s3 (.refl _ _) (rep_tup q r)
      all_goals
        dsimp only at w3
        split at w3
        · rename_i ds e
          obtain ⟨a, vs, rfl, q, r⟩ := seqL_rep s3 r3 e
          exact .inl ⟨a, vs, rfl, q, fun p hp => new_lst s3 (cut_rep r l u) w3 k3 hp⟩
        · exact w3.elim) (ex.later (g1.trans g2))) (ex.later g1)) ex
def dRev (ta : DTE) : DTE := fun ρ M P E => ta ρ M (fun x M1 => match seqL M1 x with | some ds => P (.lst ds.reverse) M1 | none => False) E
theorem de_rev {k : Nat} {p1 p2 p3 pos : Pos} (he : DE X W e ta) : DE X W (.Subscript e (.Slice none none (some (.UnaryOp .USub (.Constant (.int 1) k p1) p2)) p3) pos) (dRev ta) :=
  de_of (pe_revL he) fun σ H Q ρ M P E sl s w k ex => lE_intro sl s w (fun x M1 vx H1 w1 s1 g1 r1 => by
    split at w1
    · rename_i ds e
      obtain ⟨a, vs, rfl, q, r⟩ := seqL_rep s1 r1 e
      exact ⟨a, vs, rfl, q, fun p hp => new_lst s1 r.reverse w1 (k.later g1) hp⟩
    · exact w1.elim) ex

/-! ### + of tuples and lists, * of lists -/
def dCatT0 : DR2 := fun x y M P => match x, y with | .tup a, .tup b => a.length + b.length ≤ sizeLine ∧ P (.tup (a ++ b)) M | _, _ => False
theorem rep_tup_inv {K : Fr} {F : Hp} {ds : List D} {v : V} (h : Rep K F (.tup ds) v) : ∃ a vs, v = .ref a ∧ SqN K F a vs ∧ Reps K F ds vs := by unfold Rep at h; exact h
theorem rep_pr_inv {K : Fr} {F : Hp} {ds : List D} {v : V} (h : Rep K F (.pr ds) v) : ∃ a vs, v = .ref a ∧ SqT K F a vs ∧ Reps K F ds vs := by unfold Rep at h; exact h
theorem reps_nil_inv {K : Fr} {F : Hp} {vs : List V} {ds : List D} (r : Reps K F ds vs) (e : vs = []) : ds = [] := List.eq_nil_of_length_eq_zero (by rw [r.length, e]; rfl)
theorem opd_catT {K : Fr} : OpD K (rCatN K) dCatT0 := by
  intro M H x y vx vy P Q s rx ry w k
  unfold dCatT0 at w
  split at w
  · rename_i as bs
    obtain ⟨a, vs, rfl, q, r⟩ := rep_tup_inv rx
    obtain ⟨b, us, rfl, q2, r2⟩ := rep_tup_inv ry
    refine ⟨a, b, vs, us, rfl, rfl, frz_le.tup q.t, frz_le.tup q2.t, by rw [← r.length, ← r2.length]; exact w.1, fun e => ?_, fun _ e => ?_, fun _ _ => new_tup s (r.append r2) w.2 k⟩
    · have e' := reps_nil_inv r e
      have w2 := w.2
      rw [e', List.nil_append] at w2
      exact k _ _ _ _ w2 s (.refl _ _) (rep_tup q2 r2)
    · have e' := reps_nil_inv r2 e
      have w2 := w.2
      rw [e', List.append_nil] at w2
      exact k _ _ _ _ w2 s (.refl _ _) (rep_tup q r)
  · exact w.elim
theorem de_catT (ha : DE X W a ta) (hb : DE X W b tb) : DE X W (.BinOp a .Add b pos) (dOp dCatT0 ta tb) := de_op op_catN opd_catT ha hb
def rCatR (K : Fr) : R2 := fun x y H Q => ∃ l b xs zs, x = .ref l ∧ y = .ref b ∧ SqL K H l xs ∧ SqL K H b zs ∧ xs.length + zs.length ≤ sizeLine ∧ ∀ p, H p = none → Q (.ref p) (upd H p (.lst (xs ++ zs)))
theorem op_catR : OpR X (binaryOp .Add) (rCatR X.K) := by
  rintro pins s σ H x y v u Q I rx ry ⟨l, b, xs, zs, rfl, rfl, hl, hb, hz, q⟩
  cases rx
  cases ry
  obtain ⟨its, r, pl, z1⟩ := I.list hl
  obtain ⟨jts, r2, pl2, z2⟩ := I.list hb
  obtain ⟨⟨c1, d1, da1, sl1⟩, n1, g1, e1, f1, k1⟩ := pl
  obtain ⟨⟨c2, d2, da2, sl2⟩, n2, g2, e2, f2, k2⟩ := pl2
  simp only at e1 f1 k1 e2 f2 k2
  subst e1 f1 k1 e2 f2 k2
  have hn : its.toArray.size + jts.toArray.size ≤ sizeLine := by rw [List.size_toArray, List.size_toArray, ← r.length, ← r2.length]; exact hz
  refine concat_meets ⟨_, g1, rfl⟩ ⟨_, g2, rfl⟩ noFill_list_add seq_list_add PySem.F.slot_list_add PySem.F.entry_list_add (PySem.F.args_list_add_2 _ _) (list_addW l b its.toArray jts.toArray n1 n2 none none sl1 sl2 hn) ⟨g1, g2, ?_⟩
  have ea : its.toArray ++ jts.toArray = (its ++ jts).toArray := by simp
  rw [ea]
  exact ⟨.ref _, _, I.lnew (t' := s.toks) (r.append r2) (by rw [List.length_append]; exact hz), rfl, q _ I.fresh⟩
def dCatL0 : DR2 := fun x y M P => match seqL M x, seqL M y with | some a, some b => a.length + b.length ≤ sizeLine ∧ P (.lst (a ++ b)) M | _, _ => False
theorem opd_catL {K : Fr} : OpD K (rCatR K) dCatL0 := by
  intro M H x y vx vy P Q s rx ry w k
  unfold dCatL0 at w
  split at w
  · rename_i as bs ea eb
    obtain ⟨a, vs, rfl, q, r⟩ := seqL_rep s rx ea
    obtain ⟨b, us, rfl, q2, r2⟩ := seqL_rep s ry eb
    exact ⟨a, b, vs, us, rfl, rfl, q, q2, by rw [← r.length, ← r2.length]; exact w.1, fun p hp => new_lst s (r.append r2) w.2 k hp⟩
  · exact w.elim
theorem de_catL (ha : DE X W a ta) (hb : DE X W b tb) : DE X W (.BinOp a .Add b pos) (dOp dCatL0 ta tb) := de_op op_catR opd_catL ha hb

/-! ### built-in functions -/
abbrev DCB := List D → MH → (D → MH → Prop) → Prop
def CallD (K : Fr) (r : List V → Hp → VK → Prop) (r' : DCB) : Prop := ∀ M H ds vs P Q, Sim K M H → Reps K (frz M H) ds vs → r' ds M P → rtK K M H P Q → r vs H Q
def dCB (r : DCB) (t : DTA) : DTE := fun ρ M P E => t ρ M (fun xs M1 => r xs M1 P) E
theorem de_cb {x : Str} {id : String} {r : List V → Hp → VK → Prop} {r' : DCB} (hc : CallR X (.builtin id) r) (h : CallD X.K r r') (hg : Gl X x) (hm : X.mg x = none) (hv : bootBuiltins x = some (.builtin id)) (ha : DA X W (e :: es) t)
    (hn : x ≠ "__name__" := by decide) (hdb : (x == ("__debug__" : Str)) = false := by decide)
    (he : starEach (e :: es) X.env = (false, eval e X.env) :: starEach es X.env := by rfl) (hpl : (backTo pos (starEach es X.env)).any (·.1) = false := by rfl) : DE X W (.Call (.Name x p) (e :: es) [] pos) (dCB r' t) :=
  de_of (pe_callB hc hg hm hv ha hn hdb he hpl) fun σ H Q ρ M P E sl s w k ex => lA_intro sl s w (fun ds M1 vs H1 w1 s1 g1 r1 => h M1 H1 ds vs P Q s1 r1 w1 (k.later g1)) ex
theorem de_cty {x : Str} {T : String} {r : List V → Hp → VK → Prop} {r' : DCB} (hc : CallR X (.type T) r) (h : CallD X.K r r') (hg : Gl X x) (hm : X.mg x = none) (hv : bootBuiltins x = some (.type T)) (ha : DA X W (e :: es) t)
    (hn : x ≠ "__name__" := by decide) (hdb : (x == ("__debug__" : Str)) = false := by decide)
    (he : starEach (e :: es) X.env = (false, eval e X.env) :: starEach es X.env := by rfl) (hpl : (backTo pos (starEach es X.env)).any (·.1) = false := by rfl) : DE X W (.Call (.Name x p) (e :: es) [] pos) (dCB r' t) :=
  de_of (pe_callTy hc hg hm hv ha hn hdb he hpl) fun σ H Q ρ M P E sl s w k ex => lA_intro sl s w (fun ds M1 vs H1 w1 s1 g1 r1 => h M1 H1 ds vs P Q s1 r1 w1 (k.later g1)) ex
theorem reps1 {K : Fr} {F : Hp} {d : D} {vs : List V} (r : Reps K F [d] vs) : ∃ v, vs = [v] ∧ Rep K F d v := by
  unfold Reps at r
  obtain ⟨v, u, e, h, g⟩ := r
  unfold Reps at g
  subst g
  exact ⟨v, e, h⟩
theorem reps2 {K : Fr} {F : Hp} {d d' : D} {vs : List V} (r : Reps K F [d, d'] vs) : ∃ v v', vs = [v, v'] ∧ Rep K F d v ∧ Rep K F d' v' := by
  unfold Reps at r
  obtain ⟨v, u, e, h, g⟩ := r
  obtain ⟨v', e', h'⟩ := reps1 g
  subst e'
  exact ⟨v, v', e, h, h'⟩
def cLen : DCB := fun xs M P => match xs with | [x] => (match seqD M x with | some ds => P (.int ds.length) M | none => False) | _ => False
theorem cd_len {K : Fr} : CallD K (fun xs H Q => ∃ p ys, xs = [.ref p] ∧ (SqL K H p ys ∨ SqT K H p ys) ∧ Q (.int ys.length) H) cLen := by
  intro M H ds vs P Q s r w k
  unfold cLen at w
  split at w
  · rename_i x
    split at w
    · rename_i es e
      obtain ⟨v, rfl, rv⟩ := reps1 r
      obtain ⟨a, us, rfl, q, r2⟩ := seqD_rep s rv e
      exact ⟨a, us, rfl, q, by rw [← r2.length]; exact k _ _ _ _ w s (.refl _ _) rep_int⟩
    · exact w.elim
  · exact w.elim
def cI1 (g : Int → Int) : DCB := fun xs M P => match xs with | [.int i] => P (.int (g i)) M | _ => False
theorem cd_I1 {K : Fr} {g : Int → Int} : CallD K (fun xs H Q => ∃ i, xs = [.int i] ∧ Q (.int (g i)) H) (cI1 g) := by
  intro M H ds vs P Q s r w k
  unfold cI1 at w
  split at w
  · obtain ⟨v, rfl, rv⟩ := reps1 r
    rw [rep_int_inv rv]
    exact ⟨_, rfl, k _ _ _ _ w s (.refl _ _) rep_int⟩
  · exact w.elim
def cI2 (g : Int → Int → Int) : DCB := fun xs M P => match xs with | [.int i, .int j] => P (.int (g i j)) M | _ => False
theorem cd_I2 {K : Fr} {g : Int → Int → Int} : CallD K (fun xs H Q => ∃ i j, xs = [.int i, .int j] ∧ Q (.int (g i j)) H) (cI2 g) := by
  intro M H ds vs P Q s r w k
  unfold cI2 at w
  split at w
  · obtain ⟨v, v', rfl, rv, rv'⟩ := reps2 r
    rw [rep_int_inv rv, rep_int_inv rv']
    exact ⟨_, _, rfl, k _ _ _ _ w s (.refl _ _) rep_int⟩
  · exact w.elim
def cInt : DCB := fun xs M P => match xs with | [.int i] => P (.int i) M | [.bl b] => P (.int (if b then 1 else 0)) M | _ => False
theorem cd_int {K : Fr} : CallD K (fun xs H Q => (∃ i, xs = [.int i] ∧ Q (.int i) H) ∨ ∃ k, xs = [.bl k] ∧ Q (.int (if k then 1 else 0)) H) cInt := by
  intro M H ds vs P Q s r w k
  unfold cInt at w
  split at w
  · obtain ⟨v, rfl, rv⟩ := reps1 r
    rw [rep_int_inv rv]
    exact .inl ⟨_, rfl, k _ _ _ _ w s (.refl _ _) rep_int⟩
  · obtain ⟨v, rfl, rv⟩ := reps1 r
    rw [rep_bl_inv rv]
    exact .inr ⟨_, rfl, k _ _ _ _ w s (.refl _ _) rep_int⟩
  · exact w.elim
/-- the ints, the bools of a list -/
def ints? : List D → Option (List Int)
  | [] => some []
  | .int i :: r => (ints? r).map (i :: ·)
  | _ => none
def bls? : List D → Option (List Bool)
  | [] => some []
  | .bl i :: r => (bls? r).map (i :: ·)
  | _ => none
theorem ints_rep {K : Fr} {F : Hp} : ∀ {ds : List D} {vs : List V} {ns : List Int}, Reps K F ds vs → ints? ds = some ns → vs = ns.map V.int
  | [], vs, ns, r, h => by unfold Reps at r; subst r; cases h; rfl
  | d :: ds, vs, ns, r, h => by
    unfold Reps at r
    obtain ⟨v, vr, e, r1, r2⟩ := r
    subst e
    cases d <;> simp only [ints?] at h <;> try cases h
    rename_i i
    cases e : ints? ds with
    | none => rw [e] at h; cases h
    | some ms =>
      rw [e] at h
      cases h
      rw [rep_int_inv r1, ints_rep r2 e]
      rfl
theorem bls_rep {K : Fr} {F : Hp} : ∀ {ds : List D} {vs : List V} {ns : List Bool}, Reps K F ds vs → bls? ds = some ns → vs = ns.map V.bl
  | [], vs, ns, r, h => by unfold Reps at r; subst r; cases h; rfl
  | d :: ds, vs, ns, r, h => by
    unfold Reps at r
    obtain ⟨v, vr, e, r1, r2⟩ := r
    subst e
    cases d <;> simp only [bls?] at h <;> try cases h
    rename_i i
    cases e : bls? ds with
    | none => rw [e] at h; cases h
    | some ms =>
      rw [e] at h
      cases h
      rw [rep_bl_inv r1, bls_rep r2 e]
      rfl
theorem ints_map (ns : List Int) : ints? (ns.map D.int) = some ns := by
  induction ns with
  | nil => rfl
  | cons n ns ih => simp only [List.map_cons, ints?, ih, Option.map_some]
theorem bls_map (ns : List Bool) : bls? (ns.map D.bl) = some ns := by
  induction ns with
  | nil => rfl
  | cons n ns ih => simp only [List.map_cons, bls?, ih, Option.map_some]
theorem reps_ints {K : Fr} {F : Hp} : ∀ (ns : List Int), Reps K F (ns.map D.int) (ns.map V.int)
  | [] => .nil
  | n :: ns => .cons rep_int (reps_ints ns)
/-- a built-in of a list of ints -/
def cLI (C : List Int → (Int → Prop) → Prop) : DCB := fun xs M P => match xs with
  | [x] => (match seqL M x with | some ds => (match ints? ds with | some ns => C ns (fun m => P (.int m) M) | none => False) | none => False)
  | _ => False
theorem cli_rep {K : Fr} {M : MH} {H : Hp} {ds : List D} {vs : List V} {P : D → MH → Prop} {C : List Int → (Int → Prop) → Prop} (s : Sim K M H) (r : Reps K (frz M H) ds vs) (w : cLI C ds M P) :
    ∃ a ns, vs = [V.ref a] ∧ SqL K H a (ns.map V.int) ∧ C ns (fun m => P (.int m) M) := by
  unfold cLI at w
  split at w
  · split at w
    · split at w
      · rename_i e1 _ _ e2
        obtain ⟨v, rfl, rv⟩ := reps1 r
        obtain ⟨a, us, rfl, q, r2⟩ := seqL_rep s rv e1
        rw [ints_rep r2 e2] at q
        exact ⟨a, _, rfl, q, w⟩
      · exact w.elim
    · exact w.elim
  · exact w.elim
def cSum := cLI fun ns Q => Q ns.sum
def cMax := cLI fun ns Q => 0 < ns.length ∧ ∀ m, m ∈ ns → (∀ y, y ∈ ns → y ≤ m) → Q m
def cMin := cLI fun ns Q => 0 < ns.length ∧ ∀ m, m ∈ ns → (∀ y, y ∈ ns → m ≤ y) → Q m
theorem cd_sum {K : Fr} : CallD K (rSum K) cSum := by
  intro M H ds vs P Q s r w k
  obtain ⟨a, ns, e, q, w⟩ := cli_rep s r w
  exact ⟨a, ns, e, q, k _ _ _ _ w s (.refl _ _) rep_int⟩
theorem cd_max {K : Fr} : CallD K (rMax K) cMax := by
  intro M H ds vs P Q s r w k
  obtain ⟨a, ns, e, q, h, w⟩ := cli_rep s r w
  exact ⟨a, ns, e, q, h, fun m h1 h2 => k _ _ _ _ (w m h1 h2) s (.refl _ _) rep_int⟩
theorem cd_min {K : Fr} : CallD K (rMin K) cMin := by
  intro M H ds vs P Q s r w k
  obtain ⟨a, ns, e, q, h, w⟩ := cli_rep s r w
  exact ⟨a, ns, e, q, h, fun m h1 h2 => k _ _ _ _ (w m h1 h2) s (.refl _ _) rep_int⟩
def cSortI : DCB := fun xs M P => match xs with
  | [x] => (match seqL M x with | some ds => (match ints? ds with | some ns => ∀ ms : List Int, ms.Perm ns → ms.Pairwise (· ≤ ·) → P (.lst (ms.map D.int)) M | none => False) | none => False)
  | _ => False
theorem cd_sortI {K : Fr} : CallD K (rSortedI K) cSortI := by
  intro M H ds vs P Q s r w k
  unfold cSortI at w
  split at w
  · split at w
    · split at w
      · rename_i e1 _ _ e2
        obtain ⟨v, rfl, rv⟩ := reps1 r
        obtain ⟨a, us, rfl, q, r2⟩ := seqL_rep s rv e1
        rw [ints_rep r2 e2] at q
        exact ⟨a, _, rfl, q, fun ms p h1 h2 hp => new_lst s (reps_ints ms) (w ms h1 h2) k hp⟩
      · exact w.elim
    · exact w.elim
  · exact w.elim
def cBL (g : List Bool → Bool) : DCB := fun xs M P => match xs with
  | [x] => (match seqL M x with | some ds => (match bls? ds with | some ns => P (.bl (g ns)) M | none => False) | none => False)
  | _ => False
theorem cd_any {K : Fr} : CallD K (rAny K) (cBL fun bs => bs.any id) := by
  intro M H ds vs P Q s r w k
  unfold cBL at w
  split at w
  · split at w
    · split at w
      · rename_i e1 _ _ e2
        obtain ⟨v, rfl, rv⟩ := reps1 r
        obtain ⟨a, us, rfl, q, r2⟩ := seqL_rep s rv e1
        rw [bls_rep r2 e2] at q
        exact ⟨a, _, rfl, q, k _ _ _ _ w s (.refl _ _) rep_bl⟩
      · exact w.elim
    · exact w.elim
  · exact w.elim
/-- tuple(xs), list(xs) -/
def cTup : DCB := fun xs M P => match xs with
  | [x] => (match seqT M x with | some ds => P (.tup ds) M | none => False)
  | _ => False
theorem cd_tup {K : Fr} : CallD K (rTupN K) cTup := by
  intro M H ds vs P Q s r w k
  unfold cTup at w
  split at w
  · rename_i x
    split at w
    · rename_i es e
      obtain ⟨v, rfl, rv⟩ := reps1 r
      cases x
      case tup es' =>
        simp only [seqT] at e
        cases e
        obtain ⟨a, us, rfl, q, r2⟩ := rep_tup_inv rv
        exact ⟨a, us, rfl, .inr ⟨frz_le.tup q.t, k _ _ _ _ w s (.refl _ _) rv⟩⟩
      all_goals
        obtain ⟨a, us, rfl, q, r2⟩ := seqL_rep s rv e
        exact ⟨a, us, rfl, .inl ⟨q, new_tup s r2 w k⟩⟩
    · exact w.elim
  · exact w.elim
def cLst : DCB := fun xs M P => match xs with
  | [x] => (match seqD M x with | some ds => P (.lst ds) M | none => False)
  | _ => False
theorem cd_lst {K : Fr} : CallD K (fun xs H Q => ∃ p ys, xs = [.ref p] ∧ (SqL K H p ys ∨ SqT K H p ys) ∧ ∀ l, H l = none → Q (.ref l) (upd H l (.lst ys))) cLst := by
  intro M H ds vs P Q s r w k
  unfold cLst at w
  split at w
  · rename_i x
    split at w
    · rename_i es e
      obtain ⟨v, rfl, rv⟩ := reps1 r
      obtain ⟨a, us, rfl, q, r2⟩ := seqD_rep s rv e
      exact ⟨a, us, rfl, q, fun l hl => new_lst s r2 w k hl⟩
    · exact w.elim
  · exact w.elim
end
end DL

namespace DL
open PySem PySem.Spec PyProof.Rows L2
section
variable {X : Cx} {W : WX} {a b c e : Expr} {es : List Expr} {st : Stmt} {rest body orelse : List Stmt} {ta tb tc : DTE} {tA tB' : DTT} {t u : DTS} {pos p p' : Pos}

/-! ### statements -/
theorem ds_of {st : Stmt} {ts : TS} {t : DTS} (h : PS X st ts) (q : ∀ DD σ H N ρ M, Slots X.K (frz M H) ρ σ → Sim X.K M H → t N ρ M → EndK X.K W M H N DD → ts DD σ H) : DS X W st t :=
  PS.to h fun DD σ H ⟨ρ, M, N, sl, s, w, k⟩ => q DD σ H N ρ M sl s w k
theorem dss_of {st : List Stmt} {ts : TS} {t : DTS} (h : PSs X st ts) (q : ∀ DD σ H N ρ M, Slots X.K (frz M H) ρ σ → Sim X.K M H → t N ρ M → EndK X.K W M H N DD → ts DD σ H) : DSs X W st t :=
  PSs.to h fun DD σ H ⟨ρ, M, N, sl, s, w, k⟩ => q DD σ H N ρ M sl s w k
theorem lS_intro {K : Fr} {W : WX} {t : DTS} {DD : Ends} {σ : L2.St} {H : Hp} {ρ : Ro} {M : MH} {N : DEnds} (sl : Slots K (frz M H) ρ σ) (s : Sim K M H) (w : t N ρ M) (k : EndK K W M H N DD) : lS K W t DD σ H := ⟨ρ, M, N, sl, s, w, k⟩
/-- an expression's exception, at a statement -/
abbrev exN (N : DEnds) (ρ : Ro) : EX := fun C f d M' => N.ex C f d ρ M'
def dNext : DTS := fun N ρ M => N.nx ρ M
def dSeq (t u : DTS) : DTS := fun N ρ M => t { N with nx := u N } ρ M
theorem dss_nil : DSs X W [] dNext := dss_of pss_nil fun DD σ H N ρ M sl s w k => k.nx _ _ _ _ w sl s (.refl _ _)
theorem dss_cons (h1 : DS X W st t) (h2 : DSs X W rest u) : DSs X W (st :: rest) (dSeq t u) := dss_of (pss_cons h1 h2) fun DD σ H N ρ M sl s w k =>
  lS_intro (N := { N with nx := u N }) sl s w ⟨fun ρ' M' σ' H' w' sl' s' g' => lS_intro sl' s' w' (k.later g'), k.rt, k.bk, k.ct, k.ex⟩
theorem dss_one (h1 : DS X W st t) : DSs X W [st] t := pss_one h1
def dBreak : DTS := fun N ρ M => N.bk ρ M
def dCont : DTS := fun N ρ M => N.ct ρ M
theorem ds_pass : DS X W (.Pass pos) dNext := ds_of ps_pass fun DD σ H N ρ M sl s w k => k.nx _ _ _ _ w sl s (.refl _ _)
theorem ds_break : DS X W (.Break pos) dBreak := ds_of ps_break fun DD σ H N ρ M sl s w k => k.bk _ _ _ _ w sl s (.refl _ _)
theorem ds_continue : DS X W (.Continue pos) dCont := ds_of ps_continue fun DD σ H N ρ M sl s w k => k.ct _ _ _ _ w sl s (.refl _ _)
theorem ds_doc {x j pos pos'} : DS X W (.Expr (.Constant (.str x) j pos) pos') dNext := ds_of ps_doc fun DD σ H N ρ M sl s w k => k.nx _ _ _ _ w sl s (.refl _ _)
def dDrop (te : DTE) : DTS := fun N ρ M => te ρ M (fun _ M1 => N.nx ρ M1) (exN N ρ)
theorem ds_expr (he : DE X W e ta) (hs : swapsWith e none pos.line X.env = pure false := by rfl) : DS X W (.Expr e pos) (dDrop ta) := ds_of (ps_expr he hs) fun DD σ H N ρ M sl s w k =>
  lE_intro sl s w (fun x M1 vx H1 w1 s1 g1 r1 => k.nx _ _ _ _ w1 (sl.mono g1) s1 g1) (k.exE sl)
def dRet (te : DTE) : DTS := fun N ρ M => te ρ M N.rt (exN N ρ)
theorem ds_ret (he : DE X W e ta) : DS X W (.Return (some e) pos) (dRet ta) := ds_of (ps_ret he) fun DD σ H N ρ M sl s w k => lE_intro sl s w k.rt (k.exE sl)
def dRetN : DTS := fun N _ M => N.rt .non M
theorem ds_retN : DS X W (.Return none pos) dRetN := ds_of ps_retN fun DD σ H N ρ M sl s w k => k.rt _ _ _ _ w s (.refl _ _) rep_non
def dIfS (c : DTT) (t u : DTS) : DTS := fun N ρ M => c ρ M (fun b M1 => if b = true then t N ρ M1 else u N ρ M1) (exN N ρ)
theorem ds_if {x y : List Stmt} (hc : DT X W c tA) (ha : DSs X W x t) (hb : DSs X W y u) : DS X W (.If c x y pos) (dIfS tA t u) := ds_of (ps_if hc ha hb) fun DD σ H N ρ M sl s w k =>
  lT_intro sl s w (fun b M1 H1 w1 s1 g1 => by
    cases b with
    | true => rw [if_pos rfl] at w1 ⊢; exact lS_intro (sl.mono g1) s1 w1 (k.later g1)
    | false => rw [if_neg Bool.false_ne_true] at w1 ⊢; exact lS_intro (sl.mono g1) s1 w1 (k.later g1)) (k.exE sl)
def dNever : DTS := fun _ _ _ => False
theorem ds_never : DS X W st dNever := ds_of ps_never fun DD σ H N ρ M sl s w k => w
theorem dss_never {sts : List Stmt} : DSs X W sts dNever := dss_of pss_never fun DD σ H N ρ M sl s w k => w
/-- the ways behind an if joined -/
def dCut (t u : DTS) : DTS := fun N ρ M => ∃ Mid : Ro → MH → Prop, t { N with nx := Mid } ρ M ∧ ∀ ρ' M', Mid ρ' M' → u N ρ' M'
theorem dss_cut (h1 : DS X W st t) (h2 : DSs X W rest u) : DSs X W (st :: rest) (dCut t u) := dss_of (pss_cons h1 h2) fun DD σ H N ρ M sl s ⟨Mid, w, q⟩ k =>
  lS_intro (N := { N with nx := Mid }) sl s w ⟨fun ρ' M' σ' H' w' sl' s' g' => lS_intro sl' s' (q _ _ w') (k.later g'), k.rt, k.bk, k.ct, k.ex⟩

/-! ### targets and assignments -/
def dgN (i : Nat) : DTG := fun d ρ M P => P (ρ.set i (some d)) M
theorem dg_name {i : Nat} {x : Str} (hN : X.N.Nodup) (hi : X.N[i]? = some x) (hx : Loc X.env.scope x) (hf : X.fn x = true ∨ X.env.scope.names.lookup x = some .local := by first | exact .inl rfl | exact .inr rfl | assumption) : DG X (.Name x pos) (dgN i) :=
  PG.to (pg_name hN hi hx hf) fun v σ H Q ⟨ρ, M, d, P, sl, s, r, w, k⟩ => k _ _ _ _ w (sl.set i r) s (.refl _ _)
def dgNil : DTGs := fun ds ρ M P => ds = [] ∧ P ρ M
def dgCons (t : DTG) (u : DTGs) : DTGs := fun ds ρ M P => match ds with | d :: r => t d ρ M (fun ρ' M' => u r ρ' M' P) | [] => False
theorem dgs_nil : DGs X [] dgNil := PGs.to pgs_nil fun v σ H Q ⟨ρ, M, ds, P, sl, s, r, w, k⟩ => by
  obtain ⟨e, w⟩ := w
  subst e
  unfold Reps at r
  exact ⟨r, k _ _ _ _ w sl s (.refl _ _)⟩
theorem dgs_cons {t : DTG} {u : DTGs} (h1 : DG X e t) (h2 : DGs X es u) (hs : (assignEach (e :: es) X.env).map (·.2) = assign e X.env :: (assignEach es X.env).map (·.2) := by rfl) : DGs X (e :: es) (dgCons t u) :=
  PGs.to (pgs_cons h1 h2 hs) fun vs σ H Q ⟨ρ, M, ds, P, sl, s, r, w, k⟩ => by
    unfold dgCons at w
    split at w
    · rename_i d dr
      unfold Reps at r
      obtain ⟨v, vr, e, r1, r2⟩ := r
      exact ⟨v, vr, e, ρ, M, d, _, sl, s, r1, w, fun ρ' M' σ' H' w' sl' s' g' => ⟨ρ', M', dr, P, sl', s', r2.mono g', w', k.later g'⟩⟩
    · exact w.elim
/-- (a, b, ..) = a tuple -/
def dgTup (n : Nat) (t : DTGs) : DTG := fun d ρ M P => match d with | .tup ds => ds.length = n ∧ t ds ρ M P | .pr ds => ds.length = n ∧ t ds ρ M P | _ => False
theorem dg_tup {k : Nat} {t : DTGs} {n : Nat} (hc : X.calm = true) (h : DGs X es t) (hn : (assignEach es X.env).length = n := by rfl) (hst : (assignEach es X.env).findIdx? (·.1) = none := by rfl) : DG X (.Tuple es k pos) (dgTup n t) :=
  PG.to (pg_tup hc h hn hst) fun v σ H Q ⟨ρ, M, d, P, sl, s, r, w, k⟩ => by
    unfold dgTup at w
    split at w
    · obtain ⟨a, vs, rfl, q, r2⟩ := rep_tup_inv r
      exact ⟨a, vs, rfl, frz_le.tup q.t, by rw [← r2.length]; exact w.1, ρ, M, _, P, sl, s, r2, w.2, k⟩
    · obtain ⟨a, vs, rfl, q, r2⟩ := rep_pr_inv r
      exact ⟨a, vs, rfl, frz_le.tup q, by rw [← r2.length]; exact w.1, ρ, M, _, P, sl, s, r2, w.2, k⟩
    · exact w.elim
/-- (a, b, ..) = a list -/
def dgLst (n : Nat) (t : DTGs) : DTG := fun d ρ M P => match seqL M d with | some ds => ds.length = n ∧ t ds ρ M P | none => False
theorem dg_lst {k : Nat} {t : DTGs} {n : Nat} (hc : X.calm = true) (h : DGs X es t) (hn : (assignEach es X.env).length = n := by rfl) (hst : (assignEach es X.env).findIdx? (·.1) = none := by rfl) : DG X (.Tuple es k pos) (dgLst n t) :=
  PG.to (pg_lst hc h hn hst) fun v σ H Q ⟨ρ, M, d, P, sl, s, r, w, k⟩ => by
    unfold dgLst at w
    split at w
    · rename_i ds e
      obtain ⟨a, vs, rfl, q, r2⟩ := seqL_rep s r e
      exact ⟨a, vs, rfl, q, by rw [← r2.length]; exact w.1, ρ, M, _, P, sl, s, r2, w.2, k⟩
    · exact w.elim
def dAsg (te : DTE) (g : DTG) : DTS := fun N ρ M => te ρ M (fun d M1 => g d ρ M1 N.nx) (exN N ρ)
theorem ds_asg {tg e : Expr} {g : DTG} (he : DE X W e ta) (hg : DG X tg g) (hs : swapsWithSole [tg] e pos.line X.env = pure false := by rfl) (hw : swappedStores [tg] e X.env = pure none := by rfl)
    (h1 : (assignEach [tg] X.env).map (·.2) = [assign tg X.env] := by rfl) : DS X W (.Assign [tg] e pos) (dAsg ta g) := ds_of (ps_asg he hg hs hw h1) fun DD σ H N ρ M sl s w k =>
  lE_intro sl s w (fun x M1 vx H1 w1 s1 g1 r1 => ⟨ρ, M1, x, _, sl.mono g1, s1, r1, w1, k.nx.later g1⟩) (k.exE sl)
def dSet (i : Nat) (te : DTE) : DTS := fun N ρ M => te ρ M (fun d M1 => N.nx (ρ.set i (some d)) M1) (exN N ρ)
theorem ds_set {i : Nat} {x : Str} {pos' : Pos} (hN : X.N.Nodup) (hi : X.N[i]? = some x) (hx : Loc X.env.scope x) (he : DE X W e ta) (hs : swapsWith e (some (.Name x pos')) pos.line X.env = pure false := by rfl) (hf : X.fn x = true ∨ X.env.scope.names.lookup x = some .local := by first | exact .inl rfl | exact .inr rfl | assumption) :
    DS X W (.Assign [.Name x pos'] e pos) (dSet i ta) := ds_of (ps_set hN hi hx he hs hf) fun DD σ H N ρ M sl s w k =>
  lE_intro sl s w (fun x M1 vx H1 w1 s1 g1 r1 => k.nx _ _ _ _ w1 ((sl.mono g1).set i r1) s1 g1) (k.exE sl)
/-- a, b = x, y -/
def dPar (i j : Nat) (ta : DTA) : DTS := fun N ρ M => ta ρ M (fun xs M1 => match xs with | [x, y] => N.nx ((ρ.set i (some x)).set j (some y)) M1 | _ => False) (exN N ρ)
theorem ds_par {t : DTA} {i j : Nat} {x y : Str} {px py pt : Pos} {kt k2 pt2} (hc : X.calm = true) (hN : X.N.Nodup) (hi : X.N[i]? = some x) (hj : X.N[j]? = some y) (hij : i ≠ j)
    (hx : X.env.scope.names.lookup x = some .local) (hy : X.env.scope.names.lookup y = some .local) (ha : DA X W [a, b] t)
    (hw : swappedStores [.Tuple [.Name x px, .Name y py] kt pt] (.Tuple [a, b] k2 pt2) X.env = pure (some [x, y]))
    (hs : swapsWithSole [.Tuple [.Name x px, .Name y py] kt pt] (.Tuple [a, b] k2 pt2) pos.line X.env = pure false := by rfl) :
    DS X W (.Assign [.Tuple [.Name x px, .Name y py] kt pt] (.Tuple [a, b] k2 pt2) pos) (dPar i j t) := ds_of (ps_par hc hN hi hj hij hx hy ha hw hs) fun DD σ H N ρ M sl s w k =>
  lA_intro sl s w (fun xs M1 vs H1 w1 s1 g1 r1 => by
    split at w1
    · obtain ⟨v, v', rfl, rv, rv'⟩ := reps2 r1
      exact ⟨v, v', rfl, k.nx _ _ _ _ w1 (((sl.mono g1).set i rv).set j rv') s1 g1⟩
    · exact w1.elim) (k.exE sl)
theorem reps3 {K : Fr} {F : Hp} {d d' d'' : D} {vs : List V} (r : Reps K F [d, d', d''] vs) : ∃ v v' v'', vs = [v, v', v''] ∧ Rep K F d v ∧ Rep K F d' v' ∧ Rep K F d'' v'' := by
  unfold Reps at r
  obtain ⟨v, u, e, h, g⟩ := r
  obtain ⟨v', v'', e', h', h''⟩ := reps2 g
  subst e'
  exact ⟨v, v', v'', e, h, h', h''⟩
def dPar3 (i j l : Nat) (ta : DTA) : DTS := fun N ρ M => ta ρ M (fun xs M1 => match xs with | [x, y, z] => N.nx (((ρ.set i (some x)).set j (some y)).set l (some z)) M1 | _ => False) (exN N ρ)

/-- x op= e -/
def dAugI (g : Int → Int → Int) (i : Nat) (te : DTE) : DTS := fun N ρ M => match ρ[i]? with
  | some (some (.int x)) => te ρ M (fun d M1 => match d with | .int y => N.nx (ρ.set i (some (.int (g x y)))) M1 | _ => False) (exN N ρ)
  | _ => False
theorem ds_aug {g : Int → Int → Int} {op : Operator} {i : Nat} {x : Str} {pos' : Pos} (ho : PIp X op (ipI g)) (hN : X.N.Nodup) (hi : X.N[i]? = some x) (hx : Loc X.env.scope x) (he : DE X W e ta) (hf : X.fn x = true ∨ X.env.scope.names.lookup x = some .local := by first | exact .inl rfl | exact .inr rfl | assumption) :
    DS X W (.AugAssign (.Name x pos') op e pos) (dAugI g i ta) := ds_of (ps_aug hN hi hx he ho hf) fun DD σ H N ρ M sl s w k => by
  unfold dAugI at w
  split at w
  · rename_i n en
    obtain ⟨v, q, r⟩ := sl.at_ i _ en
    rw [rep_int_inv r] at q
    refine ⟨.int n, q, lE_intro sl s w (fun y M1 vy H1 w1 s1 g1 r1 => ?_) (k.exE sl)⟩
    split at w1
    · rename_i m
      rw [rep_int_inv r1]
      exact ⟨n, m, rfl, rfl, k.nx _ _ _ _ w1 ((sl.mono g1).set i rep_int) s1 g1⟩
    · exact w1.elim
  · exact w.elim
theorem ds_addTo {i : Nat} {x : Str} {pos' : Pos} (hN : X.N.Nodup) (hi : X.N[i]? = some x) (hx : Loc X.env.scope x) (he : DE X W e ta) (hf : X.fn x = true ∨ X.env.scope.names.lookup x = some .local := by first | exact .inl rfl | exact .inr rfl | assumption) :
    DS X W (.AugAssign (.Name x pos') .Add e pos) (dAugI (fun i j => i + j) i ta) := ds_aug ip_add hN hi hx he hf
theorem ds_subFrom {i : Nat} {x : Str} {pos' : Pos} (hN : X.N.Nodup) (hi : X.N[i]? = some x) (hx : Loc X.env.scope x) (he : DE X W e ta) (hf : X.fn x = true ∨ X.env.scope.names.lookup x = some .local := by first | exact .inl rfl | exact .inr rfl | assumption) :
    DS X W (.AugAssign (.Name x pos') .Sub e pos) (dAugI (fun i j => i - j) i ta) := ds_aug ip_sub hN hi hx he hf
/-- xs[i] = e, xs a list that may be changed -/
def dgIx (to ti : DTE) : DTG := fun d ρ M P => to ρ M (fun o M1 => ti ρ M1 (fun i M2 => match o, i with
  | .ref a, .int k => (match M2 a with | some (.lst ds) => (match ixN ds.length k with | some j => P ρ (sett M2 a (.lst (ds.set j d))) | none => False) | _ => False)
  | _, _ => False) fun _ _ _ _ => False) fun _ _ _ _ => False
theorem exK_no {K : Fr} {W : WX} {M : MH} {H : Hp} {σ : L2.St} : exK K W M H σ (fun _ _ _ _ => False) := fun _ _ _ _ _ _ _ h => h.elim
theorem dg_ix {o i : Expr} {to ti : DTE} (ho : DE X W o to) (hi : DE X W i ti)
    (ha : ∀ v, assign (.Subscript o i pos) X.env v = (do
      let ov ← holding [v] (eval o X.env)
      let iv ← holding [v, ov] (eval i X.env)
      standAt pos
      holding [v, ov, iv] (setItem ov iv v)
      release [v, ov, iv] []) := by intro _; rfl) : DG X (.Subscript o i pos) (dgIx to ti) :=
  PG.to (pg_sub ho hi set_list ha) fun v σ H Q ⟨ρ, M, d, P, sl, s, r, w, k⟩ =>
    lE_intro sl s w (fun x M1 vx H1 w1 s1 g1 r1 => lE_intro (sl.mono g1) s1 w1 (fun y M2 vy H2 w2 s2 g2 r2 => by
      split at w2
      · split at w2
        · rename_i a kk _ ds em
          split at w2
          · rename_i j ej
            obtain ⟨hh, eh, us, rfl, ru⟩ := s2 _ _ em
            have rv := r.mono (g1.trans g2)
            rw [rep_ref_inv r1, rep_int_inv r2]
            refine ⟨_, us, _, j, rfl, rfl, eh, by rw [← ru.length]; exact ej, ?_⟩
            exact k _ _ _ _ w2 (sl.mono ((g1.trans g2).trans (grow_put em))) (s2.put em ⟨_, rfl, ru.set j rv⟩) ((g1.trans g2).trans (grow_put em))
          · exact w2.elim
        · exact w2.elim
      · exact w2.elim) exK_no) exK_no
end
end DL

namespace DL
open PySem PySem.Spec PyProof.Rows L2
section
variable {X : Cx} {W : WX} {a b c e iter tg : Expr} {es : List Expr} {st : Stmt} {rest body orelse : List Stmt} {ta tb tc : DTE} {tA tB' : DTT} {t u : DTS} {pos p p' : Pos}

/-! ### what is walked -/
theorem di_of {ti : TI} {t : DTI} (h : PI X tg iter ti) (q : ∀ σ H R ρ M P E, Slots X.K (frz M H) ρ σ → Sim X.K M H → t ρ M P E →
    (∀ ds M' J H', P ds M' → Sim X.K M' H' → Grow M H M' H' → Wk X.K J ds (frz M' H') → R J H') → exK X.K W M H σ E → ti σ H R) : DI X W tg iter t :=
  PI.to h fun σ H R ⟨ρ, M, P, E, sl, s, w, k, ex⟩ => q σ H R ρ M P E sl s w k ex
/-- a list that nobody changes -/
theorem wk_lst {K : Fr} {F : Hp} {a : Addr} {ds : List D} {vs : List V} (h : SqL K F a vs) (r : Reps K F ds vs) : Wk K (Itl K a) ds F where
  go := fun M H s l i d e => by
    have hq : SqL K H a vs := frz_le.lst (l.lst h)
    obtain ⟨v, ev, rv⟩ := r.getD e
    exact ⟨⟨vs, v, hq, ev⟩, fun x H' ⟨eH, y⟩ => by
      subst eH
      have ex := y vs hq
      rw [ev] at ex
      cases ex
      exact ⟨s, .refl _ _, rv.mono l⟩⟩
  stop := fun M H s l i hi => ⟨vs, frz_le.lst (l.lst h), by rw [← r.length]; exact hi⟩
theorem wk_tup {K : Fr} {F : Hp} {a : Addr} {ds : List D} {vs : List V} (h : SqT K F a vs) (r : Reps K F ds vs) : Wk K (Itt K a) ds F where
  go := fun M H s l i d e => by
    have hq : SqT K H a vs := frz_le.tup (l.tup h)
    obtain ⟨v, ev, rv⟩ := r.getD e
    exact ⟨⟨vs, v, hq, ev⟩, fun x H' ⟨eH, y⟩ => by
      subst eH
      have ex := y vs hq
      rw [ev] at ex
      cases ex
      exact ⟨s, .refl _ _, rv.mono l⟩⟩
  stop := fun M H s l i hi => ⟨vs, frz_le.tup (l.tup h), by rw [← r.length]; exact hi⟩
def dWL (ta : DTE) : DTI := fun ρ M P E => ta ρ M (fun x M1 => match x with | .lst ds => P ds M1 | _ => False) E
def dWT (ta : DTE) : DTI := fun ρ M P E => ta ρ M (fun x M1 => match x with | .tup ds => P ds M1 | .pr ds => P ds M1 | _ => False) E
theorem di_lst (h : DE X W iter ta) : DI X W tg iter (dWL ta) := di_of (pi_list h) fun σ H R ρ M P E sl s w k ex => lE_intro sl s w (fun x M1 vx H1 w1 s1 g1 r1 => by
  split at w1
  · unfold Rep at r1
    obtain ⟨a, vs, e, q, r⟩ := r1
    exact ⟨a, e, ⟨vs, frz_le.lst q⟩, k _ M1 _ H1 w1 s1 g1 (wk_lst q r)⟩
  · exact w1.elim) ex
theorem di_tup (h : DE X W iter ta) : DI X W tg iter (dWT ta) := di_of (pi_tup h) fun σ H R ρ M P E sl s w k ex => lE_intro sl s w (fun x M1 vx H1 w1 s1 g1 r1 => by
  split at w1
  · obtain ⟨a, vs, e, q, r⟩ := rep_tup_inv r1
    exact ⟨a, e, ⟨vs, frz_le.tup q.t⟩, k _ M1 _ H1 w1 s1 g1 (wk_tup q.t r)⟩
  · obtain ⟨a, vs, e, q, r⟩ := rep_pr_inv r1
    exact ⟨a, e, ⟨vs, frz_le.tup q⟩, k _ M1 _ H1 w1 s1 g1 (wk_tup q r)⟩
  · exact w1.elim) ex
/-- ints from lo on -/
def upTo (lo : Int) : Nat → List D
  | 0 => []
  | n + 1 => .int lo :: upTo (lo + 1) n
theorem upTo_len (lo : Int) (n : Nat) : (upTo lo n).length = n := by
  induction n generalizing lo with
  | zero => rfl
  | succ n ih => simp only [upTo, List.length_cons, ih]
theorem upTo_get (lo : Int) (n i : Nat) {d : D} (h : (upTo lo n)[i]? = some d) : i < n ∧ d = .int (lo + i) := by
  induction n generalizing lo i with
  | zero => simp [upTo] at h
  | succ n ih =>
    cases i with
    | zero => simp only [upTo, List.getElem?_cons_zero, Option.some.injEq] at h; subst h; exact ⟨Nat.succ_pos _, by simp⟩
    | succ i =>
      simp only [upTo, List.getElem?_cons_succ] at h
      obtain ⟨h1, h2⟩ := ih _ _ h
      refine ⟨by omega, ?_⟩
      rw [h2]
      congr 1
      omega
theorem wk_rng {K : Fr} {F : Hp} (lo : Int) (n : Nat) : Wk K (Itr lo n) (upTo lo n) F where
  go := fun M H s l i d e => by
    obtain ⟨h1, h2⟩ := upTo_get _ _ _ e
    exact ⟨h1, fun x H' ⟨eH, ex⟩ => by subst eH ex h2; exact ⟨s, .refl _ _, rep_int⟩⟩
  stop := fun M H s l i hi => by rw [upTo_len] at hi; exact hi
def dWR1 (t : DTA) : DTI := fun ρ M P E => t ρ M (fun xs M1 => match xs with | [.int j] => (-(2 ^ 62) ≤ j ∧ j < 2 ^ 62) ∧ P (upTo 0 j.toNat) M1 | _ => False) E
def dWR2 (t : DTA) : DTI := fun ρ M P E => t ρ M (fun xs M1 => match xs with | [.int i, .int j] => (-(2 ^ 62) ≤ i ∧ i < 2 ^ 62 ∧ -(2 ^ 62) ≤ j ∧ j < 2 ^ 62) ∧ P (upTo i (j - i).toNat) M1 | _ => False) E
theorem di_range1 {t : DTA} (hg : Gl X "range") (hm : X.mg "range" = none) (ha : DA X W [a] t) (hs : starEach [a] X.env = [(false, eval a X.env)] := by rfl) : DI X W tg (.Call (.Name "range" p) [a] [] pos) (dWR1 t) :=
  di_of (pi_range1 hg hm ha hs) fun σ H R ρ M P E sl s w k ex => lA_intro sl s w (fun xs M1 vs H1 w1 s1 g1 r1 => by
    split at w1
    · obtain ⟨v, rfl, rv⟩ := reps1 r1
      rw [rep_int_inv rv]
      exact ⟨_, rfl, w1.1.1, w1.1.2, k _ M1 _ H1 w1.2 s1 g1 (wk_rng _ _)⟩
    · exact w1.elim) ex
theorem di_range2 {t : DTA} (hg : Gl X "range") (hm : X.mg "range" = none) (ha : DA X W [a, b] t) (hs : starEach [a, b] X.env = [(false, eval a X.env), (false, eval b X.env)] := by rfl) (hs2 : starEach [b] X.env = [(false, eval b X.env)] := by rfl) :
    DI X W tg (.Call (.Name "range" p) [a, b] [] pos) (dWR2 t) :=
  di_of (pi_range2 hg hm ha hs hs2) fun σ H R ρ M P E sl s w k ex => lA_intro sl s w (fun xs M1 vs H1 w1 s1 g1 r1 => by
    split at w1
    · obtain ⟨v, v', rfl, rv, rv'⟩ := reps2 r1
      rw [rep_int_inv rv, rep_int_inv rv']
      exact ⟨_, _, rfl, w1.1, k _ M1 _ H1 w1.2 s1 g1 (wk_rng _ _)⟩
    · exact w1.elim) ex
/-- reversed(range(n)) -/
def downs : Nat → List D
  | 0 => []
  | n + 1 => .int n :: downs n
theorem downs_len (n : Nat) : (downs n).length = n := by
  induction n with
  | zero => rfl
  | succ n ih => simp only [downs, List.length_cons, ih]
theorem downs_get (n i : Nat) {d : D} (h : (downs n)[i]? = some d) : i < n ∧ d = .int ((n : Int) - 1 - i) := by
  induction n generalizing i with
  | zero => simp [downs] at h
  | succ n ih =>
    cases i with
    | zero => simp only [downs, List.getElem?_cons_zero, Option.some.injEq] at h; subst h; exact ⟨Nat.succ_pos _, by congr 1; omega⟩
    | succ i =>
      simp only [downs, List.getElem?_cons_succ] at h
      obtain ⟨h1, h2⟩ := ih _ h
      exact ⟨by omega, by rw [h2]; congr 1; omega⟩
def dWD (ta : DTE) : DTI := fun ρ M P E => ta ρ M (fun x M1 => match x with | .int j => (-(2 ^ 62) ≤ j ∧ j < 2 ^ 62) ∧ P (downs j.toNat) M1 | _ => False) E
theorem di_down {p2 p3 pos2 : Pos} (hg : Gl X "range") (hm : X.mg "range" = none) (hg2 : Gl X "reversed") (hm2 : X.mg "reversed" = none) (ha : DE X W a ta)
    (na : starEach [a] X.env = (false, eval a X.env) :: starEach [] X.env := by rfl) (hs : starEach [Expr.Call (.Name "range" p) [a] [] pos] X.env = (false, eval (.Call (.Name "range" p) [a] [] pos) X.env) :: starEach [] X.env := by rfl) :
    DI X W tg (.Call (.Name "reversed" p2) [.Call (.Name "range" p) [a] [] pos] [] pos2) (dWD ta) :=
  di_of (pi_revR hg2 hm2 (prg_1 hg hm ha na) hs) fun σ H R ρ M P E sl s w k ex => lE_intro sl s w (fun x M1 vx H1 w1 s1 g1 r1 => by
    split at w1
    · rename_i j
      rw [rep_int_inv r1]
      refine ⟨j, rfl, by omega, by omega, w1.1.1, w1.1.2, k _ M1 _ H1 w1.2 s1 g1 ⟨fun M H s l i d e => ?_, fun M H s l i hi => ?_⟩⟩
      · obtain ⟨h1, h2⟩ := downs_get _ _ e
        refine ⟨by show i < (j - 0).toNat; rw [Int.sub_zero]; exact h1, fun x H' ⟨eH, ex⟩ => ?_⟩
        subst eH ex h2
        refine ⟨s, .refl _ _, ?_⟩
        have : (0 + (((j - 0).toNat : Nat) : Int) - 1 + (i : Nat) * -1) = ((j.toNat : Nat) : Int) - 1 - (i : Nat) := by rw [Int.sub_zero]; omega
        rw [this]
        exact rep_int
      · rw [downs_len] at hi
        show (j - 0).toNat ≤ i
        rw [Int.sub_zero]
        exact hi
    · exact w1.elim) ex
/-- enumerate of a list -/
def enumD : Int → List D → List D
  | _, [] => []
  | i, d :: ds => .pr [.int i, d] :: enumD (i + 1) ds
theorem enumD_get {n : Int} {ds : List D} {i : Nat} {d : D} (h : (enumD n ds)[i]? = some d) : ∃ x, ds[i]? = some x ∧ d = .pr [.int (n + i), x] := by
  induction ds generalizing n i with
  | nil => simp [enumD] at h
  | cons y ds ih =>
    cases i with
    | zero => simp only [enumD, List.getElem?_cons_zero, Option.some.injEq] at h; subst h; exact ⟨y, rfl, by simp⟩
    | succ i =>
      simp only [enumD, List.getElem?_cons_succ] at h
      obtain ⟨x, h1, h2⟩ := ih h
      refine ⟨x, by simpa using h1, ?_⟩
      rw [h2]
      congr 3
      omega
theorem enumD_len {n : Int} {ds : List D} : (enumD n ds).length = ds.length := by
  induction ds generalizing n with
  | nil => rfl
  | cons y ds ih => simp only [enumD, List.length_cons, ih]
theorem reps_pair {K : Fr} {F : Hp} {x y : D} {v u : V} (h : Rep K F x v) (g : Rep K F y u) : Reps K F [x, y] [v, u] := .cons h (.cons g .nil)
def dWE (t : DTA) : DTI := fun ρ M P E => t ρ M (fun xs M1 => match xs with | [.lst ds] => P (enumD 0 ds) M1 | _ => False) E
theorem di_enum {t : DTA} {tpos : Pos} {elts : List Expr} {kk : Nat} (hg : Gl X "enumerate") (hm : X.mg "enumerate" = none) (ha : DA X W [e] t) (hs : starEach [e] X.env = [(false, eval e X.env)] := by rfl) :
    DI X W (.Tuple elts kk tpos) (.Call (.Name "enumerate" p) [e] [] pos) (dWE t) :=
  di_of (pi_enum hg hm ha hs) fun σ H R ρ M P E sl s w k ex => lA_intro sl s w (fun xs M1 vs H1 w1 s1 g1 r1 => by
    split at w1
    · obtain ⟨v, rfl, rv⟩ := reps1 r1
      unfold Rep at rv
      obtain ⟨a, us, rfl, q, r⟩ := rv
      refine ⟨a, us, rfl, frz_le.lst q, k _ M1 _ H1 w1 s1 g1 ⟨fun M H s l i d e => ?_, fun M H s l i hi => ?_⟩⟩
      · have hq : SqL X.K H a us := frz_le.lst (l.lst q)
        obtain ⟨x, ex, rfl⟩ := enumD_get e
        obtain ⟨v, ev, rv⟩ := r.getD ex
        refine ⟨⟨us, v, hq, ev⟩, fun y H' ⟨T, z, ey, hT, eH, hz⟩ => ?_⟩
        have := hz us hq
        rw [ev] at this
        cases this
        subst ey eH
        refine ⟨s.new hT, grow_new hT, ?_⟩
        rw [show ((0 : Int) + (i : Nat)) = ((i : Nat) : Int) by omega]
        exact rep_pr (.inl (.inl (frz_new (s.free hT)))) ((reps_pair rep_int (rv.mono l)).mono (grow_new hT))
      · rw [enumD_len] at hi
        exact ⟨us, frz_le.lst (l.lst q), by rw [← r.length]; exact hi⟩
    · exact w1.elim) ex
/-- zip of two lists -/
def zipD : List D → List D → List D
  | x :: xs, y :: ys => .pr [x, y] :: zipD xs ys
  | _, _ => []
theorem zipD_get {xs ys : List D} {i : Nat} {d : D} (h : (zipD xs ys)[i]? = some d) : ∃ x y, xs[i]? = some x ∧ ys[i]? = some y ∧ d = .pr [x, y] := by
  induction xs generalizing ys i with
  | nil => simp [zipD] at h
  | cons x xs ih =>
    cases ys with
    | nil => simp [zipD] at h
    | cons y ys =>
      cases i with
      | zero => simp only [zipD, List.getElem?_cons_zero, Option.some.injEq] at h; subst h; exact ⟨x, y, rfl, rfl, rfl⟩
      | succ i =>
        simp only [zipD, List.getElem?_cons_succ] at h
        obtain ⟨x', y', h1, h2, h3⟩ := ih h
        exact ⟨x', y', by simpa using h1, by simpa using h2, h3⟩
theorem zipD_len {xs ys : List D} : (zipD xs ys).length = min xs.length ys.length := by
  induction xs generalizing ys with
  | nil => simp [zipD]
  | cons x xs ih =>
    cases ys with
    | nil => simp [zipD]
    | cons y ys => simp only [zipD, List.length_cons, ih]; omega
def dWZ (t : DTA) : DTI := fun ρ M P E => t ρ M (fun xs M1 => match xs with | [.lst ds, .lst es] => P (zipD ds es) M1 | _ => False) E
theorem di_zip {e2 : Expr} {t : DTA} {tpos : Pos} {elts : List Expr} {kk : Nat} (hg : Gl X "zip") (hm : X.mg "zip" = none) (ha : DA X W [e, e2] t)
    (hs : starEach [e, e2] X.env = (false, eval e X.env) :: starEach [e2] X.env := by rfl) (hpl : (backTo pos (starEach [e2] X.env)).any (·.1) = false := by rfl) :
    DI X W (.Tuple elts kk tpos) (.Call (.Name "zip" p) [e, e2] [] pos) (dWZ t) :=
  di_of (pi_zip hg hm ha hs hpl) fun σ H R ρ M P E sl s w k ex => lA_intro sl s w (fun xs M1 vs H1 w1 s1 g1 r1 => by
    split at w1
    · obtain ⟨v, v', rfl, rv, rv'⟩ := reps2 r1
      unfold Rep at rv rv'
      obtain ⟨a, us, rfl, q, r⟩ := rv
      obtain ⟨b, ws, rfl, q', r'⟩ := rv'
      refine ⟨a, b, us, ws, rfl, frz_le.lst q, frz_le.lst q', k _ M1 _ H1 w1 s1 g1 ⟨fun M H s l i d e => ?_, fun M H s l i hi => ?_⟩⟩
      · have hq : SqL X.K H a us := frz_le.lst (l.lst q)
        have hq' : SqL X.K H b ws := frz_le.lst (l.lst q')
        obtain ⟨x, y, ex, ey, rfl⟩ := zipD_get e
        obtain ⟨v, ev, rv⟩ := r.getD ex
        obtain ⟨v', ev', rv'⟩ := r'.getD ey
        refine ⟨⟨us, ws, v, v', hq, hq', ev, ev'⟩, fun y H' ⟨T, z, z', ey, hT, eH, hz, hz'⟩ => ?_⟩
        have e1 := hz us hq
        have e2 := hz' ws hq'
        rw [ev] at e1
        rw [ev'] at e2
        cases e1
        cases e2
        subst ey eH
        exact ⟨s.new hT, grow_new hT, rep_pr (.inl (.inl (frz_new (s.free hT)))) ((reps_pair (rv.mono l) (rv'.mono l)).mono (grow_new hT))⟩
      · rw [zipD_len] at hi
        refine ⟨us, ws, frz_le.lst (l.lst q), frz_le.lst (l.lst q'), ?_⟩
        rw [← r.length, ← r'.length]
        omega
    · exact w1.elim) ex

/-! ### for -/
def dLoop (g : DTG) (tb : DTS) (N : DEnds) : List D → Ro → MH → Prop
  | [], ρ, M => N.nx ρ M
  | d :: ds, ρ, M => g d ρ M (fun ρ' M' => tb { N with nx := dLoop g tb N ds, ct := dLoop g tb N ds, bk := N.nx } ρ' M')
def dFor (ti : DTI) (g : DTG) (tb : DTS) : DTS := fun N ρ M => ti ρ M (fun ds M1 => dLoop g tb N ds ρ M1) (exN N ρ)
theorem ds_for {ti : DTI} {g : DTG} {tb : DTS} (hp : PassesOwn (model X.prog X.w) X.A X.env X.xe) (hc : X.calm = true) (hi : DI X W tg iter ti) (hg : DG X tg g) (hb : DSs X W body tb)
    (hs : ∀ x, foldedSetIterable iter X.env x = pure x := by intro _; rfl) : DS X W (.For tg iter body [] pos) (dFor ti g tb) := ds_of (ps_for hp hc hi hg hb hs) fun DD σ H N ρ M sl s w k =>
  ⟨ρ, M, _, _, sl, s, w, fun ds M1 J H1 w1 s1 g1 wk => by
    refine ⟨fun i m σ' H' => m = ds.length - i ∧ i ≤ ds.length ∧ ∃ ρ' M', Slots X.K (frz M' H') ρ' σ' ∧ Sim X.K M' H' ∧ Grow M1 H1 M' H' ∧ dLoop g tb N (ds.drop i) ρ' M', ⟨_, rfl, Nat.zero_le _, ρ, M1, sl.mono g1, s1, .refl _ _, w1⟩, ?_⟩
    rintro i m σ' H' ⟨rfl, hi, ρ', M', sl', s', g', w'⟩
    by_cases hlt : i < ds.length
    · rw [List.drop_eq_getElem_cons hlt] at w'
      have hget : ds[i]? = some ds[i] := by simp [hlt]
      obtain ⟨h1, h2⟩ := wk.go M' H' s' g' i _ hget
      refine .inr ⟨h1, fun σ2 H2 => i + 1 ≤ ds.length ∧ ∃ ρ2 M2, Slots X.K (frz M2 H2) ρ2 σ2 ∧ Sim X.K M2 H2 ∧ Grow M1 H1 M2 H2 ∧ dLoop g tb N (ds.drop (i + 1)) ρ2 M2, fun σ2 H2 ⟨a1, a2⟩ => ⟨ds.length - (i + 1), by omega, rfl, a1, a2⟩, fun x H2 y => ?_⟩
      obtain ⟨s2, g2, r2⟩ := h2 x H2 y
      unfold dLoop at w'
      refine ⟨ρ', M', _, _, sl'.mono g2, s2, r2, w', fun ρ3 M3 σ3 H3 w3 sl3 s3 g3 => ?_⟩
      have gg : Grow M1 H1 M3 H3 := (g'.trans g2).trans g3
      have kk := k.later (g1.trans gg)
      have again : nxK X.K M3 H3 (dLoop g tb N (ds.drop (i + 1))) (fun σ2 H2 => i + 1 ≤ ds.length ∧ ∃ ρ2 M2, Slots X.K (frz M2 H2) ρ2 σ2 ∧ Sim X.K M2 H2 ∧ Grow M1 H1 M2 H2 ∧ dLoop g tb N (ds.drop (i + 1)) ρ2 M2) :=
        fun ρ4 M4 σ4 H4 w4 sl4 s4 g4 => ⟨by omega, ρ4, M4, sl4, s4, gg.trans g4, w4⟩
      exact lS_intro (N := { N with nx := dLoop g tb N (ds.drop (i + 1)), ct := dLoop g tb N (ds.drop (i + 1)), bk := N.nx }) sl3 s3 w3 ⟨again, kk.rt, kk.nx, again, kk.ex⟩
    · have e : i = ds.length := by omega
      subst e
      rw [List.drop_length] at w'
      unfold dLoop at w'
      exact .inl ⟨wk.stop M' H' s' g' _ (Nat.le_refl _), k.nx _ _ _ _ w' sl' s' (g1.trans g')⟩, k.exE sl⟩
/-- a loop by its invariant -/
theorem loop_by {g : DTG} {tb : DTS} {N : DEnds} (I : List D → Ro → MH → Prop) (step : ∀ d ds ρ M, I (d :: ds) ρ M → ∀ R : Ro → MH → Prop, (∀ ρ' M', I ds ρ' M' → R ρ' M') → g d ρ M (fun ρ' M' => tb { N with nx := R, ct := R, bk := N.nx } ρ' M'))
    (done : ∀ ρ M, I [] ρ M → N.nx ρ M) : ∀ ds ρ M, I ds ρ M → dLoop g tb N ds ρ M := by
  intro ds
  induction ds with
  | nil => intro ρ M h; exact done ρ M h
  | cons d ds ih => intro ρ M h; exact step d ds ρ M h _ ih
end
end DL

namespace DL
open PySem PySem.Spec PyProof.Rows L2
/-! ### comprehensions -/
inductive Tgt where
  | one (i : Nat) | many (is : List Nat)
def setAll : Ro → List Nat → List D → Ro
  | ρ, i :: is, d :: ds => setAll (ρ.set i (some d)) is ds
  | ρ, _, _ => ρ
def setAllV : L2.St → List Nat → List V → L2.St
  | σ, i :: is, v :: vs => setAllV (σ.set i (some v)) is vs
  | σ, _, _ => σ
def Tgt.put : Tgt → D → Ro → (Ro → Prop) → Prop
  | .one i, d, ρ, P => P (ρ.set i (some d))
  | .many is, d, ρ, P => match d with | .tup ds => ds.length = is.length ∧ P (setAll ρ is ds) | .pr ds => ds.length = is.length ∧ P (setAll ρ is ds) | _ => False
def gNs : List Nat → TGs
  | [] => gNil
  | i :: is => gCons (gName i) (gNs is)
def Tgt.vt (K : Fr) : Tgt → TG
  | .one i => gName i
  | .many is => gTup K is.length (gNs is)
def Tgt.ok (vs : List Nat) : Tgt → Bool
  | .one i => decide (i ∈ vs)
  | .many is => is.all fun i => decide (i ∈ vs)
theorem slots_all {K : Fr} {F : Hp} : ∀ {is : List Nat} {ds : List D} {us : List V} {ρ : Ro} {σ : L2.St}, Slots K F ρ σ → Reps K F ds us → Slots K F (setAll ρ is ds) (setAllV σ is us)
  | [], ds, us, ρ, σ, sl, r => by
    cases ds <;> cases us <;> exact sl
  | i :: is, [], us, ρ, σ, sl, r => by unfold Reps at r; subst r; exact sl
  | i :: is, d :: ds, us, ρ, σ, sl, r => by
    unfold Reps at r
    obtain ⟨v, vr, e, r1, r2⟩ := r
    subst e
    have h := slots_all (is := is) (sl.set i r1) r2
    exact h
theorem gNs_to : ∀ {is : List Nat} {us : List V} {σ : L2.St} {H : Hp} {Q : L2.St → Hp → Prop}, us.length = is.length → Q (setAllV σ is us) H → gNs is us σ H Q
  | [], [], σ, H, Q, _, q => ⟨rfl, q⟩
  | [], _ :: _, _, _, _, h, _ => by simp at h
  | _ :: _, [], _, _, _, h, _ => by simp at h
  | i :: is, u :: us, σ, H, Q, h, q => ⟨u, us, rfl, gNs_to (by simpa using h) q⟩
theorem wipe_set {σ : L2.St} {x : Option V} {i : Nat} : ∀ {vs : List Nat}, i ∈ vs → wipe (σ.set i x) vs = wipe σ vs
  | [], h => by simp at h
  | v :: vs, h => by
    show (wipe (σ.set i x) vs).set v none = (wipe σ vs).set v none
    rcases List.mem_cons.mp h with e | h
    · subst e
      by_cases hm : i ∈ vs
      · rw [wipe_set hm]
      · have key : ∀ (ws : List Nat), i ∉ ws → wipe (σ.set i x) ws = (wipe σ ws).set i x := by
          intro ws
          induction ws with
          | nil => intro _; rfl
          | cons w ws ih =>
            intro h
            simp only [List.mem_cons, not_or] at h
            show (wipe (σ.set i x) ws).set w none = ((wipe σ ws).set w none).set i x
            rw [ih h.2, List.set_comm _ _ h.1]
        rw [key vs hm, List.set_set]
    · rw [wipe_set h]
theorem wipe_all : ∀ {is : List Nat} {us : List V} {σ : L2.St} {vs : List Nat}, (is.all fun i => decide (i ∈ vs)) = true → wipe (setAllV σ is us) vs = wipe σ vs
  | [], us, σ, vs, _ => by cases us <;> rfl
  | i :: is, [], σ, vs, _ => rfl
  | i :: is, u :: us, σ, vs, h => by
    rw [List.all_cons, Bool.and_eq_true] at h
    show wipe (setAllV (σ.set i (some u)) is us) vs = wipe σ vs
    rw [wipe_all h.2, wipe_set (of_decide_eq_true h.1)]
theorem wipe_wipe (σ : L2.St) : ∀ vs : List Nat, wipe (wipe σ vs) vs = wipe σ vs := by
  have key : ∀ (ws vs : List Nat), (∀ i ∈ ws, i ∈ vs) → wipe (wipe σ ws) vs = wipe σ vs := by
    intro ws
    induction ws with
    | nil => intro vs _; rfl
    | cons w ws ih =>
      intro vs h
      show wipe ((wipe σ ws).set w none) vs = wipe σ vs
      rw [wipe_set (h w (by simp)), ih vs fun i hi => h i (by simp [hi])]
  intro vs
  exact key vs vs fun _ h => h
/-- a target's put, below -/
theorem Tgt.go {K : Fr} {tg : Tgt} {vs : List Nat} {M : MH} {H : Hp} {ρ : Ro} {σ : L2.St} {d : D} {x : V} {P : Ro → Prop} {Q : L2.St → Hp → Prop} (ok : tg.ok vs = true) (sl : Slots K (frz M H) ρ σ) (r : Rep K (frz M H) d x) (w : tg.put d ρ P)
    (k : ∀ ρ2 σ2, P ρ2 → Slots K (frz M H) ρ2 σ2 → wipe σ2 vs = wipe σ vs → Q σ2 H) : tg.vt K x σ H Q := by
  cases tg with
  | one i => exact k _ _ w (sl.set i r) (wipe_set (of_decide_eq_true ok))
  | many is =>
    cases d <;> first | (exact w.elim) | skip
    · obtain ⟨h1, h2⟩ := w
      obtain ⟨a, us, rfl, q, r2⟩ := rep_tup_inv r
      exact ⟨a, us, rfl, frz_le.tup q.t, by rw [← r2.length]; exact h1, gNs_to (by rw [← r2.length]; exact h1) (k _ _ h2 (slots_all sl r2) (wipe_all ok))⟩
    · obtain ⟨h1, h2⟩ := w
      obtain ⟨a, us, rfl, q, r2⟩ := rep_pr_inv r
      exact ⟨a, us, rfl, frz_le.tup q, by rw [← r2.length]; exact h1, gNs_to (by rw [← r2.length]; exact h1) (k _ _ h2 (slots_all sl r2) (wipe_all ok))⟩
def wipeD (ρ : Ro) : List Nat → Ro
  | [] => ρ
  | v :: vs => (wipeD ρ vs).set v none
theorem slots_wipe {K : Fr} {F : Hp} {ρ : Ro} {σ : L2.St} (sl : Slots K F ρ σ) : ∀ vs : List Nat, Slots K F (wipeD ρ vs) (wipe σ vs)
  | [] => sl
  | v :: vs => (slots_wipe sl vs).none v
abbrev noE : EX := fun _ _ _ _ => False
/-- a comprehension's turns; what is made so far lies at A -/
def dLcL (tg : Tgt) (tt : DTT) (te : DTE) (ρ : Ro) (A : Addr) (P : List D → MH → Prop) : List D → List D → MH → Prop
  | [], acc, M => P acc M
  | d :: ds, acc, M => tg.put d ρ fun ρ2 => tt ρ2 M (fun b M1 => if b = true then te ρ2 M1 (fun y M2 => M2 A = some (.lst acc) ∧ acc.length < sizeLine ∧ dLcL tg tt te ρ A P ds (acc ++ [y]) (sett M2 A (.lst (acc ++ [y])))) noE
      else M1 A = some (.lst acc) ∧ dLcL tg tt te ρ A P ds acc M1) noE
def dLc (ti : DTI) (tg : Tgt) (tt : DTT) (te : DTE) (vs : List Nat) : DTE := fun ρ M P E => ti ρ M (fun ds M1 => ∀ A, M1 A = none → dLcL tg tt te (wipeD ρ vs) A (fun acc M2 => M2 A = some (.lst acc) ∧ P (.lst acc) (dell M2 A)) ds [] (sett M1 A (.lst []))) E
/-- .. a list that will be changed -/
def dLcM (ti : DTI) (tg : Tgt) (tt : DTT) (te : DTE) (vs : List Nat) : DTE := fun ρ M P E => ti ρ M (fun ds M1 => ∀ A, M1 A = none → dLcL tg tt te (wipeD ρ vs) A (fun acc M2 => M2 A = some (.lst acc) ∧ P (.ref A) M2) ds [] (sett M1 A (.lst []))) E
abbrev W0 : WX := fun _ _ _ _ => False
section
variable {X : Cx} {W : WX}
theorem lc_to {ti : DTI} {tg : Tgt} {tt : DTT} {te : DTE} {vs : List Nat} {σ : L2.St} {H : Hp} {Q : VK} {ρ : Ro} {M : MH} {P : D → MH → Prop} {E : EX} {P2 : Addr → List D → MH → Prop} (ok : tg.ok vs = true) (sl : Slots X.K (frz M H) ρ σ) (s : Sim X.K M H)
    (w : ti ρ M (fun ds M1 => ∀ A, M1 A = none → dLcL tg tt te (wipeD ρ vs) A (P2 A) ds [] (sett M1 A (.lst []))) E)
    (kk : ∀ A acc M2 H2, P2 A acc M2 → Sim X.K M2 H2 → Grow M H M2 H2 → Q (.ref A) H2) (ex : exK X.K W M H σ E) : tLc (lI X.K W ti) (tg.vt X.K) (lT X.K W0 tt) (lE X.K W0 te) vs σ H Q := by
  refine ⟨ρ, M, _, _, sl, s, w, fun ds M1 J H1 w1 s1 g1 wk => ?_, ex⟩
  intro A hA
  have hMA := s1.free hA
  have w2 := w1 A hMA
  have s2 := s1.newM (m := .lst []) hA ⟨[], rfl, .nil⟩
  have g2 := grow_newM (M := M1) (o := .lst []) (m := .lst []) hA
  refine ⟨fun i m H' => m = ds.length - i ∧ i ≤ ds.length ∧ ∃ acc M', Sim X.K M' H' ∧ Grow (sett M1 A (.lst [])) (upd H1 A (.lst [])) M' H' ∧ dLcL tg tt te (wipeD ρ vs) A (P2 A) (ds.drop i) acc M', ⟨_, rfl, Nat.zero_le _, [], _, s2, .refl _ _, w2⟩, ?_⟩
  rintro i m H' ⟨rfl, hi, acc, M', s', g', w'⟩
  have gF : Grow M H M' H' := (g1.trans g2).trans g'
  by_cases hlt : i < ds.length
  · rw [List.drop_eq_getElem_cons hlt] at w'
    have hget : ds[i]? = some ds[i] := by simp [hlt]
    obtain ⟨h1, h2⟩ := wk.go M' H' s' (g2.trans g') i _ hget
    refine .inr ⟨h1, fun H2 => i + 1 ≤ ds.length ∧ ∃ acc M', Sim X.K M' H2 ∧ Grow (sett M1 A (.lst [])) (upd H1 A (.lst [])) M' H2 ∧ dLcL tg tt te (wipeD ρ vs) A (P2 A) (ds.drop (i + 1)) acc M', fun H2 ⟨a1, a2⟩ => ⟨ds.length - (i + 1), by omega, rfl, a1, a2⟩, fun x H2 y => ?_⟩
    obtain ⟨s3, g3, r3⟩ := h2 x H2 y
    unfold dLcL at w'
    refine Tgt.go ok (slots_wipe (sl.mono (gF.trans g3)) vs) r3 w' fun ρ2 σ2 w2 sl2 hw => ⟨by rw [hw, wipe_wipe], ?_⟩
    refine lT_intro sl2 s3 w2 (fun b M4 H4 w4 s4 g4 => ?_) exK_no
    cases b with
    | false =>
      rw [if_neg Bool.false_ne_true] at w4 ⊢
      exact ⟨by omega, acc, M4, s4, (g'.trans g3).trans g4, w4.2⟩
    | true =>
      rw [if_pos rfl] at w4 ⊢
      refine lE_intro (sl2.mono g4) s4 w4 (fun z M5 vz H5 w5 s5 g5 r5 => ?_) exK_no
      obtain ⟨e5, hl, w5⟩ := w5
      obtain ⟨ho, eh, us, rfl, ru⟩ := s5 _ _ e5
      refine ⟨us, eh, by rw [← ru.length]; exact hl, by omega, acc ++ [z], sett M5 A (.lst (acc ++ [z])), s5.put e5 (show RepO X.K (frz M5 H5) (.lst (acc ++ [z])) (.lst (us ++ [vz])) from ⟨_, rfl, ru.append (.cons r5 .nil)⟩), ((g'.trans g3).trans g4).trans (g5.trans (grow_put e5)), w5⟩
  · have e : i = ds.length := by omega
    subst e
    rw [List.drop_length] at w'
    unfold dLcL at w'
    exact .inl ⟨wk.stop M' H' s' (g2.trans g') _ (Nat.le_refl _), kk A acc M' H' w' s' gF⟩
theorem lc_frz {σ : L2.St} {H : Hp} {Q : VK} {M : MH} {P : D → MH → Prop} (k : rtK X.K M H P Q) : ∀ A acc M2 H2, (M2 A = some (.lst acc) ∧ P (.lst acc) (dell M2 A)) → Sim X.K M2 H2 → Grow M H M2 H2 → Q (.ref A) H2 := fun A acc M2 H2 ⟨e, w⟩ s2 g2 => by
  obtain ⟨ho, eh, us, rfl, ru⟩ := s2 _ _ e
  have gd := grow_sub (M := M2) (M' := dell M2 A) (H := H2) Sub.dell
  exact k _ _ _ _ w (s2.sub Sub.dell) (g2.trans gd) (rep_lst (.inl (.inl (frz_of dell_same eh))) (ru.mono gd))
theorem de_lc {elt tg iter : Expr} {ifs : List Expr} {scope : Scope} {own : List (Str × Nat)} {pos : Pos} {ti : DTI} {g : Tgt} {tt : DTT} {te : DTE} (ok : g.ok (own.map (·.2)) = true) (hi : DI X W tg iter ti)
    (hpe : PE X (.ListComp elt [⟨tg, iter, ifs, 0⟩] scope pos) (tLc (lI X.K W ti) (g.vt X.K) (lT X.K W0 tt) (lE X.K W0 te) (own.map (·.2)))) : DE X W (.ListComp elt [⟨tg, iter, ifs, 0⟩] scope pos) (dLc ti g tt te (own.map (·.2))) :=
  de_of hpe fun σ H Q ρ M P E sl s w k ex => lc_to (P := P) ok sl s w (lc_frz (σ := σ) k) ex
theorem de_lcM {elt tg iter : Expr} {ifs : List Expr} {scope : Scope} {own : List (Str × Nat)} {pos : Pos} {ti : DTI} {g : Tgt} {tt : DTT} {te : DTE} (ok : g.ok (own.map (·.2)) = true) (hi : DI X W tg iter ti)
    (hpe : PE X (.ListComp elt [⟨tg, iter, ifs, 0⟩] scope pos) (tLc (lI X.K W ti) (g.vt X.K) (lT X.K W0 tt) (lE X.K W0 te) (own.map (·.2)))) : DE X W (.ListComp elt [⟨tg, iter, ifs, 0⟩] scope pos) (dLcM ti g tt te (own.map (·.2))) :=
  de_of hpe fun σ H Q ρ M P E sl s w k ex => lc_to (P := P) ok sl s w (fun A acc M2 H2 ⟨e, w⟩ s2 g2 => k _ _ _ _ w s2 g2 rep_ref) ex
/-- name = [..] -/
theorem ds_setLc {ss : Stmt} {elt tg iter : Expr} {ifs : List Expr} {scope : Scope} {own : List (Str × Nat)} {pos : Pos} {ti : DTI} {g : Tgt} {tt : DTT} {te : DTE} {i : Nat} (ok : g.ok (own.map (·.2)) = true)
    (hps : PS X ss (tAsg (tLc (lI X.K W ti) (g.vt X.K) (lT X.K W0 tt) (lE X.K W0 te) (own.map (·.2))) (gName i))) : DS X W ss (dSet i (dLc ti g tt te (own.map (·.2)))) :=
  ds_of hps fun DD σ H N ρ M sl s w k => lc_to (P := fun d M1 => N.nx (ρ.set i (some d)) M1) ok sl s w (lc_frz (σ := σ) fun d M1 v H1 w1 s1 g1 r1 => k.nx _ _ _ _ w1 ((sl.mono g1).set i r1) s1 g1) (k.exE sl)
theorem ds_setLcM {ss : Stmt} {elt tg iter : Expr} {ifs : List Expr} {scope : Scope} {own : List (Str × Nat)} {pos : Pos} {ti : DTI} {g : Tgt} {tt : DTT} {te : DTE} {i : Nat} (ok : g.ok (own.map (·.2)) = true)
    (hps : PS X ss (tAsg (tLc (lI X.K W ti) (g.vt X.K) (lT X.K W0 tt) (lE X.K W0 te) (own.map (·.2))) (gName i))) : DS X W ss (dSet i (dLcM ti g tt te (own.map (·.2)))) :=
  ds_of hps fun DD σ H N ρ M sl s w k => lc_to (P := fun d M1 => N.nx (ρ.set i (some d)) M1) ok sl s w (fun A acc M2 H2 ⟨e, w⟩ s2 g2 => k.nx _ _ _ _ w ((sl.mono g2).set i rep_ref) s2 g2) (k.exE sl)
theorem dts_nil {K : Fr} : ∀ {X : Cx}, X.K = K → PTs X [] (lT K W0 fun _ M P _ => P true M) := fun e => by
  subst e
  exact ⟨fun pins s σ H Q I ⟨ρ, M, P, E, sl, sm, w, k, ex⟩ => pts_nil.run pins s σ H Q I (k _ _ _ w sm (.refl _ _))⟩
def dYes : DTT := fun _ M P _ => P true M
end
/-- pure elements: what the comprehension is -/
theorem lcL_map {tg : Tgt} {tt : DTT} {te : DTE} {ρ : Ro} {A : Addr} {P : List D → MH → Prop} (b : D → Bool) (f : D → D) :
    ∀ (ds : List D) (acc : List D) (M : MH), acc.length + ds.length ≤ sizeLine → M A = some (.lst acc) →
    (∀ d ∈ ds, ∀ (M : MH) (R : Ro → Prop), (∀ ρ2, (∀ (Q : Bool → MH → Prop), Q (b d) M → tt ρ2 M Q noE) → (b d = true → ∀ (Q : D → MH → Prop), Q (f d) M → te ρ2 M Q noE) → R ρ2) → tg.put d ρ R) →
    P (acc ++ (ds.filter b).map f) (sett M A (.lst (acc ++ (ds.filter b).map f))) → dLcL tg tt te ρ A P ds acc M
  | [], acc, M, hl, hA, hs, h => by
    unfold dLcL
    rw [List.filter_nil, List.map_nil, List.append_nil] at h
    have e : sett M A (.lst acc) = M := by
      funext x
      by_cases hx : x = A
      · subst hx; rw [sett_same, hA]
      · rw [sett_ne hx]
    rw [e] at h
    exact h
  | d :: ds, acc, M, hl, hA, hs, h => by
    unfold dLcL
    rw [List.length_cons] at hl
    refine hs d (by simp) M _ fun ρ2 h1 h2 => h1 _ ?_
    cases e : b d with
    | false =>
      rw [if_neg Bool.false_ne_true]
      rw [List.filter_cons_of_neg (by simp [e])] at h
      exact ⟨hA, lcL_map b f ds acc M (by omega) hA (fun d' h' => hs d' (by simp [h'])) h⟩
    | true =>
      rw [if_pos rfl]
      rw [List.filter_cons_of_pos (by simp [e]), List.map_cons] at h
      refine h2 e _ ⟨hA, by omega, lcL_map b f ds (acc ++ [f d]) _ (by rw [List.length_append, List.length_singleton]; omega) sett_same (fun d' h' => hs d' (by simp [h'])) ?_⟩
      rw [sett_sett, List.append_assoc, List.singleton_append]
      exact h
end DL

namespace DL
open PySem PySem.Spec PyProof.Rows L2
/-! ### defs and their promises, over data -/
abbrev DSp := List D → MH → (D → MH → Prop) → EX → Prop
def exKE (K : Fr) (M : MH) (H : Hp) (EP : EX) (E : XK) : Prop :=
  ∀ C f d M' H' dd v, EP C f d M' → Sim K M' H' → Grow M H M' H' → H' dd = some (.xd [(f, v)]) → Rep K (frz M' H') d v → E (.ref C) (some dd) H'
def lSp (K : Fr) (sp : DSp) : Sp := fun vs H Q E => ∃ ds M P EP, Reps K (frz M H) ds vs ∧ Sim K M H ∧ sp ds M P EP ∧ rtK K M H P Q ∧ exKE K M H EP E
abbrev FnD (P : Program) (w : World) (K : Fr) (mg : Str → Option Value) (base : Heap) (k : Nat) (f : Addr) (fd : FuncData) (ps : List Str) (sp : DSp) : Prop := FnOk P w K mg base (L2.CX P w) k f fd ps (lSp K sp)
theorem exKE_of {K : Fr} {W : WX} {M : MH} {H : Hp} {σ : L2.St} {E : EX} (ex : exK K W M H σ E) : exKE K M H E (WE W σ) := fun C f d M' H' dd v e s g x r => ex C f d M' H' dd v e s g x r
theorem lSp_intro {K : Fr} {sp : DSp} {ds : List D} {vs : List V} {M : MH} {H : Hp} {P : D → MH → Prop} {EP : EX} {Q : VK} {E : XK} (r : Reps K (frz M H) ds vs) (s : Sim K M H) (w : sp ds M P EP) (k : rtK K M H P Q) (ex : exKE K M H EP E) : lSp K sp vs H Q E := ⟨ds, M, P, EP, r, s, w, k, ex⟩
/-- what is handed back: the local lists are let lie, one may be the answer -/
def frzTo (M M' : MH) (d d' : D) : Prop := Sub M' M ∧ (d' = d ∨ (∃ p ds, d = .ref p ∧ M p = some (.lst ds) ∧ M' p = none ∧ d' = .lst ds) ∨ (∃ p C fs, d = .ref p ∧ M p = some (.ins C fs) ∧ M' p = none ∧ d' = .ins C (fs.map (·.1)) (fs.map (·.2))))
theorem frz_ok {K : Fr} {M M' : MH} {H : Hp} {d d' : D} {v : V} (s : Sim K M H) (r : Rep K (frz M H) d v) (h : frzTo M M' d d') : Sim K M' H ∧ Grow M H M' H ∧ Rep K (frz M' H) d' v := by
  obtain ⟨h1, h2⟩ := h
  have g := grow_sub (H := H) h1
  refine ⟨s.sub h1, g, ?_⟩
  rcases h2 with e | ⟨p, ds, e1, e2, e3, e4⟩ | ⟨p, C, fs, e1, e2, e3, e4⟩
  · subst e; exact r.mono g
  · subst e1 e4
    rw [rep_ref_inv r]
    obtain ⟨ho, eh, us, rfl, ru⟩ := s _ _ e2
    exact rep_lst (.inl (.inl (frz_of e3 eh))) (ru.mono g)
  · subst e1 e4
    rw [rep_ref_inv r]
    obtain ⟨ho, eh, dx, us, rfl, en, ru⟩ := s _ _ e2
    unfold Rep
    exact ⟨p, dx, us, rfl, frz_of e3 eh, en, ru.mono g⟩
def retD (P : D → MH → Prop) : D → MH → Prop := fun d M => ∃ d' M', frzTo M M' d d' ∧ P d' M'
theorem ret_same {P : D → MH → Prop} {d : D} {M : MH} (h : P d M) : retD P d M := ⟨d, M, ⟨Sub.refl M, .inl rfl⟩, h⟩
theorem ret_sub {P : D → MH → Prop} {d : D} {M M' : MH} (s : Sub M' M) (h : P d M') : retD P d M := ⟨d, M', ⟨s, .inl rfl⟩, h⟩
theorem ret_lst {P : D → MH → Prop} {p : Addr} {ds : List D} {M M' : MH} (s : Sub M' M) (e : M p = some (.lst ds)) (n : M' p = none) (h : P (.lst ds) M') : retD P (.ref p) M := ⟨_, M', ⟨s, .inr (.inl ⟨p, ds, rfl, e, n, rfl⟩)⟩, h⟩
theorem rt_frz {K : Fr} {M : MH} {H : Hp} {P : D → MH → Prop} {Q : VK} (k : rtK K M H P Q) : rtK K M H (retD P) Q := fun d M1 v H1 ⟨d', M', h, w⟩ s g r => by
  obtain ⟨s', g', r'⟩ := frz_ok s r h
  exact k _ _ _ _ w s' (g.trans g') r'
def startD (N : List Str) (ds : List D) : Ro := ds.map some ++ List.replicate (N.length - ds.length) none
theorem slots_start {K : Fr} {F : Hp} {N : List Str} {ds : List D} {vs : List V} (r : Reps K F ds vs) : Slots K F (startD N ds) (L2.start N vs) := by
  have hl := r.length
  refine ⟨by unfold startD L2.start; simp [hl], fun i d h => ?_⟩
  unfold startD at h
  unfold L2.start
  rw [List.getElem?_append] at h ⊢
  simp only [List.length_map] at h ⊢
  rw [← hl]
  by_cases hi : i < ds.length
  · rw [if_pos hi] at h ⊢
    rw [List.getElem?_map] at h ⊢
    cases e : ds[i]? with
    | none => rw [e] at h; cases h
    | some d' =>
      rw [e] at h
      cases h
      obtain ⟨v, ev, rv⟩ := r.getD e
      exact ⟨v, by rw [ev]; rfl, rv⟩
  · rw [if_neg hi] at h
    rw [List.getElem?_replicate] at h
    split at h <;> cases h
section
variable {P : Program} {w : World} {K : Fr} {mg : Str → Option Value} {base : Heap}
/-- THE RULE for a def -/
theorem defD {x qual : Str} {st : Stmt} {f : Addr} {fd : FuncData} {N ps : List Str} {k : Nat} {sp : DSp} {t : DTS} (F : Fun K x qual st f fd) (S : FnScope N ps (defScope st)) (len : ∀ ds M Q E, sp ds M Q E → ds.length = ps.length)
    (body : ∀ (cdv : Value) (A : Around) (outer : List Env) (s : Shared) (H : Hp) (E : XK) (W : WX), Room k (A.deeper (envOfC qual (defScope st) s.heap.objs.size f cdv)) →
      Takes (cxOf (L2.CX P w) P w K mg base N qual (defScope st) f cdv A outer s H E) W → DSs (cxOf (L2.CX P w) P w K mg base N qual (defScope st) f cdv A outer s H E) W (defBody st) t)
    (read : ∀ ds M Q E, sp ds M Q E → t { nx := fun _ M' => retD Q .non M', rt := retD Q, ex := fun C f d _ M' => E C f d M' } (startD N ds) M) : FnD P w K mg base (k + 1) f fd ps sp := by
  refine F.okX S (fun vs H Q E ⟨ds, M, Pd, EP, r, s, wsp, kk, ex⟩ => ?_) (fun cdv A outer s H vs Q E hr ⟨ds, M, Pd, EP, r, sm, wsp, kk, ex⟩ => ?_)
  · rw [← r.length]; exact len _ _ _ _ wsp
  · refine ⟨_, body cdv A outer s H E (fun cls d _ H => E cls d H) hr (takes_of rfl rfl rfl rfl), startD N ds, M, { nx := fun _ M' => retD Pd .non M', rt := retD Pd, ex := fun C f d _ M' => EP C f d M' }, slots_start r, sm, read ds M Pd EP wsp, ⟨fun ρ' M' σ' H' w' sl' s' g' => ?_, rt_frz kk, fun _ _ _ _ h => h.elim, fun _ _ _ _ h => h.elim, fun C f d ρ' M' σ' H' dd v e sl' s' g' hx rv => ex C f d M' H' dd v e s' g' hx rv⟩⟩
    exact rt_frz kk _ _ _ _ w' s' g' rep_non
end
section
variable {X : Cx} {W : WX} {k : Nat} {f C g pp : Addr} {fd : FuncData} {ps : List Str} {sp : DSp} {x m fl : Str} {p pos apos : Pos} {e o : Expr} {es : List Expr} {ta to : DTE} {t : DTA}
def dCall (sp : DSp) (t : DTA) : DTE := fun ρ M P E => t ρ M (fun ds M1 => sp ds M1 P E) E
theorem call_to {σ : L2.St} {H : Hp} {Q : VK} {ρ : Ro} {M : MH} {P : D → MH → Prop} {E : EX} (sl : Slots X.K (frz M H) ρ σ) (s : Sim X.K M H) (w : dCall sp t ρ M P E) (k : rtK X.K M H P Q) (ex : exK X.K W M H σ E) :
    tCallS (lSp X.K sp) (WE W) (lA X.K W t) σ H Q := lA_intro sl s w (fun ds M1 vs H1 w1 s1 g1 r1 => lSp_intro r1 s1 w1 (k.later g1) (exKE_of (ex.later g1))) ex
/-- f(e, ..) -/
theorem de_call (F : FnD X.prog X.w X.K X.mg X.base k f fd ps sp) (hr : Room k X.A) (hg : Gl X x) (hm : X.mg x = some (.ref f)) (hk : PySem.W.keepIn X.K (.ref f) = true) (hb : Binds X.K fd ps []) (tk : Takes X W)
    (ha : DA X W (e :: es) t) (hdb : (x == ("__debug__" : Str)) = false := by decide) (he : starEach (e :: es) X.env = (false, eval e X.env) :: starEach es X.env := by rfl) (hpl : (backTo pos (starEach es X.env)).any (·.1) = false := by rfl) :
    DE X W (.Call (.Name x p) (e :: es) [] pos) (dCall sp t) := de_of (pe_callS F hr hg hm hk hb (fun σ => passAt tk σ) ha hdb he hpl) fun σ H Q ρ M P E sl s w k ex => call_to sl s w k ex
/-- the class and the attributes of an instance -/
def insD (M : MH) : D → Option (Addr × List (Str × D))
  | .ins C ns ds => some (C, ns.zip ds)
  | .ref a => match M a with | some (.ins C fs) => some (C, fs) | _ => none
  | _ => none
theorem insD_rep {K : Fr} {M : MH} {H : Hp} {x : D} {v : V} {C : Addr} {fs : List (Str × D)} (s : Sim K M H) (r : Rep K (frz M H) x v) (h : insD M x = some (C, fs)) :
    ∃ a dx us, v = .ref a ∧ H a = some (.ins C dx us) ∧ us.map (·.1) = fs.map (·.1) ∧ Reps K (frz M H) (fs.map (·.2)) (us.map (·.2)) := by
  cases x <;> simp only [insD] at h <;> try cases h
  · rw [rep_ref_inv r]
    split at h
    · rename_i a C' fs' e
      cases h
      obtain ⟨ho, eh, dx, us, rfl, en, ru⟩ := s _ _ e
      exact ⟨_, dx, us, rfl, eh, en, ru⟩
    · cases h
  · rename_i ns ds
    unfold Rep at r
    obtain ⟨a, dx, us, rfl, eF, en, ru⟩ := r
    have hl : ns.length = ds.length := by rw [← en, List.length_map, ru.length, List.length_map]
    refine ⟨a, dx, us, rfl, (frz_some eF).2, ?_, ?_⟩
    · rw [List.map_fst_zip (by omega)]; exact en
    · rw [List.map_snd_zip (by omega)]; exact ru
theorem lookup_rep {K : Fr} {F : Hp} : ∀ {fs : List (Str × D)} {us : List (Str × V)}, us.map (·.1) = fs.map (·.1) → Reps K F (fs.map (·.2)) (us.map (·.2)) → ∀ f : Str, (match fs.lookup f, us.lookup f with | some d, some v => Rep K F d v | none, none => True | _, _ => False)
  | [], [], _, _, f => True.intro
  | [], _ :: _, h, _, _ => by simp at h
  | _ :: _, [], h, _, _ => by simp at h
  | (n, d) :: fs, (n', v) :: us, h, r, f => by
    simp only [List.map_cons, List.cons.injEq] at h
    obtain ⟨h1, h2⟩ := h
    subst h1
    simp only [List.map_cons] at r
    unfold Reps at r
    obtain ⟨w, wr, e, r1, r2⟩ := r
    cases e
    simp only [List.lookup]
    by_cases hf : f == n'
    · simp only [hf]; exact r1
    · simp only [hf]; exact lookup_rep h2 r2 f
/-- o.f, an attribute of an instance of the class at C -/
def dFld (C : Addr) (to : DTE) (f : Str) : DTE := fun ρ M P E => to ρ M (fun x M1 => match insD M1 x with
  | some (C', fs) => C' = C ∧ (match fs.lookup f with | some d => P d M1 | none => False)
  | none => False) E
theorem de_fld (cl : Cls X.K C) (nf : NoAttr X.K C fl) (ho : DE X W o to) (hb : attributeBase o fl X.env (eval o X.env) = eval o X.env := by rfl) : DE X W (.Attribute o fl pos) (dFld C to fl) := de_of (pe_fld ho hb) fun σ H Q ρ M P E sl s w k ex =>
  lE_intro sl s w (fun x M1 vx H1 w1 s1 g1 r1 => by
    split at w1
    · rename_i C' fs e
      obtain ⟨rfl, w1⟩ := w1
      obtain ⟨a, dx, us, rfl, ea, en, ru⟩ := insD_rep s1 r1 e
      split at w1
      · rename_i d el
        have h := lookup_rep en ru fl
        rw [el] at h
        cases e2 : us.lookup fl with
        | none => rw [e2] at h; exact h.elim
        | some v =>
          rw [e2] at h
          exact ⟨a, C', dx, us, v, rfl, ea, cl, nf, e2, k _ _ _ _ w1 s1 g1 h⟩
      · exact w1.elim
    · exact w1.elim) ex
def putFD (f : Str) (v : D) : List (Str × D) → List (Str × D)
  | [] => [(f, v)]
  | (g, x) :: r => if g = f then (g, v) :: r else (g, x) :: putFD f v r
theorem putF_rep {K : Fr} {F : Hp} {f : Str} {d : D} {v : V} (rd : Rep K F d v) : ∀ {fs : List (Str × D)} {us : List (Str × V)}, us.map (·.1) = fs.map (·.1) → Reps K F (fs.map (·.2)) (us.map (·.2)) →
    (putF f v us).map (·.1) = (putFD f d fs).map (·.1) ∧ Reps K F ((putFD f d fs).map (·.2)) ((putF f v us).map (·.2))
  | [], [], _, _ => ⟨rfl, .cons rd .nil⟩
  | [], _ :: _, h, _ => by simp at h
  | _ :: _, [], h, _ => by simp at h
  | (n, y) :: fs, (n', u) :: us, h, r => by
    simp only [List.map_cons, List.cons.injEq] at h
    obtain ⟨h1, h2⟩ := h
    subst h1
    simp only [List.map_cons] at r
    unfold Reps at r
    obtain ⟨w, wr, e, r1, r2⟩ := r
    cases e
    by_cases hf : n' = f
    · subst hf
      simp only [putF, putFD, if_pos, List.map_cons]
      exact ⟨by rw [h2], .cons rd r2⟩
    · obtain ⟨i1, i2⟩ := putF_rep rd h2 r2
      simp only [putF, putFD, if_neg hf, List.map_cons]
      exact ⟨by rw [i1], .cons r1 i2⟩
/-- o.f = e, o an instance that may be changed -/
def dPutF (C : Addr) (to te : DTE) (f : Str) : DTS := fun N ρ M => te ρ M (fun d M1 => to ρ M1 (fun x M2 => match x with
  | .ref a => (match M2 a with | some (.ins C' fs) => C' = C ∧ fs.length < 900 ∧ N.nx ρ (sett M2 a (.ins C (putFD f d fs))) | _ => False)
  | _ => False) (exN N ρ)) (exN N ρ)
theorem ds_putF {te : DTE} (ho : DE X W o to) (he : DE X W e te) (C : Addr) (cl : Cls X.K C) (nf : NoAttr X.K C fl) (hps : PS X (.Assign [.Attribute o fl p] e pos) (sFld X.K (lE X.K W to) (lE X.K W te) fl)) : DS X W (.Assign [.Attribute o fl p] e pos) (dPutF C to te fl) :=
  ds_of hps fun DD σ H N ρ M sl s w k =>
    lE_intro sl s w (fun d M1 vd H1 w1 s1 g1 r1 => lE_intro (sl.mono g1) s1 w1 (fun x M2 vx H2 w2 s2 g2 r2 => by
      split at w2
      · split at w2
        · rename_i a _ C' fs em
          obtain ⟨rfl, hl, w2⟩ := w2
          obtain ⟨ho, eh, dx, us, rfl, en, ru⟩ := s2 _ _ em
          rw [rep_ref_inv r2]
          obtain ⟨i1, i2⟩ := putF_rep (f := fl) (r1.mono g2) en ru
          have hlen : us.length = fs.length := by have := congrArg List.length en; simpa using this
          refine ⟨a, C', dx, us, rfl, eh, cl, nf, by omega, ?_⟩
          have gp := grow_put (H := H2) (o := HO.ins C' dx (putF fl vd us)) (m := MO.ins C' (putFD fl d fs)) em
          exact k.nx _ _ _ _ w2 (sl.mono ((g1.trans g2).trans gp)) (s2.put em ⟨dx, _, rfl, i1, i2⟩) ((g1.trans g2).trans gp)
        · exact w2.elim
      · exact w2.elim) ((k.exE sl).later g1)) (k.exE sl)
/-- o.m(e, ..) of an instance of the class at C -/
def dMeth (C : Addr) (m : Str) (sp : DSp) (to : DTE) (t : DTA) : DTE := fun ρ M P E => to ρ M (fun x M1 => match insD M1 x with
  | some (C', fs) => C' = C ∧ fs.lookup m = none ∧ t ρ M1 (fun ds M2 => sp (x :: ds) M2 P E) E
  | none => False) E
theorem lookup_none {K : Fr} {F : Hp} {fs : List (Str × D)} {us : List (Str × V)} (en : us.map (·.1) = fs.map (·.1)) (ru : Reps K F (fs.map (·.2)) (us.map (·.2))) {f : Str} (h : fs.lookup f = none) : us.lookup f = none := by
  have q := lookup_rep en ru f
  rw [h] at q
  cases e : us.lookup f with
  | none => rfl
  | some v => rw [e] at q; exact q.elim
theorem pe_methS {pl : Sem Bool} {ta : TE} {t : TA} {sp : Sp} {E : L2.St → XK} (he : PE X o ta) (c : Cls X.K C) (hm : Meth X.K C m f) (F : FnOk X.prog X.w X.K X.mg X.base (L2.CX X.prog X.w) k f fd ps sp) (hr : Room k X.A) (hb : Binds X.K fd ps []) (hx : ∀ σ, PassesAt (L2.CX X.prog X.w) X σ (E σ)) (ha : PA X (e :: es) t)
    (hst : starEach (e :: es) X.env = (false, eval e X.env) :: starEach es X.env := by rfl) (hpl : (backTo pos (starEach es X.env)).any (·.1) = false := by rfl)
    (ht : eval (.Call (.Attribute o m apos) (e :: es) [] pos) X.env = (do
      let ov ← eval o X.env
      standAt apos.atName
      let (f, first) ← holding [ov] (getMethod ov m pl)
      callWith pos f first (backTo pos (starEach (e :: es) X.env)) (backToKw pos (keywordEach [] X.env))) := by rfl) :
    PE X (.Call (.Attribute o m apos) (e :: es) [] pos) (fun σ H Q => ta σ H fun x H1 => ∃ a dx fs, x = .ref a ∧ H1 a = some (.ins C dx fs) ∧ fs.lookup m = none ∧ t σ H1 fun vs H2 => sp (x :: vs) H2 Q (E σ)) := by
  refine ⟨fun pins s σ H Q I h => ?_⟩
  refine PySem.W.methodCall_KW (pl := pl) (thn (he.run pins s σ H _ I h) fun u s1 ⟨x, H1, I1, rx, a, dx, fs, ex, ea, l, q⟩ => ?_) ht
  subst ex
  obtain rfl : u = Value.ref a := rx
  refine getmeth_ok I1 ea c hm l ?_
  refine PySem.W.callWith_K (first := [.ref a]) (h₀ := X.base) I.ok.mod.kin hm.kp (thn (ha.run pos pins s1 σ H1 _ I1 q) fun us s2 ⟨vs, H2, I2, r, q2⟩ => ⟨I2.kIn, ?_⟩) hst hpl
  exact run_fnS (us := .ref a :: us) (vs := .ref a :: vs) F hr hb (hx σ) I2 (.cons rfl r) q2
theorem pe_methS0 {pl : Sem Bool} {ta : TE} {sp : Sp} {E : L2.St → XK} (he : PE X o ta) (c : Cls X.K C) (hm : Meth X.K C m f) (F : FnOk X.prog X.w X.K X.mg X.base (L2.CX X.prog X.w) k f fd ps sp) (hr : Room k X.A) (hb : Binds X.K fd ps []) (hx : ∀ σ, PassesAt (L2.CX X.prog X.w) X σ (E σ))
    (ht : eval (.Call (.Attribute o m apos) [] [] pos) X.env = (do
      let ov ← eval o X.env
      standAt apos.atName
      let (f, first) ← holding [ov] (getMethod ov m pl)
      callWith pos f first (backTo pos (starEach [] X.env)) (backToKw pos (keywordEach [] X.env))) := by rfl) :
    PE X (.Call (.Attribute o m apos) [] [] pos) (fun σ H Q => ta σ H fun x H1 => ∃ a dx fs, x = .ref a ∧ H1 a = some (.ins C dx fs) ∧ fs.lookup m = none ∧ sp [x] H1 Q (E σ)) := by
  refine ⟨fun pins s σ H Q I h => ?_⟩
  refine PySem.W.methodCall_KW (pl := pl) (thn (he.run pins s σ H _ I h) fun u s1 ⟨x, H1, I1, rx, a, dx, fs, ex, ea, l, q⟩ => ?_) ht
  subst ex
  obtain rfl : u = Value.ref a := rx
  refine getmeth_ok I1 ea c hm l ?_
  exact PySem.W.callWith_K0 (first := [.ref a]) I1.kIn hm.kp (run_fnS (us := [.ref a]) (vs := [.ref a]) F hr hb (hx σ) I1 (.cons rfl .nil) q)
theorem de_meth {pl : Sem Bool} (c : Cls X.K C) (hm : Meth X.K C m f) (F : FnD X.prog X.w X.K X.mg X.base k f fd ps sp) (hr : Room k X.A) (hb : Binds X.K fd ps []) (tk : Takes X W) (ho : DE X W o to) (ha : DA X W (e :: es) t)
    (hst : starEach (e :: es) X.env = (false, eval e X.env) :: starEach es X.env := by rfl) (hpl : (backTo pos (starEach es X.env)).any (·.1) = false := by rfl)
    (ht : eval (.Call (.Attribute o m apos) (e :: es) [] pos) X.env = (do
      let ov ← eval o X.env
      standAt apos.atName
      let (f, first) ← holding [ov] (getMethod ov m pl)
      callWith pos f first (backTo pos (starEach (e :: es) X.env)) (backToKw pos (keywordEach [] X.env))) := by rfl) :
    DE X W (.Call (.Attribute o m apos) (e :: es) [] pos) (dMeth C m sp to t) := de_of (pe_methS (pl := pl) ho c hm F hr hb (fun σ => passAt tk σ) ha hst hpl ht) fun σ H Q ρ M P E sl s w k ex =>
  lE_intro sl s w (fun x M1 vx H1 w1 s1 g1 r1 => by
    split at w1
    · rename_i C' fs em
      obtain ⟨rfl, hl, w1⟩ := w1
      obtain ⟨a, dx, us, rfl, ea, en, ru⟩ := insD_rep s1 r1 em
      exact ⟨a, dx, us, rfl, ea, lookup_none en ru hl, lA_intro (sl.mono g1) s1 w1 (fun ds M2 vs H2 w2 s2 g2 r2 => lSp_intro (.cons (r1.mono g2) r2) s2 w2 (k.later (g1.trans g2)) (exKE_of (ex.later (g1.trans g2)))) (ex.later g1)⟩
    · exact w1.elim) ex
theorem de_meth0 {pl : Sem Bool} (c : Cls X.K C) (hm : Meth X.K C m f) (F : FnD X.prog X.w X.K X.mg X.base k f fd ps sp) (hr : Room k X.A) (hb : Binds X.K fd ps []) (tk : Takes X W) (ho : DE X W o to)
    (ht : eval (.Call (.Attribute o m apos) [] [] pos) X.env = (do
      let ov ← eval o X.env
      standAt apos.atName
      let (f, first) ← holding [ov] (getMethod ov m pl)
      callWith pos f first (backTo pos (starEach [] X.env)) (backToKw pos (keywordEach [] X.env))) := by rfl) :
    DE X W (.Call (.Attribute o m apos) [] [] pos) (dMeth C m sp to dNil) := de_of (pe_methS0 (pl := pl) ho c hm F hr hb (fun σ => passAt tk σ) ht) fun σ H Q ρ M P E sl s w k ex =>
  lE_intro sl s w (fun x M1 vx H1 w1 s1 g1 r1 => by
    split at w1
    · rename_i C' fs em
      obtain ⟨rfl, hl, w1⟩ := w1
      obtain ⟨a, dx, us, rfl, ea, en, ru⟩ := insD_rep s1 r1 em
      exact ⟨a, dx, us, rfl, ea, lookup_none en ru hl, lSp_intro (.cons r1 .nil) s1 w1 (k.later g1) (exKE_of (ex.later g1))⟩
    · exact w1.elim) ex
/-- o.f, a property whose getter raises nothing -/
def dProp (C : Addr) (sp : DSp) (to : DTE) : DTE := fun ρ M P E => to ρ M (fun x M1 => match insD M1 x with
  | some (C', _) => C' = C ∧ sp [x] M1 P noE
  | none => False) E
theorem de_prop (c : Cls X.K C) (hp : PropOf X.K C fl pp g) (F : FnD X.prog X.w X.K X.mg X.base k g fd ps sp) (hr : Room (k + 1) X.A) (hb : Binds X.K fd ps []) (ho : DE X W o to)
    (hab : attributeBase o fl X.env (eval o X.env) = eval o X.env := by rfl) : DE X W (.Attribute o fl pos) (dProp C sp to) := de_of (pe_prop ho c hp F hr hb .nil (passL (X := X.nox)) hab) fun σ H Q ρ M P E sl s w k ex =>
  lE_intro sl s w (fun x M1 vx H1 w1 s1 g1 r1 => by
    split at w1
    · rename_i C' fs em
      obtain ⟨rfl, w1⟩ := w1
      obtain ⟨a, dx, us, rfl, ea, en, ru⟩ := insD_rep s1 r1 em
      exact ⟨a, dx, us, rfl, ea, lSp_intro (.cons r1 .nil) s1 w1 (k.later g1) (fun _ _ _ _ _ _ _ h => h.elim)⟩
    · exact w1.elim) ex
/-- C(e, ..): the new instance, let lie behind its __init__ -/
def dMake (C : Addr) (sp : DSp) (t : DTA) : DTE := fun ρ M P E => t ρ M (fun ds M1 => ∀ x, M1 x = none → sp (.ref x :: ds) (sett M1 x (.ins C [])) (fun d M2 => d = .non ∧ retD P (.ref x) M2) E) E
theorem run_makeS {pins : List (Addr × Obj)} {σ : L2.St} {H : Hp} {s : Shared} {Q : VK} {us : List Value} {vs : List V} {sp : Sp} {E : L2.St → XK} (M : Mk X.K C f) (F : FnOk X.prog X.w X.K X.mg X.base (L2.CX X.prog X.w) k f fd ps sp) (hr : Room (k + 1) X.A) (hb : Binds X.K fd ps [])
    (hx : ∀ (pins : List (Addr × Obj)) (H : Hp) (s : Shared) (e : Value) (s' : Shared), Inv X pins σ H s → L2.CX X.prog X.w X.stack H s (E σ) e s' → X.xe e s') (I : Inv X pins σ H s) (r : Vals vs us)
    (h : ∀ x dx, H x = none → H dx = none → dx ≠ x → sp (.ref x :: vs) (upd (upd H dx (.own x)) x (.ins C dx [])) (fun v H2 => v = .non ∧ Q (.ref x) H2) (E σ)) :
    wpAny (model X.prog X.w) X.A (call (.ref C) us) (EP X pins σ Q) X.xe s := by
  have hq := h (s.heap.objs.size + 1) s.heap.objs.size (I.hok.fresh (Nat.le_succ _)) (I.hok.fresh (Nat.le_refl _)) (Nat.ne_of_lt (Nat.lt_succ_self _))
  have I2 := Inv.made (C := C) I
  have r2 : Vals (V.ref (s.heap.objs.size + 1) :: vs) (Value.ref (s.heap.objs.size + 1) :: us) := .cons rfl r
  have hl : (Value.ref (s.heap.objs.size + 1) :: us ++ []).length = ps.length := by
    have e := r2.length
    rw [F.len _ _ _ _ hq] at e
    rw [List.append_nil]
    exact e.symm
  have hbb := hb _ (Value.ref (s.heap.objs.size + 1) :: us) I2.kIn hl
  rw [List.append_nil] at hbb
  refine wpAny_call (make_map (f := f) I.kIn M.makes M.init (beq_iff_eq.mp M.fn) (codeAny_mono (F.run _ X.stack _ _ ⟨Value.ref (s.heap.objs.size + 1) :: us, []⟩ (Value.ref (s.heap.objs.size + 1) :: us) _ _ (E σ) (hr.make C us [])
    (I2.env0.make C us []) hbb r2 hq) fun r s' hq' => ?_))
  cases r with
  | error e => exact hx pins _ _ e s' I2 hq'
  | ok fl =>
    cases fl with
    | ret u =>
      obtain ⟨v, H', I3, rv, ev, q3⟩ := I2.after hq'
      subst ev
      exact ⟨rv, ⟨V.ref (s.heap.objs.size + 1), H', I3, rfl, q3⟩⟩
    | next => exact False.elim hq'
    | brk => exact False.elim hq'
    | cont => exact False.elim hq'
theorem make_to {σ : L2.St} {H1 : Hp} {Q : VK} {M1 : MH} {ds : List D} {vs : List V} {P : D → MH → Prop} {E : EX} (s1 : Sim X.K M1 H1) (r1 : Reps X.K (frz M1 H1) ds vs) (k : rtK X.K M1 H1 P Q) (ex : exK X.K W M1 H1 σ E)
    (w1 : ∀ x, M1 x = none → sp (.ref x :: ds) (sett M1 x (.ins C [])) (fun d M2 => d = .non ∧ retD P (.ref x) M2) E) :
    ∀ x dx, H1 x = none → H1 dx = none → dx ≠ x → lSp X.K sp (.ref x :: vs) (upd (upd H1 dx (.own x)) x (.ins C dx [])) (fun v H2 => v = .non ∧ Q (.ref x) H2) (WE W σ) := fun x dx hx hd hn => by
  have s2 := s1.new (o := .own x) hd
  have g2 := grow_new (M := M1) (o := .own x) hd
  have hx2 : (upd H1 dx (.own x)) x = none := by rw [upd_ne (Ne.symm hn)]; exact hx
  have s3 := s2.newM (o := .ins C dx []) (m := .ins C []) hx2 ⟨dx, [], rfl, rfl, .nil⟩
  have g3 := g2.trans (grow_newM (M := M1) (o := .ins C dx []) (m := .ins C []) hx2)
  refine lSp_intro (.cons rep_ref (r1.mono g3)) s3 (w1 x (s1.free hx)) (fun d M4 v H4 ⟨e4, w4⟩ s4 g4 r4 => ?_) (exKE_of (ex.later g3))
  subst e4
  unfold Rep at r4
  refine ⟨r4, ?_⟩
  exact (rt_frz (k.later (g3.trans g4))) _ _ _ _ w4 s4 (.refl _ _) rep_ref
theorem de_make (Mm : Mk X.K C f) (F : FnD X.prog X.w X.K X.mg X.base k f fd ps sp) (hr : Room (k + 1) X.A) (hg : Gl X x) (hm : X.mg x = some (.ref C)) (hb : Binds X.K fd ps []) (tk : Takes X W)
    (ha : DA X W (e :: es) t) (hdb : (x == ("__debug__" : Str)) = false := by decide) (he : starEach (e :: es) X.env = (false, eval e X.env) :: starEach es X.env := by rfl) (hpl : (backTo pos (starEach es X.env)).any (·.1) = false := by rfl) :
    DE X W (.Call (.Name x p) (e :: es) [] pos) (dMake C sp t) := by
  refine ⟨fun pins s σ H Q I ⟨ρ, M, P, E, sl, sm, w, kk, ex⟩ => ?_⟩
  have h : lA X.K W t σ H (fun vs H1 => ∀ x dx, H1 x = none → H1 dx = none → dx ≠ x → lSp X.K sp (.ref x :: vs) (upd (upd H1 dx (.own x)) x (.ins C dx [])) (fun v H2 => v = .non ∧ Q (.ref x) H2) (WE W σ)) :=
    lA_intro sl sm w (fun ds M1 vs H1 w1 s1 g1 r1 => make_to s1 r1 (rtK.later kk g1) (ex.later g1) w1) ex
  refine wpAny_Call_Name_kw (ld_glob I hg hm ?_ hdb)
  refine PySem.W.callWith_K (h₀ := X.base) I.ok.mod.kin Mm.kp (thn (ha.run pos pins s σ H _ I h) fun us s1 ⟨vs, H1, I1, r, q⟩ => ⟨I1.kIn, ?_⟩) he hpl
  exact run_makeS (E := WE W) Mm F hr hb (fun pins H s e s' I c => passAt tk σ pins H s e s' I c) I1 r q
/-- x(e, ..), x a name of the def that holds the class -/
def dMakeL (i : Nat) (C : Addr) (sp : DSp) (t : DTA) : DTE := fun ρ M P E => ρ[i]? = some (some (.ref C)) ∧ dMake C sp t ρ M P E
theorem de_makeL {i : Nat} (Mm : Mk X.K C f) (F : FnD X.prog X.w X.K X.mg X.base k f fd ps sp) (hr : Room (k + 1) X.A) (hN : X.N[i]? = some x) (hv : Vis X.env.scope x) (hb : Binds X.K fd ps []) (tk : Takes X W)
    (ha : DA X W (e :: es) t) (hdb : (x == ("__debug__" : Str)) = false := by decide) (hcd : (x == ("__classdict__" : Str)) = false := by decide) (he : starEach (e :: es) X.env = (false, eval e X.env) :: starEach es X.env := by rfl) (hpl : (backTo pos (starEach es X.env)).any (·.1) = false := by rfl) :
    DE X W (.Call (.Name x p) (e :: es) [] pos) (dMakeL i C sp t) := by
  refine ⟨fun pins s σ H Q I ⟨ρ, M, P, E, sl, sm, ⟨hi, w⟩, kk, ex⟩ => ?_⟩
  have h : lA X.K W t σ H (fun vs H1 => ∀ x dx, H1 x = none → H1 dx = none → dx ≠ x → lSp X.K sp (.ref x :: vs) (upd (upd H1 dx (.own x)) x (.ins C dx [])) (fun v H2 => v = .non ∧ Q (.ref x) H2) (WE W σ)) :=
    lA_intro sl sm w (fun ds M1 vs H1 w1 s1 g1 r1 => make_to s1 r1 (rtK.later kk g1) (ex.later g1) w1) ex
  obtain ⟨v0, ev, rv⟩ := sl.at_ i _ hi
  rw [rep_ref_inv rv] at ev
  have hvar := (pe_var (X := X) (pos := p) hN hv hdb hcd).run pins s σ H (fun v H1 => v = .ref C ∧ H1 = H) I ⟨_, ev, rfl, rfl⟩
  refine wpAny_Call_Name_kw (thn hvar fun u s0 ⟨v, H0, I0, r0, e0, eH⟩ => ?_)
  subst e0 eH
  obtain rfl : u = Value.ref C := r0
  refine PySem.W.callWith_K (h₀ := X.base) I0.ok.mod.kin Mm.kp (thn (ha.run pos pins s0 σ H0 _ I0 h) fun us s1 ⟨vs, H1, I1, r, q⟩ => ⟨I1.kIn, ?_⟩) he hpl
  exact run_makeS (E := WE W) Mm F hr hb (fun pins H s e s' I c => passAt tk σ pins H s e s' I c) I1 r q
end
end DL

namespace DL
open PySem PySem.Spec PyProof.Rows L2
/-! ### a locked dict leaves all data as it is -/
def nd : HO → Prop | .frz _ (.dK _) => False | _ => True
def LeW (F F' : Hp) : Prop := ∀ a o, F a = some o → nd o → F' a = some o
theorem LeW.tup {K : Fr} {F F' : Hp} (l : LeW F F') {a : Addr} {vs : List V} (h : SqT K F a vs) : SqT K F' a vs := by
  rcases h with (h | ⟨o, h⟩) | h
  · exact .inl (.inl (l _ _ h trivial))
  · exact .inl (.inr ⟨o, l _ _ h trivial⟩)
  · exact .inr h
theorem LeW.tupN {K : Fr} {F F' : Hp} (l : LeW F F') {a : Addr} {vs : List V} (h : SqN K F a vs) : SqN K F' a vs := by
  rcases h with ⟨o, h, e⟩ | h
  · exact .inl ⟨o, l _ _ h trivial, e⟩
  · exact .inr h
theorem LeW.lst {K : Fr} {F F' : Hp} (l : LeW F F') {a : Addr} {vs : List V} (h : SqL K F a vs) : SqL K F' a vs := by
  rcases h with (h | ⟨o, h⟩) | h
  · exact .inl (.inl (l _ _ h trivial))
  · exact .inl (.inr ⟨o, l _ _ h trivial⟩)
  · exact .inr h
mutual
theorem Rep.monoW {K : Fr} {F F' : Hp} (l : LeW F F') : ∀ {d : D} {v : V}, Rep K F d v → Rep K F' d v
  | .non, _, h => h
  | .bl _, _, h => h
  | .int _, _, h => h
  | .str _, _, h => h
  | .ref _, _, h => h
  | .ty _, _, h => h
  | .tup ds, v, h => by
    unfold Rep at h ⊢
    obtain ⟨a, vs, e, q, r⟩ := h
    exact ⟨a, vs, e, l.tupN q, Reps.monoW l r⟩
  | .pr ds, v, h => by
    unfold Rep at h ⊢
    obtain ⟨a, vs, e, q, r⟩ := h
    exact ⟨a, vs, e, l.tup q, Reps.monoW l r⟩
  | .lst ds, v, h => by
    unfold Rep at h ⊢
    obtain ⟨a, vs, e, q, r⟩ := h
    exact ⟨a, vs, e, l.lst q, Reps.monoW l r⟩
  | .ins C ns ds, v, h => by
    unfold Rep at h ⊢
    obtain ⟨a, dx, fs, e, q, n, r⟩ := h
    exact ⟨a, dx, fs, e, l _ _ q trivial, n, Reps.monoW l r⟩
  | .dct ks ds, v, h => by
    unfold Rep at h ⊢
    obtain ⟨a, kvs, e, q, n, r⟩ := h
    exact ⟨a, kvs, e, l _ _ q trivial, n, Reps.monoW l r⟩
theorem Reps.monoW {K : Fr} {F F' : Hp} (l : LeW F F') : ∀ {ds : List D} {vs : List V}, Reps K F ds vs → Reps K F' ds vs
  | [], _, h => h
  | d :: ds, vs, h => by
    unfold Reps at h ⊢
    obtain ⟨v, r, e, h1, h2⟩ := h
    exact ⟨v, r, e, Rep.monoW l h1, Reps.monoW l h2⟩
end
theorem RepO.monoW {K : Fr} {F F' : Hp} (l : LeW F F') : ∀ {m : MO} {o : HO}, RepO K F m o → RepO K F' m o
  | .lst ds, o, h => by obtain ⟨vs, e, r⟩ := h; exact ⟨vs, e, r.monoW l⟩
  | .dK kvs, o, h => by obtain ⟨us, e, n, r⟩ := h; exact ⟨us, e, n, r.monoW l⟩
  | .ins C fs, o, h => by obtain ⟨dx, us, e, n, r⟩ := h; exact ⟨dx, us, e, n, r.monoW l⟩
section
variable {K : Fr} {M M2 : MH} {H H2 : Hp} {a : Addr} {kvs : List (Key × D)} {us : List (Key × V)} {od : Obj}
/-- the dict at a is locked -/
theorem lock_le (hM : M a = some (.dK kvs)) : Le (frz M H) (frz (dell M a) (upd H a (.frz od (.dK us)))) := fun b o e => by
  obtain ⟨e1, e2⟩ := frz_some e
  have n : b ≠ a := fun z => by rw [z, hM] at e1; cases e1
  exact frz_of (by rw [dell_ne n]; exact e1) (by rw [upd_ne n]; exact e2)
theorem lock_sim (s : Sim K M H) (hM : M a = some (.dK kvs)) : Sim K (dell M a) (upd H a (.frz od (.dK us))) := fun b o e => by
  have n : b ≠ a := fun z => by rw [z, dell_same] at e; cases e
  rw [dell_ne n] at e
  obtain ⟨ho, q, r⟩ := s b o e
  exact ⟨ho, by rw [upd_ne n]; exact q, r.mono (lock_le hM)⟩
theorem lock_at : frz (dell M a) (upd H a (.frz od (.dK us))) a = some (.frz od (.dK us)) := frz_of dell_same upd_same
/-- .. and unlocked -/
theorem unlock_leW (h2 : frz M2 H2 a = some (.frz od (.dK us))) : LeW (frz M2 H2) (frz (sett M2 a (.dK kvs)) (upd H2 a (.dK us))) := fun b o e no => by
  have n : b ≠ a := fun z => by rw [z, h2] at e; cases e; exact no.elim
  obtain ⟨e1, e2⟩ := frz_some e
  exact frz_of (by rw [sett_ne n]; exact e1) (by rw [upd_ne n]; exact e2)
theorem unlock_grow (hM : M a = some (.dK kvs)) (g : Grow (dell M a) (upd H a (.frz od (.dK us))) M2 H2) : Grow M H (sett M2 a (.dK kvs)) (upd H2 a (.dK us)) := fun b o e => by
  have n : b ≠ a := fun z => by obtain ⟨e1, _⟩ := frz_some e; rw [z, hM] at e1; cases e1
  obtain ⟨e1, e2⟩ := frz_some (g b o (lock_le hM b o e))
  exact frz_of (by rw [sett_ne n]; exact e1) (by rw [upd_ne n]; exact e2)
theorem unlock_sim (s2 : Sim K M2 H2) (hM : M a = some (.dK kvs)) (g : Grow (dell M a) (upd H a (.frz od (.dK us))) M2 H2) (r : RepO K (frz M H) (.dK kvs) (.dK us)) : Sim K (sett M2 a (.dK kvs)) (upd H2 a (.dK us)) := fun b o e => by
  have h2 : frz M2 H2 a = some (.frz od (.dK us)) := g a _ lock_at
  by_cases n : b = a
  · subst n
    rw [sett_same] at e
    cases e
    exact ⟨_, upd_same, r.mono (unlock_grow hM g)⟩
  · rw [sett_ne n] at e
    obtain ⟨ho, q, r⟩ := s2 b o e
    exact ⟨ho, by rw [upd_ne n]; exact q, r.monoW (unlock_leW h2)⟩
end
/-! ### d.items(), d.values() walked while the dict is locked -/
def keyD : Key → D
  | .inl i => .int i
  | .inr x => .str x
def itemsD (kvs : List (Key × D)) : List D := kvs.map fun kv => .pr [keyD kv.1, kv.2]
theorem rep_key {K : Fr} {F : Hp} (k : Key) : Rep K F (keyD k) (kV k) := by
  cases k with
  | inl i => exact rep_int
  | inr x => exact rep_str
theorem kvs_get {K : Fr} {F : Hp} {kvs : List (Key × D)} {us : List (Key × V)} (en : us.map (·.1) = kvs.map (·.1)) (ru : Reps K F (kvs.map (·.2)) (us.map (·.2))) {i : Nat} {kv : Key × D} (h : kvs[i]? = some kv) : ∃ v, us[i]? = some (kv.1, v) ∧ Rep K F kv.2 v := by
  obtain ⟨v, ev, rv⟩ := ru.getD (i := i) (d := kv.2) (by rw [List.getElem?_map, h]; rfl)
  rw [List.getElem?_map] at ev
  cases e : us[i]? with
  | none => rw [e] at ev; cases ev
  | some u =>
    rw [e] at ev
    have h1 : (us.map (·.1))[i]? = (kvs.map (·.1))[i]? := by rw [en]
    rw [List.getElem?_map, List.getElem?_map, e, h] at h1
    cases ev
    simp only [Option.map_some, Option.some.injEq] at h1
    exact ⟨u.2, by rw [← h1], rv⟩
theorem wk_items {K : Fr} {F : Hp} {a : Addr} {od : Obj} {kvs : List (Key × D)} {us : List (Key × V)} (h : F a = some (.frz od (.dK us))) (en : us.map (·.1) = kvs.map (·.1)) (ru : Reps K F (kvs.map (·.2)) (us.map (·.2))) : Wk K (Iti a od us) (itemsD kvs) F where
  go := fun M H s l i d e => by
    unfold itemsD at e
    rw [List.getElem?_map] at e
    cases q : kvs[i]? with
    | none => rw [q] at e; cases e
    | some kv =>
      rw [q] at e
      simp only [Option.map_some, Option.some.injEq] at e
      subst e
      obtain ⟨v, ev, rv⟩ := kvs_get en ru q
      refine ⟨⟨(frz_some (l _ _ h)).2, (List.getElem?_eq_some_iff.mp ev).1⟩, fun x H' ⟨T, k, v', ek, ex, eT, eH⟩ => ?_⟩
      rw [ev] at ek
      cases ek
      subst ex eH
      exact ⟨s.new eT, grow_new eT, rep_pr (.inl (.inl (frz_new (s.free eT)))) ((reps_pair (rep_key kv.1) (rv.mono l)).mono (grow_new eT))⟩
  stop := fun M H s l i hi => by
    have hl : us.length = kvs.length := by have := congrArg List.length en; simpa using this
    unfold itemsD at hi
    rw [List.length_map] at hi
    exact ⟨(frz_some (l _ _ h)).2, by omega⟩
theorem wk_vals {K : Fr} {F : Hp} {a : Addr} {od : Obj} {kvs : List (Key × D)} {us : List (Key × V)} (h : F a = some (.frz od (.dK us))) (en : us.map (·.1) = kvs.map (·.1)) (ru : Reps K F (kvs.map (·.2)) (us.map (·.2))) : Wk K (Itd a od us) (kvs.map (·.2)) F where
  go := fun M H s l i d e => by
    rw [List.getElem?_map] at e
    cases q : kvs[i]? with
    | none => rw [q] at e; cases e
    | some kv =>
      rw [q] at e
      simp only [Option.map_some, Option.some.injEq] at e
      subst e
      obtain ⟨v, ev, rv⟩ := kvs_get en ru q
      refine ⟨⟨(frz_some (l _ _ h)).2, (List.getElem?_eq_some_iff.mp ev).1⟩, fun x H' ⟨eH, k, ek⟩ => ?_⟩
      rw [ev] at ek
      cases ek
      subst eH
      exact ⟨s, .refl _ _, rv.mono l⟩
  stop := fun M H s l i hi => by
    have hl : us.length = kvs.length := by have := congrArg List.length en; simpa using this
    rw [List.length_map] at hi
    exact ⟨(frz_some (l _ _ h)).2, by omega⟩
section
variable {X : Cx} {W : WX}
/-- [.. for .. in x.items() ..], x in slot i -/
def dLcD (sel : List (Key × D) → List D) (i : Nat) (tg : Tgt) (tt : DTT) (te : DTE) (vs : List Nat) : DTE := fun ρ M P E => ∃ a kvs, ρ[i]? = some (some (.ref a)) ∧ M a = some (.dK kvs) ∧
  ∀ A, M A = none → dLcL tg tt te (wipeD ρ vs) A (fun acc M2 => M2 A = some (.lst acc) ∧ P (.lst acc) (sett (dell M2 A) a (.dK kvs))) (sel kvs) [] (sett (dell M a) A (.lst []))
theorem lc_in {tg : Tgt} {tt : DTT} {te : DTE} {vs : List Nat} {σ : L2.St} {Q : VK} {ρ : Ro} {P2 : Addr → List D → MH → Prop} {ds : List D} {M1 : MH} {H1 : Hp} {J : It} (ok : tg.ok vs = true) (sl : Slots X.K (frz M1 H1) ρ σ) (s1 : Sim X.K M1 H1)
    (wk : Wk X.K J ds (frz M1 H1)) (w1 : ∀ A, H1 A = none → dLcL tg tt te (wipeD ρ vs) A (P2 A) ds [] (sett M1 A (.lst [])))
    (kk : ∀ A acc M2 H2, P2 A acc M2 → Sim X.K M2 H2 → Grow M1 H1 M2 H2 → Q (.ref A) H2) : ∀ A, H1 A = none → ∃ W : Nat → Nat → Hp → Prop, (∃ m, W 0 m (upd H1 A (.lst []))) ∧ ∀ i m H, W i m H →
  (J.stop i H ∧ Q (.ref A) H) ∨ (J.go i H ∧ ∃ Nx : Hp → Prop, (∀ H', Nx H' → ∃ m', m' < m ∧ W (i + 1) m' H') ∧ ∀ x H', J.yld i H x H' → tg.vt X.K x (wipe σ vs) H' fun σ2 H2 => wipe σ2 vs = wipe σ vs ∧ lT X.K W0 tt σ2 H2 fun b H3 =>
    if b = true then lE X.K W0 te σ2 H3 fun y H4 => ∃ acc, H4 A = some (.lst acc) ∧ acc.length < sizeLine ∧ Nx (upd H4 A (.lst (acc ++ [y]))) else Nx H3) := by
  intro A hA
  have hMA := s1.free hA
  have w2 := w1 A hA
  have s2 := s1.newM (m := .lst []) hA ⟨[], rfl, .nil⟩
  have g2 := grow_newM (M := M1) (o := .lst []) (m := .lst []) hA
  refine ⟨fun i m H' => m = ds.length - i ∧ i ≤ ds.length ∧ ∃ acc M', Sim X.K M' H' ∧ Grow (sett M1 A (.lst [])) (upd H1 A (.lst [])) M' H' ∧ dLcL tg tt te (wipeD ρ vs) A (P2 A) (ds.drop i) acc M', ⟨_, rfl, Nat.zero_le _, [], _, s2, .refl _ _, w2⟩, ?_⟩
  rintro i m H' ⟨rfl, hi, acc, M', s', g', w'⟩
  have gF : Grow M1 H1 M' H' := g2.trans g'
  by_cases hlt : i < ds.length
  · rw [List.drop_eq_getElem_cons hlt] at w'
    have hget : ds[i]? = some ds[i] := by simp [hlt]
    obtain ⟨h1, h2⟩ := wk.go M' H' s' (g2.trans g') i _ hget
    refine .inr ⟨h1, fun H2 => i + 1 ≤ ds.length ∧ ∃ acc M', Sim X.K M' H2 ∧ Grow (sett M1 A (.lst [])) (upd H1 A (.lst [])) M' H2 ∧ dLcL tg tt te (wipeD ρ vs) A (P2 A) (ds.drop (i + 1)) acc M', fun H2 ⟨a1, a2⟩ => ⟨ds.length - (i + 1), by omega, rfl, a1, a2⟩, fun x H2 y => ?_⟩
    obtain ⟨s3, g3, r3⟩ := h2 x H2 y
    unfold dLcL at w'
    refine Tgt.go ok (slots_wipe (sl.mono (gF.trans g3)) vs) r3 w' fun ρ2 σ2 w2 sl2 hw => ⟨by rw [hw, wipe_wipe], ?_⟩
    refine lT_intro sl2 s3 w2 (fun b M4 H4 w4 s4 g4 => ?_) exK_no
    cases b with
    | false =>
      rw [if_neg Bool.false_ne_true] at w4 ⊢
      exact ⟨by omega, acc, M4, s4, (g'.trans g3).trans g4, w4.2⟩
    | true =>
      rw [if_pos rfl] at w4 ⊢
      refine lE_intro (sl2.mono g4) s4 w4 (fun z M5 vz H5 w5 s5 g5 r5 => ?_) exK_no
      obtain ⟨e5, hl, w5⟩ := w5
      obtain ⟨ho, eh, us, rfl, ru⟩ := s5 _ _ e5
      refine ⟨us, eh, by rw [← ru.length]; exact hl, by omega, acc ++ [z], sett M5 A (.lst (acc ++ [z])), s5.put e5 (show RepO X.K (frz M5 H5) (.lst (acc ++ [z])) (.lst (us ++ [vz])) from ⟨_, rfl, ru.append (.cons r5 .nil)⟩), ((g'.trans g3).trans g4).trans (g5.trans (grow_put e5)), w5⟩
  · have e : i = ds.length := by omega
    subst e
    rw [List.drop_length] at w'
    unfold dLcL at w'
    exact .inl ⟨wk.stop M' H' s' (g2.trans g') _ (Nat.le_refl _), kk A acc M' H' w' s' gF⟩
theorem lcD_to {own : List (Str × Nat)} {iW : TI} {J : Addr → Obj → List (Key × V) → It} {sel : List (Key × D) → List D} {i : Nat} {tg : Tgt} {tt : DTT} {te : DTE} (ok : tg.ok (own.map (·.2)) = true)
    (hw : ∀ (σ : L2.St) (H : Hp) (R : It → Hp → Prop) (a : Addr) (o : Obj) (us : List (Key × V)), σ[i]? = some (some (.ref a)) → H a = some (.frz o (.dK us)) → R (J a o us) H → iW σ H R)
    (hk : ∀ (F : Hp) (a : Addr) (o : Obj) (kvs : List (Key × D)) (us : List (Key × V)), F a = some (.frz o (.dK us)) → us.map (·.1) = kvs.map (·.1) → Reps X.K F (kvs.map (·.2)) (us.map (·.2)) → Wk X.K (J a o us) (sel kvs) F)
    {σ : L2.St} {H : Hp} {Q : VK} {ρ : Ro} {M : MH} {P : D → MH → Prop} {E : EX} (sl : Slots X.K (frz M H) ρ σ) (s : Sim X.K M H) (w : dLcD sel i tg tt te (own.map (·.2)) ρ M P E) (k : rtK X.K M H P Q) :
    tLockE (tLc iW (tg.vt X.K) (lT X.K W0 tt) (lE X.K W0 te) (own.map (·.2))) σ H Q := by
  obtain ⟨a, kvs, ea, eM, w⟩ := w
  obtain ⟨ho, eh, us, rfl, en, ru⟩ := s _ _ eM
  obtain ⟨v0, ev, rv⟩ := sl.at_ i _ ea
  rw [rep_ref_inv rv] at ev
  refine ⟨a, .dK us, eh, trivial, fun od => ?_⟩
  have gl := lock_le (H := H) (od := od) (us := us) eM
  have s1 := lock_sim (od := od) (us := us) s eM
  have wk := hk _ a od kvs us (lock_at (M := M) (H := H) (od := od) (us := us)) en (ru.mono gl)
  refine hw σ _ _ a od us ev upd_same (lc_in (Q := fun v H' => H' a = some (HO.frz od (HO.dK us)) ∧ Q v (upd H' a (HO.dK us))) (P2 := fun A acc M2 => M2 A = some (.lst acc) ∧ P (.lst acc) (sett (dell M2 A) a (.dK kvs))) ok (sl.mono gl) s1 wk (fun A hA => w A ?_) fun A acc M2 H2 ⟨eA, wP⟩ s2 g2 => ?_)
  · have n : A ≠ a := fun z => by rw [z, upd_same] at hA; cases hA
    have := s1.free hA
    rw [dell_ne n] at this
    exact this
  · have gd := grow_sub (M := M2) (M' := dell M2 A) (H := H2) Sub.dell
    have g3 := g2.trans gd
    obtain ⟨e1, e2⟩ := frz_some (g3 a _ lock_at)
    refine ⟨e2, ?_⟩
    obtain ⟨ho, eh2, ws, rfl, rw'⟩ := s2 _ _ eA
    have s3 := s2.sub (Sub.dell (M := M2) (p := A))
    have r : RepO X.K (frz M H) (.dK kvs) (.dK us) := ⟨us, rfl, en, ru⟩
    refine k _ _ _ _ wP (unlock_sim s3 eM g3 r) (unlock_grow eM g3) ?_
    exact (rep_lst (.inl (.inl (frz_of dell_same eh2))) (rw'.mono gd)).monoW (unlock_leW (g3 a _ lock_at))
theorem de_lcD {e : Expr} {own : List (Str × Nat)} {iW : TI} {J : Addr → Obj → List (Key × V) → It} {sel : List (Key × D) → List D} {i : Nat} {tg : Tgt} {tt : DTT} {te : DTE} (ok : tg.ok (own.map (·.2)) = true)
    (hw : ∀ (σ : L2.St) (H : Hp) (R : It → Hp → Prop) (a : Addr) (o : Obj) (us : List (Key × V)), σ[i]? = some (some (.ref a)) → H a = some (.frz o (.dK us)) → R (J a o us) H → iW σ H R)
    (hk : ∀ (F : Hp) (a : Addr) (o : Obj) (kvs : List (Key × D)) (us : List (Key × V)), F a = some (.frz o (.dK us)) → us.map (·.1) = kvs.map (·.1) → Reps X.K F (kvs.map (·.2)) (us.map (·.2)) → Wk X.K (J a o us) (sel kvs) F)
    (hpe : PE X e (tLc iW (tg.vt X.K) (lT X.K W0 tt) (lE X.K W0 te) (own.map (·.2)))) : DE X W e (dLcD sel i tg tt te (own.map (·.2))) :=
  de_of (pe_lock hpe) fun σ H Q ρ M P E sl s w k ex => lcD_to ok hw hk sl s w k
abbrev dLcItems := dLcD itemsD
abbrev dLcVals := dLcD (fun kvs => kvs.map (·.2))
theorem de_lcItems {e : Expr} {own : List (Str × Nat)} {i : Nat} {tg : Tgt} {tt : DTT} {te : DTE} (ok : tg.ok (own.map (·.2)) = true) (hpe : PE X e (tLc (iItems (tVar i)) (tg.vt X.K) (lT X.K W0 tt) (lE X.K W0 te) (own.map (·.2)))) : DE X W e (dLcItems i tg tt te (own.map (·.2))) :=
  de_lcD (J := Iti) ok (fun σ H R a o us e1 e2 r => ⟨_, e1, a, o, us, rfl, e2, r⟩) (fun F a o kvs us h1 h2 h3 => wk_items h1 h2 h3) hpe
theorem de_lcVals {e : Expr} {own : List (Str × Nat)} {i : Nat} {tg : Tgt} {tt : DTT} {te : DTE} (ok : tg.ok (own.map (·.2)) = true) (hpe : PE X e (tLc (iVals (tVar i)) (tg.vt X.K) (lT X.K W0 tt) (lE X.K W0 te) (own.map (·.2)))) : DE X W e (dLcVals i tg tt te (own.map (·.2))) :=
  de_lcD (J := Itd) ok (fun σ H R a o us e1 e2 r => ⟨_, e1, a, o, us, rfl, e2, r⟩) (fun F a o kvs us h1 h2 h3 => wk_vals h1 h2 h3) hpe
end
end DL

namespace DL
open PySem PySem.Spec PyProof.Rows L2
/-! ### dicts -/
def dKey : D → Option Key
  | .int i => some (.inl i)
  | .str x => some (.inr x)
  | _ => none
theorem key_rep {K : Fr} {F : Hp} {d : D} {k : Key} {v : V} (h : dKey d = some k) (r : Rep K F d v) : v = kV k := by
  cases d <;> simp only [dKey] at h <;> cases h
  · exact rep_int_inv r
  · unfold Rep at r; exact r
def getKD (kvs : List (Key × D)) (k : Key) : Option D := (kvs.find? fun kv => decide (kv.1 = k)).map (·.2)
def putKD (kvs : List (Key × D)) (k : Key) (d : D) : List (Key × D) :=
  if (kvs.any fun kv => decide (kv.1 = k)) = true then kvs.map (fun kv => if kv.1 = k then (kv.1, d) else kv) else kvs ++ [(k, d)]
section
variable {K : Fr} {F : Hp}
theorem getK_rep : ∀ {kvs : List (Key × D)} {us : List (Key × V)}, us.map (·.1) = kvs.map (·.1) → Reps K F (kvs.map (·.2)) (us.map (·.2)) → ∀ k : Key, (match getKD kvs k, valV us k with | some d, some v => Rep K F d v | none, none => True | _, _ => False)
  | [], [], _, _, k => True.intro
  | [], _ :: _, h, _, _ => by simp at h
  | _ :: _, [], h, _, _ => by simp at h
  | (n, d) :: fs, (n', v) :: us, h, r, f => by
    simp only [List.map_cons, List.cons.injEq] at h
    obtain ⟨h1, h2⟩ := h
    subst h1
    simp only [List.map_cons] at r
    unfold Reps at r
    obtain ⟨w, wr, e, r1, r2⟩ := r
    cases e
    by_cases hf : n' = f
    · simp only [getKD, valV, List.find?_cons, hf, decide_true, Option.map_some]; exact r1
    · simp only [getKD, valV, List.find?_cons, hf, decide_false]
      have := getK_rep h2 r2 f
      simpa only [getKD, valV] using this
theorem any_rep {kvs : List (Key × D)} {us : List (Key × V)} (h : us.map (·.1) = kvs.map (·.1)) (k : Key) : (us.any fun kv => decide (kv.1 = k)) = (kvs.any fun kv => decide (kv.1 = k)) := by
  have e1 : (us.any fun kv => decide (kv.1 = k)) = (us.map (·.1)).any fun j => decide (j = k) := by rw [List.any_map]; rfl
  have e2 : (kvs.any fun kv => decide (kv.1 = k)) = (kvs.map (·.1)).any fun j => decide (j = k) := by rw [List.any_map]; rfl
  rw [e1, e2, h]
theorem mapK_rep {k : Key} {d : D} {v : V} (rd : Rep K F d v) : ∀ {kvs : List (Key × D)} {us : List (Key × V)}, us.map (·.1) = kvs.map (·.1) → Reps K F (kvs.map (·.2)) (us.map (·.2)) →
    (us.map fun kv => if kv.1 = k then (kv.1, v) else kv).map (·.1) = (kvs.map fun kv => if kv.1 = k then (kv.1, d) else kv).map (·.1) ∧ Reps K F ((kvs.map fun kv => if kv.1 = k then (kv.1, d) else kv).map (·.2)) ((us.map fun kv => if kv.1 = k then (kv.1, v) else kv).map (·.2))
  | [], [], _, _ => ⟨rfl, .nil⟩
  | [], _ :: _, h, _ => by simp at h
  | _ :: _, [], h, _ => by simp at h
  | (n, y) :: fs, (n', u) :: us, h, r => by
    simp only [List.map_cons, List.cons.injEq] at h
    obtain ⟨h1, h2⟩ := h
    subst h1
    simp only [List.map_cons] at r
    unfold Reps at r
    obtain ⟨w, wr, e, r1, r2⟩ := r
    cases e
    obtain ⟨i1, i2⟩ := mapK_rep rd h2 r2
    by_cases hf : n' = k
    · simp only [List.map_cons, hf, if_pos]
      exact ⟨by rw [i1], .cons rd i2⟩
    · simp only [List.map_cons, if_neg hf]
      exact ⟨by rw [i1], .cons r1 i2⟩
theorem putK_rep {k : Key} {d : D} {v : V} (rd : Rep K F d v) {kvs : List (Key × D)} {us : List (Key × V)} (h : us.map (·.1) = kvs.map (·.1)) (r : Reps K F (kvs.map (·.2)) (us.map (·.2))) :
    (putK us k v).map (·.1) = (putKD kvs k d).map (·.1) ∧ Reps K F ((putKD kvs k d).map (·.2)) ((putK us k v).map (·.2)) := by
  unfold putK putKD
  rw [any_rep h]
  split
  · exact mapK_rep rd h r
  · rw [List.map_append, List.map_append, List.map_append, List.map_append, h]
    exact ⟨rfl, r.append (.cons rd .nil)⟩
end
section
variable {X : Cx} {W : WX} {o i e f value : Expr} {es : List Expr} {pos pos' apos cpos p : Pos} {to ti te tf tv : DTE} {t : DTA}
/-- d.get(k, z), d a dict that may be changed -/
def dDGet2 (to te tf : DTE) : DTE := fun ρ M P E => to ρ M (fun x M1 => match x with
  | .ref a => (match M1 a with
    | some (.dK _) => te ρ M1 (fun y M2 => tf ρ M2 (fun z M3 => match dKey y, M3 a with
      | some k, some (.dK kvs) => P ((getKD kvs k).getD z) M3
      | _, _ => False) E) E
    | _ => False)
  | _ => False) E
theorem de_dget2 {k : Nat} (hr : Room k X.A) (ho : DE X W o to) (he : DE X W e te) (hf : DE X W f tf) (m : M2 X o "get" apos e f cpos) : DE X W (.Call (.Attribute o "get" apos) [e, f] [] cpos) (dDGet2 to te tf) :=
  de_of (pe_dget2 (hu_of hr) ho he hf m) fun σ H Q ρ M P E sl s w k ex =>
    lE_intro sl s w (fun x M1 vx H1 w1 s1 g1 r1 => by
      split at w1
      · rename_i a
        split at w1
        · rename_i _ e1
          rw [rep_ref_inv r1]
          obtain ⟨h1, eh1, us1, rfl, _, _⟩ := s1 _ _ e1
          refine ⟨a, rfl, .inl ⟨us1, .inl eh1⟩, lE_intro (sl.mono g1) s1 w1 (fun y M2 vy H2 w2 s2 g2 r2 => lE_intro (sl.mono (g1.trans g2)) s2 w2 (fun z M3 vz H3 w3 s3 g3 r3 => ?_) (ex.later (g1.trans g2))) (ex.later g1)⟩
          split at w3
          · rename_i kk kvs ek e3
            obtain ⟨h3, eh3, us, rfl, en, ru⟩ := s3 _ _ e3
            rw [key_rep ek r2]
            refine ⟨valV us kk, DGet.k eh3, ?_⟩
            have q := getK_rep en ru kk
            refine k _ _ _ _ w3 s3 ((g1.trans g2).trans g3) ?_
            cases e4 : getKD kvs kk with
            | none =>
              rw [e4] at q
              cases e5 : valV us kk with
              | none => exact r3
              | some v => rw [e5] at q; exact q.elim
            | some d =>
              rw [e4] at q
              cases e5 : valV us kk with
              | none => rw [e5] at q; exact q.elim
              | some v => rw [e5] at q; exact q
          · exact w3.elim
        · exact w1.elim
      · exact w1.elim) ex
/-- d[k] = v -/
def dDPut (to ti tv : DTE) : DTS := fun N ρ M => tv ρ M (fun d M1 => to ρ M1 (fun x M2 => ti ρ M2 (fun y M3 => match x, dKey y with
  | .ref a, some k => (match M3 a with | some (.dK kvs) => kvs.length < sizeLine ∧ N.nx ρ (sett M3 a (.dK (putKD kvs k d))) | _ => False)
  | _, _ => False) (exN N ρ)) (exN N ρ)) (exN N ρ)
theorem ds_dput {k : Nat} (hr : Room k X.A) (ho : DE X W o to) (hi : DE X W i ti) (hv : DE X W value tv) (hs : swapsWith value (some (.Subscript o i pos')) pos.line X.env = pure false := by rfl) :
    DS X W (.Assign [.Subscript o i pos'] value pos) (dDPut to ti tv) := ds_of (ps_dput (hu_of hr) ho hi hv hs) fun DD σ H N ρ M sl s w k =>
  lE_intro sl s w (fun d M1 vd H1 w1 s1 g1 r1 => lE_intro (sl.mono g1) s1 w1 (fun x M2 vx H2 w2 s2 g2 r2 => lE_intro (sl.mono (g1.trans g2)) s2 w2 (fun y M3 vy H3 w3 s3 g3 r3 => by
    split at w3
    · rename_i a kk ek
      split at w3
      · rename_i kvs e3
        obtain ⟨hl, w3⟩ := w3
        obtain ⟨h3, eh3, us, rfl, en, ru⟩ := s3 _ _ e3
        have hlen : us.length = kvs.length := by have := congrArg List.length en; simpa using this
        rw [rep_ref_inv r2, key_rep ek r3]
        obtain ⟨i1, i2⟩ := putK_rep (k := kk) (r1.mono (g2.trans g3)) en ru
        refine ⟨a, _, rfl, DPut.k eh3 (by omega), ?_⟩
        have gp := grow_put (H := H3) (o := HO.dK (putK us kk vd)) (m := MO.dK (putKD kvs kk d)) e3
        exact k.nx _ _ _ _ w3 (sl.mono (((g1.trans g2).trans g3).trans gp)) (s3.put e3 ⟨_, rfl, i1, i2⟩) (((g1.trans g2).trans g3).trans gp)
      · exact w3.elim
    · exact w3.elim) ((k.exE sl).later (g1.trans g2))) ((k.exE sl).later g1)) (k.exE sl)
/-- xs.append(e), xs a list that may be changed -/
def dApp (to te : DTE) : DTE := fun ρ M P E => to ρ M (fun x M1 => match x with
  | .ref a => (match M1 a with
    | some (.lst _) => te ρ M1 (fun d M2 => match M2 a with | some (.lst ds) => ds.length < sizeLine ∧ P .non (sett M2 a (.lst (ds ++ [d]))) | _ => False) E
    | _ => False)
  | _ => False) E
theorem lstR_of {K : Fr} {H : Hp} {a : Addr} {vs : List V} (h : H a = some (.lst vs)) : SqL K H a vs := .inl (.inl h)
theorem de_app (ho : DE X W o to) (he : DE X W e te)
    (hbase : attributeBase o "append" X.env (eval o X.env) = eval o X.env := by rfl)
    (hfew : ((backTo cpos (starEach [e] X.env)).all (fun x => !x.1) && (backToKw cpos (keywordEach [] X.env)).all (fun x => x.1.isSome)
      && decide (([e] : List Expr).length + ([] : List Keyword).length + (if ([] : List Keyword).isEmpty then 0 else 1) < 30)) = true := by rfl)
    (hline : (apos.endLine == cpos.line) = true := by rfl) (hs : starEach [e] X.env = (false, eval e X.env) :: starEach [] X.env := by rfl) (hplain : (backTo cpos (starEach [] X.env)).any (·.1) = false := by rfl) : DE X W (.Call (.Attribute o "append" apos) [e] [] cpos) (dApp to te) :=
  de_of (pe_bm PySem.F.plainAttrs_list PySem.F.slot_list_append PySem.F.type_list_append mt_append ho (da_cons he da_nil hs) hbase hfew hline hs hplain) fun σ H Q ρ M P E sl s w k ex => lE_intro sl s w (fun x M1 vx H1 w1 s1 g1 r1 => by
    split at w1
    · rename_i a
      split at w1
      · rename_i _ e1
        rw [rep_ref_inv r1]
        obtain ⟨h1, eh1, us1, rfl, _⟩ := s1 _ _ e1
        refine ⟨.inl ⟨rfl, _, lstR_of eh1⟩, lA_intro (t := dCons te dNil) (P := fun xs M2 => ∃ d, xs = [d] ∧ (match M2 a with | some (.lst ds) => ds.length < sizeLine ∧ P .non (sett M2 a (.lst (ds ++ [d]))) | _ => False)) (sl.mono g1) s1 ?_ (fun xs M2 vs H2 w2 s2 g2 r2 => ?_) (ex.later g1)⟩
        · have aux : ∀ (P1 P2 : D → MH → Prop), (∀ d M, P1 d M → P2 d M) → P1 = P2 → True := fun _ _ _ _ => trivial
          show te _ M1 (fun d M2 => ∃ d', [d] = [d'] ∧ _) E
          have : (fun (d : D) (M2 : MH) => ∃ d', [d] = [d'] ∧ (match M2 a with | some (.lst ds) => ds.length < sizeLine ∧ P .non (sett M2 a (.lst (ds ++ [d']))) | _ => False)) = (fun d M2 => match M2 a with | some (.lst ds) => ds.length < sizeLine ∧ P .non (sett M2 a (.lst (ds ++ [d]))) | _ => False) := by
            funext d M2
            apply propext
            constructor
            · rintro ⟨d', e, h⟩; cases e; exact h
            · intro h; exact ⟨d, rfl, h⟩
          rw [this]
          exact w1
        · obtain ⟨d, rfl, w2⟩ := w2
          split at w2
          · rename_i ds e2
            obtain ⟨hl, w2⟩ := w2
            obtain ⟨h2, eh2, us, rfl, ru⟩ := s2 _ _ e2
            obtain ⟨v, rfl, rv⟩ := reps1 r2
            have gp := grow_put (H := H2) (o := HO.lst (us ++ [v])) (m := MO.lst (ds ++ [d])) e2
            exact ⟨a, us, v, rfl, rfl, eh2, by rw [← ru.length]; exact hl, k _ _ _ _ w2 (s2.put e2 ⟨_, rfl, ru.append (.cons rv .nil)⟩) ((g1.trans g2).trans gp) rep_non⟩
          · exact w2.elim
      · exact w1.elim
    · exact w1.elim) ex
end
end DL

namespace DL
open PySem PySem.Spec PyProof.Rows L2
/-! ### dict(pairs), the pairs in a tuple -/
def mergeKD (kvs more : List (Key × D)) : List (Key × D) := more.foldl (fun acc kv => putKD acc kv.1 kv.2) kvs
theorem merge_rep {K : Fr} {F : Hp} : ∀ {more : List (Key × D)} {mus : List (Key × V)} {kvs : List (Key × D)} {us : List (Key × V)}, mus.map (·.1) = more.map (·.1) → Reps K F (more.map (·.2)) (mus.map (·.2)) →
    us.map (·.1) = kvs.map (·.1) → Reps K F (kvs.map (·.2)) (us.map (·.2)) → (mergeK us mus).map (·.1) = (mergeKD kvs more).map (·.1) ∧ Reps K F ((mergeKD kvs more).map (·.2)) ((mergeK us mus).map (·.2))
  | [], [], _, _, _, _, h, r => ⟨h, r⟩
  | [], _ :: _, _, _, h, _, _, _ => by simp at h
  | _ :: _, [], _, _, h, _, _, _ => by simp at h
  | (n, y) :: fs, (n', u) :: mus, kvs, us, h, r, h', r' => by
    simp only [List.map_cons, List.cons.injEq] at h
    have h2 := h.2
    have h1 : n' = n := h.1
    subst h1
    simp only [List.map_cons] at r
    unfold Reps at r
    obtain ⟨w, wr, e, r1, r2⟩ := r
    cases e
    obtain ⟨i1, i2⟩ := putK_rep (k := n') r1 h' r'
    exact merge_rep (more := fs) (mus := mus) h2 r2 i1 i2
def pairsK : List D → Option (List (Key × D))
  | [] => some []
  | .tup [x, d] :: r => (match dKey x with | some k => (pairsK r).map ((k, d) :: ·) | none => none)
  | _ => none
theorem pairsK_rep {K : Fr} {F : Hp} : ∀ {ds : List D} {vs : List V} {kvs : List (Key × D)}, Reps K F ds vs → pairsK ds = some kvs →
    ∃ (ps : List Addr) (us : List (Key × V)), vs = ps.map V.ref ∧ Paired (fun p kv => SqT K F p [kV kv.1, kv.2]) ps us ∧ us.map (·.1) = kvs.map (·.1) ∧ Reps K F (kvs.map (·.2)) (us.map (·.2))
  | [], vs, kvs, r, h => by unfold Reps at r; subst r; cases h; exact ⟨[], [], rfl, .nil, rfl, .nil⟩
  | d :: ds, vs, kvs, r, h => by
    unfold Reps at r
    obtain ⟨v, vr, e, r1, r2⟩ := r
    subst e
    unfold pairsK at h
    split at h
    · cases ‹_ :: _ = []›
    · rename_i x y r0 eq
      cases eq
      split at h
      · rename_i k ek
        cases e2 : pairsK ds with
        | none => rw [e2] at h; cases h
        | some kvs' =>
          rw [e2] at h
          simp only [Option.map_some, Option.some.injEq] at h
          subst h
          obtain ⟨ps, us, rfl, hp, h1, h2⟩ := pairsK_rep r2 e2
          obtain ⟨a, ws, rfl, q, rr⟩ := rep_tup_inv r1
          obtain ⟨vx, vy, rfl, rx, ry⟩ := reps2 rr
          rw [key_rep ek rx] at q
          exact ⟨a :: ps, (k, vy) :: us, rfl, (.cons q.t hp), by simp [h1], by simpa using Reps.cons ry h2⟩
      · cases h
    · cases h
section
variable {X : Cx}
/-- dict(xs), xs a tuple of pairs -/
def rDictT (K : Fr) : List V → Hp → VK → Prop := fun xs H Q => ∃ (a : Addr) (ps : List Addr) (kvs : List (Key × V)), xs = [.ref a] ∧ SqN K H a (ps.map V.ref) ∧ Paired (fun p kv => SqT K H p [kV kv.1, kv.2]) ps kvs ∧
    ∀ p, H p = none → Q (.ref p) (upd H p (.dK (mergeK [] kvs)))
theorem pairs_N {pins : List (Addr × Obj)} {σ : L2.St} {H : Hp} {s : Shared} (I : Inv X pins σ H s) : ∀ {ps : List Addr} {kvs : List (Key × V)}, Paired (fun p kv => SqT X.K H p [kV kv.1, kv.2]) ps kvs →
    ∃ (prs : List (Key × Value)) (uvs : List (Value × Value)), KV kvs prs ∧ prs.length = ps.length ∧ uvs.length = ps.length ∧ ∀ (j : Nat) (k v : Value), uvs[j]? = some (k, v) → ∃ (b : Addr) (q : Key), ps[j]? = some b ∧ prs[j]? = some (q, v) ∧ IsTup s.heap b #[k, v] ∧ keyIs q k = true
  | _, _, .nil => ⟨[], [], .nil, rfl, rfl, fun j k v e => by simp at e⟩
  | _, _, .cons (a := p) (b := kv) h t => by
    obtain ⟨prs, uvs, r, hl, hm, hp⟩ := pairs_N I t
    obtain ⟨its, rv, ht, _⟩ := I.tuple h
    obtain ⟨u, y, ei, ru, ry⟩ := vals2 rv
    subst ei
    refine ⟨(kv.1, y) :: prs, (u, y) :: uvs, .cons ⟨rfl, ry⟩ r, by simp [hl], by simp [hm], fun j k v e => ?_⟩
    cases j with
    | zero =>
      simp only [List.getElem?_cons_zero, Option.some.injEq, Prod.mk.injEq] at e
      obtain ⟨rfl, rfl⟩ := e
      exact ⟨p, kv.1, rfl, rfl, ht, kV_is (P := X.prog) (w := X.w) ru⟩
    | succ j =>
      obtain ⟨b, q, e1, e2, e3⟩ := hp j k v (by simpa using e)
      exact ⟨b, q, by simpa using e1, by simpa using e2, e3⟩
theorem call_dictPT (hcalm : X.calm = true) : CallR X (.type "dict") (rDictT X.K) := by
  rintro pins s σ H xs us Q I r ⟨a, ps, kvs, rfl, hq, hp, q⟩
  obtain ⟨u, rfl, rx⟩ := vals1 r
  cases rx
  obtain ⟨its, o, n, rv, hz, ho, hc, hd, hdat⟩ := tup_nodict I hq
  have ei := refs_at rv
  subst ei
  rw [List.length_map] at hz
  obtain ⟨prs, uvs, rel, hl, hm, hu⟩ := pairs_N I hp
  have P := PairArg.tuple (prog := X.prog) (w := X.w) a (ps.map Value.ref).toArray (fun j => (ps[j]?).getD 0) uvs
  refine PySem.call_dict_pairs (knd := mixKind X.prog X.w) (kvs := prs) P (I.ok.hd hcalm) ⟨⟨o, n, ho, hc, hd, hdat⟩, by simp [hm], fun j k v e => ?_⟩ ⟨by rw [hl, hm], fun j k v e => ?_⟩ (by rw [hm]; exact hz) fun g tk hg kp => ?_
  · obtain ⟨b, q', e1, _, e3, _⟩ := hu j k v e
    exact ⟨by simp [e1], .inl (by show Heap.IsTuple s.heap ((ps[j]?).getD 0) #[k, v]; rw [e1]; exact e3)⟩
  · obtain ⟨b, q', _, e2, _, e4⟩ := hu j k v e
    exact ⟨q', e2, e4⟩
  · have hne : (s.heap.objs.size == sysModules) = false := beq_eq_false_iff_ne.mpr (Nat.ne_of_gt I.big)
    have hlen : (mergeK [] kvs).length ≤ sizeLine := by
      have := length_mergeK kvs []
      rw [List.length_nil, Nat.zero_add, rel.length, hl] at this
      exact Nat.le_trans this hz
    exact ⟨.ref s.heap.objs.size, _, I.laid (t' := tk) (o := .dK (mergeK [] kvs)) (fun b ob e => kp b ob (by simp) e) (Nat.le_refl _) ⟨hlen, hne, _, KV.merge rel .nil, hg⟩, rfl, q _ (I.hok.fresh (Nat.le_refl _))⟩
def cDict : DCB := fun xs M P => match xs with
  | [.tup ds] => (match pairsK ds with | some kvs => ∀ p, M p = none → P (.ref p) (sett M p (.dK (mergeKD [] kvs))) | none => False)
  | _ => False
theorem cd_dict {K : Fr} : CallD K (rDictT K) cDict := by
  intro M H ds vs P Q s r w k
  unfold cDict at w
  split at w
  · split at w
    · rename_i es kvs e
      obtain ⟨v, rfl, rv⟩ := reps1 r
      obtain ⟨a, us, rfl, q, r2⟩ := rep_tup_inv rv
      obtain ⟨ps, uss, rfl, hp, h1, h2⟩ := pairsK_rep r2 e
      refine ⟨a, ps, uss, rfl, frz_le.tupN q, L2.Paired.mapP hp fun _ _ h => frz_le.tup h, fun p hp => ?_⟩
      obtain ⟨m1, m2⟩ := merge_rep (kvs := []) (us := []) h1 h2 rfl .nil
      exact k _ _ _ _ (w p (s.free hp)) (s.newM hp ⟨_, rfl, m1, m2⟩) (grow_newM hp) rep_ref
    · exact w.elim
  · exact w.elim
end
theorem putKD_new {kvs : List (Key × D)} {k : Key} {d : D} (h : k ∉ kvs.map (·.1)) : putKD kvs k d = kvs ++ [(k, d)] := by
  unfold putKD
  rw [if_neg]
  intro q
  rw [List.any_eq_true] at q
  obtain ⟨x, hx, e⟩ := q
  exact h (List.mem_map.mpr ⟨x, hx, of_decide_eq_true e⟩)
theorem merge_nd : ∀ (more kvs : List (Key × D)), ((kvs ++ more).map (·.1)).Nodup → mergeKD kvs more = kvs ++ more
  | [], kvs, _ => by simp [mergeKD]
  | (k, d) :: more, kvs, h => by
    show mergeKD (putKD kvs k d) more = kvs ++ (k, d) :: more
    have h' := h
    rw [List.map_append, List.map_cons, List.nodup_append] at h'
    have hk : k ∉ kvs.map (·.1) := fun z => h'.2.2 _ z _ (by simp) rfl
    rw [putKD_new hk, merge_nd more (kvs ++ [(k, d)]) (by simpa using h)]
    simp
/-! ### sorted of pairs of ints -/
abbrev prD (p : Int × Int) : D := .tup [.int p.1, .int p.2]
def lexLe (p q : Int × Int) : Prop := p.1 < q.1 ∨ (p.1 = q.1 ∧ p.2 ≤ q.2)
def rSortN (K : Fr) : List V → Hp → VK → Prop := fun vs H Q => ∃ (a : Addr) (xs : List V) (ps : List (Int × Int)), vs = [V.ref a] ∧ SqL K H a xs ∧ xs.length = ps.length ∧ (∀ z ∈ xs.zip ps, ∃ t, z.1 = V.ref t ∧ SqT K H t [.int z.2.1, .int z.2.2]) ∧
  ∀ (zs : List (V × (Int × Int))) (p : Addr), zs.Perm (xs.zip ps) → (zs.map (·.2)).Pairwise lexLe → H p = none → Q (.ref p) (upd H p (.lst (zs.map (·.1))))
section
variable {X : Cx}
theorem call_sortN : CallR X (.builtin "sorted") (rSortN X.K) := by
  rintro pins s σ H vs us Q I r ⟨a, xs, ps, rfl, hs, hlen, hx, q⟩
  obtain ⟨its, rv, hl, hz⟩ := I.list hs
  obtain ⟨u, rfl, ru⟩ := vals1 r
  obtain rfl : u = Value.ref a := ru
  classical
  let k : V → Int × Int := fun v => if h : ∃ (p : Int × Int) (t : Addr), v = V.ref t ∧ SqT X.K H t [.int p.1, .int p.2] then Classical.choose h else (0, 0)
  have hk : ∀ z ∈ xs.zip ps, k z.1 = z.2 := fun z m => by
    obtain ⟨t, e, ht⟩ := hx z m
    have h : ∃ (p : Int × Int) (t : Addr), z.1 = V.ref t ∧ SqT X.K H t [.int p.1, .int p.2] := ⟨z.2, t, e, ht⟩
    obtain ⟨t2, e2, h2⟩ := Classical.choose_spec h
    rw [e] at e2
    cases e2
    have := I.tuple_inj ht h2
    simp only [List.cons.injEq, V.int.injEq, and_true] at this
    show (if h : _ then Classical.choose h else (0, 0)) = z.2
    rw [dif_pos h]
    exact (Prod.ext this.1 this.2).symm
  have hzip : xs.zip ps = xs.map fun x => (x, k x) := by
    have e1 : (xs.zip ps).map (fun z => (z.1, k z.1)) = xs.zip ps := by
      rw [List.map_congr_left (g := id) fun z m => by rw [hk z m]; rfl, List.map_id]
    rw [← e1]
    have : (fun (z : V × (Int × Int)) => (z.1, k z.1)) = (fun x => (x, k x)) ∘ Prod.fst := rfl
    rw [this, ← List.map_map, List.map_fst_zip (by omega)]
  have mem2 : ∀ x ∈ xs, ∃ t, x = V.ref t ∧ SqT X.K H t [.int (k x).1, .int (k x).2] := fun x m => by
    have : (x, k x) ∈ xs.zip ps := by rw [hzip]; exact List.mem_map.mpr ⟨x, m, rfl⟩
    exact hx _ this
  obtain ⟨e1, e2⟩ := refs_back rv fun x m => by
    obtain ⟨t, e, _⟩ := mem2 x m
    exact ⟨t, e⟩
  refine SrtO.sorted_pairsO (k := fun u => k (backV u)) hl.isList (by rw [← rv.length]; exact hz) (fun v hv => ?_) fun g d out h1 h2 kp hd hn => ?_
  · obtain ⟨t, rfl⟩ := e2 v hv
    have hm : V.ref t ∈ xs := by rw [e1]; exact List.mem_map.mpr ⟨_, hv, rfl⟩
    obtain ⟨t', e, ht⟩ := mem2 _ hm
    cases e
    obtain ⟨jts, r2, ⟨o, ho, hc, n, hd⟩, _⟩ := I.tuple ht
    obtain ⟨u1, u2, rfl, ri, rj⟩ := vals2 r2
    obtain ⟨t1, rfl⟩ := ri
    obtain ⟨t2, rfl⟩ := rj
    exact ⟨t, o, t1, t2, n, rfl, ho, hc, hd⟩
  · have h3 : ∀ u ∈ out, ∃ a, u = Value.ref a := fun u hu => e2 u (h2.perm.mem_iff.mp hu)
    obtain ⟨n, hn⟩ := hn
    have hb : SrtO.Stb (ltP k) (out.map backV) xs := by
      rw [e1]
      exact SrtO.Stb.map (ltP_swo k) backV h2
    have h4 : SrtO.Srtd (ltP k) (out.map backV) := SrtO.srtd_map h1
    have hp : ((out.map backV).map fun x => (x, k x)).Perm (xs.zip ps) := by rw [hzip]; exact hb.perm.map _
    have hq := q ((out.map backV).map fun x => (x, k x)) d hp ?_ (I.hok.fresh hd)
    · have e3 : ((out.map backV).map fun x => (x, k x)).map (·.1) = out.map backV := by rw [List.map_map]; exact List.map_id _
      rw [e3] at hq
      exact ⟨.ref d, _, I.laid (t' := s.toks) (o := .lst (out.map backV)) kp hd ⟨by rw [hb.len]; exact hz, out, n, vals_back h3, hn⟩, rfl, hq⟩
    · rw [List.map_map, List.pairwise_map]
      refine List.Pairwise.imp ?_ h4
      intro x y h
      have := SrtO.lexB_no.mp h
      show (k x).1 < (k y).1 ∨ ((k x).1 = (k y).1 ∧ (k x).2 ≤ (k y).2)
      omega
end
def prs? : List D → Option (List (Int × Int))
  | [] => some []
  | .tup [.int i, .int j] :: r => (prs? r).map ((i, j) :: ·)
  | _ => none
theorem prs_map (ps : List (Int × Int)) : prs? (ps.map prD) = some ps := by
  induction ps with
  | nil => rfl
  | cons p ps ih => simp only [List.map_cons, prs?, ih, Option.map_some]
theorem prs_is : ∀ {ds : List D} {ps : List (Int × Int)}, prs? ds = some ps → ds = ps.map prD
  | [], ps, h => by cases h; rfl
  | d :: ds, ps, h => by
    unfold prs? at h
    split at h
    · cases ‹_ :: _ = []›
    · rename_i i j r0 eq
      cases eq
      cases e2 : prs? ds with
      | none => rw [e2] at h; cases h
      | some qs =>
        rw [e2] at h
        cases h
        rw [prs_is e2]
        rfl
    · cases h
def cSortP : DCB := fun xs M P => match xs with
  | [x] => (match seqL M x with | some ds => (match prs? ds with | some ps => ∀ qs : List (Int × Int), qs.Perm ps → qs.Pairwise lexLe → P (.lst (qs.map prD)) M | none => False) | none => False)
  | _ => False
theorem zip_rep {K : Fr} {F : Hp} : ∀ {ps : List (Int × Int)} {xs : List V}, Reps K F (ps.map prD) xs → ∀ z ∈ xs.zip ps, Rep K F (prD z.2) z.1
  | [], xs, _, z, h => by simp at h
  | p :: ps, xs, r, z, h => by
    simp only [List.map_cons] at r
    unfold Reps at r
    obtain ⟨v, vr, rfl, r1, r2⟩ := r
    rw [List.zip_cons_cons, List.mem_cons] at h
    rcases h with rfl | h
    · exact r1
    · exact zip_rep r2 z h
theorem reps_zip {K : Fr} {F : Hp} : ∀ {zs : List (V × (Int × Int))}, (∀ z ∈ zs, Rep K F (prD z.2) z.1) → Reps K F ((zs.map (·.2)).map prD) (zs.map (·.1))
  | [], _ => .nil
  | z :: zs, h => .cons (h z (by simp)) (reps_zip fun y hy => h y (by simp [hy]))
theorem cd_sortP {K : Fr} : CallD K (rSortN K) cSortP := by
  intro M H ds vs P Q s r w k
  unfold cSortP at w
  split at w
  · split at w
    · split at w
      · rename_i e1 _ ps e2
        obtain ⟨v, rfl, rv⟩ := reps1 r
        obtain ⟨a, us, rfl, q, r2⟩ := seqL_rep s rv e1
        have e3 := prs_is e2
        subst e3
        have hl : us.length = ps.length := by rw [← r2.length, List.length_map]
        refine ⟨a, us, ps, rfl, q, hl, fun z hz => ?_, fun zs p hp hs hn => ?_⟩
        · obtain ⟨t, ws, e, q2, rr⟩ := rep_tup_inv (zip_rep r2 z hz)
          obtain ⟨v1, v2, rfl, rv1, rv2⟩ := reps2 rr
          rw [rep_int_inv rv1, rep_int_inv rv2] at q2
          exact ⟨t, e, frz_le.tup q2.t⟩
        · have hq : (zs.map (·.2)).Perm ps := by
            have := hp.map (·.2)
            rwa [List.map_snd_zip (by omega)] at this
          exact new_lst s (reps_zip fun z hz => zip_rep r2 z (hp.mem_iff.mp hz)) (w _ hq hs) k hn
      · exact w.elim
    · exact w.elim
  · exact w.elim
end DL

namespace DL
open PySem PySem.Spec PyProof.Rows L2
/-! ### isinstance -/
def tyS (M : MH) : D → Option String
  | .non => some "NoneType"
  | .bl _ => some "bool"
  | .int _ => some "int"
  | .str _ => some "str"
  | .tup _ => some "tuple"
  | .pr _ => some "tuple"
  | .lst _ => some "list"
  | .dct _ _ => some "dict"
  | .ref a => (match M a with | some (.lst _) => some "list" | some (.dK _) => some "dict" | _ => none)
  | _ => none
def tyC (M : MH) : D → Option Addr
  | .ins C _ _ => some C
  | .ref a => (match M a with | some (.ins C _) => some C | _ => none)
  | _ => none
def tyN (M : MH) (d : D) : Option Value := match tyS M d with | some n => some (.type n) | none => (tyC M d).map .ref
structure OwnC (K : Fr) (C : Addr) : Prop where
  cl : Cls K C
  ha : PySem.W.findIn K (.ref C) "__class__" = some (some (.builtin "object.__class__"))
  hn : PySem.W.specialIn K (.builtin "object.__class__") "__get__" = some (some (.builtin "getset_descriptor.__get__"))
  htk : PySem.W.takesIn K (.builtin "object.__class__") = some true
  hm : PySem.W.mroIn K C (.type "object") = some true
theorem sqT_ty {K : Fr} {H : Hp} {a : Addr} {vs : List V} (q : SqT K H a vs) : TyX K H (.ref a) (.type "tuple") := by
  rcases q with (h | ⟨o, h⟩) | ⟨o, its, n, h1, h2, _⟩
  · exact .base (.tup h)
  · exact .fTuple h
  · exact .kTuple h1 h2
theorem sqL_ty {K : Fr} {H : Hp} {a : Addr} {vs : List V} (q : SqL K H a vs) : TyX K H (.ref a) (.type "list") := by
  rcases q with (h | ⟨o, h⟩) | ⟨o, its, n, h1, h2, _⟩
  · exact .base (.lst h)
  · exact .base (.frz h)
  · exact .kList h1 h2
theorem ty_rep {K : Fr} {M : MH} {H : Hp} {d : D} {v : V} {t : Value} (s : Sim K M H) (r : Rep K (frz M H) d v) (h : tyN M d = some t) (hc : ∀ C, t = .ref C → OwnC K C) : TyX K H v t := by
  unfold tyN at h
  cases d <;> simp only [tyS, tyC, Option.map_none, Option.map_some, Option.some.injEq] at h <;> try (subst h)
  · unfold Rep at r; subst r; exact .base .non
  · unfold Rep at r; subst r; exact .base (.bl _)
  · unfold Rep at r; subst r; exact .base (.int _)
  · unfold Rep at r; subst r; exact .base (.str _)
  · rename_i a
    rw [rep_ref_inv r]
    cases e : M a with
    | none => rw [e] at h; cases h
    | some m =>
      obtain ⟨ho, eh, rr⟩ := s _ _ e
      rw [e] at h
      cases m with
      | lst ds => simp only [Option.some.injEq] at h; subst h; obtain ⟨us, rfl, _⟩ := rr; exact .base (.lst eh)
      | dK kvs => simp only [Option.some.injEq] at h; subst h; obtain ⟨us, rfl, _⟩ := rr; exact .base (.dK eh)
      | ins C fs =>
        simp only [Option.map_some, Option.some.injEq] at h
        subst h
        obtain ⟨dx, us, rfl, _⟩ := rr
        have c := hc C rfl
        exact .base (.ins eh c.cl c.ha c.hn c.htk c.hm)
  · cases h
  · unfold Rep at r; obtain ⟨a, vs, rfl, q, _⟩ := r; exact sqT_ty (frz_le.tup q.t)
  · unfold Rep at r; obtain ⟨a, vs, rfl, q, _⟩ := r; exact sqL_ty (frz_le.lst q)
  · rename_i C ns ds
    unfold Rep at r
    obtain ⟨a, dx, fs, rfl, q, _⟩ := r
    have c := hc C rfl
    exact .base (.ins (frz_le _ _ q) c.cl c.ha c.hn c.htk c.hm)
  · unfold Rep at r; obtain ⟨a, kvs, rfl, q, _⟩ := r; exact .base (.dK (frz_le _ _ q))
  · unfold Rep at r; obtain ⟨a, vs, rfl, q, _⟩ := r; exact sqT_ty (frz_le.tup q)
def cIsi (K : Fr) : DCB := fun xs M P => match xs with
  | [x, .ty n] => ∃ t b, tyN M x = some t ∧ (∀ C, t = .ref C → OwnC K C) ∧ PySem.W.kitOne K t (.type n) = some b ∧ P (.bl b) M
  | [x, .ref c] => ∃ t b, tyN M x = some t ∧ (∀ C, t = .ref C → OwnC K C) ∧ PySem.W.kitOne K t (.ref c) = some b ∧ P (.bl b) M
  | _ => False
theorem rep_ty_inv {K : Fr} {F : Hp} {n : String} {v : V} (h : Rep K F (.ty n) v) : v = .ty n := by unfold Rep at h; exact h
theorem cd_isi {K : Fr} : CallD K (rIsi K) (cIsi K) := by
  intro M H ds vs P Q s r w k
  unfold cIsi at w
  split at w
  · obtain ⟨t, b, h1, h2, h3, w⟩ := w
    obtain ⟨v, v', rfl, rv, rv'⟩ := reps2 r
    rw [rep_ty_inv rv']
    exact ⟨v, _, t, _, b, rfl, .ty _, ty_rep s rv h1 h2, h3, k _ _ _ _ w s (.refl _ _) rep_bl⟩
  · obtain ⟨t, b, h1, h2, h3, w⟩ := w
    obtain ⟨v, v', rfl, rv, rv'⟩ := reps2 r
    rw [rep_ref_inv rv']
    exact ⟨v, _, t, _, b, rfl, .own _, ty_rep s rv h1 h2, h3, k _ _ _ _ w s (.refl _ _) rep_bl⟩
  · exact w.elim
def tyNames : List String := ["NoneType", "bool", "int", "str", "tuple", "list", "dict"]
def instB (a b : String) : Bool := decide (a = b) || (decide (a = "bool") && decide (b = "int"))
theorem kit_names : ∀ a ∈ tyNames, ∀ b ∈ tyNames, kitB a b = some (instB a b) := by decide +kernel
theorem tyS_mem {M : MH} {d : D} {n : String} (h : tyS M d = some n) : n ∈ tyNames := by
  cases d <;> simp only [tyS, Option.some.injEq] at h <;> try (subst h; decide)
  · split at h <;> cases h <;> decide
  all_goals cases h
theorem cIsi_b {K : Fr} {M : MH} {d : D} {a n : String} {P : D → MH → Prop} (h : tyS M d = some a) (w : P (.bl (instB a n)) M) (hn : n ∈ tyNames := by decide) : cIsi K [d, .ty n] M P := by
  refine ⟨.type a, instB a n, ?_, fun C e => (by cases e), kit_ty (kit_names a (tyS_mem h) n hn), w⟩
  unfold tyN
  rw [h]
/-! ### // -/
section
variable {X : Cx} {W : WX} {a b : Expr} {ta tb : DTE} {pos : Pos}
abbrev dFdiv := dOp (dI CDivW fun i j => .int (i / j))
theorem de_fdiv (ha : DE X W a ta) (hb : DE X W b tb) : DE X W (.BinOp a .FloorDiv b pos) (dFdiv ta tb) := de_op op_fdivW opd_I ha hb
end
/-! ### def f( *xs) -/
abbrev FnS (P : Program) (w : World) (K : Fr) (mg : Str → Option Value) (base : Heap) (k : Nat) (f : Addr) (sp : DSp) : Prop := FnR P w K mg base (L2.CX P w) k f (lSp K sp)
/-- the promise over the values as they are given -/
def starSp (sp : DSp) : DSp := fun ds M P E => ds.length ≤ sizeLine ∧ sp [.pr ds] M P E
section
variable {P : Program} {w : World} {K : Fr} {mg : Str → Option Value} {base : Heap}
theorem starD {x qual pv : Str} {st : Stmt} {f : Addr} {fd : FuncData} {N : List Str} {k : Nat} {sp : DSp} {t : DTS} (F : Fun K x qual st f fd) (S : FnScope N [pv] (defScope st))
    (hb : ∀ (kV doc pm : Value) (an : Option Addr) (cdv ct : Value) (rest : List Value), bindArgs (PySem.W.fnOf x qual (defArgs st) (defBody st) (defScope st) .none kV doc pm an cdv ct) ⟨rest, []⟩ = (newTuple rest >>= fun t => pure [(pv, t)]))
    (body : ∀ (cdv : Value) (A : Around) (outer : List Env) (s : Shared) (H : Hp) (E : XK) (W : WX), Room k (A.deeper (envOfC qual (defScope st) s.heap.objs.size f cdv)) →
      Takes (cxOf (L2.CX P w) P w K mg base N qual (defScope st) f cdv A outer s H E) W → DSs (cxOf (L2.CX P w) P w K mg base N qual (defScope st) f cdv A outer s H E) W (defBody st) t)
    (read : ∀ ds M Q E, sp [.pr ds] M Q E → t { nx := fun _ M' => retD Q .non M', rt := retD Q, ex := fun C f d _ M' => E C f d M' } (startD N [.pr ds]) M) : FnS P w K mg base (k + 1) f (starSp sp) := by
  obtain ⟨oc, od, kV, doc, pm, an, cdv, ct, osl, rfl, lk, hcd⟩ := F.ex
  refine (StX.fn_star (ps := []) (pv := pv) (N := N) (sp := fun vs H Q E => ∃ ds vs0 p M Pd EP, vs = [.ref p] ∧ Reps K (frz M H) ds vs0 ∧ SqT K (frz M H) p vs0 ∧ Sim K M H ∧ sp [.pr ds] M Pd EP ∧ rtK K M H Pd Q ∧ exKE K M H EP E) lk hcd S StX.cxUp (fun us rest hl => ?_) fun A outer s H vs Q E hr ⟨ds, vs0, p, M, Pd, EP, ev, r, q, sm, wsp, kk, ex⟩ => ?_).imp fun vs H Q E ⟨ds, M, Pd, EP, r, s, ⟨hl, wsp⟩, kk, ex⟩ => ⟨[], vs, rfl, rfl, by rw [← r.length]; exact hl, fun p hp => ?_⟩
  · have : us = [] := List.eq_nil_of_length_eq_zero hl
    subst this
    exact hb kV doc pm an cdv ct rest
  · subst ev
    have rr : Reps K (frz M H) [.pr ds] [V.ref p] := .cons (rep_pr q r) .nil
    refine ⟨_, body cdv A outer s H E (fun cls d _ H => E cls d H) hr (takes_of rfl rfl rfl rfl), startD N [.pr ds], M, { nx := fun _ M' => retD Pd .non M', rt := retD Pd, ex := fun C f d _ M' => EP C f d M' }, slots_start rr, sm, read ds M Pd EP wsp, ⟨fun ρ' M' σ' H' w' sl' s' g' => ?_, rt_frz kk, fun _ _ _ _ h => h.elim, fun _ _ _ _ h => h.elim, fun C f d ρ' M' σ' H' dd v e sl' s' g' hx rv => ex C f d M' H' dd v e s' g' hx rv⟩⟩
    exact rt_frz kk _ _ _ _ w' s' g' rep_non
  · have g := grow_new (M := M) (o := .tup vs) hp
    exact ⟨ds, vs, p, M, Pd, EP, rfl, r.mono g, .inl (.inl (frz_new (s.free hp))), s.new hp, wsp, kk.later g, fun C f d M' H' dd v e s' g' => ex C f d M' H' dd v e s' (g.trans g')⟩
end
section
variable {X : Cx} {W : WX} {k : Nat} {f : Addr} {sp : DSp} {x : Str} {p pos : Pos} {e : Expr} {es : List Expr} {t : DTA}
theorem run_fnRS {E : L2.St → XK} {spv : Sp} {pins : List (Addr × Obj)} {σ : L2.St} {H : Hp} {s : Shared} {Q : VK} {us : List Value} {vs : List V} (F : FnR X.prog X.w X.K X.mg X.base (L2.CX X.prog X.w) k f spv) (hr : Room k X.A) (hx : ∀ σ, PassesAt (L2.CX X.prog X.w) X σ (E σ)) (I : Inv X pins σ H s) (r : Vals vs us)
    (h : spv vs H Q (E σ)) : codeAny (model X.prog X.w) X.A (.call (.ref f) ⟨us, []⟩) (fun r s' => match r with | .ok (.ret v) => EP X pins σ Q v s' | .ok _ => False | .error e => X.xe e s') s :=
  codeAny_mono (F X.A X.stack s H us vs Q (E σ) hr I.env0 r h) fun r s' hq => by
    cases r with
    | error e => exact hx σ pins H s e s' I hq
    | ok fl =>
      cases fl with
      | ret u =>
        obtain ⟨v, H', I3, rv, q3⟩ := I.after hq
        exact ⟨v, H', I3, rv, q3⟩
      | next => exact False.elim hq
      | brk => exact False.elim hq
      | cont => exact False.elim hq
theorem pe_callRS {E : L2.St → XK} {spv : Sp} {tv : TA} (F : FnR X.prog X.w X.K X.mg X.base (L2.CX X.prog X.w) k f spv) (hr : Room k X.A) (hg : Gl X x) (hm : X.mg x = some (.ref f)) (hk : PySem.W.keepIn X.K (.ref f) = true) (hx : ∀ σ, PassesAt (L2.CX X.prog X.w) X σ (E σ))
    (ha : PA X (e :: es) tv) (hdb : (x == ("__debug__" : Str)) = false := by decide) (he : starEach (e :: es) X.env = (false, eval e X.env) :: starEach es X.env := by rfl) (hpl : (backTo pos (starEach es X.env)).any (·.1) = false := by rfl) :
    PE X (.Call (.Name x p) (e :: es) [] pos) (tCallS spv E tv) := by
  refine ⟨fun pins s σ H Q I h => wpAny_Call_Name_kw (ld_glob I hg hm ?_ hdb)⟩
  exact PySem.W.callWith_K (h₀ := X.base) I.ok.mod.kin hk (thn (ha.run pos pins s σ H _ I h) fun us s1 ⟨vs, H1, I1, r, q⟩ => ⟨I1.kIn, wpAny_call (run_fnRS F hr hx I1 r q)⟩) he hpl
/-- f(e, ..), f a def with a star parameter -/
theorem de_callS (F : FnS X.prog X.w X.K X.mg X.base k f sp) (hr : Room k X.A) (hg : Gl X x) (hm : X.mg x = some (.ref f)) (hk : PySem.W.keepIn X.K (.ref f) = true) (tk : Takes X W)
    (ha : DA X W (e :: es) t) (hdb : (x == ("__debug__" : Str)) = false := by decide) (he : starEach (e :: es) X.env = (false, eval e X.env) :: starEach es X.env := by rfl) (hpl : (backTo pos (starEach es X.env)).any (·.1) = false := by rfl) :
    DE X W (.Call (.Name x p) (e :: es) [] pos) (dCall sp t) := de_of (pe_callRS F hr hg hm hk (fun σ => passAt tk σ) ha hdb he hpl) fun σ H Q ρ M P E sl s w k ex => call_to sl s w k ex
end
end DL

namespace DL
open PySem PySem.Spec PyProof.Rows L2
theorem bt_len : bootBuiltins "len" = some (.builtin "len") := by decide +kernel
theorem bt_sum : bootBuiltins "sum" = some (.builtin "sum") := by decide +kernel
theorem bt_min : bootBuiltins "min" = some (.builtin "min") := by decide +kernel
theorem bt_max : bootBuiltins "max" = some (.builtin "max") := by decide +kernel
theorem bt_sorted : bootBuiltins "sorted" = some (.builtin "sorted") := by decide +kernel
theorem bt_any : bootBuiltins "any" = some (.builtin "any") := by decide +kernel
theorem bt_isinstance : bootBuiltins "isinstance" = some (.builtin "isinstance") := by decide +kernel
theorem bt_abs : bootBuiltins "abs" = some (.builtin "abs") := by decide +kernel
theorem bt_all : bootBuiltins "all" = some (.builtin "all") := by decide +kernel
theorem bt_repr : bootBuiltins "repr" = some (.builtin "repr") := by decide +kernel
theorem bt_int : bootBuiltins "int" = some (.type "int") := by decide +kernel
theorem bt_bool : bootBuiltins "bool" = some (.type "bool") := by decide +kernel
theorem bt_tuple : bootBuiltins "tuple" = some (.type "tuple") := by decide +kernel
theorem bt_dict : bootBuiltins "dict" = some (.type "dict") := by decide +kernel
theorem bt_list : bootBuiltins "list" = some (.type "list") := by decide +kernel
theorem bt_str : bootBuiltins "str" = some (.type "str") := by decide +kernel
theorem bt_set : bootBuiltins "set" = some (.type "set") := by decide +kernel
section
variable {X : Cx} {W : WX} {a b c e iter tg elt : Expr} {ifs : List Expr} {scope : Scope} {pos : Pos} {ti : DTI} {g : Tgt} {tt : DTT} {te : DTE}
/-- x, y, z = a, b, c -/
theorem ds_par3 {t : DTA} {i j l : Nat} {x y z : Str} {px py pz pt : Pos} {kt k2 pt2} (hc : X.calm = true) (hN : X.N.Nodup) (hi : X.N[i]? = some x) (hj : X.N[j]? = some y) (hl : X.N[l]? = some z) (hij : i ≠ j) (hil : i ≠ l) (hjl : j ≠ l)
    (hx : X.env.scope.names.lookup x = some .local) (hy : X.env.scope.names.lookup y = some .local) (hz : X.env.scope.names.lookup z = some .local) (ha : DA X W [a, b, c] t)
    (hw : swappedStores [.Tuple [.Name x px, .Name y py, .Name z pz] kt pt] (.Tuple [a, b, c] k2 pt2) X.env = pure (some [x, y, z]))
    (hs : swapsWithSole [.Tuple [.Name x px, .Name y py, .Name z pz] kt pt] (.Tuple [a, b, c] k2 pt2) pos.line X.env = pure false := by rfl) :
    DS X W (.Assign [.Tuple [.Name x px, .Name y py, .Name z pz] kt pt] (.Tuple [a, b, c] k2 pt2) pos) (dPar3 i j l t) := ds_of (ps_par3 hc hN hi hj hl hij hil hjl hx hy hz ha hw hs) fun DD σ H N ρ M sl s w k =>
  lA_intro sl s w (fun xs M1 vs H1 w1 s1 g1 r1 => by
    split at w1
    · obtain ⟨v, v', v'', rfl, rv, rv', rv''⟩ := reps3 r1
      exact ⟨v, v', v'', rfl, k.nx _ _ _ _ w1 ((((sl.mono g1).set i rv).set j rv').set l rv'') s1 g1⟩
    · exact w1.elim) (k.exE sl)
/-- a list is let lie from here on -/
def dFrz (i : Nat) (t : DTS) : DTS := fun N ρ M => ∃ a ds, ρ[i]? = some (some (.ref a)) ∧ M a = some (.lst ds) ∧ t N (ρ.set i (some (.lst ds))) (dell M a)
theorem ds_frz {i : Nat} {st : Stmt} {t : DTS} (h : DS X W st t) : DS X W st (dFrz i t) := ds_of h fun DD σ H N ρ M sl s ⟨a, ds, e, eM, w⟩ k => by
  obtain ⟨ho, eh, us, rfl, ru⟩ := s _ _ eM
  obtain ⟨v, ev, rv⟩ := sl.at_ i _ e
  rw [rep_ref_inv rv] at ev
  have g := grow_sub (M := M) (M' := dell M a) (H := H) Sub.dell
  have r : Rep X.K (frz (dell M a) H) (.lst ds) (.ref a) := rep_lst (.inl (.inl (frz_of dell_same eh))) (ru.mono g)
  have sl2 := (sl.mono g).set i r
  have e2 : σ.set i (some (V.ref a)) = σ := by
    apply List.ext_getElem?
    intro j
    by_cases q : i = j
    · subst q
      rw [List.getElem?_set_self (List.getElem?_eq_some_iff.mp ev).1, ev]
    · rw [List.getElem?_set_ne q]
  rw [e2] at sl2
  exact lS_intro sl2 (s.sub Sub.dell) w (k.later g)
/-- comprehensions, in short -/
theorem de_lcA {own : List (Str × Nat)} (hc : X.calm = true) (hN : X.N.Nodup) (ok : BlkOk X.N X.env.scope scope own) (hok : g.ok (own.map (·.2)) = true) (hi : DI X W tg iter ti)
    (hg : ∀ (s : Shared) (H : Hp) (C : Addr) (cl : List (Str × Addr)) (fp : List Addr), PG (X.blk s H scope (compEnvC scope cl C X.env) fp) tg (g.vt X.K))
    (ht : ∀ (s : Shared) (H : Hp) (C : Addr) (cl : List (Str × Addr)) (fp : List Addr), PTs (X.blk s H scope (compEnvC scope cl C X.env) fp) ifs (lT X.K W0 tt))
    (he : ∀ (s : Shared) (H : Hp) (C : Addr) (cl : List (Str × Addr)) (fp : List Addr), PE (X.blk s H scope (compEnvC scope cl C X.env) fp) elt (lE X.K W0 te)) (hs : ∀ x, foldedSetIterable iter X.env x = pure x := by intro _; rfl) :
    DE X W (.ListComp elt [⟨tg, iter, ifs, 0⟩] scope pos) (dLc ti g tt te (own.map (·.2))) := de_lc hok hi (pe_lc hc hN hi ok hg ht he hs)
theorem de_lcAM {own : List (Str × Nat)} (hc : X.calm = true) (hN : X.N.Nodup) (ok : BlkOk X.N X.env.scope scope own) (hok : g.ok (own.map (·.2)) = true) (hi : DI X W tg iter ti)
    (hg : ∀ (s : Shared) (H : Hp) (C : Addr) (cl : List (Str × Addr)) (fp : List Addr), PG (X.blk s H scope (compEnvC scope cl C X.env) fp) tg (g.vt X.K))
    (ht : ∀ (s : Shared) (H : Hp) (C : Addr) (cl : List (Str × Addr)) (fp : List Addr), PTs (X.blk s H scope (compEnvC scope cl C X.env) fp) ifs (lT X.K W0 tt))
    (he : ∀ (s : Shared) (H : Hp) (C : Addr) (cl : List (Str × Addr)) (fp : List Addr), PE (X.blk s H scope (compEnvC scope cl C X.env) fp) elt (lE X.K W0 te)) (hs : ∀ x, foldedSetIterable iter X.env x = pure x := by intro _; rfl) :
    DE X W (.ListComp elt [⟨tg, iter, ifs, 0⟩] scope pos) (dLcM ti g tt te (own.map (·.2))) := de_lcM hok hi (pe_lc hc hN hi ok hg ht he hs)
theorem de_lcI {own : List (Str × Nat)} {i : Nat} {x : Str} {p apos cpos tpos : Pos} {elts : List Expr} {kk : Nat} (hc : X.calm = true) (hN : X.N.Nodup) (ok : BlkOk X.N X.env.scope scope own) (hok : g.ok (own.map (·.2)) = true) (hx : X.N[i]? = some x)
    (hg : ∀ (s : Shared) (H : Hp) (C : Addr) (cl : List (Str × Addr)) (fp : List Addr), PG (X.blk s H scope (compEnvC scope cl C X.env) fp) (.Tuple elts kk tpos) (g.vt X.K))
    (ht : ∀ (s : Shared) (H : Hp) (C : Addr) (cl : List (Str × Addr)) (fp : List Addr), PTs (X.blk s H scope (compEnvC scope cl C X.env) fp) ifs (lT X.K W0 tt))
    (he : ∀ (s : Shared) (H : Hp) (C : Addr) (cl : List (Str × Addr)) (fp : List Addr), PE (X.blk s H scope (compEnvC scope cl C X.env) fp) elt (lE X.K W0 te))
    (hv : Vis X.env.scope x := by first | exact Or.inl rfl | exact Or.inr (Or.inl rfl) | exact Or.inr (Or.inr rfl)) (hd : (x == ("__debug__" : Str)) = false := by decide) (hcd : (x == ("__classdict__" : Str)) = false := by decide)
    (hbase : attributeBase (.Name x p) "items" X.env (eval (.Name x p) X.env) = eval (.Name x p) X.env := by rfl) (hline : (apos.endLine == cpos.line) = true := by rfl)
    (hs : ∀ x', foldedSetIterable (.Call (.Attribute (.Name x p) "items" apos) [] [] cpos) X.env x' = pure x' := by intro _; rfl) :
    DE X W (.ListComp elt [⟨.Tuple elts kk tpos, .Call (.Attribute (.Name x p) "items" apos) [] [] cpos, ifs, 0⟩] scope pos) (dLcItems i g tt te (own.map (·.2))) := de_lcItems hok (pe_lc hc hN (pi_items (pe_var hx hv hd hcd) hbase hline) ok hg ht he hs)
theorem de_lcV {own : List (Str × Nat)} {i : Nat} {x : Str} {p apos cpos : Pos} (hc : X.calm = true) (hN : X.N.Nodup) (ok : BlkOk X.N X.env.scope scope own) (hok : g.ok (own.map (·.2)) = true) (hx : X.N[i]? = some x)
    (hg : ∀ (s : Shared) (H : Hp) (C : Addr) (cl : List (Str × Addr)) (fp : List Addr), PG (X.blk s H scope (compEnvC scope cl C X.env) fp) tg (g.vt X.K))
    (ht : ∀ (s : Shared) (H : Hp) (C : Addr) (cl : List (Str × Addr)) (fp : List Addr), PTs (X.blk s H scope (compEnvC scope cl C X.env) fp) ifs (lT X.K W0 tt))
    (he : ∀ (s : Shared) (H : Hp) (C : Addr) (cl : List (Str × Addr)) (fp : List Addr), PE (X.blk s H scope (compEnvC scope cl C X.env) fp) elt (lE X.K W0 te))
    (hv : Vis X.env.scope x := by first | exact Or.inl rfl | exact Or.inr (Or.inl rfl) | exact Or.inr (Or.inr rfl)) (hd : (x == ("__debug__" : Str)) = false := by decide) (hcd : (x == ("__classdict__" : Str)) = false := by decide)
    (hbase : attributeBase (.Name x p) "values" X.env (eval (.Name x p) X.env) = eval (.Name x p) X.env := by rfl) (hline : (apos.endLine == cpos.line) = true := by rfl)
    (hs : ∀ x', foldedSetIterable (.Call (.Attribute (.Name x p) "values" apos) [] [] cpos) X.env x' = pure x' := by intro _; rfl) :
    DE X W (.ListComp elt [⟨tg, .Call (.Attribute (.Name x p) "values" apos) [] [] cpos, ifs, 0⟩] scope pos) (dLcVals i g tt te (own.map (·.2))) := de_lcVals hok (pe_lc hc hN (pi_values (pe_var hx hv hd hcd) hbase hline) ok hg ht he hs)
/-- y = [..] -/
theorem ds_setLcA {own : List (Str × Nat)} {i : Nat} {y : Str} {py spos : Pos} (hc : X.calm = true) (hN : X.N.Nodup) (hy : X.N[i]? = some y) (hyl : X.env.scope.names.lookup y = some .local) (hsw : swapsWith (.ListComp elt [⟨tg, iter, ifs, 0⟩] scope pos) (some (.Name y py)) spos.line X.env = pure true)
    (ok : BlkOk X.N X.env.scope scope own) (hok : g.ok (own.map (·.2)) = true) (hi : DI X W tg iter ti)
    (hg : ∀ (s : Shared) (H : Hp) (C : Addr) (cl : List (Str × Addr)) (fp : List Addr), PG (X.blk s H scope (compEnvC scope cl C X.env) fp) tg (g.vt X.K))
    (ht : ∀ (s : Shared) (H : Hp) (C : Addr) (cl : List (Str × Addr)) (fp : List Addr), PTs (X.blk s H scope (compEnvC scope cl C X.env) fp) ifs (lT X.K W0 tt))
    (he : ∀ (s : Shared) (H : Hp) (C : Addr) (cl : List (Str × Addr)) (fp : List Addr), PE (X.blk s H scope (compEnvC scope cl C X.env) fp) elt (lE X.K W0 te)) (hs : ∀ x, foldedSetIterable iter X.env x = pure x := by intro _; rfl) :
    DS X W (.Assign [.Name y py] (.ListComp elt [⟨tg, iter, ifs, 0⟩] scope pos) spos) (dSet i (dLc ti g tt te (own.map (·.2)))) := ds_setLc (elt := elt) (tg := tg) (iter := iter) (ifs := ifs) (scope := scope) (pos := pos) hok (ps_setLc hc hN hy hyl hsw hi ok hg ht he hs)
end
end DL

/-! bags in plain Lean -/
namespace G
open DL
abbrev B := List (Int × Int)
/-- a linear sum over a bag -/
def lin (f : Int → Int) (b : B) : Int := (b.map fun p => f p.1 * p.2).sum
def cnt (b : B) (n : Int) : Int := lin (fun k => if k = n then 1 else 0) b
def lv (b : B) (n : Int) : Int := lin (fun k => if k ≤ n then 1 else 0) b
def tot (b : B) : Int := lin (fun _ => 1) b
structure Wf (b : B) : Prop where
  srt : b.Pairwise fun p q => p.1 < q.1
  pos : ∀ p ∈ b, 1 ≤ p.2
theorem Wf.nil : Wf [] := ⟨.nil, by simp⟩
theorem Wf.tail {p : Int × Int} {b : B} (h : Wf (p :: b)) : Wf b := ⟨(List.pairwise_cons.mp h.srt).2, fun q hq => h.pos q (List.mem_cons_of_mem _ hq)⟩
theorem Wf.head {p : Int × Int} {b : B} (h : Wf (p :: b)) : ∀ q ∈ b, p.1 < q.1 := (List.pairwise_cons.mp h.srt).1
theorem Wf.nodup {b : B} (h : Wf b) : (b.map (·.1)).Nodup := by
  rw [List.nodup_iff_pairwise_ne, List.pairwise_map]
  exact h.srt.imp fun hlt he => by omega
theorem lin_nil (f : Int → Int) : lin f [] = 0 := rfl
theorem lin_cons (f : Int → Int) (p : Int × Int) (b : B) : lin f (p :: b) = f p.1 * p.2 + lin f b := by simp [lin]
theorem lin_append (f : Int → Int) (a b : B) : lin f (a ++ b) = lin f a + lin f b := by simp [lin]
theorem lin_perm (f : Int → Int) {a b : B} (h : a.Perm b) : lin f a = lin f b := by
  induction h with
  | nil => rfl
  | cons x _ ih => rw [lin_cons, lin_cons, ih]
  | swap x y l => simp only [lin_cons]; omega
  | trans _ _ ih1 ih2 => exact ih1.trans ih2
theorem cnt_nil (n : Int) : cnt [] n = 0 := rfl
theorem cnt_cons (p : Int × Int) (b : B) (n : Int) : cnt (p :: b) n = (if p.1 = n then p.2 else 0) + cnt b n := by
  unfold cnt; rw [lin_cons]; split <;> simp
theorem lv_nil (n : Int) : lv [] n = 0 := rfl
theorem lv_cons (p : Int × Int) (b : B) (n : Int) : lv (p :: b) n = (if p.1 ≤ n then p.2 else 0) + lv b n := by
  unfold lv; rw [lin_cons]; split <;> simp
theorem tot_nil : tot [] = 0 := rfl
theorem tot_cons (p : Int × Int) (b : B) : tot (p :: b) = p.2 + tot b := by
  unfold tot; rw [lin_cons]; simp
theorem cnt_out {b : B} {n : Int} (h : ∀ p ∈ b, p.1 ≠ n) : cnt b n = 0 := by
  induction b with
  | nil => rfl
  | cons p b ih =>
    rw [cnt_cons, if_neg (h p (by simp)), ih fun q hq => h q (by simp [hq])]
    rfl
theorem lv_low {b : B} {n : Int} (h : ∀ p ∈ b, n < p.1) : lv b n = 0 := by
  induction b with
  | nil => rfl
  | cons p b ih =>
    rw [lv_cons, if_neg (by have := h p (by simp); omega), ih fun q hq => h q (by simp [hq])]
    rfl
theorem lv_high {b : B} {n : Int} (h : ∀ p ∈ b, p.1 ≤ n) : lv b n = tot b := by
  induction b with
  | nil => rfl
  | cons p b ih => rw [lv_cons, tot_cons, if_pos (h p (by simp)), ih fun q hq => h q (by simp [hq])]
theorem lv_step (b : B) (n : Int) : lv b n = lv b (n - 1) + cnt b n := by
  induction b with
  | nil => rfl
  | cons p b ih =>
    rw [lv_cons, lv_cons, cnt_cons, ih]
    split <;> split <;> split <;> omega
theorem lv_nn {b : B} (h : ∀ p ∈ b, 0 ≤ p.2) (n : Int) : 0 ≤ lv b n := by
  induction b with
  | nil => exact Int.le_refl _
  | cons p b ih =>
    have := ih fun q hq => h q (by simp [hq])
    have := h p (by simp)
    rw [lv_cons]
    split <;> omega
theorem lv_tot {b : B} (h : ∀ p ∈ b, 0 ≤ p.2) (n : Int) : lv b n ≤ tot b := by
  induction b with
  | nil => exact Int.le_refl _
  | cons p b ih =>
    have := ih fun q hq => h q (by simp [hq])
    have := h p (by simp)
    rw [lv_cons, tot_cons]
    split <;> omega
theorem cnt_nn {b : B} (h : ∀ p ∈ b, 0 ≤ p.2) (n : Int) : 0 ≤ cnt b n := by
  induction b with
  | nil => exact Int.le_refl _
  | cons p b ih =>
    have := ih fun q hq => h q (by simp [hq])
    have := h p (by simp)
    rw [cnt_cons]
    split <;> omega
theorem Wf.nn {b : B} (h : Wf b) : ∀ p ∈ b, 0 ≤ p.2 := fun p hp => by have := h.pos p hp; omega
theorem tot_nn {b : B} (h : ∀ p ∈ b, 0 ≤ p.2) : 0 ≤ tot b := by
  induction b with
  | nil => exact Int.le_refl _
  | cons p b ih =>
    have := ih fun q hq => h q (by simp [hq])
    have := h p (by simp)
    rw [tot_cons]
    omega
theorem cnt_head {p : Int × Int} {b : B} (h : Wf (p :: b)) : cnt (p :: b) p.1 = p.2 := by
  rw [cnt_cons, if_pos rfl, cnt_out fun q hq => by have := h.head q hq; omega]
  omega
/-- a bag is known by its counts -/
theorem ext_cnt : ∀ {a b : B}, Wf a → Wf b → (∀ n, cnt a n = cnt b n) → a = b
  | [], [], _, _, _ => rfl
  | [], q :: b, _, hb, h => by
    have h1 := h q.1
    have h2 := hb.pos q (by simp)
    rw [cnt_head hb, cnt_nil] at h1
    omega
  | p :: a, [], ha, _, h => by
    have h1 := h p.1
    have h2 := ha.pos p (by simp)
    rw [cnt_head ha, cnt_nil] at h1
    omega
  | p :: a, q :: b, ha, hb, h => by
    have hp := ha.pos p (by simp)
    have hq := hb.pos q (by simp)
    have e1 : p.1 = q.1 := by
      rcases Int.lt_trichotomy p.1 q.1 with hl | he | hl
      · have h1 := h p.1
        rw [cnt_head ha, cnt_out (b := q :: b) fun x hx => by
          rcases List.mem_cons.mp hx with rfl | hx
          · omega
          · have := hb.head x hx; omega] at h1
        omega
      · exact he
      · have h1 := h q.1
        rw [cnt_head hb, cnt_out (b := p :: a) fun x hx => by
          rcases List.mem_cons.mp hx with rfl | hx
          · omega
          · have := ha.head x hx; omega] at h1
        omega
    have e2 : p.2 = q.2 := by
      have h1 := h p.1
      rw [cnt_head ha, e1, cnt_head hb] at h1
      exact h1
    have e3 : p = q := Prod.ext e1 e2
    subst e3
    rw [ext_cnt ha.tail hb.tail fun n => by
      have := h n
      rw [cnt_cons, cnt_cons] at this
      omega]
theorem ext_lv {a b : B} (ha : Wf a) (hb : Wf b) (h : ∀ n, lv a n = lv b n) : a = b :=
  ext_cnt ha hb fun n => by
    have h1 := lv_step a n
    have h2 := lv_step b n
    have h3 := h n
    have h4 := h (n - 1)
    omega
/-- each once -/
def once : List Int → List Int
  | [] => []
  | k :: S => if k ∈ once S then once S else k :: once S
theorem once_nodup : ∀ S : List Int, (once S).Nodup
  | [] => by simp [once]
  | k :: S => by
    unfold once
    split
    · exact once_nodup S
    · rename_i h
      exact List.nodup_cons.mpr ⟨h, once_nodup S⟩
theorem once_mem : ∀ {S : List Int} {x : Int}, x ∈ S → x ∈ once S
  | k :: S, x, h => by
    unfold once
    rcases List.mem_cons.mp h with rfl | h
    · split
      · assumption
      · simp
    · split
      · exact once_mem h
      · exact List.mem_cons_of_mem _ (once_mem h)
/-- linear sums hang on the counts alone -/
theorem lin_sup (f : Int → Int) : ∀ (b : B) (S : List Int), S.Nodup → (∀ p ∈ b, p.1 ∈ S) → lin f b = (S.map fun k => f k * cnt b k).sum
  | [], S, _, _ => by
    rw [lin_nil]
    have z : ∀ T : List Int, (T.map fun k => f k * cnt [] k).sum = 0 := fun T => by
      induction T with
      | nil => rfl
      | cons k T ih => rw [List.map_cons, List.sum_cons, ih, cnt_nil, Int.mul_zero]; rfl
    rw [z]
  | p :: b, S, hS, h => by
    rw [lin_cons, lin_sup f b S hS fun q hq => h q (by simp [hq])]
    have key : ∀ T : List Int, T.Nodup → (T.map fun k => f k * cnt (p :: b) k).sum = (if p.1 ∈ T then f p.1 * p.2 else 0) + (T.map fun k => f k * cnt b k).sum := by
      intro T
      induction T with
      | nil => intro _; simp
      | cons k T ih =>
        intro hT
        rw [List.nodup_cons] at hT
        rw [List.map_cons, List.map_cons, List.sum_cons, List.sum_cons, ih hT.2, cnt_cons]
        by_cases e : p.1 = k
        · subst e
          rw [if_pos rfl, if_neg hT.1, if_pos (by simp), Int.mul_add]
          omega
        · rw [if_neg e, Int.zero_add]
          by_cases e2 : p.1 ∈ T
          · rw [if_pos e2, if_pos (by simp [e2])]
            omega
          · rw [if_neg e2, if_neg (by simp [e, e2])]
            omega
    rw [key S hS, if_pos (h p (by simp))]
theorem lin_of_cnt {a b r : B} {s : Int} (h : ∀ n, cnt r n = cnt a n + s * cnt b n) (f : Int → Int) : lin f r = lin f a + s * lin f b := by
  have hS := once_nodup ((a ++ b ++ r).map (·.1))
  have hin : ∀ p, p ∈ a ++ b ++ r → p.1 ∈ once ((a ++ b ++ r).map (·.1)) := fun p hp => once_mem (List.mem_map.mpr ⟨p, hp, rfl⟩)
  rw [lin_sup f a _ hS fun p hp => hin p (by simp [hp]), lin_sup f b _ hS fun p hp => hin p (by simp [hp]), lin_sup f r _ hS fun p hp => hin p (by simp [hp])]
  clear hS hin
  generalize once ((a ++ b ++ r).map (·.1)) = S
  induction S with
  | nil => simp
  | cons k S ih =>
    simp only [List.map_cons, List.sum_cons]
    rw [h k]
    have e : (S.map fun k => f k * cnt r k) = S.map fun k => f k * (cnt a k + s * cnt b k) := List.map_congr_left fun k _ => by rw [h k]
    have : (S.map fun k => f k * cnt r k).sum = (S.map fun k => f k * cnt a k).sum + s * (S.map fun k => f k * cnt b k).sum := by
      clear ih e
      induction S with
      | nil => simp
      | cons j S ih =>
        simp only [List.map_cons, List.sum_cons]
        rw [ih, h j, Int.mul_add, Int.mul_add, ← Int.mul_assoc, ← Int.mul_assoc, Int.mul_comm (f j) s]
        omega
    rw [this, Int.mul_add, Int.mul_add, ← Int.mul_assoc, ← Int.mul_assoc, Int.mul_comm (f k) s]
    omega
theorem lv_add {a b r : B} (h : ∀ n, cnt r n = cnt a n + cnt b n) (n : Int) : lv r n = lv a n + lv b n := by
  have := lin_of_cnt (s := 1) (r := r) (a := a) (b := b) (fun n => by rw [h n]; omega) (fun k => if k ≤ n then 1 else 0)
  unfold lv; omega
theorem tot_sub {a b r : B} (h : ∀ n, cnt r n = cnt a n - cnt b n) : tot r = tot a - tot b := by
  have := lin_of_cnt (s := -1) (r := r) (a := a) (b := b) (fun n => by rw [h n]; omega) (fun k => 1)
  unfold tot; omega
/-- dicts of counts -/
def getB (c : B) (n : Int) : Option Int := (c.find? fun p => decide (p.1 = n)).map (·.2)
def putB (c : B) (n v : Int) : B := if (c.any fun p => decide (p.1 = n)) = true then c.map (fun p => if p.1 = n then (p.1, v) else p) else c ++ [(n, v)]
theorem getB_cnt : ∀ {c : B} {n : Int}, (c.map (·.1)).Nodup → (getB c n).getD 0 = cnt c n
  | [], n, _ => rfl
  | p :: c, n, h => by
    rw [List.map_cons, List.nodup_cons] at h
    rw [cnt_cons]
    by_cases e : p.1 = n
    · subst e
      simp only [getB, List.find?_cons, decide_true, Option.map_some, Option.getD_some, if_pos]
      rw [cnt_out fun q hq he => h.1 (List.mem_map.mpr ⟨q, hq, he⟩)]
      omega
    · rw [if_neg e, ← getB_cnt h.2]
      simp [getB, List.find?_cons, e]
theorem putB_keys (c : B) (n v : Int) : (putB c n v).map (·.1) = if n ∈ c.map (·.1) then c.map (·.1) else c.map (·.1) ++ [n] := by
  unfold putB
  have e : (c.any fun p => decide (p.1 = n)) = decide (n ∈ c.map (·.1)) := by
    rw [Bool.eq_iff_iff, List.any_eq_true, decide_eq_true_eq, List.mem_map]
    constructor
    · rintro ⟨p, hp, h⟩; exact ⟨p, hp, of_decide_eq_true h⟩
    · rintro ⟨p, hp, h⟩; exact ⟨p, hp, decide_eq_true h⟩
  rw [e]
  by_cases h : n ∈ c.map (·.1)
  · rw [decide_eq_true h, if_pos rfl, if_pos h, List.map_map]
    apply List.map_congr_left
    intro p _
    simp only [Function.comp]
    split <;> rfl
  · rw [decide_eq_false h, if_neg (by decide), if_neg h, List.map_append]
    rfl
theorem putB_nodup {c : B} (h : (c.map (·.1)).Nodup) (n v : Int) : ((putB c n v).map (·.1)).Nodup := by
  rw [putB_keys]
  split
  · exact h
  · rename_i q
    rw [List.nodup_append]
    refine ⟨h, by simp, fun x hx y hy e => ?_⟩
    simp only [List.mem_singleton] at hy
    subst hy e
    exact q hx
theorem putB_len (c : B) (n v : Int) : (putB c n v).length ≤ c.length + 1 := by
  unfold putB
  split <;> simp
theorem cnt_append (a b : B) (n : Int) : cnt (a ++ b) n = cnt a n + cnt b n := lin_append _ a b
theorem putB_cnt : ∀ {c : B} (n v : Int), (c.map (·.1)).Nodup → ∀ m, cnt (putB c n v) m = if m = n then v else cnt c m := by
  intro c n v h m
  unfold putB
  by_cases q : (c.any fun p => decide (p.1 = n)) = true
  · rw [if_pos q]
    obtain ⟨p0, hp0, e0⟩ := List.any_eq_true.mp q
    have e0 := of_decide_eq_true e0
    clear q
    induction c with
    | nil => simp at hp0
    | cons p c ih =>
      rw [List.map_cons, List.nodup_cons] at h
      rw [List.map_cons, cnt_cons, cnt_cons]
      by_cases e : p.1 = n
      · have out : ∀ x ∈ c, x.1 ≠ n := fun x hx he => h.1 (List.mem_map.mpr ⟨x, hx, he.trans e.symm⟩)
        have same : (c.map fun p => if p.1 = n then (p.1, v) else p) = c := by
          conv => rhs; rw [← List.map_id c]
          exact List.map_congr_left fun x hx => by rw [if_neg (out x hx)]; rfl
        rw [same, if_pos e]
        by_cases em : m = n
        · subst em
          rw [if_pos e, if_pos rfl, cnt_out out]
          omega
        · rw [if_neg em, if_neg (fun z => em (z.symm.trans e)), if_neg (fun z => em (z.symm.trans e))]
      · rw [if_neg e]
        have hp : p0 ∈ c := by
          rcases List.mem_cons.mp hp0 with rfl | hp
          · exact absurd e0 e
          · exact hp
        rw [ih h.2 hp]
        by_cases em : m = n
        · subst em
          rw [if_pos rfl, if_pos rfl, if_neg e]
          omega
        · rw [if_neg em, if_neg em]
  · rw [if_neg q, cnt_append, cnt_cons, cnt_nil]
    have out : ∀ x ∈ c, x.1 ≠ n := fun x hx he => q (List.any_eq_true.mpr ⟨x, hx, decide_eq_true he⟩)
    by_cases em : m = n
    · subst em
      rw [if_pos rfl, if_pos rfl, cnt_out out]
      omega
    · rw [if_neg em, if_neg (fun z => em z.symm)]
      omega
theorem cnt_mem {c : B} (h : (c.map (·.1)).Nodup) {p : Int × Int} (hp : p ∈ c) : cnt c p.1 = p.2 := by
  induction c with
  | nil => simp at hp
  | cons q c ih =>
    rw [List.map_cons, List.nodup_cons] at h
    rw [cnt_cons]
    rcases List.mem_cons.mp hp with rfl | hp
    · rw [if_pos rfl, cnt_out fun x hx he => h.1 (List.mem_map.mpr ⟨x, hx, he⟩)]
      omega
    · rw [if_neg fun e => h.1 (List.mem_map.mpr ⟨p, hp, e.symm⟩), ih h.2 hp]
      omega
theorem cnt_filter {c : B} (h : (c.map (·.1)).Nodup) (n : Int) : cnt (c.filter fun p => decide (0 < p.2)) n = max 0 (cnt c n) := by
  induction c with
  | nil => rfl
  | cons q c ih =>
    rw [List.map_cons, List.nodup_cons] at h
    have ih := ih h.2
    rw [cnt_cons]
    by_cases e : q.1 = n
    · subst e
      have o1 : cnt c q.1 = 0 := cnt_out fun x hx he => h.1 (List.mem_map.mpr ⟨x, hx, he⟩)
      rw [o1] at ih ⊢
      rw [if_pos rfl]
      by_cases hq : 0 < q.2
      · rw [List.filter_cons_of_pos (by simp [hq]), cnt_cons, if_pos rfl, ih]
        omega
      · rw [List.filter_cons_of_neg (by simp [hq]), ih]
        omega
    · rw [if_neg e, Int.zero_add]
      by_cases hq : 0 < q.2
      · rw [List.filter_cons_of_pos (by simp [hq]), cnt_cons, if_neg e, ih]
        omega
      · rw [List.filter_cons_of_neg (by simp [hq]), ih]
/-- sorted and no key twice: strictly sorted -/
theorem wf_sorted {q : B} (h : q.Pairwise lexLe) (nd : (q.map (·.1)).Nodup) (pos : ∀ p ∈ q, 0 < p.2) : Wf q := by
  refine ⟨?_, fun p hp => by have := pos p hp; omega⟩
  rw [List.nodup_iff_pairwise_ne, List.pairwise_map] at nd
  refine (h.and nd).imp ?_
  rintro x y ⟨h1, h2⟩
  rcases h1 with h1 | ⟨h1, _⟩
  · exact h1
  · exact absurd h1 h2
end G
namespace G
open PySem PySem.Spec PyProof.Rows L2 DL
def top (i : Nat) : Stmt := PySem.Challenge.pw_heapeffects_k38_whole_nothing_is_lost.main.body.getD i (.Pass ⟨0, 0, 0, 0⟩)
abbrev s_isint : Stmt := top 10
abbrev N_isint : List Str := ["value"]
theorem sc_isint : FnScope N_isint ["value"] (defScope s_isint) := ⟨rfl, rfl, rfl, by decide +kernel, rfl, by decide +kernel, by decide +kernel⟩
abbrev s_iscnt : Stmt := top 11
abbrev N_iscnt : List Str := ["value"]
theorem sc_iscnt : FnScope N_iscnt ["value"] (defScope s_iscnt) := ⟨rfl, rfl, rfl, by decide +kernel, rfl, by decide +kernel, by decide +kernel⟩
abbrev s_isbag : Stmt := top 12
abbrev N_isbag : List Str := ["value", "numbers", "entry", "number", "count"]
theorem sc_isbag : FnScope N_isbag ["value"] (defScope s_isbag) := ⟨rfl, rfl, rfl, by decide +kernel, rfl, by decide +kernel, by decide +kernel⟩
abbrev s_cknum : Stmt := top 13
abbrev N_cknum : List Str := ["value"]
theorem sc_cknum : FnScope N_cknum ["value"] (defScope s_cknum) := ⟨rfl, rfl, rfl, by decide +kernel, rfl, by decide +kernel, by decide +kernel⟩
abbrev s_ckcnt : Stmt := top 14
abbrev N_ckcnt : List Str := ["value"]
theorem sc_ckcnt : FnScope N_ckcnt ["value"] (defScope s_ckcnt) := ⟨rfl, rfl, rfl, by decide +kernel, rfl, by decide +kernel, by decide +kernel⟩
abbrev s_ckbag : Stmt := top 15
abbrev N_ckbag : List Str := ["value"]
theorem sc_ckbag : FnScope N_ckbag ["value"] (defScope s_ckbag) := ⟨rfl, rfl, rfl, by decide +kernel, rfl, by decide +kernel, by decide +kernel⟩
abbrev s_fc : Stmt := top 16
abbrev N_fc : List Str := ["counts", "number", "count"]
theorem sc_fc : FnScope N_fc ["counts"] (defScope s_fc) := ⟨rfl, rfl, rfl, by decide +kernel, rfl, by decide +kernel, by decide +kernel⟩
abbrev s_add : Stmt := top 17
abbrev N_add : List Str := ["first", "second", "counts", "number", "count"]
theorem sc_add : FnScope N_add ["first", "second"] (defScope s_add) := ⟨rfl, rfl, rfl, by decide +kernel, rfl, by decide +kernel, by decide +kernel⟩
abbrev s_subt : Stmt := top 18
abbrev N_subt : List Str := ["bag", "other", "counts", "number", "count"]
theorem sc_subt : FnScope N_subt ["bag", "other"] (defScope s_subt) := ⟨rfl, rfl, rfl, by decide +kernel, rfl, by decide +kernel, by decide +kernel⟩
abbrev s_total : Stmt := top 19
abbrev N_total : List Str := ["bag", "number", "count"]
theorem sc_total : FnScope N_total ["bag"] (defScope s_total) := ⟨rfl, rfl, rfl, by decide +kernel, rfl, by decide +kernel, by decide +kernel⟩
abbrev s_level : Stmt := top 20
abbrev N_level : List Str := ["bag", "number", "one", "count"]
theorem sc_level : FnScope N_level ["bag", "number"] (defScope s_level) := ⟨rfl, rfl, rfl, by decide +kernel, rfl, by decide +kernel, by decide +kernel⟩
abbrev s_take : Stmt := top 22
abbrev N_take : List Str := ["bag", "count", "left", "taken", "number", "many"]
theorem sc_take : FnScope N_take ["bag", "count"] (defScope s_take) := ⟨rfl, rfl, rfl, by decide +kernel, rfl, by decide +kernel, by decide +kernel⟩
abbrev s_drop : Stmt := top 23
abbrev N_drop : List Str := ["bag", "count", "left", "kept", "number", "many", "dropped"]
theorem sc_drop : FnScope N_drop ["bag", "count"] (defScope s_drop) := ⟨rfl, rfl, rfl, by decide +kernel, rfl, by decide +kernel, by decide +kernel⟩
abbrev s_sizeof : Stmt := top 24
abbrev N_sizeof : List Str := ["bag"]
theorem sc_sizeof : FnScope N_sizeof ["bag"] (defScope s_sizeof) := ⟨rfl, rfl, rfl, by decide +kernel, rfl, by decide +kernel, by decide +kernel⟩
abbrev s_atmost : Stmt := top 25
abbrev N_atmost : List Str := ["bag", "number"]
theorem sc_atmost : FnScope N_atmost ["bag", "number"] (defScope s_atmost) := ⟨rfl, rfl, rfl, by decide +kernel, rfl, by decide +kernel, by decide +kernel⟩
abbrev s_union : Stmt := top 26
abbrev N_union : List Str := ["bags", "result", "bag"]
theorem sc_union : FnScope N_union ["bags"] (defScope s_union) := ⟨rfl, rfl, rfl, by decide +kernel, rfl, by decide +kernel, by decide +kernel⟩
abbrev s_diff : Stmt := top 27
abbrev N_diff : List Str := ["bag", "other"]
theorem sc_diff : FnScope N_diff ["bag", "other"] (defScope s_diff) := ⟨rfl, rfl, rfl, by decide +kernel, rfl, by decide +kernel, by decide +kernel⟩
abbrev s_fault : Stmt := top 39
abbrev N_fault : List Str := ["inserted", "removals", "survivors", "consumed"]
theorem sc_fault : FnScope N_fault ["inserted", "removals", "survivors"] (defScope s_fault) := ⟨rfl, rfl, rfl, by decide +kernel, rfl, by decide +kernel, by decide +kernel⟩
abbrev s_init : Stmt := inClass (top 40) 1
abbrev N_init : List Str := ["self", "inserted", "removals", "survivors", "fault"]
theorem sc_init : FnScope N_init ["self", "inserted", "removals", "survivors"] (defScope s_init) := ⟨rfl, rfl, rfl, by decide +kernel, rfl, by decide +kernel, by decide +kernel⟩
abbrev s_p_ins : Stmt := inClass (top 40) 5
abbrev N_p_ins : List Str := ["self"]
theorem sc_p_ins : FnScope N_p_ins ["self"] (defScope s_p_ins) := ⟨rfl, rfl, rfl, by decide +kernel, rfl, by decide +kernel, by decide +kernel⟩
abbrev s_p_rem : Stmt := inClass (top 40) 6
abbrev N_p_rem : List Str := ["self"]
theorem sc_p_rem : FnScope N_p_rem ["self"] (defScope s_p_rem) := ⟨rfl, rfl, rfl, by decide +kernel, rfl, by decide +kernel, by decide +kernel⟩
abbrev s_p_sur : Stmt := inClass (top 40) 7
abbrev N_p_sur : List Str := ["self"]
theorem sc_p_sur : FnScope N_p_sur ["self"] (defScope s_p_sur) := ⟨rfl, rfl, rfl, by decide +kernel, rfl, by decide +kernel, by decide +kernel⟩
abbrev s_p_con : Stmt := inClass (top 40) 8
abbrev N_p_con : List Str := ["self"]
theorem sc_p_con : FnScope N_p_con ["self"] (defScope s_p_con) := ⟨rfl, rfl, rfl, by decide +kernel, rfl, by decide +kernel, by decide +kernel⟩
abbrev s_p_need : Stmt := inClass (top 40) 9
abbrev N_p_need : List Str := ["self"]
theorem sc_p_need : FnScope N_p_need ["self"] (defScope s_p_need) := ⟨rfl, rfl, rfl, by decide +kernel, rfl, by decide +kernel, by decide +kernel⟩
abbrev s_m_pool : Stmt := inClass (top 40) 10
abbrev N_m_pool : List Str := ["self", "bag"]
theorem sc_m_pool : FnScope N_m_pool ["self", "bag"] (defScope s_m_pool) := ⟨rfl, rfl, rfl, by decide +kernel, rfl, by decide +kernel, by decide +kernel⟩
abbrev s_m_apply : Stmt := inClass (top 40) 11
abbrev N_m_apply : List Str := ["self", "bag"]
theorem sc_m_apply : FnScope N_m_apply ["self", "bag"] (defScope s_m_apply) := ⟨rfl, rfl, rfl, by decide +kernel, rfl, by decide +kernel, by decide +kernel⟩
abbrev s_m_removed : Stmt := inClass (top 40) 12
abbrev N_m_removed : List Str := ["self", "bag"]
theorem sc_m_removed : FnScope N_m_removed ["self", "bag"] (defScope s_m_removed) := ⟨rfl, rfl, rfl, by decide +kernel, rfl, by decide +kernel, by decide +kernel⟩
abbrev s_pool : Stmt := top 42
abbrev N_pool : List Str := ["script", "k", "cell", "great", "mixed"]
theorem sc_pool : FnScope N_pool ["script", "k"] (defScope s_pool) := ⟨rfl, rfl, rfl, by decide +kernel, rfl, by decide +kernel, by decide +kernel⟩
abbrev s_draw : Stmt := top 43
abbrev N_draw : List Str := ["pool", "many", "found"]
theorem sc_draw : FnScope N_draw ["pool", "many"] (defScope s_draw) := ⟨rfl, rfl, rfl, by decide +kernel, rfl, by decide +kernel, by decide +kernel⟩
abbrev s_great : Stmt := top 44
abbrev N_great : List Str := ["pool", "inserted", "survivors", "consumed", "number", "many", "some", "more", "entry"]
theorem sc_great : FnScope N_great ["pool"] (defScope s_great) := ⟨rfl, rfl, rfl, by decide +kernel, rfl, by decide +kernel, by decide +kernel⟩
abbrev s_law : Stmt := top 45
abbrev N_law : List Str := ["script", "k", "pool", "turn", "effect", "entries", "number", "many", "heap", "removed", "result", "rest", "change", "expected", "entry"]
theorem sc_law : FnScope N_law ["script"] (defScope s_law) := ⟨rfl, rfl, rfl, by decide +kernel, rfl, by decide +kernel, by decide +kernel⟩
/-- what the top has left -/
structure Tx (K : PySem.W.Frag) (mg : Str → Option Value) where
  C_Effect : Addr
  cls_Effect : Cls K C_Effect
  mg_Effect : mg "Effect" = some (.ref C_Effect)
  no_own_parts : NoAttr K C_Effect "own_parts"
  f_isint : Addr
  fd_isint : FuncData
  F_isint : Fun K "is_integer" "is_integer" s_isint f_isint fd_isint
  b_isint : Binds K fd_isint ["value"] []
  kp_isint : PySem.W.keepIn K (.ref f_isint) = true
  mg_isint : mg "is_integer" = some (.ref f_isint)
  f_iscnt : Addr
  fd_iscnt : FuncData
  F_iscnt : Fun K "is_count" "is_count" s_iscnt f_iscnt fd_iscnt
  b_iscnt : Binds K fd_iscnt ["value"] []
  kp_iscnt : PySem.W.keepIn K (.ref f_iscnt) = true
  mg_iscnt : mg "is_count" = some (.ref f_iscnt)
  f_isbag : Addr
  fd_isbag : FuncData
  F_isbag : Fun K "is_bag" "is_bag" s_isbag f_isbag fd_isbag
  b_isbag : Binds K fd_isbag ["value"] []
  kp_isbag : PySem.W.keepIn K (.ref f_isbag) = true
  mg_isbag : mg "is_bag" = some (.ref f_isbag)
  f_cknum : Addr
  fd_cknum : FuncData
  F_cknum : Fun K "check_number" "check_number" s_cknum f_cknum fd_cknum
  b_cknum : Binds K fd_cknum ["value"] []
  kp_cknum : PySem.W.keepIn K (.ref f_cknum) = true
  mg_cknum : mg "check_number" = some (.ref f_cknum)
  f_ckcnt : Addr
  fd_ckcnt : FuncData
  F_ckcnt : Fun K "check_count" "check_count" s_ckcnt f_ckcnt fd_ckcnt
  b_ckcnt : Binds K fd_ckcnt ["value"] []
  kp_ckcnt : PySem.W.keepIn K (.ref f_ckcnt) = true
  mg_ckcnt : mg "check_count" = some (.ref f_ckcnt)
  f_ckbag : Addr
  fd_ckbag : FuncData
  F_ckbag : Fun K "check_bag" "check_bag" s_ckbag f_ckbag fd_ckbag
  b_ckbag : Binds K fd_ckbag ["value"] []
  kp_ckbag : PySem.W.keepIn K (.ref f_ckbag) = true
  mg_ckbag : mg "check_bag" = some (.ref f_ckbag)
  f_fc : Addr
  fd_fc : FuncData
  F_fc : Fun K "from_counts" "from_counts" s_fc f_fc fd_fc
  b_fc : Binds K fd_fc ["counts"] []
  kp_fc : PySem.W.keepIn K (.ref f_fc) = true
  mg_fc : mg "from_counts" = some (.ref f_fc)
  f_add : Addr
  fd_add : FuncData
  F_add : Fun K "add" "add" s_add f_add fd_add
  b_add : Binds K fd_add ["first", "second"] []
  kp_add : PySem.W.keepIn K (.ref f_add) = true
  mg_add : mg "add" = some (.ref f_add)
  f_subt : Addr
  fd_subt : FuncData
  F_subt : Fun K "subtract" "subtract" s_subt f_subt fd_subt
  b_subt : Binds K fd_subt ["bag", "other"] []
  kp_subt : PySem.W.keepIn K (.ref f_subt) = true
  mg_subt : mg "subtract" = some (.ref f_subt)
  f_total : Addr
  fd_total : FuncData
  F_total : Fun K "total" "total" s_total f_total fd_total
  b_total : Binds K fd_total ["bag"] []
  kp_total : PySem.W.keepIn K (.ref f_total) = true
  mg_total : mg "total" = some (.ref f_total)
  f_level : Addr
  fd_level : FuncData
  F_level : Fun K "level" "level" s_level f_level fd_level
  b_level : Binds K fd_level ["bag", "number"] []
  kp_level : PySem.W.keepIn K (.ref f_level) = true
  mg_level : mg "level" = some (.ref f_level)
  f_take : Addr
  fd_take : FuncData
  F_take : Fun K "take" "take" s_take f_take fd_take
  b_take : Binds K fd_take ["bag", "count"] []
  kp_take : PySem.W.keepIn K (.ref f_take) = true
  mg_take : mg "take" = some (.ref f_take)
  f_drop : Addr
  fd_drop : FuncData
  F_drop : Fun K "drop" "drop" s_drop f_drop fd_drop
  b_drop : Binds K fd_drop ["bag", "count"] []
  kp_drop : PySem.W.keepIn K (.ref f_drop) = true
  mg_drop : mg "drop" = some (.ref f_drop)
  f_sizeof : Addr
  fd_sizeof : FuncData
  F_sizeof : Fun K "size_of" "size_of" s_sizeof f_sizeof fd_sizeof
  b_sizeof : Binds K fd_sizeof ["bag"] []
  kp_sizeof : PySem.W.keepIn K (.ref f_sizeof) = true
  mg_sizeof : mg "size_of" = some (.ref f_sizeof)
  f_atmost : Addr
  fd_atmost : FuncData
  F_atmost : Fun K "at_most" "at_most" s_atmost f_atmost fd_atmost
  b_atmost : Binds K fd_atmost ["bag", "number"] []
  kp_atmost : PySem.W.keepIn K (.ref f_atmost) = true
  mg_atmost : mg "at_most" = some (.ref f_atmost)
  f_union : Addr
  fd_union : FuncData
  F_union : Fun K "union" "union" s_union f_union fd_union
  kp_union : PySem.W.keepIn K (.ref f_union) = true
  mg_union : mg "union" = some (.ref f_union)
  f_diff : Addr
  fd_diff : FuncData
  F_diff : Fun K "difference" "difference" s_diff f_diff fd_diff
  b_diff : Binds K fd_diff ["bag", "other"] []
  kp_diff : PySem.W.keepIn K (.ref f_diff) = true
  mg_diff : mg "difference" = some (.ref f_diff)
  f_fault : Addr
  fd_fault : FuncData
  F_fault : Fun K "find_fault" "find_fault" s_fault f_fault fd_fault
  b_fault : Binds K fd_fault ["inserted", "removals", "survivors"] []
  kp_fault : PySem.W.keepIn K (.ref f_fault) = true
  mg_fault : mg "find_fault" = some (.ref f_fault)
  f_init : Addr
  fd_init : FuncData
  F_init : Fun K "__init__" "Effect.__init__" s_init f_init fd_init
  b_init : Binds K fd_init ["self", "inserted", "removals", "survivors"] []
  kp_init : PySem.W.keepIn K (.ref f_init) = true
  mk_Effect : Mk K C_Effect f_init
  f_p_ins : Addr
  fd_p_ins : FuncData
  F_p_ins : Fun K "inserted" "Effect.inserted" s_p_ins f_p_ins fd_p_ins
  b_p_ins : Binds K fd_p_ins ["self"] []
  kp_p_ins : PySem.W.keepIn K (.ref f_p_ins) = true
  p_p_ins : Addr
  pr_inserted : PropOf K C_Effect "inserted" p_p_ins f_p_ins
  f_p_rem : Addr
  fd_p_rem : FuncData
  F_p_rem : Fun K "removals" "Effect.removals" s_p_rem f_p_rem fd_p_rem
  b_p_rem : Binds K fd_p_rem ["self"] []
  kp_p_rem : PySem.W.keepIn K (.ref f_p_rem) = true
  p_p_rem : Addr
  pr_removals : PropOf K C_Effect "removals" p_p_rem f_p_rem
  f_p_sur : Addr
  fd_p_sur : FuncData
  F_p_sur : Fun K "survivors" "Effect.survivors" s_p_sur f_p_sur fd_p_sur
  b_p_sur : Binds K fd_p_sur ["self"] []
  kp_p_sur : PySem.W.keepIn K (.ref f_p_sur) = true
  p_p_sur : Addr
  pr_survivors : PropOf K C_Effect "survivors" p_p_sur f_p_sur
  f_p_con : Addr
  fd_p_con : FuncData
  F_p_con : Fun K "consumed" "Effect.consumed" s_p_con f_p_con fd_p_con
  b_p_con : Binds K fd_p_con ["self"] []
  kp_p_con : PySem.W.keepIn K (.ref f_p_con) = true
  p_p_con : Addr
  pr_consumed : PropOf K C_Effect "consumed" p_p_con f_p_con
  f_p_need : Addr
  fd_p_need : FuncData
  F_p_need : Fun K "needed" "Effect.needed" s_p_need f_p_need fd_p_need
  b_p_need : Binds K fd_p_need ["self"] []
  kp_p_need : PySem.W.keepIn K (.ref f_p_need) = true
  p_p_need : Addr
  pr_needed : PropOf K C_Effect "needed" p_p_need f_p_need
  f_m_pool : Addr
  fd_m_pool : FuncData
  F_m_pool : Fun K "pool" "Effect.pool" s_m_pool f_m_pool fd_m_pool
  b_m_pool : Binds K fd_m_pool ["self", "bag"] []
  kp_m_pool : PySem.W.keepIn K (.ref f_m_pool) = true
  me_pool : Meth K C_Effect "pool" f_m_pool
  f_m_apply : Addr
  fd_m_apply : FuncData
  F_m_apply : Fun K "apply" "Effect.apply" s_m_apply f_m_apply fd_m_apply
  b_m_apply : Binds K fd_m_apply ["self", "bag"] []
  kp_m_apply : PySem.W.keepIn K (.ref f_m_apply) = true
  me_apply : Meth K C_Effect "apply" f_m_apply
  f_m_removed : Addr
  fd_m_removed : FuncData
  F_m_removed : Fun K "removed" "Effect.removed" s_m_removed f_m_removed fd_m_removed
  b_m_removed : Binds K fd_m_removed ["self", "bag"] []
  kp_m_removed : PySem.W.keepIn K (.ref f_m_removed) = true
  me_removed : Meth K C_Effect "removed" f_m_removed
  f_pool : Addr
  fd_pool : FuncData
  F_pool : Fun K "_law_pool" "_law_pool" s_pool f_pool fd_pool
  b_pool : Binds K fd_pool ["script", "k"] []
  kp_pool : PySem.W.keepIn K (.ref f_pool) = true
  mg_pool : mg "_law_pool" = some (.ref f_pool)
  f_draw : Addr
  fd_draw : FuncData
  F_draw : Fun K "_law_draw" "_law_draw" s_draw f_draw fd_draw
  b_draw : Binds K fd_draw ["pool", "many"] []
  kp_draw : PySem.W.keepIn K (.ref f_draw) = true
  mg_draw : mg "_law_draw" = some (.ref f_draw)
  f_great : Addr
  fd_great : FuncData
  F_great : Fun K "_law_great_effect" "_law_great_effect" s_great f_great fd_great
  b_great : Binds K fd_great ["pool"] []
  kp_great : PySem.W.keepIn K (.ref f_great) = true
  mg_great : mg "_law_great_effect" = some (.ref f_great)
  f_law : Addr
  fd_law : FuncData
  F_law : Fun K "law" "law" s_law f_law fd_law
  b_law : Binds K fd_law ["script"] []
  kp_law : PySem.W.keepIn K (.ref f_law) = true
  mg_law : mg "law" = some (.ref f_law)
  z_abs : mg "abs" = none
  z_any : mg "any" = none
  z_bool : mg "bool" = none
  z_dict : mg "dict" = none
  z_int : mg "int" = none
  z_isinstance : mg "isinstance" = none
  z_len : mg "len" = none
  z_max : mg "max" = none
  z_min : mg "min" = none
  z_range : mg "range" = none
  z_sorted : mg "sorted" = none
  z_sum : mg "sum" = none
  z_tuple : mg "tuple" = none
abbrev ends (Q : D → MH → Prop) (E : EX) : DEnds := { nx := fun _ M' => retD Q .non M', rt := retD Q, ex := fun C f d _ M' => E C f d M' }
abbrev bagD (b : B) : D := .tup (b.map prD)
def kD (c : B) : List (Key × D) := c.map fun p => (Sum.inl p.1, D.int p.2)
def sp_isint (K : PySem.W.Frag) (C : Addr) : DSp := fun ds M P _ => match ds with
  | [x] => ∃ n, tyS M x = some n ∧ P (.bl (instB n "int" && !instB n "bool")) M
  | _ => False
def sp_iscnt (K : PySem.W.Frag) (C : Addr) : DSp := fun ds M P _ => match ds with
  | [.int i] => P (.bl (decide (0 ≤ i))) M
  | _ => False
def sp_isbag (K : PySem.W.Frag) (C : Addr) : DSp := fun ds M P _ => match ds with
  | [x] => ∃ b, x = bagD b ∧ Wf b ∧ b.length ≤ sizeLine ∧ P (.bl true) M
  | _ => False
def sp_ckcnt (K : PySem.W.Frag) (C : Addr) : DSp := fun ds M P _ => match ds with
  | [.int i] => 0 ≤ i ∧ P .non M
  | _ => False
def sp_ckbag (K : PySem.W.Frag) (C : Addr) : DSp := fun ds M P _ => match ds with
  | [x] => ∃ b, x = bagD b ∧ Wf b ∧ b.length ≤ sizeLine ∧ P .non M
  | _ => False
def sp_fc (K : PySem.W.Frag) (C : Addr) : DSp := fun ds M P _ => match ds with
  | [.ref p] => ∃ c : B, M p = some (.dK (kD c)) ∧ (c.map (·.1)).Nodup ∧ c.length ≤ sizeLine ∧ ∀ r, Wf r → r.length ≤ c.length → (∀ n, cnt r n = max 0 (cnt c n)) → P (bagD r) M
  | _ => False
def sp_add (K : PySem.W.Frag) (C : Addr) : DSp := fun ds M P _ => match ds with
  | [x, y] => ∃ a b, x = bagD a ∧ y = bagD b ∧ Wf a ∧ Wf b ∧ a.length + b.length < sizeLine ∧ ∀ r, Wf r → r.length ≤ a.length + b.length → (∀ n, cnt r n = cnt a n + cnt b n) → P (bagD r) M
  | _ => False
def sp_subt (K : PySem.W.Frag) (C : Addr) : DSp := fun ds M P _ => match ds with
  | [x, y] => ∃ a b, x = bagD a ∧ y = bagD b ∧ Wf a ∧ Wf b ∧ a.length + b.length < sizeLine ∧ ((∃ n, cnt a n < cnt b n) → P .non M) ∧ ∀ r, Wf r → r.length ≤ a.length + b.length → (∀ n, cnt r n = cnt a n - cnt b n) → P (bagD r) M
  | _ => False
def sp_total (K : PySem.W.Frag) (C : Addr) : DSp := fun ds M P _ => match ds with
  | [x] => ∃ a, x = bagD a ∧ a.length ≤ sizeLine ∧ P (.int (tot a)) M
  | _ => False
def sp_take (K : PySem.W.Frag) (C : Addr) : DSp := fun ds M P _ => match ds with
  | [x, .int c] => ∃ a, x = bagD a ∧ Wf a ∧ a.length ≤ sizeLine ∧ 0 ≤ c ∧ ∀ r, Wf r → r.length ≤ a.length → (∀ n, lv r n = min (lv a n) c) → P (bagD r) M
  | _ => False
def sp_drop (K : PySem.W.Frag) (C : Addr) : DSp := fun ds M P _ => match ds with
  | [x, .int c] => ∃ a, x = bagD a ∧ Wf a ∧ a.length ≤ sizeLine ∧ 0 ≤ c ∧ ∀ r, Wf r → r.length ≤ a.length → (∀ n, lv r n = max 0 (lv a n - c)) → P (bagD r) M
  | _ => False
def sp_cknum (K : PySem.W.Frag) (C : Addr) : DSp := fun ds M P _ => match ds with
  | [.int i] => P .non M
  | _ => False
def sp_level (K : PySem.W.Frag) (C : Addr) : DSp := fun ds M P _ => match ds with
  | [x, .int n] => ∃ a, x = bagD a ∧ a.length ≤ sizeLine ∧ P (.int (lv a n)) M
  | _ => False
def sp_sizeof (K : PySem.W.Frag) (C : Addr) : DSp := fun ds M P _ => match ds with
  | [x] => ∃ a, x = bagD a ∧ Wf a ∧ a.length ≤ sizeLine ∧ P (.int (tot a)) M
  | _ => False
def sp_atmost (K : PySem.W.Frag) (C : Addr) : DSp := fun ds M P _ => match ds with
  | [x, .int n] => ∃ a, x = bagD a ∧ Wf a ∧ a.length ≤ sizeLine ∧ P (.int (lv a n)) M
  | _ => False
def sp_union (K : PySem.W.Frag) (C : Addr) : DSp := fun ds M P _ => match ds with
  | [.pr xs] => ∃ bs : List B, xs = bs.map bagD ∧ (∀ b ∈ bs, Wf b) ∧ (bs.map List.length).sum < sizeLine ∧ ∀ r, Wf r → r.length ≤ (bs.map List.length).sum → (∀ n, cnt r n = (bs.map fun b => cnt b n).sum) → P (bagD r) M
  | _ => False
def sp_diff (K : PySem.W.Frag) (C : Addr) : DSp := fun ds M P _ => match ds with
  | [x, y] => ∃ a b, x = bagD a ∧ y = bagD b ∧ Wf a ∧ Wf b ∧ a.length + b.length < sizeLine ∧ ((∃ n, cnt a n < cnt b n) → P .non M) ∧ ∀ r, Wf r → r.length ≤ a.length + b.length → (∀ n, cnt r n = cnt a n - cnt b n) → P (bagD r) M
  | _ => False
/-- an effect's parts -/
structure Eff where
  i : B
  r : Int
  s : B
/-- a valid effect -/
structure Eff.Ok (e : Eff) : Prop where
  wi : Wf e.i
  ws : Wf e.s
  le : ∀ n, cnt e.s n ≤ cnt e.i n
  r0 : 0 ≤ e.r
  en : tot e.i - tot e.s ≤ e.r
  sz : e.i.length + e.s.length < 1000000
abbrev partsD (e : Eff) : D := .tup [bagD e.i, .int e.r, bagD e.s]
abbrev effD (C : Addr) (e : Eff) : D := .ins C [PySem.Str.ofString "own_parts"] [partsD e]
def sp_fault (K : PySem.W.Frag) (C : Addr) : DSp := fun ds M P _ => match ds with
  | [x, .int r, y] => ∃ a b, x = bagD a ∧ y = bagD b ∧ Wf a ∧ Wf b ∧ a.length + b.length < sizeLine ∧
      ((∃ n, cnt a n < cnt b n) → P (.str (PySem.Str.ofString "survivors")) M) ∧ ((∀ n, cnt b n ≤ cnt a n) → r < tot a - tot b → P (.str (PySem.Str.ofString "removals")) M) ∧ ((∀ n, cnt b n ≤ cnt a n) → tot a - tot b ≤ r → P .non M)
  | _ => False
def sp_init (K : PySem.W.Frag) (C : Addr) : DSp := fun ds M P _ => match ds with
  | [.ref x, y, .int r, z] => ∃ e : Eff, e.Ok ∧ y = bagD e.i ∧ r = e.r ∧ z = bagD e.s ∧ M x = some (.ins C []) ∧ P .non (sett M x (.ins C [(PySem.Str.ofString "own_parts", partsD e)]))
  | _ => False
def sp_p_ins (K : PySem.W.Frag) (C : Addr) : DSp := fun ds M P _ => match ds with
  | [x] => ∃ e : Eff, x = effD C e ∧ P (bagD e.i) M
  | _ => False
def sp_p_rem (K : PySem.W.Frag) (C : Addr) : DSp := fun ds M P _ => match ds with
  | [x] => ∃ e : Eff, x = effD C e ∧ P (.int e.r) M
  | _ => False
def sp_p_sur (K : PySem.W.Frag) (C : Addr) : DSp := fun ds M P _ => match ds with
  | [x] => ∃ e : Eff, x = effD C e ∧ P (bagD e.s) M
  | _ => False
def sp_p_con (K : PySem.W.Frag) (C : Addr) : DSp := fun ds M P _ => match ds with
  | [x] => ∃ e : Eff, x = effD C e ∧ e.Ok ∧ ∀ c, Wf c → c.length ≤ e.i.length + e.s.length → (∀ n, cnt c n = cnt e.i n - cnt e.s n) → P (bagD c) M
  | _ => False
def sp_p_need (K : PySem.W.Frag) (C : Addr) : DSp := fun ds M P _ => match ds with
  | [x] => ∃ e : Eff, x = effD C e ∧ e.Ok ∧ P (.int (e.r - tot e.i + tot e.s)) M
  | _ => False
/-- what a method asks: a valid effect, a bag with enough in it -/
def enough (e : Eff) (b : B) : Prop := e.Ok ∧ Wf b ∧ b.length < 1000000 ∧ e.r - tot e.i + tot e.s ≤ tot b
def sp_m_pool (K : PySem.W.Frag) (C : Addr) : DSp := fun ds M P _ => match ds with
  | [x, y] => ∃ (e : Eff) (b : B), x = effD C e ∧ y = bagD b ∧ enough e b ∧ ∀ q, Wf q → q.length ≤ b.length + (e.i.length + e.s.length) → (∀ n, cnt q n = cnt b n + (cnt e.i n - cnt e.s n)) → P (bagD q) M
  | _ => False
def sp_m_apply (K : PySem.W.Frag) (C : Addr) : DSp := fun ds M P _ => match ds with
  | [x, y] => ∃ (e : Eff) (b : B), x = effD C e ∧ y = bagD b ∧ enough e b ∧ ∀ q, Wf q → q.length < 4000000 → (∀ n, lv q n = lv e.s n + max 0 (lv b n + (lv e.i n - lv e.s n) - e.r)) → P (bagD q) M
  | _ => False
def sp_m_removed (K : PySem.W.Frag) (C : Addr) : DSp := fun ds M P _ => match ds with
  | [x, y] => ∃ (e : Eff) (b : B), x = effD C e ∧ y = bagD b ∧ enough e b ∧ ∀ q, Wf q → q.length < 4000000 → (∀ n, lv q n = min (lv b n + (lv e.i n - lv e.s n)) e.r) → P (bagD q) M
  | _ => False
def poolOk (b : Int) : Prop := 0 ≤ b ∧ b < 2147483648
def sp_pool (K : PySem.W.Frag) (C : Addr) : DSp := fun ds M P _ => match ds with
  | [.lst xs, .int k] => ∃ ns : List Int, xs = ns.map D.int ∧ ns.length ≤ 63 ∧ 0 ≤ k ∧ k < 64 ∧ ∀ p, M p = none → ∀ a b, poolOk b → P (.ref p) (sett M p (.lst [.int a, .int b]))
  | _ => False
def sp_draw (K : PySem.W.Frag) (C : Addr) : DSp := fun ds M P _ => match ds with
  | [.ref p, .int m] => ∃ a b, M p = some (.lst [.int a, .int b]) ∧ poolOk b ∧ 1 ≤ m ∧ m.natAbs.log2 < 9000 ∧ ∀ f a' b', 0 ≤ f → f < m → poolOk b' → P (.int f) (sett M p (.lst [.int a', .int b']))
  | _ => False
/-- the effects that the law draws -/
def Eff.Small (e : Eff) : Prop := e.Ok ∧ e.i.length ≤ 7 ∧ e.s.length ≤ 7 ∧ tot e.i < 10 ^ 40 ∧ e.r < 10 ^ 40
def sp_great (K : PySem.W.Frag) (C : Addr) : DSp := fun ds M P _ => match ds with
  | [.ref p] => ∃ a b, M p = some (.lst [.int a, .int b]) ∧ poolOk b ∧ ∀ e a' b', Eff.Small e → poolOk b' → P (effD C e) (sett M p (.lst [.int a', .int b']))
  | _ => False
def sp_law (K : PySem.W.Frag) (C : Addr) : DSp := fun ds M P _ => match ds with
  | [.lst xs] => ∃ ns : List Int, xs = ns.map D.int ∧ ns.length ≤ 63 ∧ P (.bl true) M
  | _ => False

def t_isint (K : PySem.W.Frag) (C_Effect : Addr) : DTS :=
    (dRet (dAnd (dCB (cIsi K) (dCons (dVar 0) (dCons (dC (.ty "int")) dNil))) (dNot (dCB (cIsi K) (dCons (dVar 0) (dCons (dC (.ty "bool")) dNil))))))
def t_iscnt (K : PySem.W.Frag) (C_Effect : Addr) : DTS :=
    (dRet (dAnd (dCall (sp_isint K C_Effect) (dCons (dVar 0) dNil)) (dGe (dVar 0) (dC (.int 0)))))
def t_isbag (K : PySem.W.Frag) (C_Effect : Addr) : DTS :=
    (dSeq (dIfS (dNotT (dB (dCB (cIsi K) (dCons (dVar 0) (dCons (dC (.ty "tuple")) dNil))))) (dRet (dC (.bl false))) dNext)
    (dSeq (dSet 1 (dLstM dNil))
    (dSeq (dFor (dWT (dVar 0)) (dgN 2)
    (dSeq (dIfS (dOrT (dNotT (dB (dCB (cIsi K) (dCons (dVar 2) (dCons (dC (.ty "tuple")) dNil))))) (dB (dNe (dCB cLen (dCons (dVar 2) dNil)) (dC (.int 2))))) (dRet (dC (.bl false))) dNext)
    (dSeq (dAsg (dVar 2) (dgTup 2 (dgCons (dgN 3) (dgCons (dgN 4) dgNil))))
    (dSeq (dIfS (dOrT (dNotT (dB (dCall (sp_isint K C_Effect) (dCons (dVar 3) dNil)))) (dOrT (dNotT (dB (dCall (sp_isint K C_Effect) (dCons (dVar 4) dNil)))) (dB (dLt (dVar 4) (dC (.int 1)))))) (dRet (dC (.bl false))) dNext)
    (dSeq (dIfS (dAndT (dB (dNe (dVar 1) (dLst dNil))) (dB (dLe (dVar 3) (dIx (dVar 1) (dNeg (dC (.int 1))))))) (dRet (dC (.bl false))) dNext)
    (dDrop (dApp (dVar 1) (dVar 3))))))))
    (dRet (dC (.bl true))))))
def t_cknum (K : PySem.W.Frag) (C_Effect : Addr) : DTS :=
    (dIfS (dNotT (dB (dCall (sp_isint K C_Effect) (dCons (dVar 0) dNil)))) dNever dNext)
def t_ckcnt (K : PySem.W.Frag) (C_Effect : Addr) : DTS :=
    (dIfS (dNotT (dB (dCall (sp_iscnt K C_Effect) (dCons (dVar 0) dNil)))) dNever dNext)
def t_ckbag (K : PySem.W.Frag) (C_Effect : Addr) : DTS :=
    (dIfS (dNotT (dB (dCall (sp_isbag K C_Effect) (dCons (dVar 0) dNil)))) dNever dNext)
def t_fc (K : PySem.W.Frag) (C_Effect : Addr) : DTS :=
    (dRet (dCB cTup (dCons (dCB cSortP (dCons (dLcItems 0 (.many [1, 2]) (dB (dGt (dVar 2) (dC (.int 0)))) (dTup (dCons (dVar 1) (dCons (dVar 2) dNil))) [1, 2]) dNil)) dNil)))
def t_add (K : PySem.W.Frag) (C_Effect : Addr) : DTS :=
    (dSeq (dSet 2 (dCB cDict (dCons (dVar 0) dNil)))
    (dSeq (dFor (dWT (dVar 1)) (dgTup 2 (dgCons (dgN 3) (dgCons (dgN 4) dgNil)))
    (dDPut (dVar 2) (dVar 3) (dAdd (dDGet2 (dVar 2) (dVar 3) (dC (.int 0))) (dVar 4))))
    (dRet (dCall (sp_fc K C_Effect) (dCons (dVar 2) dNil)))))
def t_subt (K : PySem.W.Frag) (C_Effect : Addr) : DTS :=
    (dSeq (dSet 2 (dCB cDict (dCons (dVar 0) dNil)))
    (dSeq (dFor (dWT (dVar 1)) (dgTup 2 (dgCons (dgN 3) (dgCons (dgN 4) dgNil)))
    (dDPut (dVar 2) (dVar 3) (dSub (dDGet2 (dVar 2) (dVar 3) (dC (.int 0))) (dVar 4))))
    (dRet (dIf (dB (dCB (cBL fun bs => bs.any id) (dCons (dLcVals 2 (.one 4) dYes (dLt (dVar 4) (dC (.int 0))) [4]) dNil))) (dC .non) (dCall (sp_fc K C_Effect) (dCons (dVar 2) dNil))))))
def t_total (K : PySem.W.Frag) (C_Effect : Addr) : DTS :=
    (dRet (dCB cSum (dCons (dLc (dWT (dVar 0)) (.many [1, 2]) dYes (dVar 2) [1, 2]) dNil)))
def t_level (K : PySem.W.Frag) (C_Effect : Addr) : DTS :=
    (dRet (dCB cSum (dCons (dLc (dWT (dVar 0)) (.many [2, 3]) (dB (dLe (dVar 2) (dVar 1))) (dVar 3) [2, 3]) dNil)))
def t_take (K : PySem.W.Frag) (C_Effect : Addr) : DTS :=
    (dSeq (dPar 2 3 (dCons (dVar 1) (dCons (dLstM dNil) dNil)))
    (dSeq (dFor (dWT (dVar 0)) (dgTup 2 (dgCons (dgN 4) (dgCons (dgN 5) dgNil)))
    (dIfS (dB (dGt (dVar 2) (dC (.int 0)))) (dSeq (dDrop (dApp (dVar 3) (dTup (dCons (dVar 4) (dCons (dCB (cI2 fun i j => if j < i then j else i) (dCons (dVar 2) (dCons (dVar 5) dNil))) dNil)))))
    (dAugI (fun i j => i - j) 2 (dIx (dIx (dVar 3) (dNeg (dC (.int 1)))) (dC (.int 1))))) dNext))
    (dRet (dCB cTup (dCons (dVar 3) dNil)))))
def t_drop (K : PySem.W.Frag) (C_Effect : Addr) : DTS :=
    (dSeq (dPar 2 3 (dCons (dVar 1) (dCons (dLstM dNil) dNil)))
    (dSeq (dFor (dWT (dVar 0)) (dgTup 2 (dgCons (dgN 4) (dgCons (dgN 5) dgNil)))
    (dSeq (dSet 6 (dCB (cI2 fun i j => if j < i then j else i) (dCons (dVar 2) (dCons (dVar 5) dNil))))
    (dSeq (dAugI (fun i j => i - j) 2 (dVar 6))
    (dIfS (dB (dGt (dVar 5) (dVar 6))) (dDrop (dApp (dVar 3) (dTup (dCons (dVar 4) (dCons (dSub (dVar 5) (dVar 6)) dNil))))) dNext))))
    (dRet (dCB cTup (dCons (dVar 3) dNil)))))
def t_sizeof (K : PySem.W.Frag) (C_Effect : Addr) : DTS :=
    (dSeq (dDrop (dCall (sp_ckbag K C_Effect) (dCons (dVar 0) dNil)))
    (dRet (dCall (sp_total K C_Effect) (dCons (dVar 0) dNil))))
def t_atmost (K : PySem.W.Frag) (C_Effect : Addr) : DTS :=
    (dSeq (dDrop (dCall (sp_ckbag K C_Effect) (dCons (dVar 0) dNil)))
    (dSeq (dDrop (dCall (sp_cknum K C_Effect) (dCons (dVar 1) dNil)))
    (dRet (dCall (sp_level K C_Effect) (dCons (dVar 0) (dCons (dVar 1) dNil))))))
def t_union (K : PySem.W.Frag) (C_Effect : Addr) : DTS :=
    (dSeq (dSet 1 (dTup dNil))
    (dSeq (dFor (dWT (dVar 0)) (dgN 2)
    (dSeq (dDrop (dCall (sp_ckbag K C_Effect) (dCons (dVar 2) dNil)))
    (dSet 1 (dCall (sp_add K C_Effect) (dCons (dVar 1) (dCons (dVar 2) dNil))))))
    (dRet (dVar 1))))
def t_diff (K : PySem.W.Frag) (C_Effect : Addr) : DTS :=
    (dSeq (dDrop (dCall (sp_ckbag K C_Effect) (dCons (dVar 0) dNil)))
    (dSeq (dDrop (dCall (sp_ckbag K C_Effect) (dCons (dVar 1) dNil)))
    (dRet (dCall (sp_subt K C_Effect) (dCons (dVar 0) (dCons (dVar 1) dNil))))))
def t_fault (K : PySem.W.Frag) (C_Effect : Addr) : DTS :=
    (dSeq (dSet 3 (dCall (sp_subt K C_Effect) (dCons (dVar 0) (dCons (dVar 2) dNil))))
    (dSeq (dIfS (dB (dIsN (dVar 3))) (dRet (dC (.str (PySem.Str.ofString "survivors")))) dNext)
    (dRet (dIf (dB (dGt (dCall (sp_total K C_Effect) (dCons (dVar 3) dNil)) (dVar 1))) (dC (.str (PySem.Str.ofString "removals"))) (dC .non)))))
def t_init (K : PySem.W.Frag) (C_Effect : Addr) : DTS :=
    (dSeq (dDrop (dCall (sp_ckbag K C_Effect) (dCons (dVar 1) dNil)))
    (dSeq (dDrop (dCall (sp_ckcnt K C_Effect) (dCons (dVar 2) dNil)))
    (dSeq (dDrop (dCall (sp_ckbag K C_Effect) (dCons (dVar 3) dNil)))
    (dSeq (dSet 4 (dCall (sp_fault K C_Effect) (dCons (dVar 1) (dCons (dVar 2) (dCons (dVar 3) dNil)))))
    (dSeq (dIfS (dB (dNotN (dVar 4))) dNever dNext)
    (dPutF C_Effect (dVar 0) (dTup (dCons (dVar 1) (dCons (dVar 2) (dCons (dVar 3) dNil)))) (PySem.Str.ofString "own_parts")))))))
def t_p_ins (K : PySem.W.Frag) (C_Effect : Addr) : DTS :=
    (dRet (dIx (dFld C_Effect (dVar 0) (PySem.Str.ofString "own_parts")) (dC (.int 0))))
def t_p_rem (K : PySem.W.Frag) (C_Effect : Addr) : DTS :=
    (dRet (dIx (dFld C_Effect (dVar 0) (PySem.Str.ofString "own_parts")) (dC (.int 1))))
def t_p_sur (K : PySem.W.Frag) (C_Effect : Addr) : DTS :=
    (dRet (dIx (dFld C_Effect (dVar 0) (PySem.Str.ofString "own_parts")) (dC (.int 2))))
def t_p_con (K : PySem.W.Frag) (C_Effect : Addr) : DTS :=
    (dRet (dCall (sp_subt K C_Effect) (dCons (dIx (dFld C_Effect (dVar 0) (PySem.Str.ofString "own_parts")) (dC (.int 0))) (dCons (dIx (dFld C_Effect (dVar 0) (PySem.Str.ofString "own_parts")) (dC (.int 2))) dNil))))
def t_p_need (K : PySem.W.Frag) (C_Effect : Addr) : DTS :=
    (dRet (dAdd (dSub (dIx (dFld C_Effect (dVar 0) (PySem.Str.ofString "own_parts")) (dC (.int 1))) (dCall (sp_total K C_Effect) (dCons (dIx (dFld C_Effect (dVar 0) (PySem.Str.ofString "own_parts")) (dC (.int 0))) dNil))) (dCall (sp_total K C_Effect) (dCons (dIx (dFld C_Effect (dVar 0) (PySem.Str.ofString "own_parts")) (dC (.int 2))) dNil))))
def t_m_pool (K : PySem.W.Frag) (C_Effect : Addr) : DTS :=
    (dSeq (dDrop (dCall (sp_ckbag K C_Effect) (dCons (dVar 1) dNil)))
    (dSeq (dIfS (dB (dLt (dCall (sp_total K C_Effect) (dCons (dVar 1) dNil)) (dProp C_Effect (sp_p_need K C_Effect) (dVar 0)))) dNever dNext)
    (dRet (dCall (sp_add K C_Effect) (dCons (dVar 1) (dCons (dProp C_Effect (sp_p_con K C_Effect) (dVar 0)) dNil))))))
def t_m_apply (K : PySem.W.Frag) (C_Effect : Addr) : DTS :=
    (dRet (dCall (sp_add K C_Effect) (dCons (dProp C_Effect (sp_p_sur K C_Effect) (dVar 0)) (dCons (dCall (sp_drop K C_Effect) (dCons (dMeth C_Effect (PySem.Str.ofString "pool") (sp_m_pool K C_Effect) (dVar 0) (dCons (dVar 1) dNil)) (dCons (dProp C_Effect (sp_p_rem K C_Effect) (dVar 0)) dNil))) dNil))))
def t_m_removed (K : PySem.W.Frag) (C_Effect : Addr) : DTS :=
    (dRet (dCall (sp_take K C_Effect) (dCons (dMeth C_Effect (PySem.Str.ofString "pool") (sp_m_pool K C_Effect) (dVar 0) (dCons (dVar 1) dNil)) (dCons (dProp C_Effect (sp_p_rem K C_Effect) (dVar 0)) dNil))))
def t_pool (K : PySem.W.Frag) (C_Effect : Addr) : DTS :=
    (dSeq (dSet 2 (dAdd (dMulW (dC (.int 11)) (dCB cSum (dCons (dSl (dVar 0) dNoPart (dPart (dC (.int 63)))) dNil))) (dVar 1)))
    (dSeq (dIfS (dB (dLt (dVar 1) (dCB cLen (dCons (dVar 0) dNil)))) (dSet 2 (dIx (dVar 0) (dVar 1))) dNext)
    (dSeq (dSet 3 (dCB (cI1 fun i => if i < 0 then -i else i) (dCons (dVar 2) dNil)))
    (dSeq (dSet 4 (dMod (dMulW (dAdd (dAdd (dAdd (dMod (dVar 3) (dC (.int 2147483629))) (dMulW (dMulW (dC (.int 7919)) (dVar 1)) (dVar 1))) (dMulW (dC (.int 31)) (dVar 1))) (dC (.int 17))) (dC (.int 48271))) (dC (.int 2147483647))))
    (dRet (dLstM (dCons (dMulW (dVar 3) (dCB cInt (dCons (dGe (dVar 3) (dPow (dC (.int 10)) (dC (.int 18)))) dNil))) (dCons (dMod (dMulW (dVar 4) (dVar 4)) (dC (.int 2147483629))) dNil))))))))
def t_draw (K : PySem.W.Frag) (C_Effect : Addr) : DTS :=
    (dSeq (dIfS (dB (dGt (dIx (dVar 0) (dC (.int 0))) (dC (.int 0)))) (dSeq (dSet 2 (dMod (dIx (dVar 0) (dC (.int 0))) (dVar 1)))
    (dSeq (dAsg (dFdiv (dIx (dVar 0) (dC (.int 0))) (dVar 1)) (dgIx (dVar 0) (dC (.int 0))))
    (dRet (dVar 2)))) dNext)
    (dSeq (dAsg (dMod (dAdd (dMulW (dIx (dVar 0) (dC (.int 1))) (dC (.int 48271))) (dC (.int 11))) (dC (.int 2147483647))) (dgIx (dVar 0) (dC (.int 1))))
    (dRet (dMod (dFdiv (dMod (dMulW (dIx (dVar 0) (dC (.int 1))) (dIx (dVar 0) (dC (.int 1)))) (dC (.int 2147483629))) (dC (.int 16))) (dVar 1)))))
def t_great (K : PySem.W.Frag) (C_Effect : Addr) : DTS :=
    (dSeq (dPar3 1 2 3 (dCons (dLstM dNil) (dCons (dLstM dNil) (dCons (dC (.int 0)) dNil))))
    (dSeq (dFor (dWR2 (dCons (dNeg (dC (.int 3))) (dCons (dC (.int 4)) dNil))) (dgN 4)
    (dSeq (dSet 5 (dIx (dLst (dCons (dC (.int 0)) (dCons (dCall (sp_draw K C_Effect) (dCons (dVar 0) (dCons (dC (.int 4)) dNil))) (dCons (dCall (sp_draw K C_Effect) (dCons (dVar 0) (dCons (dPow (dC (.int 10)) (dC (.int 30))) dNil))) dNil)))) (dCall (sp_draw K C_Effect) (dCons (dVar 0) (dCons (dC (.int 3)) dNil)))))
    (dSeq (dSet 6 (dIx (dLst (dCons (dC (.int 0)) (dCons (dVar 5) (dCons (dCall (sp_draw K C_Effect) (dCons (dVar 0) (dCons (dAdd (dVar 5) (dC (.int 1))) dNil))) dNil)))) (dCall (sp_draw K C_Effect) (dCons (dVar 0) (dCons (dC (.int 3)) dNil)))))
    (dSeq (dDrop (dApp (dVar 1) (dTup (dCons (dVar 4) (dCons (dVar 5) dNil)))))
    (dSeq (dDrop (dApp (dVar 2) (dTup (dCons (dVar 4) (dCons (dVar 6) dNil)))))
    (dSet 3 (dSub (dAdd (dVar 3) (dVar 5)) (dVar 6))))))))
    (dSeq (dFrz 1 (dSet 1 (dCB cTup (dCons (dLc (dWL (dVar 1)) (.one 8) (dB (dGt (dIx (dVar 8) (dC (.int 1))) (dC (.int 0)))) (dVar 8) [8]) dNil))))
    (dSeq (dFrz 2 (dSet 2 (dCB cTup (dCons (dLc (dWL (dVar 2)) (.one 8) (dB (dGt (dIx (dVar 8) (dC (.int 1))) (dC (.int 0)))) (dVar 8) [8]) dNil))))
    (dSeq (dSet 7 (dIx (dLst (dCons (dC (.int 0)) (dCons (dCall (sp_draw K C_Effect) (dCons (dVar 0) (dCons (dC (.int 4)) dNil))) (dCons (dCall (sp_draw K C_Effect) (dCons (dVar 0) (dCons (dPow (dC (.int 10)) (dC (.int 30))) dNil))) dNil)))) (dCall (sp_draw K C_Effect) (dCons (dVar 0) (dCons (dC (.int 3)) dNil)))))
    (dRet (dMake C_Effect (sp_init K C_Effect) (dCons (dVar 1) (dCons (dAdd (dVar 3) (dVar 7)) (dCons (dVar 2) dNil))))))))))
def tb_law_1 (K : PySem.W.Frag) (C_Effect : Addr) : DTS :=
    (dSeq (dSet 7 (dIx (dLst (dCons (dC (.int 0)) (dCons (dCall (sp_draw K C_Effect) (dCons (dVar 2) (dCons (dC (.int 4)) dNil))) (dCons (dCall (sp_draw K C_Effect) (dCons (dVar 2) (dCons (dPow (dC (.int 10)) (dC (.int 30))) dNil))) dNil)))) (dCall (sp_draw K C_Effect) (dCons (dVar 2) (dCons (dC (.int 3)) dNil)))))
    (dDrop (dApp (dVar 5) (dTup (dCons (dVar 6) (dCons (dAdd (dVar 7) (dMulW (dProp C_Effect (sp_p_need K C_Effect) (dVar 4)) (dCB cInt (dCons (dEq (dVar 6) (dC (.int 5))) dNil)))) dNil))))))
def tb_law_2 (K : PySem.W.Frag) (C_Effect : Addr) : DTS :=
    (dSeq (dSet 12 (dSub (dCall (sp_atmost K C_Effect) (dCons (dProp C_Effect (sp_p_ins K C_Effect) (dVar 4)) (dCons (dVar 6) dNil))) (dProp C_Effect (sp_p_rem K C_Effect) (dVar 4))))
    (dSeq (dSet 13 (dCB (cI2 fun i j => if j > i then j else i) (dCons (dAdd (dCall (sp_atmost K C_Effect) (dCons (dVar 8) (dCons (dVar 6) dNil))) (dVar 12)) (dCons (dCall (sp_atmost K C_Effect) (dCons (dProp C_Effect (sp_p_sur K C_Effect) (dVar 4)) (dCons (dVar 6) dNil))) dNil))))
    (dIfS (dB (dNe (dCall (sp_atmost K C_Effect) (dCons (dVar 10) (dCons (dVar 6) dNil))) (dVar 13))) (dRet (dC (.bl false))) dNext)))
def tb_law_3 (K : PySem.W.Frag) (C_Effect : Addr) : DTS :=
    (dSeq (dPar 4 5 (dCons (dCall (sp_great K C_Effect) (dCons (dVar 2) dNil)) (dCons (dLstM dNil) dNil)))
    (dSeq (dFor (dWR2 (dCons (dNeg (dC (.int 4))) (dCons (dC (.int 6)) dNil))) (dgN 6)
    (tb_law_1 K C_Effect))
    (dSeq (dFrz 5 (dSet 8 (dCB cTup (dCons (dLc (dWL (dVar 5)) (.one 14) (dB (dGt (dIx (dVar 14) (dC (.int 1))) (dC (.int 0)))) (dVar 14) [14]) dNil))))
    (dSeq (dPar 9 10 (dCons (dMeth C_Effect (PySem.Str.ofString "removed") (sp_m_removed K C_Effect) (dVar 4) (dCons (dVar 8) dNil)) (dCons (dMeth C_Effect (PySem.Str.ofString "apply") (sp_m_apply K C_Effect) (dVar 4) (dCons (dVar 8) dNil)) dNil)))
    (dSeq (dIfS (dOrT (dB (dNe (dCall (starSp (sp_union K C_Effect)) (dCons (dVar 9) (dCons (dVar 10) dNil))) (dCall (starSp (sp_union K C_Effect)) (dCons (dVar 8) (dCons (dProp C_Effect (sp_p_ins K C_Effect) (dVar 4)) dNil))))) (dB (dNe (dCall (sp_sizeof K C_Effect) (dCons (dVar 9) dNil)) (dProp C_Effect (sp_p_rem K C_Effect) (dVar 4))))) (dRet (dC (.bl false))) dNext)
    (dSeq (dSet 11 (dCall (sp_diff K C_Effect) (dCons (dVar 10) (dCons (dProp C_Effect (sp_p_sur K C_Effect) (dVar 4)) dNil))))
    (dSeq (dIfS (dOrT (dB (dIsN (dVar 11))) (dAndT (dB (dNe (dVar 11) (dTup dNil))) (dAndT (dB (dNe (dVar 9) (dTup dNil))) (dB (dGt (dIx (dIx (dVar 9) (dNeg (dC (.int 1)))) (dC (.int 0))) (dIx (dIx (dVar 11) (dC (.int 0))) (dC (.int 0)))))))) (dRet (dC (.bl false))) dNext)
    (dFor (dWR2 (dCons (dNeg (dC (.int 5))) (dCons (dC (.int 7)) dNil))) (dgN 6)
    (tb_law_2 K C_Effect)))))))))
def tb_law_4 (K : PySem.W.Frag) (C_Effect : Addr) : DTS :=
    (dSeq (dSet 2 (dCall (sp_pool K C_Effect) (dCons (dVar 0) (dCons (dVar 1) dNil))))
    (dFor (dWR1 (dCons (dC (.int 3)) dNil)) (dgN 3)
    (tb_law_3 K C_Effect)))
def t_law (K : PySem.W.Frag) (C_Effect : Addr) : DTS :=
    (dSeq (dFor (dWR1 (dCons (dCB (cI2 fun i j => if j > i then j else i) (dCons (dC (.int 1)) (dCons (dCB (cI2 fun i j => if j < i then j else i) (dCons (dCB cLen (dCons (dVar 0) dNil)) (dCons (dC (.int 6)) dNil))) dNil))) dNil)) (dgN 1)
    (tb_law_4 K C_Effect))
    (dRet (dC (.bl true))))
end G
namespace G
open PySem PySem.Spec PyProof.Rows L2 DL
local macro_rules | `(tactic| walk_at "dl") => `(tactic| simp only [ends, dSeq, dSet, dRet, dRetN, dIfS, dNext, dDrop, dCB, dCall, dCons, dNil, dVar, dC, dOp, dI, dI0, dB, dNotT, dAndT, dOrT, dAnd, dOr, dNot, dIf, dNeg, dTup, dLst, dLstM, dAsg, dgTup, dgCons, dgN, dgNil, dPar, dPar3, dAugI, dFor, dWT, dWL, dApp, dIsN, dNotN, DL.isNon, cI2, cI1, dLc, dLcD, dFld, dProp, dMeth, dMake, dPutF, dDPut, dDGet2, List.getElem?_cons_zero, List.getElem?_cons_succ, List.set_cons_zero, List.set_cons_succ, List.set_nil, exN])
variable {K : PySem.W.Frag} {C : Addr}
/-! ### data of bags -/
theorem pairsK_bag (b : B) : pairsK (b.map prD) = some (kD b) := by
  induction b with
  | nil => rfl
  | cons p b ih => simp only [List.map_cons, pairsK, dKey, ih, Option.map_some, kD]
theorem kD_keys (b : B) : (kD b).map (·.1) = (b.map (·.1)).map Sum.inl := by simp [kD]
theorem kD_len (b : B) : (kD b).length = b.length := by simp [kD]
theorem inl_nodup {l : List Int} (h : l.Nodup) : (l.map (Sum.inl : Int → Key)).Nodup := by
  rw [List.nodup_iff_pairwise_ne] at h ⊢
  rw [List.pairwise_map]
  exact h.imp fun hn e => hn (Sum.inl.inj e)
theorem merge_bag {b : B} (h : (b.map (·.1)).Nodup) : mergeKD [] (kD b) = kD b := by
  have := merge_nd (kD b) [] (by rw [List.nil_append, kD_keys]; exact inl_nodup h)
  rwa [List.nil_append] at this
theorem getKD_bag (c : B) (n : Int) : getKD (kD c) (.inl n) = (getB c n).map D.int := by
  induction c with
  | nil => rfl
  | cons p c ih =>
    unfold getKD getB kD at ih ⊢
    simp only [List.map_cons, List.find?_cons, Sum.inl.injEq]
    by_cases e : p.1 = n
    · simp [e]
    · simp only [e, decide_false]
      exact ih
theorem putKD_bag (c : B) (n v : Int) : putKD (kD c) (.inl n) (.int v) = kD (putB c n v) := by
  unfold putKD putB kD
  have e : ((c.map fun p => ((Sum.inl p.1, D.int p.2) : Key × D)).any fun kv => decide (kv.1 = Sum.inl n)) = c.any fun p => decide (p.1 = n) := by
    rw [List.any_map]
    congr 1
    funext p
    simp
  rw [e]
  split
  · rw [List.map_map, List.map_map]
    apply List.map_congr_left
    intro p _
    simp only [Function.comp, Sum.inl.injEq]
    split <;> rfl
  · rw [List.map_append]
    rfl
theorem getD_bag {c : B} (h : (c.map (·.1)).Nodup) (n : Int) : (getKD (kD c) (.inl n)).getD (.int 0) = .int (cnt c n) := by
  rw [getKD_bag, ← getB_cnt h]
  cases getB c n <;> rfl
theorem okDs_ints (ns : List Int) : okDs (ns.map D.int) = true := by
  induction ns with
  | nil => rfl
  | cons n ns ih => simp only [List.map_cons, okDs, okD, ih, Bool.and_self]
theorem deps_ints (ns : List Int) : deps (ns.map D.int) = 0 := by
  induction ns with
  | nil => rfl
  | cons n ns ih => simp only [List.map_cons, deps, dep, ih]; rfl
theorem noBls_ints (ns : List Int) : noBls (ns.map D.int) = true := by
  induction ns with
  | nil => rfl
  | cons n ns ih => simp only [List.map_cons, noBls, noBl, ih, Bool.and_self]
theorem okDs_prs (b : B) : okDs (b.map prD) = true := by
  induction b with
  | nil => rfl
  | cons n ns ih => simp only [List.map_cons, okDs, okD, ih, Bool.and_self]
theorem deps_prs (b : B) : deps (b.map prD) ≤ 1 := by
  induction b with
  | nil => exact Nat.zero_le _
  | cons n ns ih => simp only [List.map_cons, deps, dep]; exact Nat.max_le.mpr ⟨Nat.le_refl _, ih⟩
theorem noBls_prs (b : B) : noBls (b.map prD) = true := by
  induction b with
  | nil => rfl
  | cons n ns ih => simp only [List.map_cons, noBls, noBl, ih, Bool.and_self]
/-- data that may be compared with any other such -/
structure Cmp (d : D) : Prop where
  ok : okD d = true
  nb : noBl d = true
  dp : dep d ≤ 60
theorem Cmp.eq {x y : D} (h : Cmp x) (g : Cmp y) : EqC x y := ⟨h.ok, g.ok, eqOk_no h.nb g.nb, h.dp, g.dp⟩
theorem cmp_int (i : Int) : Cmp (.int i) := ⟨rfl, rfl, Nat.zero_le _⟩
theorem cmp_bag (b : B) : Cmp (bagD b) := ⟨by unfold okD; exact okDs_prs b, by unfold noBl; exact noBls_prs b, by unfold dep; have := deps_prs b; omega⟩
theorem cmp_ints (ns : List Int) : Cmp (.lst (ns.map D.int)) := ⟨by unfold okD; exact okDs_ints ns, by unfold noBl; exact noBls_ints ns, by unfold dep; rw [deps_ints]; decide⟩
theorem prD_inj {p q : Int × Int} (h : prD p = prD q) : p = q := by
  simp only [prD, D.tup.injEq, List.cons.injEq, D.int.injEq, and_true] at h
  exact Prod.ext h.1 h.2
theorem prs_inj : ∀ {a b : B}, a.map prD = b.map prD → a = b
  | [], [], _ => rfl
  | [], _ :: _, h => by simp at h
  | _ :: _, [], h => by simp at h
  | p :: a, q :: b, h => by
    simp only [List.map_cons, List.cons.injEq] at h
    have h1 : prD p = prD q := h.1
    rw [prD_inj h1, prs_inj h.2]
theorem bagD_inj {a b : B} (h : bagD a = bagD b) : a = b := by
  simp only [bagD, D.tup.injEq] at h
  exact prs_inj h
/-! ### the small ones -/
theorem rd_isint (ds : List D) (M : MH) (Q : D → MH → Prop) (E : EX) (h : sp_isint K C ds M Q E) : t_isint K C (ends Q E) (startD N_isint ds) M := by
  unfold sp_isint at h
  split at h
  rotate_left
  · exact h.elim
  rename_i x
  obtain ⟨n, hn, k⟩ := h
  have e0 : startD N_isint [x] = [some x] := rfl
  rw [e0, t_isint]
  walk_at "dl"
  refine cIsi_b hn ?_
  cases e : instB n "int" with
  | false =>
    rw [e] at k
    exact ret_same k
  | true =>
    rw [e] at k
    refine cIsi_b hn ?_
    exact ret_same k
theorem rd_iscnt (ds : List D) (M : MH) (Q : D → MH → Prop) (E : EX) (h : sp_iscnt K C ds M Q E) : t_iscnt K C (ends Q E) (startD N_iscnt ds) M := by
  unfold sp_iscnt at h
  split at h
  rotate_left
  · exact h.elim
  rename_i i
  have e0 : startD N_iscnt [D.int i] = [some (.int i)] := rfl
  rw [e0, t_iscnt]
  walk_at "dl"
  exact ⟨"int", rfl, ret_same h⟩
theorem rd_ckcnt (ds : List D) (M : MH) (Q : D → MH → Prop) (E : EX) (h : sp_ckcnt K C ds M Q E) : t_ckcnt K C (ends Q E) (startD N_ckcnt ds) M := by
  unfold sp_ckcnt at h
  split at h
  rotate_left
  · exact h.elim
  rename_i i
  obtain ⟨hi, k⟩ := h
  have e0 : startD N_ckcnt [D.int i] = [some (.int i)] := rfl
  rw [e0, t_ckcnt]
  walk_at "dl"
  show (if (!decide (0 ≤ i)) = true then _ else _)
  rw [decide_eq_true hi, if_neg (by decide)]
  exact ret_same k
theorem rd_ckbag (ds : List D) (M : MH) (Q : D → MH → Prop) (E : EX) (h : sp_ckbag K C ds M Q E) : t_ckbag K C (ends Q E) (startD N_ckbag ds) M := by
  unfold sp_ckbag at h
  split at h
  rotate_left
  · exact h.elim
  obtain ⟨b, rfl, w, hl, k⟩ := h
  have e0 : startD N_ckbag [bagD b] = [some (bagD b)] := rfl
  rw [e0, t_ckbag]
  walk_at "dl"
  refine ⟨b, rfl, w, hl, ?_⟩
  show (if (!true) = true then _ else _)
  rw [if_neg (by decide)]
  exact ret_same k
/-! ### dicts and bags -/
theorem rd_fc (ds : List D) (M : MH) (Q : D → MH → Prop) (E : EX) (h : sp_fc K C ds M Q E) : t_fc K C (ends Q E) (startD N_fc ds) M := by
  unfold sp_fc at h
  split at h
  rotate_left
  · exact h.elim
  rename_i p
  obtain ⟨c, hM, nd, hl, k⟩ := h
  have e0 : startD N_fc [D.ref p] = [some (.ref p), none, none] := rfl
  rw [e0, t_fc]
  walk_at "dl"
  refine ⟨p, kD c, rfl, hM, fun A hA => ?_⟩
  have hne : A ≠ p := fun e => by rw [e, hM] at hA; cases hA
  refine lcL_map (fun d => match d with | .pr [_, .int v] => decide (0 < v) | _ => false) (fun d => match d with | .pr [x, y] => .tup [x, y] | _ => .non) (itemsD (kD c)) [] _ (by simp [itemsD, kD_len]; exact hl) sett_same (fun d hd M' R hR => ?_) ?_
  · simp only [itemsD, kD, List.map_map, List.mem_map] at hd
    obtain ⟨q, hq, rfl⟩ := hd
    refine ⟨rfl, hR _ (fun Q' k' => ?_) fun hb Q' k' => ?_⟩
    · simp only [dB, dOp, dVar, dC, dI0, wipeD, setAll, List.getElem?_cons_zero, List.getElem?_cons_succ, List.set_cons_zero, List.set_cons_succ]
      exact k'
    · simp only [dTup, dCons, dNil, dVar, wipeD, setAll, List.getElem?_cons_zero, List.getElem?_cons_succ, List.set_cons_zero, List.set_cons_succ]
      exact ⟨by show 2 ≤ sizeLine; decide, k'⟩
  · have e1 : ((itemsD (kD c)).filter fun d => match d with | .pr [_, .int v] => decide (0 < v) | _ => false).map (fun d => match d with | .pr [x, y] => D.tup [x, y] | _ => .non) = (c.filter fun q => decide (0 < q.2)).map prD := by
      clear hM nd hl k
      induction c with
      | nil => rfl
      | cons q c ih =>
        simp only [itemsD, kD, List.map_cons, keyD] at ih ⊢
        by_cases hq : 0 < q.2
        · rw [List.filter_cons_of_pos (by simp [hq]), List.filter_cons_of_pos (by simp [hq]), List.map_cons, List.map_cons, ih]
        · rw [List.filter_cons_of_neg (by simp [hq]), List.filter_cons_of_neg (by simp [hq]), ih]
    refine ⟨sett_same, ?_⟩
    rw [List.nil_append, e1]
    simp only [cSortP, seqL, prs_map]
    intro qs hp hs
    simp only [cTup, seqT, seqL]
    have hpos : ∀ x ∈ qs, 0 < x.2 := fun x hx => by
      have := hp.mem_iff.mp hx
      rw [List.mem_filter] at this
      exact of_decide_eq_true this.2
    have hnd : (qs.map (·.1)).Nodup := ((hp.map (·.1)).nodup_iff).mpr (((List.filter_sublist).map _).nodup nd)
    refine ret_sub (M' := M) ?_ (k qs (wf_sorted hs hnd hpos) ?_ fun n => ?_)
    · intro a o e
      by_cases h1 : a = p
      · subst h1; rw [sett_same, ← hM]; exact e
      · rw [sett_ne h1]
        by_cases h2 : a = A
        · subst h2; rw [hA] at e; cases e
        · rw [dell_ne h2, sett_ne h2, sett_ne h2, dell_ne h1]; exact e
    · rw [hp.length_eq]; exact List.length_filter_le _ _
    · rw [show cnt qs n = _ from lin_perm _ hp]; exact cnt_filter nd n
end G
namespace G
open PySem PySem.Spec PyProof.Rows L2 DL
local macro_rules | `(tactic| walk_at "dl") => `(tactic| simp only [ends, dSeq, dSet, dRet, dRetN, dIfS, dNext, dDrop, dCB, dCall, dCons, dNil, dVar, dC, dOp, dI, dI0, dB, dNotT, dAndT, dOrT, dAnd, dOr, dNot, dIf, dNeg, dTup, dLst, dLstM, dAsg, dgTup, dgCons, dgN, dgNil, dPar, dPar3, dAugI, dFor, dWT, dWL, dApp, dIsN, dNotN, DL.isNon, cI2, cI1, dLc, dLcD, dFld, dProp, dMeth, dMake, dPutF, dDPut, dDGet2, List.getElem?_cons_zero, List.getElem?_cons_succ, List.set_cons_zero, List.set_cons_succ, List.set_nil, exN])
variable {K : PySem.W.Frag} {C : Addr}
/-- counts stored one by one -/
theorem cntLoop {N : DEnds} {b0 b1 : D} {p : Addr} {M : MH} {up : DTE → DTE → DTE} {s : Int} (hup : ∀ (x : Int) (y : Int) (n : Int) (u v : D) (M : MH) (P : D → MH → Prop) (E : EX) (c : B), M p = some (.dK (kD c)) → (c.map (·.1)).Nodup →
    P (.int (cnt c n + s * y)) M → up (dDGet2 (dVar 2) (dVar 3) (dC (.int 0))) (dVar 4) [some b0, some b1, some (.ref p), some (.int n), some (.int y)] M P E) :
    ∀ (bs : B) (c : B) (u v : Option D), (c.map (·.1)).Nodup → c.length + bs.length < sizeLine →
      (∀ (c' : B) (u v : Option D), (c'.map (·.1)).Nodup → c'.length ≤ c.length + bs.length → (∀ n, cnt c' n = cnt c n + s * cnt bs n) → N.nx [some b0, some b1, some (.ref p), u, v] (sett M p (.dK (kD c')))) →
      dLoop (dgTup 2 (dgCons (dgN 3) (dgCons (dgN 4) dgNil))) (dDPut (dVar 2) (dVar 3) (up (dDGet2 (dVar 2) (dVar 3) (dC (.int 0))) (dVar 4))) N (bs.map prD) [some b0, some b1, some (.ref p), u, v] (sett M p (.dK (kD c)))
  | [], c, u, v, nd, hl, k => by
    unfold dLoop
    exact k c u v nd (by simp) fun n => by rw [cnt_nil]; omega
  | q :: bs, c, u, v, nd, hl, k => by
    rw [List.map_cons]
    unfold dLoop
    rw [List.length_cons] at hl
    simp only [dgTup, dgCons, dgN, dgNil, List.set_cons_zero, List.set_cons_succ]
    refine ⟨rfl, trivial, ?_⟩
    unfold dDPut
    refine hup q.1 q.2 q.1 (.int q.1) (.int q.2) _ _ _ c sett_same nd ?_
    simp only [dVar, List.getElem?_cons_zero, List.getElem?_cons_succ, dKey, sett_same]
    refine ⟨by rw [kD_len]; omega, ?_⟩
    rw [putKD_bag, sett_sett]
    have hlen := putB_len c q.1 (cnt c q.1 + s * q.2)
    refine cntLoop hup bs _ _ _ (putB_nodup nd _ _) (by omega) fun c' u v nd' hl' hc => k c' u v nd' (by rw [List.length_cons]; omega) fun n => ?_
    rw [hc n, putB_cnt _ _ nd, cnt_cons]
    split
    · rename_i e; subst e
      rw [if_pos rfl, Int.mul_add]; omega
    · rename_i e
      rw [if_neg fun z => e z.symm, Int.zero_add]
theorem rd_add (ds : List D) (M : MH) (Q : D → MH → Prop) (E : EX) (h : sp_add K C ds M Q E) : t_add K C (ends Q E) (startD N_add ds) M := by
  unfold sp_add at h
  split at h
  rotate_left
  · exact h.elim
  obtain ⟨a, b, rfl, rfl, ha, hb, hl, k⟩ := h
  have e0 : startD N_add [bagD a, bagD b] = [some (bagD a), some (bagD b), none, none, none] := rfl
  rw [e0, t_add]
  simp only [dSeq, dSet, dCB, dCons, dNil, dVar, List.getElem?_cons_zero, List.set_cons_succ, List.set_cons_zero]
  show cDict [bagD a] M _
  simp only [cDict, pairsK_bag, merge_bag ha.nodup]
  intro p hp
  simp only [dFor, dWT, dVar, List.getElem?_cons_zero, List.getElem?_cons_succ]
  refine cntLoop (s := 1) (up := fun x y => dAdd x y) (fun x y n u v M' P E' c hM nd k' => ?_) b a none none ha.nodup (by omega) fun c u v nd hlc hc => ?_
  · simp only [dAdd, dOp, dI0, dDGet2, dVar, dC, List.getElem?_cons_zero, List.getElem?_cons_succ, hM, dKey, getD_bag nd]
    rw [show cnt c n + y = cnt c n + 1 * y by omega]
    exact k'
  · simp only [dRet, dCall, dCons, dNil, dVar, List.getElem?_cons_zero, List.getElem?_cons_succ]
    refine ⟨c, sett_same, nd, by omega, fun r wr lr hr => ?_⟩
    have hnn : ∀ n, 0 ≤ cnt c n := fun n => by
      have := hc n
      have := cnt_nn ha.nn n
      have := cnt_nn hb.nn n
      omega
    refine ret_sub (Sub.sett hp) (k r wr (by omega) fun n => ?_)
    have h1 := hr n
    have h2 := hnn n
    have h3 := hc n
    omega
theorem any_neg {c : B} (nd : (c.map (·.1)).Nodup) : (c.any fun q => decide (q.2 < 0)) = true ↔ ∃ n, cnt c n < 0 := by
  rw [List.any_eq_true]
  constructor
  · rintro ⟨q, hq, h⟩
    exact ⟨q.1, by rw [cnt_mem nd hq]; exact of_decide_eq_true h⟩
  · rintro ⟨n, hn⟩
    by_cases h : ∃ q ∈ c, q.1 = n
    · obtain ⟨q, hq, rfl⟩ := h
      rw [cnt_mem nd hq] at hn
      exact ⟨q, hq, decide_eq_true hn⟩
    · rw [cnt_out fun q hq e => h ⟨q, hq, e⟩] at hn
      omega
theorem rd_subt (ds : List D) (M : MH) (Q : D → MH → Prop) (E : EX) (h : sp_subt K C ds M Q E) : t_subt K C (ends Q E) (startD N_subt ds) M := by
  unfold sp_subt at h
  split at h
  rotate_left
  · exact h.elim
  obtain ⟨a, b, rfl, rfl, ha, hb, hl, k0, k⟩ := h
  have e0 : startD N_subt [bagD a, bagD b] = [some (bagD a), some (bagD b), none, none, none] := rfl
  rw [e0, t_subt]
  simp only [dSeq, dSet, dCB, dCons, dNil, dVar, List.getElem?_cons_zero, List.set_cons_succ, List.set_cons_zero]
  show cDict [bagD a] M _
  simp only [cDict, pairsK_bag, merge_bag ha.nodup]
  intro p hp
  simp only [dFor, dWT, dVar, List.getElem?_cons_zero, List.getElem?_cons_succ]
  refine cntLoop (s := -1) (up := fun x y => dSub x y) (fun x y n u v M' P E' c hM nd k' => ?_) b a none none ha.nodup (by omega) fun c u v nd hlc hc => ?_
  · simp only [dSub, dOp, dI0, dDGet2, dVar, dC, List.getElem?_cons_zero, List.getElem?_cons_succ, hM, dKey, getD_bag nd]
    rw [show cnt c n - y = cnt c n + -1 * y by omega]
    exact k'
  · simp only [dRet, dIf, dB, dCB, dCons, dNil]
    refine ⟨p, kD c, rfl, sett_same, fun A hA => ?_⟩
    have hne : A ≠ p := fun e => by rw [e, sett_same] at hA; cases hA
    have hMA : M A = none := by rw [sett_ne hne] at hA; exact hA
    refine lcL_map (fun _ => true) (fun d => match d with | .int v => .bl (decide (v < 0)) | _ => .non) ((kD c).map (·.2)) [] _ (by simp [kD_len]; omega) sett_same (fun d hd M' R hR => ?_) ?_
    · simp only [kD, List.map_map, List.mem_map] at hd
      obtain ⟨q, hq, rfl⟩ := hd
      refine hR _ (fun Q' k' => k') fun hb Q' k' => ?_
      simp only [dLt, dOp, dVar, dC, dI0, wipeD, List.getElem?_cons_zero, List.getElem?_cons_succ, List.set_cons_zero, List.set_cons_succ]
      exact k'
    · have e1 : (((kD c).map (·.2)).filter fun _ => true).map (fun d => match d with | .int v => D.bl (decide (v < 0)) | _ => .non) = (c.map fun q => decide (q.2 < 0)).map D.bl := by
        rw [List.filter_eq_self.mpr fun _ _ => rfl]
        simp only [kD, List.map_map]
        rfl
      refine ⟨sett_same, ?_⟩
      rw [List.nil_append, e1]
      have e2 : sett (dell (sett (sett (dell (sett M p (.dK (kD c))) p) A (.lst [])) A (.lst ((c.map fun q => decide (q.2 < 0)).map D.bl))) A) p (.dK (kD c)) = sett M p (.dK (kD c)) := by
        funext x
        by_cases h1 : x = p
        · subst h1; rw [sett_same, sett_same]
        · rw [sett_ne h1, sett_ne h1]
          by_cases h2 : x = A
          · subst h2; rw [dell_same, hMA]
          · rw [dell_ne h2, sett_ne h2, sett_ne h2, dell_ne h1, sett_ne h1]
      rw [e2]
      simp only [cBL, seqL, bls_map]
      have e3 : ((c.map fun q => decide (q.2 < 0)).any id) = c.any fun q => decide (q.2 < 0) := by rw [List.any_map]; rfl
      split
      · rename_i hneg
        have hneg := e3.symm.trans hneg
        obtain ⟨n, hn⟩ := (any_neg nd).mp hneg
        refine ret_sub (Sub.sett hp) (k0 ⟨n, ?_⟩)
        have := hc n
        omega
      · rename_i hneg
        have hneg : ¬ (c.any fun q => decide (q.2 < 0)) = true := fun z => hneg (e3.trans z)
        simp only [dCall, dCons, dNil, dVar, List.getElem?_cons_zero, List.getElem?_cons_succ]
        refine ⟨c, sett_same, nd, by omega, fun r wr lr hr => ?_⟩
        have hnn : ∀ n, 0 ≤ cnt c n := fun n => Int.not_lt.mp fun z => hneg ((any_neg nd).mpr ⟨n, z⟩)
        refine ret_sub (Sub.sett hp) (k r wr (by omega) fun n => ?_)
        have h1 := hr n
        have h2 := hnn n
        have h3 := hc n
        omega
theorem rd_total (ds : List D) (M : MH) (Q : D → MH → Prop) (E : EX) (h : sp_total K C ds M Q E) : t_total K C (ends Q E) (startD N_total ds) M := by
  unfold sp_total at h
  split at h
  rotate_left
  · exact h.elim
  obtain ⟨a, rfl, hl, k⟩ := h
  have e0 : startD N_total [bagD a] = [some (bagD a), none, none] := rfl
  rw [e0, t_total]
  walk_at "dl"
  intro A hA
  refine lcL_map (fun _ => true) (fun d => match d with | .tup [_, v] => v | _ => .non) (a.map prD) [] _ (by simp; exact hl) sett_same (fun d hd M' R hR => ?_) ?_
  · obtain ⟨q, hq, rfl⟩ := List.mem_map.mp hd
    refine ⟨rfl, hR _ (fun Q' k' => k') fun hb Q' k' => ?_⟩
    simp only [dVar, wipeD, setAll, List.getElem?_cons_zero, List.getElem?_cons_succ, List.set_cons_zero, List.set_cons_succ]
    exact k'
  · have e1 : ((a.map prD).filter fun _ => true).map (fun d => match d with | .tup [_, v] => v | _ => D.non) = (a.map (·.2)).map D.int := by
      rw [List.filter_eq_self.mpr fun _ _ => rfl, List.map_map, List.map_map]
      rfl
    refine ⟨sett_same, ?_⟩
    rw [List.nil_append, e1]
    simp only [cSum, cLI, seqL, DL.ints_map]
    refine ret_sub (M' := M) ?_ ?_
    · rw [sett_sett, dell_sett hA]; exact Sub.refl _
    · have : (a.map (·.2)).sum = tot a := by unfold tot lin; simp
      rw [this]
      exact k
end G
namespace G
open PySem PySem.Spec PyProof.Rows L2 DL
local macro_rules | `(tactic| walk_at "dl") => `(tactic| simp only [ends, dSeq, dSet, dRet, dRetN, dIfS, dNext, dDrop, dCB, dCall, dCons, dNil, dVar, dC, dOp, dI, dI0, dB, dNotT, dAndT, dOrT, dAnd, dOr, dNot, dIf, dNeg, dTup, dLst, dLstM, dAsg, dgTup, dgCons, dgN, dgNil, dPar, dPar3, dAugI, dFor, dWT, dWL, dApp, dIsN, dNotN, DL.isNon, cI2, cI1, dLc, dLcD, dFld, dProp, dMeth, dMake, dPutF, dDPut, dDGet2, List.getElem?_cons_zero, List.getElem?_cons_succ, List.set_cons_zero, List.set_cons_succ, List.set_nil, exN])
variable {K : PySem.W.Frag} {C : Addr}
/-- what stays when c are taken off from below -/
theorem lv_cons_wf {q : Int × Int} {b : B} (h : Wf (q :: b)) (n : Int) : lv (q :: b) n = if q.1 ≤ n then q.2 + lv b n else 0 := by
  rw [lv_cons]
  split
  · rfl
  · rename_i e
    rw [lv_low fun x hx => by have := h.head x hx; omega]
    omega
theorem atI_last {α : Type} (l : List α) (x : α) : atI (l ++ [x]) (-1) = some x := by
  unfold atI ixN
  rw [List.length_append, List.length_singleton]
  simp only [Int.natCast_add]
  have e : (-1 + ((l.length : Int) + ((1 : Nat) : Int))).toNat = l.length := by omega
  simp
  rw [if_pos (by omega)]
  simp only [Option.bind_some]
  have e : (-1 + ((l.length : Int) + 1)).toNat = l.length := by omega
  rw [e]
  simp
theorem atI_first {α : Type} (x : α) (l : List α) : atI (x :: l) 0 = some x := by
  unfold atI ixN
  simp
theorem dropLoop {N : DEnds} {b0 b1 : D} {p : Addr} {M : MH} : ∀ (b : B) (acc : B) (c : Int) (u v w : Option D), Wf b → 0 ≤ c → acc.length + b.length ≤ sizeLine →
    (∀ (r : B) (c' : Int) (u v w : Option D), Wf r → (∀ x ∈ r, ∃ y ∈ b, x.1 = y.1) → r.length ≤ b.length → (∀ n, lv r n = max 0 (lv b n - c)) → N.nx [some b0, some b1, some (.int c'), some (.ref p), u, v, w] (sett M p (.lst ((acc ++ r).map prD)))) →
    dLoop (dgTup 2 (dgCons (dgN 4) (dgCons (dgN 5) dgNil)))
    (dSeq (dSet 6 (dCB (cI2 fun i j => if j < i then j else i) (dCons (dVar 2) (dCons (dVar 5) dNil))))
    (dSeq (dAugI (fun i j => i - j) 2 (dVar 6))
    (dIfS (dB (dGt (dVar 5) (dVar 6))) (dDrop (dApp (dVar 3) (dTup (dCons (dVar 4) (dCons (dSub (dVar 5) (dVar 6)) dNil))))) dNext))) N (b.map prD) [some b0, some b1, some (.int c), some (.ref p), u, v, w] (sett M p (.lst (acc.map prD)))
  | [], acc, c, u, v, w, hw, hc, hl, k => by
    unfold dLoop
    have := k [] c u v w .nil (by simp) (by simp) fun n => by rw [lv_nil]; omega
    rwa [List.append_nil] at this
  | q :: b, acc, c, u, v, w, hw, hc, hl, k => by
    rw [List.map_cons]
    unfold dLoop
    rw [List.length_cons] at hl
    have hq := hw.pos q (by simp)
    walk_at "dl"
    refine ⟨rfl, trivial, ?_⟩
    show (if decide ((if q.2 < c then q.2 else c) < q.2) = true then _ else _)
    by_cases hcq : q.2 ≤ c
    · have e1 : (if q.2 < c then q.2 else c) = q.2 := by split <;> omega
      rw [e1, if_neg (by simp)]
      refine dropLoop b acc (c - q.2) _ _ _ hw.tail (by omega) (by omega) fun r c' u v w hr hm hlr hlv => k r c' u v w hr (fun x hx => ?_) (by rw [List.length_cons]; omega) fun n => ?_
      · obtain ⟨y, hy, e⟩ := hm x hx
        exact ⟨y, by simp [hy], e⟩
      · rw [hlv n, lv_cons_wf hw n]
        split
        · omega
        · rename_i e
          rw [lv_low fun x hx => by have := hw.head x hx; omega]
          omega
    · have e1 : (if q.2 < c then q.2 else c) = c := by split <;> omega
      rw [e1, if_pos (by simp; omega)]
      simp only [sett_same]
      refine ⟨by show 2 ≤ sizeLine; decide, by rw [List.length_map]; omega, ?_⟩
      rw [sett_sett, show acc.map prD ++ [.tup [.int q.1, .int (q.2 - c)]] = (acc ++ [(q.1, q.2 - c)]).map prD by simp, show c - c = 0 by omega]
      refine dropLoop b (acc ++ [(q.1, q.2 - c)]) 0 _ _ _ hw.tail (Int.le_refl _) (by rw [List.length_append, List.length_singleton]; omega) fun r c' u v w hr hm hlr hlv => ?_
      have hwr : Wf ((q.1, q.2 - c) :: r) := by
        refine ⟨List.pairwise_cons.mpr ⟨fun x hx => ?_, hr.srt⟩, fun x hx => ?_⟩
        · obtain ⟨y, hy, e⟩ := hm x hx
          have := hw.head y hy
          show q.1 < x.1
          omega
        · rcases List.mem_cons.mp hx with rfl | hx
          · show 1 ≤ q.2 - c
            omega
          · exact hr.pos x hx
      have := k ((q.1, q.2 - c) :: r) c' u v w hwr (fun x hx => ?_) (by simp only [List.length_cons]; omega) fun n => ?_
      · rwa [show acc ++ (q.1, q.2 - c) :: r = acc ++ [(q.1, q.2 - c)] ++ r by simp] at this
      · rcases List.mem_cons.mp hx with rfl | hx
        · exact ⟨q, by simp, rfl⟩
        · obtain ⟨y, hy, e⟩ := hm x hx
          exact ⟨y, by simp [hy], e⟩
      · rw [lv_cons_wf hwr n, lv_cons_wf hw n]
        have := hlv n
        have := lv_nn hw.tail.nn n
        show (if q.1 ≤ n then q.2 - c + lv r n else 0) = _
        split <;> omega
theorem rd_drop (ds : List D) (M : MH) (Q : D → MH → Prop) (E : EX) (h : sp_drop K C ds M Q E) : t_drop K C (ends Q E) (startD N_drop ds) M := by
  unfold sp_drop at h
  split at h
  rotate_left
  · exact h.elim
  rename_i c
  obtain ⟨a, rfl, wa, hl, hc, k⟩ := h
  have e0 : startD N_drop [bagD a, D.int c] = [some (bagD a), some (.int c), none, none, none, none, none] := rfl
  rw [e0, t_drop]
  simp only [dSeq, dPar, dCons, dNil, dVar, dLstM, List.getElem?_cons_zero, List.getElem?_cons_succ]
  refine ⟨Nat.zero_le _, fun p hp => ?_⟩
  simp only [dFor, dWT, dVar, List.getElem?_cons_zero, List.set_cons_succ, List.set_cons_zero]
  refine dropLoop (b0 := bagD a) (b1 := .int c) (p := p) (M := M) a [] c none none none wa hc (by simp; exact hl) fun r c' u v w hr _ hlr hlv => ?_
  walk_at "dl"
  rw [List.nil_append]
  simp only [cTup, seqT, seqL, sett_same]
  exact ret_sub (Sub.sett hp) (k r hr hlr hlv)
theorem takeLoop {N : DEnds} {b0 b1 : D} {p : Addr} {M : MH} : ∀ (b : B) (acc : B) (c : Int) (u v : Option D), Wf b → 0 ≤ c → acc.length + b.length ≤ sizeLine →
    (∀ (r : B) (c' : Int) (u v : Option D), Wf r → (∀ x ∈ r, ∃ y ∈ b, x.1 = y.1) → r.length ≤ b.length → (∀ n, lv r n = min (lv b n) c) → N.nx [some b0, some b1, some (.int c'), some (.ref p), u, v] (sett M p (.lst ((acc ++ r).map prD)))) →
    dLoop (dgTup 2 (dgCons (dgN 4) (dgCons (dgN 5) dgNil)))
    (dIfS (dB (dGt (dVar 2) (dC (.int 0)))) (dSeq (dDrop (dApp (dVar 3) (dTup (dCons (dVar 4) (dCons (dCB (cI2 fun i j => if j < i then j else i) (dCons (dVar 2) (dCons (dVar 5) dNil))) dNil)))))
    (dAugI (fun i j => i - j) 2 (dIx (dIx (dVar 3) (dNeg (dC (.int 1)))) (dC (.int 1))))) dNext) N (b.map prD) [some b0, some b1, some (.int c), some (.ref p), u, v] (sett M p (.lst (acc.map prD)))
  | [], acc, c, u, v, hw, hc, hl, k => by
    unfold dLoop
    have := k [] c u v .nil (by simp) (by simp) fun n => by rw [lv_nil]; omega
    rwa [List.append_nil] at this
  | q :: b, acc, c, u, v, hw, hc, hl, k => by
    rw [List.map_cons]
    unfold dLoop
    rw [List.length_cons] at hl
    have hq := hw.pos q (by simp)
    walk_at "dl"
    refine ⟨rfl, trivial, ?_⟩
    by_cases hc0 : 0 < c
    · rw [if_pos (by simp; omega)]
      simp only [sett_same]
      refine ⟨by show 2 ≤ sizeLine; decide, by rw [List.length_map]; omega, ?_⟩
      rw [sett_sett, show acc.map prD ++ [.tup [.int q.1, .int (if q.2 < c then q.2 else c)]] = (acc ++ [(q.1, if q.2 < c then q.2 else c)]).map prD by simp]
      have ea : atI ((acc ++ [(q.1, if q.2 < c then q.2 else c)]).map prD) (-1) = some (prD (q.1, if q.2 < c then q.2 else c)) := by
        rw [List.map_append]
        exact atI_last _ _
      simp only [dIx0, seqD, seqL, sett_same]
      have e2 : (-1 : Int) = -1 := rfl
      rw [show (-(1 : Int)) = -1 from rfl, ea]
      show (match atI [D.int q.1, D.int (if q.2 < c then q.2 else c)] 1 with | some d => _ | none => False)
      rw [show atI [D.int q.1, D.int (if q.2 < c then q.2 else c)] 1 = some (D.int (if q.2 < c then q.2 else c)) from rfl]
      show dLoop _ _ _ _ _ _
      refine takeLoop b (acc ++ [(q.1, if q.2 < c then q.2 else c)]) (c - if q.2 < c then q.2 else c) _ _ hw.tail (by split <;> omega) (by rw [List.length_append, List.length_singleton]; omega) fun r c' u v hr hm hlr hlv => ?_
      have hwr : Wf ((q.1, if q.2 < c then q.2 else c) :: r) := by
        refine ⟨List.pairwise_cons.mpr ⟨fun x hx => ?_, hr.srt⟩, fun x hx => ?_⟩
        · obtain ⟨y, hy, e⟩ := hm x hx
          have := hw.head y hy
          show q.1 < x.1
          omega
        · rcases List.mem_cons.mp hx with rfl | hx
          · show 1 ≤ (if q.2 < c then q.2 else c)
            split <;> omega
          · exact hr.pos x hx
      have := k ((q.1, if q.2 < c then q.2 else c) :: r) c' u v hwr (fun x hx => ?_) (by simp only [List.length_cons]; omega) fun n => ?_
      · rwa [show acc ++ (q.1, if q.2 < c then q.2 else c) :: r = acc ++ [(q.1, if q.2 < c then q.2 else c)] ++ r by simp] at this
      · rcases List.mem_cons.mp hx with rfl | hx
        · exact ⟨q, by simp, rfl⟩
        · obtain ⟨y, hy, e⟩ := hm x hx
          exact ⟨y, by simp [hy], e⟩
      · rw [lv_cons_wf hwr n, lv_cons_wf hw n]
        have h1 := hlv n
        have h2 := lv_nn hw.tail.nn n
        show (if q.1 ≤ n then (if q.2 < c then q.2 else c) + lv r n else 0) = _
        split <;> split at h1 <;> first | omega | (split <;> omega)
    · have e1 : c = 0 := by omega
      subst e1
      rw [if_neg (by simp)]
      refine takeLoop b acc 0 _ _ hw.tail (Int.le_refl _) (by omega) fun r c' u v hr hm hlr hlv => k r c' u v hr (fun x hx => ?_) (by rw [List.length_cons]; omega) fun n => ?_
      · obtain ⟨y, hy, e⟩ := hm x hx
        exact ⟨y, by simp [hy], e⟩
      · rw [hlv n, lv_cons_wf hw n]
        have := lv_nn hw.tail.nn n
        split
        · omega
        · rename_i e
          rw [lv_low fun x hx => by have := hw.head x hx; omega]
theorem rd_take (ds : List D) (M : MH) (Q : D → MH → Prop) (E : EX) (h : sp_take K C ds M Q E) : t_take K C (ends Q E) (startD N_take ds) M := by
  unfold sp_take at h
  split at h
  rotate_left
  · exact h.elim
  rename_i c
  obtain ⟨a, rfl, wa, hl, hc, k⟩ := h
  have e0 : startD N_take [bagD a, D.int c] = [some (bagD a), some (.int c), none, none, none, none] := rfl
  rw [e0, t_take]
  simp only [dSeq, dPar, dCons, dNil, dVar, dLstM, List.getElem?_cons_zero, List.getElem?_cons_succ]
  refine ⟨Nat.zero_le _, fun p hp => ?_⟩
  simp only [dFor, dWT, dVar, List.getElem?_cons_zero, List.set_cons_succ, List.set_cons_zero]
  refine takeLoop (b0 := bagD a) (b1 := .int c) (p := p) (M := M) a [] c none none wa hc (by simp; exact hl) fun r c' u v hr _ hlr hlv => ?_
  walk_at "dl"
  rw [List.nil_append]
  simp only [cTup, seqT, seqL, sett_same]
  exact ret_sub (Sub.sett hp) (k r hr hlr hlv)
end G
namespace G
open PySem PySem.Spec PyProof.Rows L2 DL
local macro_rules | `(tactic| walk_at "dl") => `(tactic| simp only [ends, dSeq, dSet, dRet, dRetN, dIfS, dNext, dDrop, dCB, dCall, dCons, dNil, dVar, dC, dOp, dI, dI0, dB, dNotT, dAndT, dOrT, dAnd, dOr, dNot, dIf, dNeg, dTup, dLst, dLstM, dAsg, dgTup, dgCons, dgN, dgNil, dPar, dPar3, dAugI, dFor, dWT, dWL, dApp, dIsN, dNotN, DL.isNon, cI2, cI1, dLc, dLcD, dFld, dProp, dMeth, dMake, dPutF, dDPut, dDGet2, List.getElem?_cons_zero, List.getElem?_cons_succ, List.set_cons_zero, List.set_cons_succ, List.set_nil, exN])
variable {K : PySem.W.Frag} {C : Addr}
theorem rd_diff (ds : List D) (M : MH) (Q : D → MH → Prop) (E : EX) (h : sp_diff K C ds M Q E) : t_diff K C (ends Q E) (startD N_diff ds) M := by
  unfold sp_diff at h
  split at h
  rotate_left
  · exact h.elim
  obtain ⟨a, b, rfl, rfl, ha, hb, hl, k0, k⟩ := h
  have e0 : startD N_diff [bagD a, bagD b] = [some (bagD a), some (bagD b)] := rfl
  rw [e0, t_diff]
  walk_at "dl"
  refine ⟨a, rfl, ha, by omega, b, rfl, hb, by omega, a, b, rfl, rfl, ha, hb, hl, fun z => ret_same (k0 z), fun r wr lr hr => ret_same (k r wr lr hr)⟩
theorem unionLoop {N : DEnds} {b0 : D} {M : MH} : ∀ (bs : List B) (acc : B) (u : Option D), (∀ b ∈ bs, Wf b) → Wf acc → acc.length + (bs.map List.length).sum < sizeLine →
    (∀ (r : B) (u : Option D), Wf r → r.length ≤ acc.length + (bs.map List.length).sum → (∀ n, cnt r n = cnt acc n + (bs.map fun b => cnt b n).sum) → N.nx [some b0, some (bagD r), u] M) →
    dLoop (dgN 2) (dSeq (dDrop (dCall (sp_ckbag K C) (dCons (dVar 2) dNil))) (dSet 1 (dCall (sp_add K C) (dCons (dVar 1) (dCons (dVar 2) dNil))))) N (bs.map bagD) [some b0, some (bagD acc), u] M
  | [], acc, u, hb, ha, hl, k => by
    unfold dLoop
    exact k acc u ha (by simp) fun n => by simp
  | b :: bs, acc, u, hb, ha, hl, k => by
    rw [List.map_cons]
    unfold dLoop
    rw [List.map_cons, List.sum_cons] at hl
    walk_at "dl"
    have hwb := hb b (by simp)
    refine ⟨b, rfl, hwb, by omega, acc, b, rfl, rfl, ha, hwb, by omega, fun r wr lr hr => ?_⟩
    refine unionLoop bs r _ (fun x hx => hb x (by simp [hx])) wr (by omega) fun r' u wr' lr' hr' => k r' u wr' (by rw [List.map_cons, List.sum_cons]; omega) fun n => ?_
    rw [hr' n, hr n, List.map_cons, List.sum_cons]
    omega
theorem rd_union (ds : List D) (M : MH) (Q : D → MH → Prop) (E : EX) (h : sp_union K C [.pr ds] M Q E) : t_union K C (ends Q E) (startD N_union [.pr ds]) M := by
  obtain ⟨bs, rfl, hb, hl, k⟩ := h
  have e0 : startD N_union [.pr (bs.map bagD)] = [some (.pr (bs.map bagD)), none, none] := rfl
  rw [e0, t_union]
  simp only [dSeq, dSet, dTup, dNil, List.set_cons_succ, List.set_cons_zero]
  refine ⟨Nat.zero_le _, ?_⟩
  simp only [dFor, dWT, dVar, List.getElem?_cons_zero]
  refine unionLoop bs [] none hb .nil (by simpa using hl) fun r u wr lr hr => ?_
  walk_at "dl"
  exact ret_same (k r wr (by simpa using lr) fun n => by rw [hr n, cnt_nil]; omega)
theorem rd_fault (ds : List D) (M : MH) (Q : D → MH → Prop) (E : EX) (h : sp_fault K C ds M Q E) : t_fault K C (ends Q E) (startD N_fault ds) M := by
  unfold sp_fault at h
  split at h
  rotate_left
  · exact h.elim
  rename_i x r y
  obtain ⟨a, b, rfl, rfl, ha, hb, hl, k0, k1, k2⟩ := h
  have e0 : startD N_fault [bagD a, .int r, bagD b] = [some (bagD a), some (.int r), some (bagD b), none] := rfl
  rw [e0, t_fault]
  walk_at "dl"
  refine ⟨a, b, rfl, rfl, ha, hb, hl, fun z => ?_, fun c wc lc hc => ?_⟩
  · simp only [List.getElem?_cons_zero, List.getElem?_cons_succ, DL.isNon, if_pos]
    exact ret_same (k0 z)
  · have hle : ∀ n, cnt b n ≤ cnt a n := fun n => by
      have := hc n
      have := cnt_nn wc.nn n
      omega
    simp only [List.getElem?_cons_zero, List.getElem?_cons_succ, DL.isNon, if_neg Bool.false_ne_true]
    refine ⟨c, rfl, by omega, ?_⟩
    rw [tot_sub hc]
    simp only [decide_eq_true_eq]
    split
    · rename_i z
      exact ret_same (k1 hle z)
    · rename_i z
      exact ret_same (k2 hle (by omega))
theorem wf_snoc {a : B} {q : Int × Int} {c : B} (h : Wf (a ++ q :: c)) : ∀ x ∈ a, x.1 < q.1 := fun x hx => (List.pairwise_append.mp h.srt).2.2 x hx q (by simp)
theorem isbagLoop {N : DEnds} {b0 : D} {p : Addr} {M : MH} : ∀ (c : B) (a : B) (u v w : Option D), Wf (a ++ c) → (a ++ c).length ≤ sizeLine →
    (∀ (M' : MH) (ρ : Ro), Sub M M' → N.nx ρ M') → M p = none →
    dLoop (dgN 2)
    (dSeq (dIfS (dOrT (dNotT (dB (dCB (cIsi K) (dCons (dVar 2) (dCons (dC (.ty "tuple")) dNil))))) (dB (dNe (dCB cLen (dCons (dVar 2) dNil)) (dC (.int 2))))) (dRet (dC (.bl false))) dNext)
    (dSeq (dAsg (dVar 2) (dgTup 2 (dgCons (dgN 3) (dgCons (dgN 4) dgNil))))
    (dSeq (dIfS (dOrT (dNotT (dB (dCall (sp_isint K C) (dCons (dVar 3) dNil)))) (dOrT (dNotT (dB (dCall (sp_isint K C) (dCons (dVar 4) dNil)))) (dB (dLt (dVar 4) (dC (.int 1)))))) (dRet (dC (.bl false))) dNext)
    (dSeq (dIfS (dAndT (dB (dNe (dVar 1) (dLst dNil))) (dB (dLe (dVar 3) (dIx (dVar 1) (dNeg (dC (.int 1))))))) (dRet (dC (.bl false))) dNext)
    (dDrop (dApp (dVar 1) (dVar 3))))))) N (c.map prD) [some b0, some (.ref p), u, v, w] (sett M p (.lst ((a.map (·.1)).map D.int)))
  | [], a, u, v, w, hw, hl, k, hp => by
    unfold dLoop
    exact k _ _ (Sub.sett hp)
  | q :: c, a, u, v, w, hw, hl, k, hp => by
    rw [List.map_cons]
    unfold dLoop
    have hlast := wf_snoc hw
    have hq := hw.pos q (by simp)
    walk_at "dl"
    refine cIsi_b (a := "tuple") rfl ?_
    show (if (!true) = true then _ else _)
    rw [if_neg (by decide)]
    refine ⟨(cmp_int _).eq (cmp_int _), ?_⟩
    show (if (!decide (D.int (([D.int q.1, D.int q.2] : List D).length : Int) = D.int 2)) = true then _ else _)
    rw [decide_eq_true (show D.int (([D.int q.1, D.int q.2] : List D).length : Int) = D.int 2 from rfl), if_neg (by decide)]
    refine ⟨rfl, trivial, "int", rfl, ?_⟩
    show (if (!true) = true then _ else _)
    rw [if_neg (by decide)]
    refine ⟨"int", rfl, ?_⟩
    show (if (!true) = true then _ else _)
    rw [if_neg (by decide), if_neg (by simp; omega)]
    refine ⟨Nat.zero_le _, ?_⟩
    have ev : vw (sett M p (.lst ((a.map (·.1)).map D.int))) (.ref p) = .lst ((a.map (·.1)).map D.int) := by simp only [vw, sett_same]
    have tail : dApp (dVar 1) (dVar 3) [some b0, some (.ref p), some (prD q), some (.int q.1), some (.int q.2)] (sett M p (.lst ((a.map (·.1)).map D.int))) (fun _ M1 => dLoop (dgN 2)
      (dSeq (dIfS (dOrT (dNotT (dB (dCB (cIsi K) (dCons (dVar 2) (dCons (dC (.ty "tuple")) dNil))))) (dB (dNe (dCB cLen (dCons (dVar 2) dNil)) (dC (.int 2))))) (dRet (dC (.bl false))) dNext)
      (dSeq (dAsg (dVar 2) (dgTup 2 (dgCons (dgN 3) (dgCons (dgN 4) dgNil))))
      (dSeq (dIfS (dOrT (dNotT (dB (dCall (sp_isint K C) (dCons (dVar 3) dNil)))) (dOrT (dNotT (dB (dCall (sp_isint K C) (dCons (dVar 4) dNil)))) (dB (dLt (dVar 4) (dC (.int 1)))))) (dRet (dC (.bl false))) dNext)
      (dSeq (dIfS (dAndT (dB (dNe (dVar 1) (dLst dNil))) (dB (dLe (dVar 3) (dIx (dVar 1) (dNeg (dC (.int 1))))))) (dRet (dC (.bl false))) dNext)
      (dDrop (dApp (dVar 1) (dVar 3))))))) N (c.map prD) [some b0, some (.ref p), some (prD q), some (.int q.1), some (.int q.2)] M1) (fun C f d M' => N.ex C f d [some b0, some (.ref p), some (prD q), some (.int q.1), some (.int q.2)] M') := by
      simp only [dApp, dVar, List.getElem?_cons_zero, List.getElem?_cons_succ, sett_same]
      rw [List.length_append, List.length_cons] at hl
      refine ⟨by rw [List.length_map, List.length_map]; omega, ?_⟩
      rw [sett_sett, show ((a.map (·.1)).map D.int) ++ [.int q.1] = ((a ++ [q]).map (·.1)).map D.int by simp]
      exact isbagLoop c (a ++ [q]) _ _ _ (by simpa using hw) (by simpa using (by rw [List.length_append, List.length_cons]; exact hl : (a ++ q :: c).length ≤ sizeLine)) k hp
    simp only [dNe0, ev]
    have ev2 : vw (sett M p (.lst ((a.map (·.1)).map D.int))) (.lst []) = .lst [] := rfl
    rw [ev2]
    refine ⟨(cmp_ints _).eq (cmp_ints []), ?_⟩
    rcases List.eq_nil_or_concat a with rfl | ⟨a', x, rfl⟩
    · show (if (!decide (D.lst [] = D.lst [])) = true then _ else _)
      rw [decide_eq_true rfl, if_neg (by decide), if_neg (by decide)]
      exact tail
    · have hne : ¬ (D.lst (((a' ++ [x]).map (·.1)).map D.int) = D.lst []) := by simp
      rw [show decide (D.lst ((((a'.concat x)).map (·.1)).map D.int) = D.lst []) = false from decide_eq_false (by simp), if_pos (by decide)]
      have ea : atI (((a'.concat x).map (·.1)).map D.int) (-(1 : Int)) = some (.int x.1) := by
        rw [List.concat_eq_append, List.map_append, List.map_append]
        exact atI_last _ _
      simp only [dIx0, seqD, seqL, sett_same, ea]
      have := hlast x (by simp)
      rw [decide_eq_false (by omega), if_neg (by decide)]
      simp only [dApp, dVar, List.getElem?_cons_zero, List.getElem?_cons_succ, sett_same] at tail
      exact tail
theorem rd_isbag (ds : List D) (M : MH) (Q : D → MH → Prop) (E : EX) (h : sp_isbag K C ds M Q E) : t_isbag K C (ends Q E) (startD N_isbag ds) M := by
  unfold sp_isbag at h
  split at h
  rotate_left
  · exact h.elim
  obtain ⟨b, rfl, w, hl, k⟩ := h
  have e0 : startD N_isbag [bagD b] = [some (bagD b), none, none, none, none] := rfl
  rw [e0, t_isbag]
  simp only [dSeq, dIfS, dNotT, dB, dCB, dCons, dNil, dVar, dC, List.getElem?_cons_zero]
  refine cIsi_b (a := "tuple") rfl ?_
  show (if (!true) = true then _ else _)
  rw [if_neg (by decide)]
  simp only [dNext, dSet, dLstM, dNil]
  refine ⟨Nat.zero_le _, fun p hp => ?_⟩
  simp only [dFor, dWT, dVar, List.getElem?_cons_zero, List.set_cons_succ, List.set_cons_zero]
  refine isbagLoop (K := K) (C := C) (b0 := bagD b) (p := p) (M := M) b [] none none none w hl (fun M' ρ hs => ?_) hp
  exact ret_sub hs k
end G
namespace G
open PySem PySem.Spec PyProof.Rows L2 DL
local macro_rules | `(tactic| walk_at "dl") => `(tactic| simp only [ends, dSeq, dSet, dRet, dRetN, dIfS, dNext, dDrop, dCB, dCall, dCons, dNil, dVar, dC, dOp, dI, dI0, dB, dNotT, dAndT, dOrT, dAnd, dOr, dNot, dIf, dNeg, dTup, dLst, dLstM, dAsg, dgTup, dgCons, dgN, dgNil, dPar, dPar3, dAugI, dFor, dWT, dWL, dApp, dIsN, dNotN, DL.isNon, cI2, cI1, dLc, dLcD, dFld, dProp, dMeth, dMake, dPutF, dDPut, dDGet2, List.getElem?_cons_zero, List.getElem?_cons_succ, List.set_cons_zero, List.set_cons_succ, List.set_nil, exN])
variable {K : PySem.W.Frag} {C : Addr}
theorem ifN {c a b : Prop} [Decidable c] (h : ¬ c) (k : b) : if c then a else b := by rw [if_neg h]; exact k
theorem ifY {c a b : Prop} [Decidable c] (h : c) (k : a) : if c then a else b := by rw [if_pos h]; exact k
theorem lk_no {e : Eff} {f : Str} (h : (f == PySem.Str.ofString "own_parts") = false) : ([PySem.Str.ofString "own_parts"].zip [partsD e]).lookup f = none := by
  simp only [List.zip_cons_cons, List.zip_nil_right, List.lookup, h]
theorem rd_init (ds : List D) (M : MH) (Q : D → MH → Prop) (E : EX) (h : sp_init K C ds M Q E) : t_init K C (ends Q E) (startD N_init ds) M := by
  unfold sp_init at h
  split at h
  rotate_left
  · exact h.elim
  rename_i x y r z
  obtain ⟨e, ok, rfl, rfl, rfl, hM, k⟩ := h
  have e0 : startD N_init [.ref x, bagD e.i, .int e.r, bagD e.s] = [some (.ref x), some (bagD e.i), some (.int e.r), some (bagD e.s), none] := rfl
  rw [e0, t_init]
  walk_at "dl"
  have hz := ok.sz
  have hline : sizeLine = 16777216 := rfl
  refine ⟨e.i, rfl, ok.wi, by omega, ok.r0, e.s, rfl, ok.ws, by omega, e.i, e.s, rfl, rfl, ok.wi, ok.ws, by omega, fun ⟨n, hn⟩ => ?_, fun _ hn => ?_, fun _ _ => ?_⟩
  · have := ok.le n; omega
  · have := ok.en; omega
  · walk_at "dl"
    refine ifN (by decide) ⟨by show 3 ≤ sizeLine; decide, ?_⟩
    simp only [hM]
    exact ⟨trivial, by decide, ret_same k⟩
theorem fld_eff {e : Eff} {M : MH} {i : Int} {d : D} (h : atI [bagD e.i, D.int e.r, bagD e.s] i = some d) {ρ : Ro} (h0 : ρ[0]? = some (some (effD C e))) {P : D → MH → Prop} {E : EX} (k : P d M) :
    dIx (dFld C (dVar 0) (PySem.Str.ofString "own_parts")) (dC (.int i)) ρ M P E := by
  have el : ([PySem.Str.ofString "own_parts"].zip [partsD e]).lookup (PySem.Str.ofString "own_parts") = some (partsD e) := by
    simp only [List.zip_cons_cons, List.zip_nil_right, List.lookup, beq_self_eq_true]
  simp only [dOp, dFld, dVar, dC, h0, insD, el, dIx0, seqD, h]
  exact ⟨trivial, k⟩
theorem rd_p_ins (ds : List D) (M : MH) (Q : D → MH → Prop) (E : EX) (h : sp_p_ins K C ds M Q E) : t_p_ins K C (ends Q E) (startD N_p_ins ds) M := by
  unfold sp_p_ins at h
  split at h
  rotate_left
  · exact h.elim
  obtain ⟨e, rfl, k⟩ := h
  rw [t_p_ins]
  unfold dRet
  exact fld_eff (e := e) rfl rfl (ret_same k)
theorem rd_p_rem (ds : List D) (M : MH) (Q : D → MH → Prop) (E : EX) (h : sp_p_rem K C ds M Q E) : t_p_rem K C (ends Q E) (startD N_p_rem ds) M := by
  unfold sp_p_rem at h
  split at h
  rotate_left
  · exact h.elim
  obtain ⟨e, rfl, k⟩ := h
  rw [t_p_rem]
  unfold dRet
  exact fld_eff (e := e) rfl rfl (ret_same k)
theorem rd_p_sur (ds : List D) (M : MH) (Q : D → MH → Prop) (E : EX) (h : sp_p_sur K C ds M Q E) : t_p_sur K C (ends Q E) (startD N_p_sur ds) M := by
  unfold sp_p_sur at h
  split at h
  rotate_left
  · exact h.elim
  obtain ⟨e, rfl, k⟩ := h
  rw [t_p_sur]
  unfold dRet
  exact fld_eff (e := e) rfl rfl (ret_same k)
theorem rd_p_con (ds : List D) (M : MH) (Q : D → MH → Prop) (E : EX) (h : sp_p_con K C ds M Q E) : t_p_con K C (ends Q E) (startD N_p_con ds) M := by
  unfold sp_p_con at h
  split at h
  rotate_left
  · exact h.elim
  obtain ⟨e, rfl, ok, k⟩ := h
  rw [t_p_con]
  unfold dRet dCall dCons
  refine fld_eff (e := e) rfl rfl ?_
  refine fld_eff (e := e) rfl rfl ?_
  unfold dNil
  have hz := ok.sz
  have hline : sizeLine = 16777216 := rfl
  refine ⟨e.i, e.s, rfl, rfl, ok.wi, ok.ws, by omega, fun ⟨n, hn⟩ => ?_, fun c wc lc hc => ret_same (k c wc lc hc)⟩
  have := ok.le n
  omega
theorem rd_p_need (ds : List D) (M : MH) (Q : D → MH → Prop) (E : EX) (h : sp_p_need K C ds M Q E) : t_p_need K C (ends Q E) (startD N_p_need ds) M := by
  unfold sp_p_need at h
  split at h
  rotate_left
  · exact h.elim
  obtain ⟨e, rfl, ok, k⟩ := h
  have hz := ok.sz
  have hline : sizeLine = 16777216 := rfl
  rw [t_p_need]
  unfold dRet dAdd dOp dSub dOp
  refine fld_eff (e := e) rfl rfl ?_
  unfold dCall dCons
  refine fld_eff (e := e) rfl rfl ?_
  unfold dNil
  refine ⟨e.i, rfl, by omega, ?_⟩
  simp only [dI0]
  refine fld_eff (e := e) rfl rfl ?_
  exact ⟨e.s, rfl, by omega, ret_same k⟩
theorem rd_m_pool (ds : List D) (M : MH) (Q : D → MH → Prop) (E : EX) (h : sp_m_pool K C ds M Q E) : t_m_pool K C (ends Q E) (startD N_m_pool ds) M := by
  unfold sp_m_pool at h
  split at h
  rotate_left
  · exact h.elim
  obtain ⟨e, b, rfl, rfl, ⟨ok, wb, lb, en⟩, k⟩ := h
  have e0 : startD N_m_pool [effD C e, bagD b] = [some (effD C e), some (bagD b)] := rfl
  rw [e0, t_m_pool]
  have hz := ok.sz
  have hline : sizeLine = 16777216 := rfl
  walk_at "dl"
  refine ⟨b, rfl, wb, by omega, b, rfl, by omega, rfl, e, rfl, ok, ?_⟩
  simp only [decide_eq_true_eq]
  rw [if_neg (by omega)]
  refine ⟨rfl, e, rfl, ok, fun c wc lc hc => ⟨b, c, rfl, rfl, wb, wc, by omega, fun r wr lr hr => ret_same (k r wr (by omega) fun n => ?_)⟩⟩
  rw [hr n, hc n]
theorem rd_m_apply (ds : List D) (M : MH) (Q : D → MH → Prop) (E : EX) (h : sp_m_apply K C ds M Q E) : t_m_apply K C (ends Q E) (startD N_m_apply ds) M := by
  unfold sp_m_apply at h
  split at h
  rotate_left
  · exact h.elim
  obtain ⟨e, b, rfl, rfl, en, k⟩ := h
  have e0 : startD N_m_apply [effD C e, bagD b] = [some (effD C e), some (bagD b)] := rfl
  rw [e0, t_m_apply]
  have hz := en.1.sz
  have lb := en.2.2.1
  have hline : sizeLine = 16777216 := rfl
  walk_at "dl"
  refine ⟨rfl, e, rfl, rfl, lk_no (by decide +kernel), e, b, rfl, rfl, en, fun q wq lq hq => ?_⟩
  refine ⟨rfl, e, rfl, q, rfl, wq, by omega, en.1.r0, fun r wr lr hr => ?_⟩
  refine ⟨e.s, r, rfl, rfl, en.1.ws, wr, by omega, fun u wu lu hu => ret_same (k u wu (by omega) fun n => ?_)⟩
  rw [lv_add hu n, hr n]
  have h1 : lv q n = lv b n + (lv e.i n - lv e.s n) := by
    have := lin_of_cnt (r := q) (a := b ++ e.i) (b := e.s) (s := -1) (fun n => by rw [hq n, cnt_append]; omega) (fun k => if k ≤ n then 1 else 0)
    rw [lin_append] at this
    unfold lv
    omega
  rw [h1]
theorem rd_m_removed (ds : List D) (M : MH) (Q : D → MH → Prop) (E : EX) (h : sp_m_removed K C ds M Q E) : t_m_removed K C (ends Q E) (startD N_m_removed ds) M := by
  unfold sp_m_removed at h
  split at h
  rotate_left
  · exact h.elim
  obtain ⟨e, b, rfl, rfl, en, k⟩ := h
  have e0 : startD N_m_removed [effD C e, bagD b] = [some (effD C e), some (bagD b)] := rfl
  rw [e0, t_m_removed]
  have hz := en.1.sz
  have lb := en.2.2.1
  have hline : sizeLine = 16777216 := rfl
  walk_at "dl"
  refine ⟨rfl, lk_no (by decide +kernel), e, b, rfl, rfl, en, fun q wq lq hq => ?_⟩
  refine ⟨rfl, e, rfl, q, rfl, wq, by omega, en.1.r0, fun r wr lr hr => ret_same (k r wr (by omega) fun n => ?_)⟩
  rw [hr n]
  have h1 : lv q n = lv b n + (lv e.i n - lv e.s n) := by
    have := lin_of_cnt (r := q) (a := b ++ e.i) (b := e.s) (s := -1) (fun n => by rw [hq n, cnt_append]; omega) (fun k => if k ≤ n then 1 else 0)
    rw [lin_append] at this
    unfold lv
    omega
  rw [h1]
/-! ### the law's draws -/
theorem mulOk_r {i j : Int} (h : -(2 ^ 64) < j ∧ j < 2 ^ 64) : IntMulOk i j := CMul.ok (.inr h)
theorem mulOk_l {i j : Int} (h : -(2 ^ 64) < i ∧ i < 2 ^ 64) : IntMulOk i j := CMul.ok (.inl h)
theorem rd_draw (ds : List D) (M : MH) (Q : D → MH → Prop) (E : EX) (h : sp_draw K C ds M Q E) : t_draw K C (ends Q E) (startD N_draw ds) M := by
  unfold sp_draw at h
  split at h
  rotate_left
  · exact h.elim
  rename_i p m
  obtain ⟨a, b, hM, ⟨hb0, hb1⟩, hm, hlog, k⟩ := h
  have e0 : startD N_draw [.ref p, .int m] = [some (.ref p), some (.int m), none] := rfl
  rw [e0, t_draw]
  have i0 : ∀ x y : D, atI [x, y] 0 = some x := fun _ _ => rfl
  have i1 : ∀ x y : D, atI [x, y] 1 = some y := fun _ _ => rfl
  have n0 : ixN 2 0 = some 0 := rfl
  have n1 : ixN 2 1 = some 1 := rfl
  walk_at "dl"
  simp only [dIx0, seqD, seqL, hM, i0, i1, decide_eq_true_eq, dgIx, dVar, dC, List.getElem?_cons_zero, List.length_cons, List.length_nil]
  split
  · refine ⟨by omega, ⟨by omega, hlog⟩, ?_⟩
    show retD Q _ _
    exact ret_same (k _ _ _ (Int.emod_nonneg _ (by omega)) (Int.emod_lt_of_pos _ (by omega)) ⟨hb0, hb1⟩)
  · refine ⟨mulOk_r (by decide), by decide, ?_⟩
    have q0 := Int.emod_nonneg (b * 48271 + 11) (show (2147483647 : Int) ≠ 0 by decide)
    have q1 := Int.emod_lt_of_pos (b * 48271 + 11) (show (0 : Int) < 2147483647 by decide)
    show dRet _ _ _ (sett M p (.lst [.int a, .int ((b * 48271 + 11) % 2147483647)]))
    walk_at "dl"
    simp only [dIx0, seqD, seqL, sett_same, i1]
    refine ⟨mulOk_r ⟨by omega, by omega⟩, by decide, ⟨by decide, by decide +kernel⟩, by omega, ?_⟩
    exact ret_same (k _ _ _ (Int.emod_nonneg _ (by omega)) (Int.emod_lt_of_pos _ (by omega)) ⟨q0, by omega⟩)
end G
namespace G
open PySem PySem.Spec PyProof.Rows L2 DL
local macro_rules | `(tactic| walk_at "dl") => `(tactic| simp only [ends, dSeq, dSet, dRet, dRetN, dIfS, dNext, dDrop, dCB, dCall, dCons, dNil, dVar, dC, dOp, dI, dI0, dB, dNotT, dAndT, dOrT, dAnd, dOr, dNot, dIf, dNeg, dTup, dLst, dLstM, dAsg, dgTup, dgCons, dgN, dgNil, dPar, dPar3, dAugI, dFor, dWT, dWL, dApp, dIsN, dNotN, DL.isNon, cI2, cI1, dLc, dLcD, dFld, dProp, dMeth, dMake, dPutF, dDPut, dDGet2, List.getElem?_cons_zero, List.getElem?_cons_succ, List.set_cons_zero, List.set_cons_succ, List.set_nil, exN])
variable {K : PySem.W.Frag} {C : Addr}
theorem cut_ints (ns : List Int) (lo hi : Option Int) : ∃ ms : List Int, DL.cutD (ns.map D.int) lo hi = ms.map D.int := by
  unfold DL.cutD
  rw [← List.map_drop, ← List.map_take]
  exact ⟨_, rfl⟩
/-- the pool's second half: from the cell on -/
theorem pool_tail {Q : D → MH → Prop} {E : EX} {M : MH} {x : D} {k c : Int} {u v : Option D} (hk : 0 ≤ k) (hk2 : k < 64) (kk : ∀ p, M p = none → ∀ a b, poolOk b → Q (.ref p) (sett M p (.lst [.int a, .int b]))) :
    dSeq (dSet 3 (dCB (cI1 fun i => if i < 0 then -i else i) (dCons (dVar 2) dNil)))
    (dSeq (dSet 4 (dMod (dMulW (dAdd (dAdd (dAdd (dMod (dVar 3) (dC (.int 2147483629))) (dMulW (dMulW (dC (.int 7919)) (dVar 1)) (dVar 1))) (dMulW (dC (.int 31)) (dVar 1))) (dC (.int 17))) (dC (.int 48271))) (dC (.int 2147483647))))
    (dRet (dLstM (dCons (dMulW (dVar 3) (dCB cInt (dCons (dGe (dVar 3) (dPow (dC (.int 10)) (dC (.int 18)))) dNil))) (dCons (dMod (dMulW (dVar 4) (dVar 4)) (dC (.int 2147483629))) dNil)))))
    (ends Q E) [some x, some (.int k), some (.int c), u, v] M := by
  walk_at "dl"
  generalize hg : (if c < 0 then -c else c) = g
  refine ⟨by decide, mulOk_l (by decide), mulOk_r ⟨by omega, by omega⟩, mulOk_l (by decide), mulOk_r (by decide), by decide, ?_⟩
  have q0 := Int.emod_nonneg ((g % 2147483629 + 7919 * k * k + 31 * k + 17) * 48271) (show (2147483647 : Int) ≠ 0 by decide)
  have q1 := Int.emod_lt_of_pos ((g % 2147483629 + 7919 * k * k + 31 * k + 17) * 48271) (show (0 : Int) < 2147483647 by decide)
  generalize (g % 2147483629 + 7919 * k * k + 31 * k + 17) * 48271 % 2147483647 = m at q0 q1
  refine ⟨⟨by decide, by decide, by decide⟩, ?_⟩
  simp only [cInt]
  refine ⟨mulOk_r (by split <;> decide), mulOk_r ⟨by omega, by omega⟩, by decide, by show 2 ≤ sizeLine; decide, fun p hp => ?_⟩
  have r0 := Int.emod_nonneg (m * m) (show (2147483629 : Int) ≠ 0 by decide)
  have r1 := Int.emod_lt_of_pos (m * m) (show (0 : Int) < 2147483629 by decide)
  exact ret_same (kk p hp _ _ ⟨r0, by omega⟩)
theorem atI_ints {ns : List Int} {k : Int} (h0 : 0 ≤ k) (h1 : k < ns.length) : ∃ c, atI (ns.map D.int) k = some (.int c) := by
  obtain ⟨n, rfl⟩ := Int.eq_ofNat_of_zero_le h0
  have hn : n < ns.length := by omega
  refine ⟨ns[n], ?_⟩
  unfold atI ixN
  rw [List.length_map]
  simp [hn]
theorem rd_pool (ds : List D) (M : MH) (Q : D → MH → Prop) (E : EX) (h : sp_pool K C ds M Q E) : t_pool K C (ends Q E) (startD N_pool ds) M := by
  unfold sp_pool at h
  split at h
  rotate_left
  · exact h.elim
  rename_i xs k
  obtain ⟨ns, rfl, hl, hk, hk2, kk⟩ := h
  have e0 : startD N_pool [.lst (ns.map D.int), .int k] = [some (.lst (ns.map D.int)), some (.int k), none, none, none] := rfl
  obtain ⟨ms, hms⟩ := cut_ints ns none (some 63)
  rw [e0, t_pool]
  have tail := fun c => pool_tail (Q := Q) (E := E) (x := .lst (ns.map D.int)) (c := c) (u := none) (v := none) hk hk2 kk
  rw [dSeq]
  simp only [dSet, dAdd, dMulW, dOp, dC, dCB, dCons, dNil, dSl, dVar, dNoPart, dPart, List.getElem?_cons_zero, List.getElem?_cons_succ, seqL, hms, cSum, cLI, DL.ints_map, dI, dI0, List.set_cons_zero, List.set_cons_succ]
  refine ⟨mulOk_l (by decide), ?_⟩
  rw [dSeq]
  simp only [dIfS, dB, dLt, dOp, dVar, dCB, dCons, dNil, cLen, seqD, seqL, dI0, List.getElem?_cons_zero, List.getElem?_cons_succ, decide_eq_true_eq, List.length_map]
  split
  · rename_i hlt
    obtain ⟨c, hc⟩ := atI_ints (ns := ns) hk hlt
    simp only [dSet, dIx, dOp, dVar, dIx0, seqD, seqL, hc, List.getElem?_cons_zero, List.getElem?_cons_succ, List.set_cons_zero, List.set_cons_succ]
    refine (?_ : _ → _) (tail c)
    walk_at "dl"
    try exact id
  · refine (?_ : _ → _) (tail (11 * ms.sum + k))
    walk_at "dl"
    try exact id
end G
namespace G
open PySem PySem.Spec PyProof.Rows L2 DL
local macro_rules | `(tactic| walk_at "dl") => `(tactic| simp only [ends, dSeq, dSet, dRet, dRetN, dIfS, dNext, dDrop, dCB, dCall, dCons, dNil, dVar, dC, dOp, dI, dI0, dB, dNotT, dAndT, dOrT, dAnd, dOr, dNot, dIf, dNeg, dTup, dLst, dLstM, dAsg, dgTup, dgCons, dgN, dgNil, dPar, dPar3, dAugI, dFor, dWT, dWL, dApp, dIsN, dNotN, DL.isNon, cI2, cI1, dLc, dLcD, dFld, dProp, dMeth, dMake, dPutF, dDPut, dDGet2, List.getElem?_cons_zero, List.getElem?_cons_succ, List.set_cons_zero, List.set_cons_succ, List.set_nil, exN])
variable {K : PySem.W.Frag} {C : Addr}
/-! ### three things that may be changed -/
def three (M : MH) (p i s : Addr) (u v w : MO) : MH := fun x => if x = p then some u else if x = i then some v else if x = s then some w else M x
section
variable {M : MH} {p i s : Addr} {u v w z : MO}
theorem three_p : three M p i s u v w p = some u := by unfold three; rw [if_pos rfl]
theorem three_i (h : i ≠ p) : three M p i s u v w i = some v := by unfold three; rw [if_neg h, if_pos rfl]
theorem three_s (h : s ≠ p) (h2 : s ≠ i) : three M p i s u v w s = some w := by unfold three; rw [if_neg h, if_neg h2, if_pos rfl]
theorem three_set_p : sett (three M p i s u v w) p z = three M p i s z v w := by
  funext x; unfold sett three; split <;> rfl
theorem three_set_i (h : i ≠ p) : sett (three M p i s u v w) i z = three M p i s u z w := by
  funext x; unfold sett three
  by_cases h1 : x = i
  · subst h1; rw [if_pos rfl, if_neg h, if_pos rfl]
  · rw [if_neg h1, if_neg h1, if_neg h1]
theorem three_set_s (h : s ≠ p) (h2 : s ≠ i) : sett (three M p i s u v w) s z = three M p i s u v z := by
  funext x; unfold sett three
  by_cases h1 : x = s
  · subst h1; rw [if_pos rfl, if_neg h, if_neg h2, if_pos rfl]
  · rw [if_neg h1, if_neg h1, if_neg h1]
theorem three_new (hi : i ≠ p) (hs : s ≠ p) (hsi : s ≠ i) (e : M p = some u) : sett (sett M i v) s w = three M p i s u v w := by
  funext x; unfold sett three
  by_cases h0 : x = p
  · subst h0; rw [if_neg (Ne.symm hs), if_neg (Ne.symm hi), if_pos rfl, e]
  · rw [if_neg h0]
    by_cases h1 : x = i
    · subst h1; rw [if_neg (Ne.symm hsi), if_pos rfl, if_pos rfl]
    · rw [if_neg h1]
      by_cases h2 : x = s
      · subst h2; simp [h1]
      · simp [h1, h2]
theorem three_del (hi : i ≠ p) (hs : s ≠ p) (hsi : s ≠ i) (mi : M i = none) (ms : M s = none) : dell (dell (three M p i s u v w) i) s = sett M p u := by
  funext x; unfold sett dell three
  by_cases h0 : x = p
  · subst h0; rw [if_neg (Ne.symm hs), if_neg (Ne.symm hi), if_pos rfl, if_pos rfl]
  · rw [if_neg h0]
    by_cases h1 : x = i
    · subst h1; rw [if_neg (Ne.symm hsi), if_pos rfl, if_neg h0, mi]
    · by_cases h2 : x = s
      · subst h2; rw [if_pos rfl, if_neg h0, ms]
      · simp [h0, h1, h2]
end
/-! ### one draw of three -/
theorem idx3 {x y z : D} {i : Int} (h0 : 0 ≤ i) (h1 : i < 3) : ∃ d, atI [x, y, z] i = some d ∧ (d = x ∨ d = y ∨ d = z) := by
  have : i = 0 ∨ i = 1 ∨ i = 2 := by omega
  rcases this with rfl | rfl | rfl
  · exact ⟨x, rfl, .inl rfl⟩
  · exact ⟨y, rfl, .inr (.inl rfl)⟩
  · exact ⟨z, rfl, .inr (.inr rfl)⟩
/-- [0, a, b][c], b and c drawn -/
theorem pick {ρ : Ro} {M : MH} {P : D → MH → Prop} {E : EX} {p : Addr} {j : Nat} {ta : DTE} {m : Int} {a b : Int} {tm : DTE} (hp : ρ[j]? = some (some (.ref p))) (hM : M p = some (.lst [.int a, .int b])) (hb : poolOk b)
    (R : Int → Prop) (h0 : R 0) (hm : 1 ≤ m) (hm2 : m.natAbs.log2 < 9000) (hR : ∀ f, 0 ≤ f → f < m → R f)
    (hta : ∀ (a b : Int) (P' : D → MH → Prop), poolOk b → (∀ f a' b', R f → poolOk b' → P' (.int f) (sett M p (.lst [.int a', .int b']))) → ta ρ (sett M p (.lst [.int a, .int b])) P' E)
    (htm : ∀ (M' : MH) (P' : D → MH → Prop), P' (.int m) M' → tm ρ M' P' E)
    (k : ∀ f a' b', R f → poolOk b' → P (.int f) (sett M p (.lst [.int a', .int b']))) :
    dIx (dLst (dCons (dC (.int 0)) (dCons ta (dCons (dCall (sp_draw K C) (dCons (dVar j) (dCons tm dNil))) dNil)))) (dCall (sp_draw K C) (dCons (dVar j) (dCons (dC (.int 3)) dNil))) ρ M P E := by
  have hs : M = sett M p (.lst [.int a, .int b]) := by
    funext x
    by_cases h : x = p
    · subst h; rw [sett_same, hM]
    · rw [sett_ne h]
  simp only [dOp, dLst, dCons, dC, dCall, dVar, hp, dNil]
  rw [hs]
  refine hta a b _ hb fun f a1 b1 hf hb1 => ?_
  refine htm _ _ ?_
  refine ⟨a1, b1, sett_same, hb1, hm, hm2, fun g a2 b2 g0 g1 hb2 => ⟨by show 3 ≤ sizeLine; decide, ?_⟩⟩
  rw [sett_sett]
  refine ⟨a2, b2, sett_same, hb2, by decide, by decide +kernel, fun j a3 b3 j0 j1 hb3 => ?_⟩
  rw [sett_sett]
  obtain ⟨d, hd, hc⟩ := idx3 (x := .int 0) (y := .int f) (z := .int g) j0 j1
  simp only [dIx0, seqD, seqL, hd]
  rcases hc with rfl | rfl | rfl
  · exact k 0 a3 b3 h0 hb3
  · exact k f a3 b3 hf hb3
  · exact k g a3 b3 (hR g g0 g1) hb3
theorem p30 : (10 : Int) ^ (30 : Int).toNat = 1000000000000000000000000000000 := by decide +kernel
theorem log_small {m : Int} (h0 : 1 ≤ m) (h : m ≤ 1000000000000000000000000000000) : m.natAbs.log2 < 9000 := by
  have : m.natAbs < 2 ^ 100 := by
    have : m.natAbs ≤ 1000000000000000000000000000000 := by omega
    refine Nat.lt_of_le_of_lt this ?_
    decide
  exact Nat.lt_trans (PySem.Flt.log2_lt_of (by decide) this) (by decide)
/-- many -/
theorem pickMany {ρ : Ro} {M : MH} {P : D → MH → Prop} {E : EX} {p : Addr} {j : Nat} {a b : Int} (hp : ρ[j]? = some (some (.ref p))) (hM : M p = some (.lst [.int a, .int b])) (hb : poolOk b)
    (k : ∀ f a' b', (0 ≤ f ∧ f < 1000000000000000000000000000000) → poolOk b' → P (.int f) (sett M p (.lst [.int a', .int b']))) :
    dIx (dLst (dCons (dC (.int 0)) (dCons (dCall (sp_draw K C) (dCons (dVar j) (dCons (dC (.int 4)) dNil))) (dCons (dCall (sp_draw K C) (dCons (dVar j) (dCons (dPow (dC (.int 10)) (dC (.int 30))) dNil))) dNil)))) (dCall (sp_draw K C) (dCons (dVar j) (dCons (dC (.int 3)) dNil))) ρ M P E := by
  refine pick (m := 1000000000000000000000000000000) hp hM hb (fun f => 0 ≤ f ∧ f < 1000000000000000000000000000000) (by decide) (by decide) (log_small (by decide) (by decide)) (fun f h1 h2 => ⟨h1, h2⟩) (fun a b P' hb k' => ?_) (fun M' P' k' => ?_) k
  · simp only [dCall, dCons, dVar, hp, dC, dNil]
    refine ⟨a, b, sett_same, hb, by decide, by decide +kernel, fun f a' b' f0 f1 hb' => ?_⟩
    rw [sett_sett]
    exact k' f a' b' ⟨f0, by omega⟩ hb'
  · simp only [dOp, dC, dI]
    refine ⟨⟨by decide, by decide, by decide⟩, ?_⟩
    rw [p30]
    exact k'
/-- some of many -/
theorem pickSome {ρ : Ro} {M : MH} {P : D → MH → Prop} {E : EX} {p : Addr} {j : Nat} {a b m : Int} (hp : ρ[j]? = some (some (.ref p))) (h5 : ρ[5]? = some (some (.int m))) (hm : 0 ≤ m ∧ m < 1000000000000000000000000000000) (hM : M p = some (.lst [.int a, .int b])) (hb : poolOk b)
    (k : ∀ f a' b', (0 ≤ f ∧ f ≤ m) → poolOk b' → P (.int f) (sett M p (.lst [.int a', .int b']))) :
    dIx (dLst (dCons (dC (.int 0)) (dCons (dVar 5) (dCons (dCall (sp_draw K C) (dCons (dVar j) (dCons (dAdd (dVar 5) (dC (.int 1))) dNil))) dNil)))) (dCall (sp_draw K C) (dCons (dVar j) (dCons (dC (.int 3)) dNil))) ρ M P E := by
  refine pick (m := m + 1) hp hM hb (fun f => 0 ≤ f ∧ f ≤ m) ⟨by omega, hm.1⟩ (by omega) (log_small (by omega) (by omega)) (fun f h1 h2 => ⟨h1, by omega⟩) (fun a b P' hb k' => ?_) (fun M' P' k' => ?_) k
  · simp only [dVar, h5]
    exact k' m a b ⟨hm.1, by omega⟩ hb
  · simp only [dOp, dC, dVar, h5, dI0]
    exact k'
/-- number, many, some -/
abbrev L3 := List (Int × Int × Int)
def insL (l : L3) : B := l.map fun t => (t.1, t.2.1)
def surL (l : L3) : B := l.map fun t => (t.1, t.2.2)
structure L3.Ok (l : L3) (hi : Int) : Prop where
  srt : l.Pairwise fun x y => x.1 < y.1
  lt : ∀ t ∈ l, t.1 < hi
  rng : ∀ t ∈ l, 0 ≤ t.2.2 ∧ t.2.2 ≤ t.2.1 ∧ t.2.1 < 1000000000000000000000000000000
theorem L3.Ok.snoc {l : L3} {hi m s : Int} (h : l.Ok hi) (hs : 0 ≤ s ∧ s ≤ m) (hm : m < 1000000000000000000000000000000) : L3.Ok (l ++ [(hi, m, s)]) (hi + 1) := by
  refine ⟨List.pairwise_append.mpr ⟨h.srt, by simp, fun x hx y hy => ?_⟩, fun t ht => ?_, fun t ht => ?_⟩
  · simp only [List.mem_singleton] at hy
    subst hy
    exact h.lt x hx
  · rcases List.mem_append.mp ht with ht | ht
    · have := h.lt t ht; omega
    · simp only [List.mem_singleton] at ht; subst ht; show hi < hi + 1; omega
  · rcases List.mem_append.mp ht with ht | ht
    · exact h.rng t ht
    · simp only [List.mem_singleton] at ht; subst ht; exact ⟨hs.1, hs.2, hm⟩
abbrev posB (b : B) : B := b.filter fun q => decide (0 < q.2)
theorem lin_pos {b : B} (h : ∀ q ∈ b, 0 ≤ q.2) (f : Int → Int) : lin f (posB b) = lin f b := by
  induction b with
  | nil => rfl
  | cons q b ih =>
    have h1 := ih fun x hx => h x (by simp [hx])
    have h2 := h q (by simp)
    by_cases hq : 0 < q.2
    · rw [posB, List.filter_cons_of_pos (by simp [hq]), lin_cons, lin_cons, ← h1]
    · rw [posB, List.filter_cons_of_neg (by simp [hq]), lin_cons]
      have : q.2 = 0 := by omega
      rw [this, Int.mul_zero, Int.zero_add]
      exact h1
theorem pos_wf {b : B} (h : b.Pairwise fun x y => x.1 < y.1) : Wf (posB b) := by
  refine ⟨h.sublist List.filter_sublist, fun q hq => ?_⟩
  rw [List.mem_filter] at hq
  have := of_decide_eq_true hq.2
  omega
theorem L3.wfi {l : L3} {hi : Int} (h : l.Ok hi) : Wf (posB (insL l)) := pos_wf (by rw [insL, List.pairwise_map]; exact h.srt)
theorem L3.wfs {l : L3} {hi : Int} (h : l.Ok hi) : Wf (posB (surL l)) := pos_wf (by rw [surL, List.pairwise_map]; exact h.srt)
theorem L3.nni {l : L3} {hi : Int} (h : l.Ok hi) : ∀ q ∈ insL l, 0 ≤ q.2 := fun q hq => by
  obtain ⟨t, ht, rfl⟩ := List.mem_map.mp hq
  have := h.rng t ht
  show 0 ≤ t.2.1
  omega
theorem L3.nns {l : L3} {hi : Int} (h : l.Ok hi) : ∀ q ∈ surL l, 0 ≤ q.2 := fun q hq => by
  obtain ⟨t, ht, rfl⟩ := List.mem_map.mp hq
  exact (h.rng t ht).1
theorem L3.le {l : L3} (h : ∀ t ∈ l, 0 ≤ t.2.2 ∧ t.2.2 ≤ t.2.1 ∧ t.2.1 < 1000000000000000000000000000000) (n : Int) : cnt (surL l) n ≤ cnt (insL l) n := by
  induction l with
  | nil => exact Int.le_refl _
  | cons t l ih =>
    have h1 := ih fun x hx => h x (by simp [hx])
    have h2 := h t (by simp)
    show cnt ((t.1, t.2.2) :: surL l) n ≤ cnt ((t.1, t.2.1) :: insL l) n
    rw [cnt_cons, cnt_cons]
    simp only
    split <;> omega
theorem L3.tot {l : L3} (h : ∀ t ∈ l, 0 ≤ t.2.2 ∧ t.2.2 ≤ t.2.1 ∧ t.2.1 < 1000000000000000000000000000000) : G.tot (surL l) ≤ G.tot (insL l) ∧ G.tot (insL l) ≤ l.length * 1000000000000000000000000000000 := by
  induction l with
  | nil => exact ⟨Int.le_refl _, Int.le_refl _⟩
  | cons t l ih =>
    have h1 := ih fun x hx => h x (by simp [hx])
    have h2 := h t (by simp)
    show G.tot ((t.1, t.2.2) :: surL l) ≤ G.tot ((t.1, t.2.1) :: insL l) ∧ G.tot ((t.1, t.2.1) :: insL l) ≤ _
    rw [tot_cons, tot_cons, List.length_cons]
    simp only
    omega
/-- the comprehension that keeps the entries of positive counts -/
theorem keepPos {b : B} {ρ : Ro} {M : MH} {P : D → MH → Prop} {E : EX} {i j : Nat} (h8 : j < ρ.length) (hi : ρ[i]? = some (some (.lst (b.map prD)))) (hl : b.length ≤ 1000) (k : P (bagD (posB b)) M) :
    dCB cTup (dCons (dLc (dWL (dVar i)) (.one j) (dB (dGt (dIx (dVar j) (dC (.int 1))) (dC (.int 0)))) (dVar j) [j]) dNil) ρ M P E := by
  simp only [dCB, dCons, dLc, dWL, dVar, hi, dNil]
  intro A hA
  have hg : ∀ d : D, ((wipeD ρ [j]).set j (some d))[j]? = some (some d) := fun d => by
    rw [List.getElem?_set_self (by simp [wipeD]; exact h8)]
  refine lcL_map (fun d => match d with | .tup [_, .int v] => decide (0 < v) | _ => false) (fun d => d) (b.map prD) [] _ (by simp; have : sizeLine = 16777216 := rfl; omega) sett_same (fun d hd M' R hR => ?_) ?_
  · obtain ⟨q, hq, rfl⟩ := List.mem_map.mp hd
    refine hR _ (fun Q' k' => ?_) fun hb Q' k' => ?_
    · simp only [dB, dOp, dVar, hg, dC, dIx0, seqD, show atI [D.int q.1, D.int q.2] 1 = some (D.int q.2) from rfl, dI0]
      exact k'
    · simp only [dVar, hg]
      exact k'
  · have e1 : ((b.map prD).filter fun d => match d with | .tup [_, .int v] => decide (0 < v) | _ => false).map (fun d => d) = (posB b).map prD := by
      rw [List.map_id', List.filter_map]
      rfl
    refine ⟨sett_same, ?_⟩
    rw [List.nil_append, e1]
    simp only [cTup, seqT, seqL]
    rw [sett_sett, dell_sett hA]
    exact k
/-! ### steps -/
section
variable {ρ : Ro} {M : MH} {P : D → MH → Prop} {E : EX} {N : DEnds} {te ta tb : DTE} {u : DTS}
theorem seq_set {i : Nat} (h : te ρ M (fun d M1 => u N (ρ.set i (some d)) M1) (exN N ρ)) : dSeq (dSet i te) u N ρ M := h
end
end G
namespace G
open PySem PySem.Spec PyProof.Rows L2 DL
local macro_rules | `(tactic| walk_at "dl") => `(tactic| simp only [ends, dSeq, dSet, dRet, dRetN, dIfS, dNext, dDrop, dCB, dCall, dCons, dNil, dVar, dC, dOp, dI, dI0, dB, dNotT, dAndT, dOrT, dAnd, dOr, dNot, dIf, dNeg, dTup, dLst, dLstM, dAsg, dgTup, dgCons, dgN, dgNil, dPar, dPar3, dAugI, dFor, dWT, dWL, dApp, dIsN, dNotN, DL.isNon, cI2, cI1, dLc, dLcD, dFld, dProp, dMeth, dMake, dPutF, dDPut, dDGet2, List.getElem?_cons_zero, List.getElem?_cons_succ, List.set_cons_zero, List.set_cons_succ, List.set_nil, exN])
variable {K : PySem.W.Frag} {C : Addr}
theorem tot_append (a b : B) : tot (a ++ b) = tot a + tot b := lin_append _ a b
theorem tot_one (n v : Int) : tot [(n, v)] = v := by rw [tot_cons, tot_nil]; show v + 0 = v; omega
theorem greatLoop {N : DEnds} {M : MH} {p i s : Addr} {L : Nat} (hL : L ≤ 1000) (hi : i ≠ p) (hs : s ≠ p) (hsi : s ≠ i) : ∀ (n : Nat) (l : L3) (lo c a b : Int) (u4 u5 u6 : Option D), L3.Ok l lo → poolOk b → l.length + n ≤ L → c = tot (insL l) - tot (surL l) →
    (∀ (l : L3) (hi c a b : Int) (u4 u5 u6 : Option D), L3.Ok l hi → l.length ≤ L → poolOk b → c = tot (insL l) - tot (surL l) → N.nx [some (.ref p), some (.ref i), some (.ref s), some (.int c), u4, u5, u6, none, none] (three M p i s (.lst [.int a, .int b]) (.lst ((insL l).map prD)) (.lst ((surL l).map prD)))) →
    dLoop (dgN 4) (dSeq (dSet 5 (dIx (dLst (dCons (dC (.int 0)) (dCons (dCall (sp_draw K C) (dCons (dVar 0) (dCons (dC (.int 4)) dNil))) (dCons (dCall (sp_draw K C) (dCons (dVar 0) (dCons (dPow (dC (.int 10)) (dC (.int 30))) dNil))) dNil)))) (dCall (sp_draw K C) (dCons (dVar 0) (dCons (dC (.int 3)) dNil)))))
    (dSeq (dSet 6 (dIx (dLst (dCons (dC (.int 0)) (dCons (dVar 5) (dCons (dCall (sp_draw K C) (dCons (dVar 0) (dCons (dAdd (dVar 5) (dC (.int 1))) dNil))) dNil)))) (dCall (sp_draw K C) (dCons (dVar 0) (dCons (dC (.int 3)) dNil)))))
    (dSeq (dDrop (dApp (dVar 1) (dTup (dCons (dVar 4) (dCons (dVar 5) dNil)))))
    (dSeq (dDrop (dApp (dVar 2) (dTup (dCons (dVar 4) (dCons (dVar 6) dNil)))))
    (dSet 3 (dSub (dAdd (dVar 3) (dVar 5)) (dVar 6))))))) N (DL.upTo lo n)
      [some (.ref p), some (.ref i), some (.ref s), some (.int c), u4, u5, u6, none, none] (three M p i s (.lst [.int a, .int b]) (.lst ((insL l).map prD)) (.lst ((surL l).map prD)))
  | 0, l, lo, c, a, b, u4, u5, u6, ok, hb, hl, hc, k => by
    unfold DL.upTo dLoop
    exact k l lo c a b u4 u5 u6 ok (by omega) hb hc
  | n + 1, l, lo, c, a, b, u4, u5, u6, ok, hb, hl, hc, k => by
    unfold DL.upTo dLoop
    simp only [dgN, List.set_cons_zero, List.set_cons_succ]
    rw [dSeq, dSet]
    refine pickMany rfl three_p hb fun m a1 b1 hm hb1 => ?_
    rw [three_set_p]
    simp only [List.set_cons_zero, List.set_cons_succ]
    rw [dSeq, dSet]
    refine pickSome (m := m) rfl rfl hm three_p hb1 fun t a2 b2 ht hb2 => ?_
    rw [three_set_p]
    simp only [dSeq, dDrop, dApp, dTup, dCons, dNil, dVar, dSet, dOp, dI0, List.getElem?_cons_zero, List.getElem?_cons_succ, List.set_cons_zero, List.set_cons_succ, three_i hi, three_s hs hsi, three_set_i hi]
    have hsz : sizeLine = 16777216 := rfl
    refine ⟨by show 2 ≤ sizeLine; decide, by simp [insL]; omega, ?_⟩
    simp only [three_s hs hsi, three_set_s hs hsi]
    refine ⟨by show 2 ≤ sizeLine; decide, by simp [surL]; omega, ?_⟩
    have e1 : (insL l).map prD ++ [.tup [.int lo, .int m]] = (insL (l ++ [(lo, m, t)])).map prD := by simp [insL]
    have e2 : (surL l).map prD ++ [.tup [.int lo, .int t]] = (surL (l ++ [(lo, m, t)])).map prD := by simp [surL]
    rw [e1, e2]
    refine greatLoop hL hi hs hsi n (l ++ [(lo, m, t)]) (lo + 1) (c + m - t) a2 b2 _ _ _ (ok.snoc ht hm.2) hb2 (by simp; omega) ?_ k
    have f1 : insL (l ++ [(lo, m, t)]) = insL l ++ [(lo, m)] := by simp [insL]
    have f2 : surL (l ++ [(lo, m, t)]) = surL l ++ [(lo, t)] := by simp [surL]
    rw [f1, f2, tot_append, tot_append, tot_one, tot_one]
    omega
theorem ret_ins {P : D → MH → Prop} {x : Addr} {fs : List (Str × D)} {M : MH} (hx : M x = none) (k : P (.ins C (fs.map (·.1)) (fs.map (·.2))) M) : retD P (.ref x) (sett M x (.ins C fs)) :=
  ⟨_, M, ⟨Sub.sett hx, .inr (.inr ⟨x, C, fs, rfl, sett_same, hx, rfl⟩)⟩, k⟩
theorem rd_great (ds : List D) (M : MH) (Q : D → MH → Prop) (E : EX) (h : sp_great K C ds M Q E) : t_great K C (ends Q E) (startD N_great ds) M := by
  unfold sp_great at h
  split at h
  rotate_left
  · exact h.elim
  rename_i p
  obtain ⟨a, b, hM, hb, k⟩ := h
  have e0 : startD N_great [D.ref p] = [some (.ref p), none, none, none, none, none, none, none, none] := rfl
  rw [e0, t_great, dSeq]
  simp only [dPar3, dCons, dLstM, dNil, dC]
  refine ⟨Nat.zero_le _, fun i mi => ⟨Nat.zero_le _, fun s ms => ?_⟩⟩
  have hi : i ≠ p := fun e => by rw [e, hM] at mi; cases mi
  have hsi : s ≠ i := fun e => by rw [e, sett_same] at ms; cases ms
  have ms' : M s = none := by rw [sett_ne hsi] at ms; exact ms
  have hs : s ≠ p := fun e => by rw [e, hM] at ms'; cases ms'
  rw [three_new hi hs hsi hM]
  simp only [List.set_cons_zero, List.set_cons_succ]
  rw [dSeq, dFor]
  simp only [dWR2, dCons, dNeg, dC, dNil]
  refine ⟨⟨by decide, by decide, by decide, by decide⟩, ?_⟩
  have e7 : DL.upTo (-3) ((4 : Int) - -3).toNat = DL.upTo (-3) 7 := rfl
  rw [e7]
  refine greatLoop (L := 7) (by decide) hi hs hsi 7 [] (-3) 0 a b none none none ⟨.nil, by simp, by simp⟩ hb (by decide) rfl fun l hi' c a b u4 u5 u6 ok hl hb hc => ?_
  refine ⟨i, _, rfl, three_i hi, ?_⟩
  show dSet _ _ _ _ _
  rw [dSet]
  simp only [List.set_cons_zero, List.set_cons_succ]
  refine keepPos (i := 1) (j := 8) (b := insL l) (by show 8 < 9; decide) rfl (by simp [insL]; omega) ?_
  try simp only [List.set_cons_zero, List.set_cons_succ]
  refine ⟨s, (surL l).map prD, rfl, by rw [dell_ne hsi]; exact three_s hs hsi, ?_⟩
  show dSet _ _ _ _ _
  rw [dSet]
  simp only [List.set_cons_zero, List.set_cons_succ]
  refine keepPos (i := 2) (j := 8) (b := surL l) (by show 8 < 9; decide) rfl (by simp [surL]; omega) ?_
  try simp only [List.set_cons_zero, List.set_cons_succ]
  rw [three_del hi hs hsi mi ms']
  show dSeq _ _ _ _ _
  rw [dSeq, dSet]
  refine pickMany rfl sett_same hb fun m a1 b1 hm hb1 => ?_
  rw [sett_sett]
  simp only [List.set_cons_zero, List.set_cons_succ, dRet, dMake, dCons, dVar, dNil, dOp, dI0, List.getElem?_cons_zero, List.getElem?_cons_succ]
  intro x hx
  have t1 := lin_pos (L3.nni ok)
  have t2 := lin_pos (L3.nns ok)
  have t3 := L3.tot ok.rng
  have ht1 : tot (posB (insL l)) = tot (insL l) := t1 _
  have ht2 : tot (posB (surL l)) = tot (surL l) := t2 _
  have l1 : (posB (insL l)).length ≤ l.length := by
    have := List.length_filter_le (fun q : Int × Int => decide (0 < q.2)) (insL l)
    simpa [insL] using this
  have l2 : (posB (surL l)).length ≤ l.length := by
    have := List.length_filter_le (fun q : Int × Int => decide (0 < q.2)) (surL l)
    simpa [surL] using this
  have eok : Eff.Ok ⟨posB (insL l), c + m, posB (surL l)⟩ := by
    refine ⟨L3.wfi ok, L3.wfs ok, fun n => ?_, by show 0 ≤ c + m; omega, by show tot (posB (insL l)) - tot (posB (surL l)) ≤ c + m; omega, by show (posB (insL l)).length + (posB (surL l)).length < 1000000; omega⟩
    have := L3.le ok.rng n
    show lin _ (posB (surL l)) ≤ lin _ (posB (insL l))
    rw [t1, t2]
    exact this
  have t4 : 0 ≤ tot (surL l) := tot_nn (L3.nns ok)
  have hlen : (l.length : Int) ≤ 7 := by omega
  have big : (10 : Int) ^ 40 = 10000000000000000000000000000000000000000 := by decide +kernel
  refine ⟨⟨posB (insL l), c + m, posB (surL l)⟩, eok, rfl, rfl, rfl, sett_same, rfl, ?_⟩
  rw [sett_sett]
  refine ret_ins hx (ret_same (k _ a1 b1 ⟨eok, by show (posB (insL l)).length ≤ 7; omega, by show (posB (surL l)).length ≤ 7; omega, ?_, ?_⟩ hb1))
  · show tot (posB (insL l)) < 10 ^ 40
    rw [big]; omega
  · show c + m < 10 ^ 40
    rw [big]; omega
end G
namespace G
open PySem PySem.Spec PyProof.Rows L2 DL
variable {K : PySem.W.Frag} {C : Addr}
theorem rd_cknum (ds : List D) (M : MH) (Q : D → MH → Prop) (E : EX) (h : sp_cknum K C ds M Q E) : t_cknum K C (ends Q E) (startD N_cknum ds) M := by
  unfold sp_cknum at h
  split at h
  rotate_left
  · exact h.elim
  rename_i i
  have e0 : startD N_cknum [D.int i] = [some (.int i)] := rfl
  rw [e0, t_cknum]
  simp only [dIfS, dNotT, dB, dCall, dCons, dVar, dNil, List.getElem?_cons_zero, dNever, dNext]
  refine ⟨"int", rfl, ?_⟩
  exact ifN (by decide) (ret_same h)
theorem rd_level (ds : List D) (M : MH) (Q : D → MH → Prop) (E : EX) (h : sp_level K C ds M Q E) : t_level K C (ends Q E) (startD N_level ds) M := by
  unfold sp_level at h
  split at h
  rotate_left
  · exact h.elim
  rename_i n
  obtain ⟨a, rfl, hl, k⟩ := h
  have e0 : startD N_level [bagD a, .int n] = [some (bagD a), some (.int n), none, none] := rfl
  rw [e0, t_level]
  simp only [dRet, dCB, dCons, dNil, dLc, dWT, dVar, List.getElem?_cons_zero]
  intro A hA
  refine lcL_map (fun d => match d with | .tup [.int v, _] => decide (v ≤ n) | _ => false) (fun d => match d with | .tup [_, v] => v | _ => .non) (a.map prD) [] _ (by simpa using hl) sett_same (fun d hd M' R hR => ?_) ?_
  · obtain ⟨q, hq, rfl⟩ := List.mem_map.mp hd
    refine ⟨rfl, hR _ (fun Q' k' => ?_) fun hb Q' k' => ?_⟩
    · simp only [dB, dLe, dOp, dVar, dI0, wipeD, setAll, List.getElem?_cons_zero, List.getElem?_cons_succ, List.set_cons_zero, List.set_cons_succ]
      exact k'
    · simp only [dVar, wipeD, setAll, List.getElem?_cons_zero, List.getElem?_cons_succ, List.set_cons_zero, List.set_cons_succ]
      exact k'
  · have e1 : ((a.map prD).filter fun d => match d with | .tup [.int v, _] => decide (v ≤ n) | _ => false).map (fun d => match d with | .tup [_, v] => v | _ => D.non) = ((a.filter fun q => decide (q.1 ≤ n)).map (·.2)).map D.int := by
      rw [List.filter_map, List.map_map, List.map_map]
      rfl
    refine ⟨sett_same, ?_⟩
    rw [List.nil_append, e1]
    simp only [cSum, cLI, seqL, DL.ints_map]
    refine ret_sub (M' := M) ?_ ?_
    · rw [sett_sett, dell_sett hA]; exact Sub.refl _
    · have : ((a.filter fun q => decide (q.1 ≤ n)).map (·.2)).sum = lv a n := by
        clear hl k e0 e1
        induction a with
        | nil => rfl
        | cons q a ih =>
          rw [lv_cons, ← ih]
          by_cases hq : q.1 ≤ n
          · rw [List.filter_cons_of_pos (by simp [hq]), List.map_cons, List.sum_cons, if_pos hq]
          · rw [List.filter_cons_of_neg (by simp [hq]), if_neg hq, Int.zero_add]
      rw [this]
      exact k
theorem rd_sizeof (ds : List D) (M : MH) (Q : D → MH → Prop) (E : EX) (h : sp_sizeof K C ds M Q E) : t_sizeof K C (ends Q E) (startD N_sizeof ds) M := by
  unfold sp_sizeof at h
  split at h
  rotate_left
  · exact h.elim
  obtain ⟨a, rfl, wa, hl, k⟩ := h
  have e0 : startD N_sizeof [bagD a] = [some (bagD a)] := rfl
  rw [e0, t_sizeof]
  simp only [dSeq, dDrop, dRet, dCall, dCons, dNil, dVar, List.getElem?_cons_zero]
  exact ⟨a, rfl, wa, hl, a, rfl, hl, ret_same k⟩
theorem rd_atmost (ds : List D) (M : MH) (Q : D → MH → Prop) (E : EX) (h : sp_atmost K C ds M Q E) : t_atmost K C (ends Q E) (startD N_atmost ds) M := by
  unfold sp_atmost at h
  split at h
  rotate_left
  · exact h.elim
  rename_i n
  obtain ⟨a, rfl, wa, hl, k⟩ := h
  have e0 : startD N_atmost [bagD a, .int n] = [some (bagD a), some (.int n)] := rfl
  rw [e0, t_atmost]
  simp only [dSeq, dDrop, dRet, dCall, dCons, dNil, dVar, List.getElem?_cons_zero, List.getElem?_cons_succ]
  exact ⟨a, rfl, wa, hl, a, rfl, hl, ret_same k⟩
end G
namespace G
open PySem PySem.Spec PyProof.Rows L2 DL
variable {K : PySem.W.Frag} {C : Addr}
/-! ### mathematics -/
theorem lv_lt {q : B} (h : ∀ p ∈ q, 1 ≤ p.2) {n : Int} (hx : ∃ x ∈ q, n < x.1) : lv q n < tot q := by
  induction q with
  | nil => obtain ⟨x, hx, _⟩ := hx; simp at hx
  | cons p q ih =>
    have hp := h p (by simp)
    have hq : ∀ x ∈ q, 1 ≤ x.2 := fun x hx => h x (by simp [hx])
    have hle := lv_tot (b := q) (fun x hx => by have := hq x hx; omega) n
    rw [lv_cons, tot_cons]
    obtain ⟨x, hx, hn⟩ := hx
    rcases List.mem_cons.mp hx with rfl | hx
    · rw [if_neg (by omega)]
      omega
    · have := ih hq ⟨x, hx, hn⟩
      split <;> omega
/-- above every key -/
theorem above (bs : List B) : ∃ N : Int, ∀ b ∈ bs, ∀ p ∈ b, p.1 ≤ N := by
  induction bs with
  | nil => exact ⟨0, by simp⟩
  | cons b bs ih =>
    obtain ⟨N, hN⟩ := ih
    have : ∃ N' : Int, ∀ p ∈ b, p.1 ≤ N' := by
      clear hN
      induction b with
      | nil => exact ⟨0, by simp⟩
      | cons p b ih =>
        obtain ⟨N', h⟩ := ih
        refine ⟨max N' p.1, fun q hq => ?_⟩
        rcases List.mem_cons.mp hq with rfl | hq
        · omega
        · have := h q hq; omega
    obtain ⟨N', h'⟩ := this
    refine ⟨max N N', fun c hc p hp => ?_⟩
    rcases List.mem_cons.mp hc with rfl | hc
    · have := h' p hp; omega
    · have := hN c hc p hp; omega
theorem need_nn {e : Eff} (ok : e.Ok) : 0 ≤ e.r - tot e.i + tot e.s := by have := ok.en; omega
theorem start_law {H : Hp} {a : Addr} {ns : List Int} (hl : ns.length ≤ 63) (hS : SqL K H a (ns.map V.int)) : lSp K (sp_law K C) [.ref a] H (fun v _ => v = .bl true) fun _ _ _ => False := by
  have e : frz (fun _ => none) H = H := by funext x; unfold frz; rfl
  refine ⟨[.lst (ns.map D.int)], fun _ => none, fun d _ => d = .bl true, fun _ _ _ _ => False, ?_, fun a o e => (nomatch e), ⟨ns, rfl, hl, rfl⟩, fun d M' v H' h s g r => ?_, fun _ _ _ _ _ _ _ h => h.elim⟩
  · rw [e]
    exact .cons (rep_lst hS (reps_ints ns)) .nil
  · subst h
    exact rep_bl_inv r
end G
namespace G
open PySem PySem.Spec PyProof.Rows L2 DL
variable {K : PySem.W.Frag} {C : Addr}
/-- the frame's slots: the script, the pool -/
structure LOk (L : Nat) (ns : List Int) (p : Addr) (ρ : Ro) : Prop where
  len : ρ.length = L
  scr : ρ[0]? = some (some (.lst (ns.map D.int)))
  pol : ρ[2]? = some (some (.ref p))
theorem LOk.set {L : Nat} {ns : List Int} {p : Addr} {ρ : Ro} (h : LOk L ns p ρ) {i : Nat} {x : Option D} (h0 : i ≠ 0) (h2 : i ≠ 2) : LOk L ns p (ρ.set i x) :=
  ⟨by rw [List.length_set]; exact h.len, by rw [List.getElem?_set_ne h0]; exact h.scr, by rw [List.getElem?_set_ne h2]; exact h.pol⟩
/-- a part of the law that may be run on any pool -/
def LStep (L : Nat) (ns : List Int) (tb : DTS) : Prop := ∀ (N : DEnds) (ρ : Ro) (M : MH) (p : Addr) (a b : Int), M p = none → LOk L ns p ρ → poolOk b →
  (∀ ρ' a b, LOk L ns p ρ' → poolOk b → N.nx ρ' (sett M p (.lst [.int a, .int b]))) → tb N ρ (sett M p (.lst [.int a, .int b]))
theorem law_turns {L : Nat} {ns : List Int} {tb : DTS} {i : Nat} (h0 : i ≠ 0) (h2 : i ≠ 2) (h : LStep L ns tb) {N : DEnds} {M : MH} {p : Addr} (hp : M p = none) : ∀ (n : Nat) (lo a b : Int) (ρ : Ro), LOk L ns p ρ → poolOk b →
    (∀ ρ' a b, LOk L ns p ρ' → poolOk b → N.nx ρ' (sett M p (.lst [.int a, .int b]))) → dLoop (dgN i) tb N (DL.upTo lo n) ρ (sett M p (.lst [.int a, .int b]))
  | 0, lo, a, b, ρ, hr, hb, k => by
    unfold DL.upTo dLoop
    exact k ρ a b hr hb
  | n + 1, lo, a, b, ρ, hr, hb, k => by
    unfold DL.upTo dLoop
    exact h _ _ M p a b hp (hr.set h0 h2) hb fun ρ' a b hr hb => law_turns h0 h2 h hp n (lo + 1) a b ρ' hr hb k
/-- for turn in range(3) -/
theorem step_for {L : Nat} {ns : List Int} {tb : DTS} {i : Nat} {m : Int} (h0 : i ≠ 0) (h2 : i ≠ 2) (hm : -(2 ^ 62) ≤ m ∧ m < 2 ^ 62) (h : LStep L ns tb) : LStep L ns (dFor (dWR1 (dCons (dC (.int m)) dNil)) (dgN i) tb) :=
  fun N ρ M p a b hp hr hb k => ⟨hm, law_turns h0 h2 h hp m.toNat 0 a b ρ hr hb k⟩
theorem law_rounds {L : Nat} {ns : List Int} {rest : DTS} (hns : ns.length ≤ 63) (hL : 3 ≤ L) (h : LStep L ns rest) {N : DEnds} {M : MH} : ∀ (n : Nat) (lo : Int) (ρ : Ro) (M' : MH), 0 ≤ lo → lo + n ≤ 64 → ρ.length = L → ρ[0]? = some (some (.lst (ns.map D.int))) → Sub M M' →
    (∀ (ρ : Ro) (M' : MH), Sub M M' → N.nx ρ M') → dLoop (dgN 1) (dSeq (dSet 2 (dCall (sp_pool K C) (dCons (dVar 0) (dCons (dVar 1) dNil)))) rest) N (DL.upTo lo n) ρ M'
  | 0, lo, ρ, M', h0, h1, hl, hs, sb, k => by
    unfold DL.upTo dLoop
    exact k ρ M' sb
  | n + 1, lo, ρ, M', h0, h1, hl, hs, sb, k => by
    unfold DL.upTo dLoop
    refine seq_set ?_
    have e0 : (ρ.set 1 (some (.int lo)))[0]? = some (some (.lst (ns.map D.int))) := by rw [List.getElem?_set_ne (by decide)]; exact hs
    have e1 : (ρ.set 1 (some (.int lo)))[1]? = some (some (.int lo)) := by rw [List.getElem?_set_self (by omega)]
    simp only [dCall, dCons, dVar, dNil, e0, e1]
    refine ⟨ns, rfl, hns, h0, by omega, fun p hp a b hb => ?_⟩
    have ok : LOk L ns p ((ρ.set 1 (some (.int lo))).set 2 (some (.ref p))) := ⟨by simp [hl], by rw [List.getElem?_set_ne (by decide)]; exact e0, by rw [List.getElem?_set_self (by simp; omega)]⟩
    exact h _ _ M' p a b hp ok hb fun ρ' a b hr hb => law_rounds hns hL h n (lo + 1) ρ' _ (by omega) (by omega) hr.len hr.scr (sb.trans (Sub.sett hp)) k
/-- the law's own def, from its part -/
theorem law_of {NL : List Str} {rest : DTS} (hL : 3 ≤ NL.length) (h : ∀ ns : List Int, ns.length ≤ 63 → LStep NL.length ns rest) (ds : List D) (M : MH) (Q : D → MH → Prop) (E : EX) (hsp : sp_law K C ds M Q E) :
    dSeq (dFor (dWR1 (dCons (dCB (cI2 fun i j => if j > i then j else i) (dCons (dC (.int 1)) (dCons (dCB (cI2 fun i j => if j < i then j else i) (dCons (dCB cLen (dCons (dVar 0) dNil)) (dCons (dC (.int 6)) dNil))) dNil))) dNil)) (dgN 1)
      (dSeq (dSet 2 (dCall (sp_pool K C) (dCons (dVar 0) (dCons (dVar 1) dNil)))) rest)) (dRet (dC (.bl true))) (ends Q E) (startD NL ds) M := by
  unfold sp_law at hsp
  split at hsp
  rotate_left
  · exact hsp.elim
  obtain ⟨ns, rfl, hl, k⟩ := hsp
  have s0 : (startD NL [.lst (ns.map D.int)])[0]? = some (some (.lst (ns.map D.int))) := rfl
  have sl : (startD NL [.lst (ns.map D.int)]).length = NL.length := by unfold startD; simp; omega
  rw [dSeq, dFor]
  simp only [dWR1, dCB, dCons, dNil, dC, dVar, cI2, cLen, seqD, seqL, s0, List.length_map]
  generalize hj : (if (if (6 : Int) < (ns.length : Int) then (6 : Int) else (ns.length : Int)) > 1 then (if (6 : Int) < (ns.length : Int) then (6 : Int) else (ns.length : Int)) else 1) = j
  have hj2 : 0 ≤ j ∧ j ≤ 6 := by
    subst hj
    split <;> split <;> omega
  exact ⟨⟨by omega, by omega⟩, law_rounds hl hL (h ns hl) j.toNat 0 _ M (by decide) (by omega) sl s0 (Sub.refl M) fun ρ M' hs => ret_sub hs k⟩
end G
namespace G
open PySem PySem.Spec PyProof.Rows L2 DL
variable {K : PySem.W.Frag} {C : Addr}
theorem keys_le {q : B} (h : ∀ p ∈ q, 1 ≤ p.2) {n : Int} (e : lv q n = tot q) : ∀ x ∈ q, x.1 ≤ n := fun x hx => by
  rcases Int.lt_or_le n x.1 with hl | hl
  · have := lv_lt h (n := n) ⟨x, hx, hl⟩; omega
  · exact hl
/-- nothing is lost -/
structure Lost (e : Eff) (h q u : B) : Prop where
  union : ∀ n, lv q n + lv u n = lv h n + lv e.i n
  size : tot q = e.r
  sur : ∀ n, cnt e.s n ≤ cnt u n
  low : ∀ x ∈ q, ∀ n, cnt e.s n < cnt u n → x.1 ≤ n
theorem lost {e : Eff} {h q u : B} (ok : e.Ok) (wh : Wf h) (en : e.r - tot e.i + tot e.s ≤ tot h) (wq : Wf q) (hq : ∀ n, lv q n = min (lv h n + (lv e.i n - lv e.s n)) e.r)
    (hu : ∀ n, lv u n = lv e.s n + max 0 (lv h n + (lv e.i n - lv e.s n) - e.r)) : Lost e h q u := by
  obtain ⟨N, hN⟩ := above [h, e.i, e.s, q]
  have tq : tot q = e.r := by
    have h0 := hq N
    rw [lv_high (hN q (by simp)), lv_high (hN h (by simp)), lv_high (hN e.i (by simp)), lv_high (hN e.s (by simp))] at h0
    omega
  have step : ∀ n, cnt u n = cnt e.s n + (max 0 (lv h n + (lv e.i n - lv e.s n) - e.r) - max 0 (lv h (n - 1) + (lv e.i (n - 1) - lv e.s (n - 1)) - e.r)) := fun n => by
    have h1 := lv_step u n
    have h2 := lv_step e.s n
    have h3 := hu n
    have h4 := hu (n - 1)
    omega
  refine ⟨fun n => by rw [hq n, hu n]; omega, tq, fun n => ?_, fun x hx n hn => ?_⟩
  · have h1 := step n
    have h2 := lv_step h n
    have h3 := lv_step e.i n
    have h4 := lv_step e.s n
    have h5 := cnt_nn wh.nn n
    have h6 := ok.le n
    omega
  · have h1 := step n
    refine keys_le wq.pos (n := n) ?_ x hx
    rw [hq n, tq]
    omega
theorem dec_int (a b : Int) : decide (D.int a = D.int b) = decide (a = b) := by
  by_cases h : a = b
  · subst h; rw [decide_eq_true rfl, decide_eq_true rfl]
  · rw [decide_eq_false h, decide_eq_false fun e => h (D.int.inj e)]
/-- the heap's entries -/
structure Ent (b : B) (lo need : Int) : Prop where
  srt : b.Pairwise fun x y => x.1 < y.1
  lt : ∀ q ∈ b, q.1 < lo
  nn : ∀ q ∈ b, 0 ≤ q.2
  en : 5 < lo → need ≤ tot b
theorem entLoop {N : DEnds} {M : MH} {p i : Addr} {e : Eff} (ok : e.Ok) (hi : i ≠ p) {x0 x1 x3 : Option D} {t : List (Option D)} : ∀ (n : Nat) (b : B) (lo a c : Int) (u6 u7 : Option D), Ent b lo (e.r - tot e.i + tot e.s) → poolOk c → b.length + n ≤ 1000 →
    (∀ (b : B) (lo' a c : Int) (u6 u7 : Option D), lo' = lo + n → Ent b lo' (e.r - tot e.i + tot e.s) → b.length ≤ 1000 → poolOk c → N.nx (x0 :: x1 :: some (.ref p) :: x3 :: some (effD C e) :: some (.ref i) :: u6 :: u7 :: t) (sett (sett M p (.lst [.int a, .int c])) i (.lst (b.map prD)))) →
    dLoop (dgN 6) (tb_law_1 K C) N (DL.upTo lo n)
      (x0 :: x1 :: some (.ref p) :: x3 :: some (effD C e) :: some (.ref i) :: u6 :: u7 :: t) (sett (sett M p (.lst [.int a, .int c])) i (.lst (b.map prD)))
  | 0, b, lo, a, c, u6, u7, h, hc, hl, k => by
    unfold DL.upTo dLoop
    exact k b lo a c u6 u7 (by simp) h (by omega) hc
  | n + 1, b, lo, a, c, u6, u7, h, hc, hl, k => by
    unfold DL.upTo dLoop
    simp only [dgN, List.set_cons_zero, List.set_cons_succ]
    refine seq_set ?_
    refine pickMany (p := p) rfl (by rw [sett_ne (Ne.symm hi), sett_same]) hc fun m a1 c1 hm hc1 => ?_
    rw [sett_comm hi, sett_sett]
    have hnn := need_nn ok
    simp only [dDrop, dApp, dTup, dCons, dNil, dVar, dOp, dI0, dI, dProp, insD, dCB, dC, cInt, List.getElem?_cons_zero, List.getElem?_cons_succ, List.set_cons_zero, List.set_cons_succ, sett_same]
    refine ⟨trivial, e, rfl, ok, ⟨(cmp_int _).eq (cmp_int _), ?_⟩⟩
    show IntMulOk _ (if decide (D.int lo = D.int 5) = true then 1 else 0) ∧ _
    refine ⟨mulOk_r (by split <;> decide), by show 2 ≤ sizeLine; decide, ?_⟩
    simp only [sett_same]
    refine ⟨by rw [List.length_map]; have : sizeLine = 16777216 := rfl; omega, ?_⟩
    rw [sett_sett]
    have e1 : b.map prD ++ [.tup [.int lo, .int (m + (e.r - tot e.i + tot e.s) * (if decide (D.int lo = D.int 5) = true then 1 else 0))]] = (b ++ [(lo, m + (e.r - tot e.i + tot e.s) * (if lo = 5 then 1 else 0))]).map prD := by
      rw [dec_int, List.map_append]
      simp
    show dLoop _ _ _ _ _ (sett _ _ (.lst (b.map prD ++ [.tup [.int lo, .int (m + (e.r - tot e.i + tot e.s) * (if decide (D.int lo = D.int 5) = true then 1 else 0))]])))
    rw [e1]
    refine entLoop ok hi n (b ++ [(lo, m + (e.r - tot e.i + tot e.s) * (if lo = 5 then 1 else 0))]) (lo + 1) a1 c1 _ _ ?_ hc1 (by rw [List.length_append, List.length_singleton]; omega) fun b' lo' a c u6 u7 hlo => k b' lo' a c u6 u7 (by rw [hlo]; omega)
    have hpos : 0 ≤ m + (e.r - tot e.i + tot e.s) * (if lo = 5 then 1 else 0) := by
      split <;> omega
    refine ⟨List.pairwise_append.mpr ⟨h.srt, by simp, fun x hx y hy => ?_⟩, fun q hq => ?_, fun q hq => ?_, fun h5 => ?_⟩
    · simp only [List.mem_singleton] at hy
      subst hy
      exact h.lt x hx
    · rcases List.mem_append.mp hq with hq | hq
      · have := h.lt q hq; omega
      · simp only [List.mem_singleton] at hq; subst hq; show lo < lo + 1; omega
    · rcases List.mem_append.mp hq with hq | hq
      · exact h.nn q hq
      · simp only [List.mem_singleton] at hq; subst hq; exact hpos
    · rw [tot_append, tot_one]
      have := tot_nn h.nn
      by_cases h6 : lo = 5
      · rw [if_pos h6]; omega
      · have := h.en (by omega)
        omega
/-- the checks of levels -/
theorem lvLoop {N : DEnds} {M : MH} {e : Eff} {h u : B} {x0 x1 x2 x3 x5 x7 x9 x11 x14 : Option D} (ok : e.Ok) (wh : Wf h) (lh : h.length ≤ 1000000) (wu : Wf u) (lu : u.length < 4000000)
    (hu : ∀ n, lv u n = lv e.s n + max 0 (lv h n + (lv e.i n - lv e.s n) - e.r)) : ∀ (n : Nat) (lo : Int) (u6 u12 u13 : Option D),
    (∀ (u6 u12 u13 : Option D), N.nx [x0, x1, x2, x3, some (effD C e), x5, u6, x7, some (bagD h), x9, some (bagD u), x11, u12, u13, x14] M) →
    dLoop (dgN 6)
    (dSeq (dSet 12 (dSub (dCall (sp_atmost K C) (dCons (dProp C (sp_p_ins K C) (dVar 4)) (dCons (dVar 6) dNil))) (dProp C (sp_p_rem K C) (dVar 4))))
    (dSeq (dSet 13 (dCB (cI2 fun i j => if j > i then j else i) (dCons (dAdd (dCall (sp_atmost K C) (dCons (dVar 8) (dCons (dVar 6) dNil))) (dVar 12)) (dCons (dCall (sp_atmost K C) (dCons (dProp C (sp_p_sur K C) (dVar 4)) (dCons (dVar 6) dNil))) dNil))))
    (dIfS (dB (dNe (dCall (sp_atmost K C) (dCons (dVar 10) (dCons (dVar 6) dNil))) (dVar 13))) (dRet (dC (.bl false))) dNext))) N (DL.upTo lo n)
      [x0, x1, x2, x3, some (effD C e), x5, u6, x7, some (bagD h), x9, some (bagD u), x11, u12, u13, x14] M
  | 0, lo, u6, u12, u13, k => by
    unfold DL.upTo dLoop
    exact k _ _ _
  | n + 1, lo, u6, u12, u13, k => by
    unfold DL.upTo dLoop
    have hz := ok.sz
    have hsz : sizeLine = 16777216 := rfl
    simp only [dgN, dSeq, dSet, dSub, dAdd, dOp, dCall, dCons, dNil, dProp, dVar, dCB, cI2, dIfS, dB, dNe, dI0, insD, dNext, dRet, dC, List.getElem?_cons_zero, List.getElem?_cons_succ, List.set_cons_zero, List.set_cons_succ]
    refine ⟨trivial, e, rfl, e.i, rfl, ok.wi, by omega, trivial, e, rfl, ?_⟩
    refine ⟨h, rfl, wh, by omega, trivial, e, rfl, e.s, rfl, ok.ws, by omega, u, rfl, wu, by omega, ⟨(cmp_int _).eq (cmp_int _), ?_⟩⟩
    have ev : (if lv e.s lo > lv h lo + (lv e.i lo - e.r) then lv e.s lo else lv h lo + (lv e.i lo - e.r)) = lv u lo := by
      rw [hu lo]
      split <;> omega
    rw [ev]
    refine ifN ?_ (lvLoop ok wh lh wu lu hu n (lo + 1) _ _ _ k)
    show ¬ ((!decide (D.int (lv u lo) = D.int (lv u lo))) = true)
    rw [decide_eq_true rfl]
    decide
theorem step38 {ns : List Int} : LStep 15 ns (tb_law_3 K C) := by
  intro N ρ M p a b hp hr hb k
  obtain ⟨hl, hs, hpo⟩ := hr
  match ρ, hl, hs, hpo with
  | [x0, x1, x2, x3, x4, x5, x6, x7, x8, x9, x10, x11, x12, x13, x14], _, hs, hpo =>
  simp only [List.getElem?_cons_zero, List.getElem?_cons_succ, Option.some.injEq] at hs hpo
  subst hs hpo
  have hsz : sizeLine = 16777216 := rfl
  unfold tb_law_3
  show dSeq _ _ _ _ _
  rw [dSeq]
  simp only [dPar, dCall, dCons, dVar, dNil, dLstM, List.getElem?_cons_zero, List.getElem?_cons_succ]
  refine ⟨a, b, sett_same, hb, fun e a b sm hb => ⟨Nat.zero_le _, fun i mi => ?_⟩⟩
  rw [sett_sett] at mi ⊢
  have ok := sm.1
  have hi : i ≠ p := fun e => by rw [e, sett_same] at mi; cases mi
  have mi' : M i = none := by rw [sett_ne hi] at mi; exact mi
  simp only [List.set_cons_zero, List.set_cons_succ]
  show dSeq _ _ _ _ _
  rw [dSeq]
  refine ⟨(by decide : (-(2 ^ 62) ≤ (-4 : Int) ∧ (-4 : Int) < 2 ^ 62 ∧ -(2 ^ 62) ≤ (6 : Int) ∧ (6 : Int) < 2 ^ 62)), ?_⟩
  refine entLoop (t := [x8, x9, x10, x11, x12, x13, x14]) ok hi 10 [] (-4) a b x6 x7 ⟨.nil, by simp, by simp, fun h => by omega⟩ hb (by decide) fun ents lo' a b x6 x7 hlo he hle hb => ?_
  have hen := he.en (by omega)
  -- heap
  refine ⟨i, ents.map prD, rfl, sett_same, ?_⟩
  rw [dell_sett (by rw [sett_ne hi]; exact mi')]
  show dSet _ _ _ _ _
  rw [dSet]
  simp only [List.set_cons_zero, List.set_cons_succ]
  refine keepPos (i := 5) (j := 14) (b := ents) (by show 14 < 15; decide) rfl hle ?_
  have wh : Wf (posB ents) := pos_wf he.srt
  have th : tot (posB ents) = tot ents := lin_pos he.nn _
  have lh : (posB ents).length ≤ 1000 := Nat.le_trans (List.length_filter_le _ _) hle
  generalize posB ents = heap at wh th lh
  have enough1 : enough e heap := ⟨ok, wh, by omega, by omega⟩
  have hz := ok.sz
  -- removed, result
  show dSeq _ _ _ _ _
  rw [dSeq]
  simp only [dPar, dMeth, dVar, dCons, dNil, insD, List.getElem?_cons_zero, List.getElem?_cons_succ, List.set_cons_zero, List.set_cons_succ]
  refine ⟨trivial, lk_no (by decide +kernel), e, heap, rfl, rfl, enough1, fun q wq lq hq => ?_⟩
  refine ⟨trivial, lk_no (by decide +kernel), e, heap, rfl, rfl, enough1, fun u wu lu hu => ?_⟩
  have lo := lost ok wh enough1.2.2.2 wq hq hu
  -- the unions, the size
  show dSeq _ _ _ _ _
  rw [dSeq]
  simp only [dIfS, dOrT, dNext, dB, dNe, dOp, dCall, dCons, dNil, dVar, dProp, insD, List.getElem?_cons_zero, List.getElem?_cons_succ, List.set_cons_zero, List.set_cons_succ]
  refine ⟨by show 2 ≤ sizeLine; decide, [q, u], rfl, fun b hb => ?_, by simp; omega, fun v wv lv' hv => ?_⟩
  · simp only [List.mem_cons, List.mem_nil_iff, or_false] at hb
    rcases hb with rfl | rfl <;> assumption
  refine ⟨trivial, e, rfl, by show 2 ≤ sizeLine; decide, [heap, e.i], rfl, fun b hb => ?_, by simp; omega, fun w ww lw hw => ?_⟩
  · simp only [List.mem_cons, List.mem_nil_iff, or_false] at hb
    rcases hb with rfl | rfl
    · exact wh
    · exact ok.wi
  have evw : v = w := ext_lv wv ww fun n => by
    have h1 := lv_add (r := v) (a := q) (b := u) (fun n => by rw [hv n]; simp) n
    have h2 := lv_add (r := w) (a := heap) (b := e.i) (fun n => by rw [hw n]; simp) n
    have h3 := lo.union n
    omega
  subst evw
  refine ⟨(cmp_bag v).eq (cmp_bag v), ?_⟩
  refine ifN (by show ¬ ((!decide (bagD v = bagD v)) = true); rw [decide_eq_true rfl]; decide) ?_
  refine ⟨q, rfl, wq, by omega, trivial, e, rfl, ⟨(cmp_int _).eq (cmp_int _), ?_⟩⟩
  refine ifN (by show ¬ ((!decide (D.int (tot q) = D.int e.r)) = true); rw [lo.size, decide_eq_true rfl]; decide) ?_
  -- rest
  show dSeq (dSet 11 _) _ _ _ _
  refine seq_set ?_
  simp only [dCall, dCons, dNil, dVar, dProp, insD, List.getElem?_cons_zero, List.getElem?_cons_succ, List.set_cons_zero, List.set_cons_succ]
  refine ⟨trivial, e, rfl, u, e.s, rfl, rfl, wu, ok.ws, by omega, fun ⟨n, hn⟩ => ?_, fun d wd ld hd => ?_⟩
  · exfalso
    have := lo.sur n
    omega
  show dSeq _ _ _ _ _
  rw [dSeq]
  simp only [dIfS, dOrT, dAndT, dNext, dB, dIsN, dNe, dGt, dOp, dVar, dTup, dNil, dI0, dC, dNeg, DL.isNon, dIx, List.getElem?_cons_zero, List.getElem?_cons_succ, List.set_cons_zero, List.set_cons_succ]
  refine ifN (by decide) ⟨Nat.zero_le _, ⟨(cmp_bag d).eq (cmp_bag []), ?_⟩⟩
  have fin : dFor (dWR2 (dCons (dNeg (dC (.int 5))) (dCons (dC (.int 7)) dNil))) (dgN 6) (tb_law_2 K C) N
      [some (.lst (ns.map D.int)), x1, some (.ref p), x3, some (effD C e), some (.lst (ents.map prD)), x6, x7, some (bagD heap), some (bagD q), some (bagD u), some (bagD d), x12, x13, x14] (sett M p (.lst [.int a, .int b])) := by
    refine ⟨(by decide : (-(2 ^ 62) ≤ (-5 : Int) ∧ (-5 : Int) < 2 ^ 62 ∧ -(2 ^ 62) ≤ (7 : Int) ∧ (7 : Int) < 2 ^ 62)), ?_⟩
    exact lvLoop ok wh (by omega) wu lu hu 12 (-5) x6 x12 x13 fun u6 u12 u13 => k _ a b ⟨rfl, rfl, rfl⟩ hb
  show (if (!decide (bagD d = bagD [])) = true then _ else _)
  cases d with
  | nil =>
    refine ifN (by rw [decide_eq_true rfl]; decide) ?_
    exact ifN (by decide) fin
  | cons x d' =>
    refine ifY (by rw [decide_eq_false (fun z => by have := bagD_inj z; cases this)]; decide) ⟨Nat.zero_le _, ⟨(cmp_bag q).eq (cmp_bag []), ?_⟩⟩
    show (if (!decide (bagD q = bagD [])) = true then _ else _)
    rcases List.eq_nil_or_concat q with rfl | ⟨q', y, hqe⟩
    · refine ifN (by rw [decide_eq_true rfl]; decide) ?_
      exact ifN (by decide) fin
    · refine ifY (by rw [decide_eq_false (fun z => by have := bagD_inj z; rw [hqe] at this; simp at this)]; decide) ?_
      have ea : atI (q.map prD) (-1) = some (prD y) := by
        rw [hqe, List.concat_eq_append, List.map_append]
        exact atI_last _ _
      have eb : atI ((x :: d').map prD) 0 = some (prD x) := by rw [List.map_cons]; exact atI_first _ _
      have ec : ∀ z : Int × Int, atI [D.int z.1, D.int z.2] 0 = some (D.int z.1) := fun z => rfl
      simp only [dIx0, seqD, ea, eb, ec]
      have hy : y.1 ≤ x.1 := by
        refine lo.low y (by rw [hqe]; simp) x.1 ?_
        have h1 := hd x.1
        rw [cnt_head wd] at h1
        have h2 := wd.pos x (by simp)
        omega
      refine ifN (by rw [decide_eq_false (by omega)]; decide) fin
theorem rd_law (ds : List D) (M : MH) (Q : D → MH → Prop) (E : EX) (h : sp_law K C ds M Q E) : t_law K C (ends Q E) (startD N_law ds) M := by
  unfold t_law tb_law_4
  exact law_of (NL := N_law) (by decide) (fun ns _ => step_for (by decide) (by decide) (by decide) step38) ds M Q E h
end G

namespace G
open PySem PySem.Spec PyProof.Rows L2 DL
section
variable {P : Program} {w : World} {K : PySem.W.Frag} {mg : Str → Option Value} {base : Heap}
theorem ok_isint (T : Tx K mg) : FnD P w K mg base 1 T.f_isint T.fd_isint ["value"] (sp_isint K T.C_Effect) :=
  defD (N := N_isint) (t := t_isint K T.C_Effect) T.F_isint sc_isint (fun ds M Q E h => by unfold sp_isint at h; split at h <;> first | rfl | exact h.elim) (fun cdv A outer s H E W hr tk =>
      (dss_one (ds_ret (de_and (de_cb call_isi cd_isi rfl T.z_isinstance bt_isinstance (da_cons (dv 0) (da_cons (de_bltn rfl T.z_int bt_int) da_nil))) (de_one (de_not (de_cb call_isi cd_isi rfl T.z_isinstance bt_isinstance (da_cons (dv 0) (da_cons (de_bltn rfl T.z_bool bt_bool) da_nil))))))))) fun ds M Q E h => rd_isint ds M Q E h
theorem ok_iscnt (T : Tx K mg) : FnD P w K mg base 2 T.f_iscnt T.fd_iscnt ["value"] (sp_iscnt K T.C_Effect) :=
  defD (N := N_iscnt) (t := t_iscnt K T.C_Effect) T.F_iscnt sc_iscnt (fun ds M Q E h => by unfold sp_iscnt at h; split at h <;> first | rfl | exact h.elim) (fun cdv A outer s H E W hr tk =>
      (dss_one (ds_ret (de_and (de_call (ok_isint T) (hr.mono (by decide)) rfl T.mg_isint T.kp_isint T.b_isint tk (da_cons (dv 0) da_nil)) (de_one (de_ge (dv 0) de_int)))))) fun ds M Q E h => rd_iscnt ds M Q E h
theorem ok_isbag (T : Tx K mg) : FnD P w K mg base 2 T.f_isbag T.fd_isbag ["value"] (sp_isbag K T.C_Effect) :=
  defD (N := N_isbag) (t := t_isbag K T.C_Effect) T.F_isbag sc_isbag (fun ds M Q E h => by unfold sp_isbag at h; split at h <;> first | rfl | exact h.elim) (fun cdv A outer s H E W hr tk =>
      (dss_cons (ds_if (dt_not (dt_val (de_cb call_isi cd_isi rfl T.z_isinstance bt_isinstance (da_cons (dv 0) (da_cons (de_bltn rfl T.z_tuple bt_tuple) da_nil))))) (dss_one (ds_ret de_bl)) dss_nil)
      (dss_cons (ds_set (i := 1) sc_isbag.nd rfl (Or.inl rfl) (de_lstM da_nil))
      (dss_cons (ds_for (passes_of rfl) rfl (di_tup (dv 0)) (dg_name (i := 2) sc_isbag.nd rfl (Or.inl rfl))
      (dss_cons (ds_if (DWt (dw_or (dt_not (dt_val (de_cb call_isi cd_isi rfl T.z_isinstance bt_isinstance (da_cons (dv 2) (da_cons (de_bltn rfl T.z_tuple bt_tuple) da_nil))))) (dw_or1 (dt_ne hr (de_cb call_len_seq cd_len rfl T.z_len bt_len (da_cons (dv 2) da_nil)) de_int)))) (dss_one (ds_ret de_bl)) dss_nil)
      (dss_cons (ds_asg (dv 2) (dg_tup rfl (dgs_cons (dg_name (i := 3) sc_isbag.nd rfl (Or.inl rfl)) (dgs_cons (dg_name (i := 4) sc_isbag.nd rfl (Or.inl rfl)) dgs_nil))))
      (dss_cons (ds_if (DWt (dw_or (dt_not (dt_val (de_call (ok_isint T) (hr.mono (by decide)) rfl T.mg_isint T.kp_isint T.b_isint tk (da_cons (dv 3) da_nil)))) (dw_or (dt_not (dt_val (de_call (ok_isint T) (hr.mono (by decide)) rfl T.mg_isint T.kp_isint T.b_isint tk (da_cons (dv 4) da_nil)))) (dw_or1 (dt_lt (dv 4) de_int))))) (dss_one (ds_ret de_bl)) dss_nil)
      (dss_cons (ds_if (DWt (dw_and (dt_ne hr (dv 1) (de_lst da_nil)) (dw_and1 (dt_le (dv 3) (de_idx (dv 1) (de_neg de_int)))))) (dss_one (ds_ret de_bl)) dss_nil)
      (dss_one (ds_expr (de_app (dv 1) (dv 3)))))))))
      (dss_one (ds_ret de_bl)))))) fun ds M Q E h => rd_isbag ds M Q E h
theorem ok_cknum (T : Tx K mg) : FnD P w K mg base 2 T.f_cknum T.fd_cknum ["value"] (sp_cknum K T.C_Effect) :=
  defD (N := N_cknum) (t := t_cknum K T.C_Effect) T.F_cknum sc_cknum (fun ds M Q E h => by unfold sp_cknum at h; split at h <;> first | rfl | exact h.elim) (fun cdv A outer s H E W hr tk =>
      (dss_one (ds_if (dt_not (dt_val (de_call (ok_isint T) (hr.mono (by decide)) rfl T.mg_isint T.kp_isint T.b_isint tk (da_cons (dv 0) da_nil)))) (dss_one ds_never) dss_nil))) fun ds M Q E h => rd_cknum ds M Q E h
theorem ok_ckcnt (T : Tx K mg) : FnD P w K mg base 3 T.f_ckcnt T.fd_ckcnt ["value"] (sp_ckcnt K T.C_Effect) :=
  defD (N := N_ckcnt) (t := t_ckcnt K T.C_Effect) T.F_ckcnt sc_ckcnt (fun ds M Q E h => by unfold sp_ckcnt at h; split at h <;> first | rfl | exact h.elim) (fun cdv A outer s H E W hr tk =>
      (dss_one (ds_if (dt_not (dt_val (de_call (ok_iscnt T) (hr.mono (by decide)) rfl T.mg_iscnt T.kp_iscnt T.b_iscnt tk (da_cons (dv 0) da_nil)))) (dss_one ds_never) dss_nil))) fun ds M Q E h => rd_ckcnt ds M Q E h
theorem ok_ckbag (T : Tx K mg) : FnD P w K mg base 3 T.f_ckbag T.fd_ckbag ["value"] (sp_ckbag K T.C_Effect) :=
  defD (N := N_ckbag) (t := t_ckbag K T.C_Effect) T.F_ckbag sc_ckbag (fun ds M Q E h => by unfold sp_ckbag at h; split at h <;> first | rfl | exact h.elim) (fun cdv A outer s H E W hr tk =>
      (dss_one (ds_if (dt_not (dt_val (de_call (ok_isbag T) (hr.mono (by decide)) rfl T.mg_isbag T.kp_isbag T.b_isbag tk (da_cons (dv 0) da_nil)))) (dss_one ds_never) dss_nil))) fun ds M Q E h => rd_ckbag ds M Q E h
theorem ok_fc (T : Tx K mg) : FnD P w K mg base 1 T.f_fc T.fd_fc ["counts"] (sp_fc K T.C_Effect) :=
  defD (N := N_fc) (t := t_fc K T.C_Effect) T.F_fc sc_fc (fun ds M Q E h => by unfold sp_fc at h; split at h <;> first | rfl | exact h.elim) (fun cdv A outer s H E W hr tk =>
      (dss_one (ds_ret (de_cty call_tupN cd_tup rfl T.z_tuple bt_tuple (da_cons (de_cb call_sortN cd_sortP rfl T.z_sorted bt_sorted (da_cons (de_lcI (own := [("number", 1), ("count", 2)]) (g := (.many [1, 2])) (i := 0) rfl sc_fc.nd (blkOk_by (N := N_fc) (sc := defScope s_fc) (by decide +kernel)) (by decide) rfl (fun _ _ _ _ _ => (pg_tup rfl (pgs_cons (pg_name (i := 1) sc_fc.nd rfl (Or.inl rfl)) (pgs_cons (pg_name (i := 2) sc_fc.nd rfl (Or.inl rfl)) pgs_nil)))) (fun _ _ _ _ _ => (pts_one (dt_gt (dv 2) de_int))) (fun _ _ _ _ _ => (de_tup (da_cons (dv 1) (da_cons (dv 2) da_nil))))) da_nil)) da_nil))))) fun ds M Q E h => rd_fc ds M Q E h
theorem ok_add (T : Tx K mg) : FnD P w K mg base 2 T.f_add T.fd_add ["first", "second"] (sp_add K T.C_Effect) :=
  defD (N := N_add) (t := t_add K T.C_Effect) T.F_add sc_add (fun ds M Q E h => by unfold sp_add at h; split at h <;> first | rfl | exact h.elim) (fun cdv A outer s H E W hr tk =>
      (dss_cons (ds_set (i := 2) sc_add.nd rfl (Or.inl rfl) (de_cty (call_dictPT rfl) cd_dict rfl T.z_dict bt_dict (da_cons (dv 0) da_nil)))
      (dss_cons (ds_for (passes_of rfl) rfl (di_tup (dv 1)) (dg_tup rfl (dgs_cons (dg_name (i := 3) sc_add.nd rfl (Or.inl rfl)) (dgs_cons (dg_name (i := 4) sc_add.nd rfl (Or.inl rfl)) dgs_nil)))
      (dss_one (ds_dput hr (dv 2) (dv 3) (de_add (de_dget2 hr (dv 2) (dv 3) de_int ⟨rfl, rfl, rfl, rfl⟩) (dv 4)))))
      (dss_one (ds_ret (de_call (ok_fc T) (hr.mono (by decide)) rfl T.mg_fc T.kp_fc T.b_fc tk (da_cons (dv 2) da_nil))))))) fun ds M Q E h => rd_add ds M Q E h
theorem ok_subt (T : Tx K mg) : FnD P w K mg base 2 T.f_subt T.fd_subt ["bag", "other"] (sp_subt K T.C_Effect) :=
  defD (N := N_subt) (t := t_subt K T.C_Effect) T.F_subt sc_subt (fun ds M Q E h => by unfold sp_subt at h; split at h <;> first | rfl | exact h.elim) (fun cdv A outer s H E W hr tk =>
      (dss_cons (ds_set (i := 2) sc_subt.nd rfl (Or.inl rfl) (de_cty (call_dictPT rfl) cd_dict rfl T.z_dict bt_dict (da_cons (dv 0) da_nil)))
      (dss_cons (ds_for (passes_of rfl) rfl (di_tup (dv 1)) (dg_tup rfl (dgs_cons (dg_name (i := 3) sc_subt.nd rfl (Or.inl rfl)) (dgs_cons (dg_name (i := 4) sc_subt.nd rfl (Or.inl rfl)) dgs_nil)))
      (dss_one (ds_dput hr (dv 2) (dv 3) (de_sub (de_dget2 hr (dv 2) (dv 3) de_int ⟨rfl, rfl, rfl, rfl⟩) (dv 4)))))
      (dss_one (ds_ret (de_if (dt_val (de_cb (cr_any rfl) cd_any rfl T.z_any bt_any (da_cons (de_lcV (own := [("count", 4)]) (g := (.one 4)) (i := 2) rfl sc_subt.nd (blkOk_by (N := N_subt) (sc := defScope s_subt) (by decide +kernel)) (by decide) rfl (fun _ _ _ _ _ => (pg_name (i := 4) sc_subt.nd rfl (Or.inl rfl))) (fun _ _ _ _ _ => (dts_nil rfl)) (fun _ _ _ _ _ => (de_lt (dv 4) de_int))) da_nil))) de_non (de_call (ok_fc T) (hr.mono (by decide)) rfl T.mg_fc T.kp_fc T.b_fc tk (da_cons (dv 2) da_nil)))))))) fun ds M Q E h => rd_subt ds M Q E h
theorem ok_total (T : Tx K mg) : FnD P w K mg base 1 T.f_total T.fd_total ["bag"] (sp_total K T.C_Effect) :=
  defD (N := N_total) (t := t_total K T.C_Effect) T.F_total sc_total (fun ds M Q E h => by unfold sp_total at h; split at h <;> first | rfl | exact h.elim) (fun cdv A outer s H E W hr tk =>
      (dss_one (ds_ret (de_cb (cr_sum rfl) cd_sum rfl T.z_sum bt_sum (da_cons (de_lcA (own := [("number", 1), ("count", 2)]) (g := (.many [1, 2])) rfl sc_total.nd (blkOk_by (N := N_total) (sc := defScope s_total) (by decide +kernel)) (by decide) (di_tup (dv 0)) (fun _ _ _ _ _ => (pg_tup rfl (pgs_cons (pg_name (i := 1) sc_total.nd rfl (Or.inl rfl)) (pgs_cons (pg_name (i := 2) sc_total.nd rfl (Or.inl rfl)) pgs_nil)))) (fun _ _ _ _ _ => (dts_nil rfl)) (fun _ _ _ _ _ => (dv 2))) da_nil))))) fun ds M Q E h => rd_total ds M Q E h
theorem ok_level (T : Tx K mg) : FnD P w K mg base 1 T.f_level T.fd_level ["bag", "number"] (sp_level K T.C_Effect) :=
  defD (N := N_level) (t := t_level K T.C_Effect) T.F_level sc_level (fun ds M Q E h => by unfold sp_level at h; split at h <;> first | rfl | exact h.elim) (fun cdv A outer s H E W hr tk =>
      (dss_one (ds_ret (de_cb (cr_sum rfl) cd_sum rfl T.z_sum bt_sum (da_cons (de_lcA (own := [("one", 2), ("count", 3)]) (g := (.many [2, 3])) rfl sc_level.nd (blkOk_by (N := N_level) (sc := defScope s_level) (by decide +kernel)) (by decide) (di_tup (dv 0)) (fun _ _ _ _ _ => (pg_tup rfl (pgs_cons (pg_name (i := 2) sc_level.nd rfl (Or.inl rfl)) (pgs_cons (pg_name (i := 3) sc_level.nd rfl (Or.inl rfl)) pgs_nil)))) (fun _ _ _ _ _ => (pts_one (dt_le (dv 2) (dv 1)))) (fun _ _ _ _ _ => (dv 3))) da_nil))))) fun ds M Q E h => rd_level ds M Q E h
theorem ok_take (T : Tx K mg) : FnD P w K mg base 1 T.f_take T.fd_take ["bag", "count"] (sp_take K T.C_Effect) :=
  defD (N := N_take) (t := t_take K T.C_Effect) T.F_take sc_take (fun ds M Q E h => by unfold sp_take at h; split at h <;> first | rfl | exact h.elim) (fun cdv A outer s H E W hr tk =>
      (dss_cons (ds_par (i := 2) (j := 3) rfl sc_take.nd rfl rfl (by decide) rfl rfl (da_cons (dv 1) (da_cons (de_lstM da_nil) da_nil)) rfl)
      (dss_cons (ds_for (passes_of rfl) rfl (di_tup (dv 0)) (dg_tup rfl (dgs_cons (dg_name (i := 4) sc_take.nd rfl (Or.inl rfl)) (dgs_cons (dg_name (i := 5) sc_take.nd rfl (Or.inl rfl)) dgs_nil)))
      (dss_one (ds_if (dt_gt (dv 2) de_int) (dss_cons (ds_expr (de_app (dv 3) (de_tup (da_cons (dv 4) (da_cons (de_cb (call_min2 rfl) cd_I2 rfl T.z_min bt_min (da_cons (dv 2) (da_cons (dv 5) da_nil))) da_nil)))))
      (dss_one (ds_subFrom (i := 2) sc_take.nd rfl (Or.inl rfl) (de_idx (de_idx (dv 3) (de_neg de_int)) de_int)))) dss_nil)))
      (dss_one (ds_ret (de_cty call_tupN cd_tup rfl T.z_tuple bt_tuple (da_cons (dv 3) da_nil))))))) fun ds M Q E h => rd_take ds M Q E h
theorem ok_drop (T : Tx K mg) : FnD P w K mg base 1 T.f_drop T.fd_drop ["bag", "count"] (sp_drop K T.C_Effect) :=
  defD (N := N_drop) (t := t_drop K T.C_Effect) T.F_drop sc_drop (fun ds M Q E h => by unfold sp_drop at h; split at h <;> first | rfl | exact h.elim) (fun cdv A outer s H E W hr tk =>
      (dss_cons (ds_par (i := 2) (j := 3) rfl sc_drop.nd rfl rfl (by decide) rfl rfl (da_cons (dv 1) (da_cons (de_lstM da_nil) da_nil)) rfl)
      (dss_cons (ds_for (passes_of rfl) rfl (di_tup (dv 0)) (dg_tup rfl (dgs_cons (dg_name (i := 4) sc_drop.nd rfl (Or.inl rfl)) (dgs_cons (dg_name (i := 5) sc_drop.nd rfl (Or.inl rfl)) dgs_nil)))
      (dss_cons (ds_set (i := 6) sc_drop.nd rfl (Or.inl rfl) (de_cb (call_min2 rfl) cd_I2 rfl T.z_min bt_min (da_cons (dv 2) (da_cons (dv 5) da_nil))))
      (dss_cons (ds_subFrom (i := 2) sc_drop.nd rfl (Or.inl rfl) (dv 6))
      (dss_one (ds_if (dt_gt (dv 5) (dv 6)) (dss_one (ds_expr (de_app (dv 3) (de_tup (da_cons (dv 4) (da_cons (de_sub (dv 5) (dv 6)) da_nil)))))) dss_nil)))))
      (dss_one (ds_ret (de_cty call_tupN cd_tup rfl T.z_tuple bt_tuple (da_cons (dv 3) da_nil))))))) fun ds M Q E h => rd_drop ds M Q E h
theorem ok_sizeof (T : Tx K mg) : FnD P w K mg base 4 T.f_sizeof T.fd_sizeof ["bag"] (sp_sizeof K T.C_Effect) :=
  defD (N := N_sizeof) (t := t_sizeof K T.C_Effect) T.F_sizeof sc_sizeof (fun ds M Q E h => by unfold sp_sizeof at h; split at h <;> first | rfl | exact h.elim) (fun cdv A outer s H E W hr tk =>
      (dss_cons (ds_expr (de_call (ok_ckbag T) (hr.mono (by decide)) rfl T.mg_ckbag T.kp_ckbag T.b_ckbag tk (da_cons (dv 0) da_nil)))
      (dss_one (ds_ret (de_call (ok_total T) (hr.mono (by decide)) rfl T.mg_total T.kp_total T.b_total tk (da_cons (dv 0) da_nil)))))) fun ds M Q E h => rd_sizeof ds M Q E h
theorem ok_atmost (T : Tx K mg) : FnD P w K mg base 4 T.f_atmost T.fd_atmost ["bag", "number"] (sp_atmost K T.C_Effect) :=
  defD (N := N_atmost) (t := t_atmost K T.C_Effect) T.F_atmost sc_atmost (fun ds M Q E h => by unfold sp_atmost at h; split at h <;> first | rfl | exact h.elim) (fun cdv A outer s H E W hr tk =>
      (dss_cons (ds_expr (de_call (ok_ckbag T) (hr.mono (by decide)) rfl T.mg_ckbag T.kp_ckbag T.b_ckbag tk (da_cons (dv 0) da_nil)))
      (dss_cons (ds_expr (de_call (ok_cknum T) (hr.mono (by decide)) rfl T.mg_cknum T.kp_cknum T.b_cknum tk (da_cons (dv 1) da_nil)))
      (dss_one (ds_ret (de_call (ok_level T) (hr.mono (by decide)) rfl T.mg_level T.kp_level T.b_level tk (da_cons (dv 0) (da_cons (dv 1) da_nil)))))))) fun ds M Q E h => rd_atmost ds M Q E h
theorem ok_union (T : Tx K mg) : FnS P w K mg base 4 T.f_union (starSp (sp_union K T.C_Effect)) :=
  starD (N := N_union) (t := t_union K T.C_Effect) T.F_union sc_union (fun kV doc pm an cdv ct rest => by cases rest <;> rfl) (fun cdv A outer s H E W hr tk =>
      (dss_cons (ds_set (i := 1) sc_union.nd rfl (Or.inl rfl) (de_tup da_nil))
      (dss_cons (ds_for (passes_of rfl) rfl (di_tup (dv 0)) (dg_name (i := 2) sc_union.nd rfl (Or.inl rfl))
      (dss_cons (ds_expr (de_call (ok_ckbag T) (hr.mono (by decide)) rfl T.mg_ckbag T.kp_ckbag T.b_ckbag tk (da_cons (dv 2) da_nil)))
      (dss_one (ds_set (i := 1) sc_union.nd rfl (Or.inl rfl) (de_call (ok_add T) (hr.mono (by decide)) rfl T.mg_add T.kp_add T.b_add tk (da_cons (dv 1) (da_cons (dv 2) da_nil)))))))
      (dss_one (ds_ret (dv 1)))))) fun ds M Q E h => rd_union ds M Q E h
theorem ok_diff (T : Tx K mg) : FnD P w K mg base 4 T.f_diff T.fd_diff ["bag", "other"] (sp_diff K T.C_Effect) :=
  defD (N := N_diff) (t := t_diff K T.C_Effect) T.F_diff sc_diff (fun ds M Q E h => by unfold sp_diff at h; split at h <;> first | rfl | exact h.elim) (fun cdv A outer s H E W hr tk =>
      (dss_cons (ds_expr (de_call (ok_ckbag T) (hr.mono (by decide)) rfl T.mg_ckbag T.kp_ckbag T.b_ckbag tk (da_cons (dv 0) da_nil)))
      (dss_cons (ds_expr (de_call (ok_ckbag T) (hr.mono (by decide)) rfl T.mg_ckbag T.kp_ckbag T.b_ckbag tk (da_cons (dv 1) da_nil)))
      (dss_one (ds_ret (de_call (ok_subt T) (hr.mono (by decide)) rfl T.mg_subt T.kp_subt T.b_subt tk (da_cons (dv 0) (da_cons (dv 1) da_nil)))))))) fun ds M Q E h => rd_diff ds M Q E h
theorem ok_fault (T : Tx K mg) : FnD P w K mg base 3 T.f_fault T.fd_fault ["inserted", "removals", "survivors"] (sp_fault K T.C_Effect) :=
  defD (N := N_fault) (t := t_fault K T.C_Effect) T.F_fault sc_fault (fun ds M Q E h => by unfold sp_fault at h; split at h <;> first | rfl | exact h.elim) (fun cdv A outer s H E W hr tk =>
      (dss_cons (ds_set (i := 3) sc_fault.nd rfl (Or.inl rfl) (de_call (ok_subt T) (hr.mono (by decide)) rfl T.mg_subt T.kp_subt T.b_subt tk (da_cons (dv 0) (da_cons (dv 2) da_nil))))
      (dss_cons (ds_if (dt_isN (dv 3)) (dss_one (ds_ret de_str)) dss_nil)
      (dss_one (ds_ret (de_if (dt_gt (de_call (ok_total T) (hr.mono (by decide)) rfl T.mg_total T.kp_total T.b_total tk (da_cons (dv 3) da_nil)) (dv 1)) de_str de_non)))))) fun ds M Q E h => rd_fault ds M Q E h
theorem ok_init (T : Tx K mg) : FnD P w K mg base 4 T.f_init T.fd_init ["self", "inserted", "removals", "survivors"] (sp_init K T.C_Effect) :=
  defD (N := N_init) (t := t_init K T.C_Effect) T.F_init sc_init (fun ds M Q E h => by unfold sp_init at h; split at h <;> first | rfl | exact h.elim) (fun cdv A outer s H E W hr tk =>
      (dss_cons (ds_expr (de_call (ok_ckbag T) (hr.mono (by decide)) rfl T.mg_ckbag T.kp_ckbag T.b_ckbag tk (da_cons (dv 1) da_nil)))
      (dss_cons (ds_expr (de_call (ok_ckcnt T) (hr.mono (by decide)) rfl T.mg_ckcnt T.kp_ckcnt T.b_ckcnt tk (da_cons (dv 2) da_nil)))
      (dss_cons (ds_expr (de_call (ok_ckbag T) (hr.mono (by decide)) rfl T.mg_ckbag T.kp_ckbag T.b_ckbag tk (da_cons (dv 3) da_nil)))
      (dss_cons (ds_set (i := 4) sc_init.nd rfl (Or.inl rfl) (de_call (ok_fault T) (hr.mono (by decide)) rfl T.mg_fault T.kp_fault T.b_fault tk (da_cons (dv 1) (da_cons (dv 2) (da_cons (dv 3) da_nil)))))
      (dss_cons (ds_if (dt_notN (dv 4)) (dss_one ds_never) dss_nil)
      (dss_one (ds_putF (dv 0) (de_tup (da_cons (dv 1) (da_cons (dv 2) (da_cons (dv 3) da_nil)))) T.C_Effect T.cls_Effect T.no_own_parts (ps_fld (dv 0) (de_tup (da_cons (dv 1) (da_cons (dv 2) (da_cons (dv 3) da_nil)))) rfl))))))))) fun ds M Q E h => rd_init ds M Q E h
theorem ok_p_ins (T : Tx K mg) : FnD P w K mg base 1 T.f_p_ins T.fd_p_ins ["self"] (sp_p_ins K T.C_Effect) :=
  defD (N := N_p_ins) (t := t_p_ins K T.C_Effect) T.F_p_ins sc_p_ins (fun ds M Q E h => by unfold sp_p_ins at h; split at h <;> first | rfl | exact h.elim) (fun cdv A outer s H E W hr tk =>
      (dss_one (ds_ret (de_idx (de_fld T.cls_Effect T.no_own_parts (dv 0)) de_int)))) fun ds M Q E h => rd_p_ins ds M Q E h
theorem ok_p_rem (T : Tx K mg) : FnD P w K mg base 1 T.f_p_rem T.fd_p_rem ["self"] (sp_p_rem K T.C_Effect) :=
  defD (N := N_p_rem) (t := t_p_rem K T.C_Effect) T.F_p_rem sc_p_rem (fun ds M Q E h => by unfold sp_p_rem at h; split at h <;> first | rfl | exact h.elim) (fun cdv A outer s H E W hr tk =>
      (dss_one (ds_ret (de_idx (de_fld T.cls_Effect T.no_own_parts (dv 0)) de_int)))) fun ds M Q E h => rd_p_rem ds M Q E h
theorem ok_p_sur (T : Tx K mg) : FnD P w K mg base 1 T.f_p_sur T.fd_p_sur ["self"] (sp_p_sur K T.C_Effect) :=
  defD (N := N_p_sur) (t := t_p_sur K T.C_Effect) T.F_p_sur sc_p_sur (fun ds M Q E h => by unfold sp_p_sur at h; split at h <;> first | rfl | exact h.elim) (fun cdv A outer s H E W hr tk =>
      (dss_one (ds_ret (de_idx (de_fld T.cls_Effect T.no_own_parts (dv 0)) de_int)))) fun ds M Q E h => rd_p_sur ds M Q E h
theorem ok_p_con (T : Tx K mg) : FnD P w K mg base 3 T.f_p_con T.fd_p_con ["self"] (sp_p_con K T.C_Effect) :=
  defD (N := N_p_con) (t := t_p_con K T.C_Effect) T.F_p_con sc_p_con (fun ds M Q E h => by unfold sp_p_con at h; split at h <;> first | rfl | exact h.elim) (fun cdv A outer s H E W hr tk =>
      (dss_one (ds_ret (de_call (ok_subt T) (hr.mono (by decide)) rfl T.mg_subt T.kp_subt T.b_subt tk (da_cons (de_idx (de_fld T.cls_Effect T.no_own_parts (dv 0)) de_int) (da_cons (de_idx (de_fld T.cls_Effect T.no_own_parts (dv 0)) de_int) da_nil)))))) fun ds M Q E h => rd_p_con ds M Q E h
theorem ok_p_need (T : Tx K mg) : FnD P w K mg base 2 T.f_p_need T.fd_p_need ["self"] (sp_p_need K T.C_Effect) :=
  defD (N := N_p_need) (t := t_p_need K T.C_Effect) T.F_p_need sc_p_need (fun ds M Q E h => by unfold sp_p_need at h; split at h <;> first | rfl | exact h.elim) (fun cdv A outer s H E W hr tk =>
      (dss_one (ds_ret (de_add (de_sub (de_idx (de_fld T.cls_Effect T.no_own_parts (dv 0)) de_int) (de_call (ok_total T) (hr.mono (by decide)) rfl T.mg_total T.kp_total T.b_total tk (da_cons (de_idx (de_fld T.cls_Effect T.no_own_parts (dv 0)) de_int) da_nil))) (de_call (ok_total T) (hr.mono (by decide)) rfl T.mg_total T.kp_total T.b_total tk (da_cons (de_idx (de_fld T.cls_Effect T.no_own_parts (dv 0)) de_int) da_nil)))))) fun ds M Q E h => rd_p_need ds M Q E h
theorem ok_m_pool (T : Tx K mg) : FnD P w K mg base 5 T.f_m_pool T.fd_m_pool ["self", "bag"] (sp_m_pool K T.C_Effect) :=
  defD (N := N_m_pool) (t := t_m_pool K T.C_Effect) T.F_m_pool sc_m_pool (fun ds M Q E h => by unfold sp_m_pool at h; split at h <;> first | rfl | exact h.elim) (fun cdv A outer s H E W hr tk =>
      (dss_cons (ds_expr (de_call (ok_ckbag T) (hr.mono (by decide)) rfl T.mg_ckbag T.kp_ckbag T.b_ckbag tk (da_cons (dv 1) da_nil)))
      (dss_cons (ds_if (dt_lt (de_call (ok_total T) (hr.mono (by decide)) rfl T.mg_total T.kp_total T.b_total tk (da_cons (dv 1) da_nil)) (de_prop T.cls_Effect T.pr_needed (ok_p_need T) (hr.mono (by decide)) T.b_p_need (dv 0))) (dss_one ds_never) dss_nil)
      (dss_one (ds_ret (de_call (ok_add T) (hr.mono (by decide)) rfl T.mg_add T.kp_add T.b_add tk (da_cons (dv 1) (da_cons (de_prop T.cls_Effect T.pr_consumed (ok_p_con T) (hr.mono (by decide)) T.b_p_con (dv 0)) da_nil)))))))) fun ds M Q E h => rd_m_pool ds M Q E h
theorem ok_m_apply (T : Tx K mg) : FnD P w K mg base 6 T.f_m_apply T.fd_m_apply ["self", "bag"] (sp_m_apply K T.C_Effect) :=
  defD (N := N_m_apply) (t := t_m_apply K T.C_Effect) T.F_m_apply sc_m_apply (fun ds M Q E h => by unfold sp_m_apply at h; split at h <;> first | rfl | exact h.elim) (fun cdv A outer s H E W hr tk =>
      (dss_one (ds_ret (de_call (ok_add T) (hr.mono (by decide)) rfl T.mg_add T.kp_add T.b_add tk (da_cons (de_prop T.cls_Effect T.pr_survivors (ok_p_sur T) (hr.mono (by decide)) T.b_p_sur (dv 0)) (da_cons (de_call (ok_drop T) (hr.mono (by decide)) rfl T.mg_drop T.kp_drop T.b_drop tk (da_cons (de_meth T.cls_Effect T.me_pool (ok_m_pool T) (hr.mono (by decide)) T.b_m_pool tk (dv 0) (da_cons (dv 1) da_nil)) (da_cons (de_prop T.cls_Effect T.pr_removals (ok_p_rem T) (hr.mono (by decide)) T.b_p_rem (dv 0)) da_nil))) da_nil)))))) fun ds M Q E h => rd_m_apply ds M Q E h
theorem ok_m_removed (T : Tx K mg) : FnD P w K mg base 6 T.f_m_removed T.fd_m_removed ["self", "bag"] (sp_m_removed K T.C_Effect) :=
  defD (N := N_m_removed) (t := t_m_removed K T.C_Effect) T.F_m_removed sc_m_removed (fun ds M Q E h => by unfold sp_m_removed at h; split at h <;> first | rfl | exact h.elim) (fun cdv A outer s H E W hr tk =>
      (dss_one (ds_ret (de_call (ok_take T) (hr.mono (by decide)) rfl T.mg_take T.kp_take T.b_take tk (da_cons (de_meth T.cls_Effect T.me_pool (ok_m_pool T) (hr.mono (by decide)) T.b_m_pool tk (dv 0) (da_cons (dv 1) da_nil)) (da_cons (de_prop T.cls_Effect T.pr_removals (ok_p_rem T) (hr.mono (by decide)) T.b_p_rem (dv 0)) da_nil)))))) fun ds M Q E h => rd_m_removed ds M Q E h
theorem ok_pool (T : Tx K mg) : FnD P w K mg base 1 T.f_pool T.fd_pool ["script", "k"] (sp_pool K T.C_Effect) :=
  defD (N := N_pool) (t := t_pool K T.C_Effect) T.F_pool sc_pool (fun ds M Q E h => by unfold sp_pool at h; split at h <;> first | rfl | exact h.elim) (fun cdv A outer s H E W hr tk =>
      (dss_cons (ds_set (i := 2) sc_pool.nd rfl (Or.inl rfl) (de_add (de_mulW de_int (de_cb (cr_sum rfl) cd_sum rfl T.z_sum bt_sum (da_cons (de_slice (dv 0) do_none (do_some de_int)) da_nil))) (dv 1)))
      (dss_cons (ds_if (dt_lt (dv 1) (de_cb call_len_seq cd_len rfl T.z_len bt_len (da_cons (dv 0) da_nil))) (dss_one (ds_set (i := 2) sc_pool.nd rfl (Or.inl rfl) (de_idx (dv 0) (dv 1)))) dss_nil)
      (dss_cons (ds_set (i := 3) sc_pool.nd rfl (Or.inl rfl) (de_cb call_abs cd_I1 rfl T.z_abs bt_abs (da_cons (dv 2) da_nil)))
      (dss_cons (ds_set (i := 4) sc_pool.nd rfl (Or.inl rfl) (de_mod (de_mulW (de_add (de_add (de_add (de_mod (dv 3) de_int) (de_mulW (de_mulW de_int (dv 1)) (dv 1))) (de_mulW de_int (dv 1))) de_int) de_int) de_int))
      (dss_one (ds_ret (de_lstM (da_cons (de_mulW (dv 3) (de_cty call_int1 cd_int rfl T.z_int bt_int (da_cons (de_ge (dv 3) (de_pow de_int de_int)) da_nil))) (da_cons (de_mod (de_mulW (dv 4) (dv 4)) de_int) da_nil)))))))))) fun ds M Q E h => rd_pool ds M Q E h
theorem ok_draw (T : Tx K mg) : FnD P w K mg base 1 T.f_draw T.fd_draw ["pool", "many"] (sp_draw K T.C_Effect) :=
  defD (N := N_draw) (t := t_draw K T.C_Effect) T.F_draw sc_draw (fun ds M Q E h => by unfold sp_draw at h; split at h <;> first | rfl | exact h.elim) (fun cdv A outer s H E W hr tk =>
      (dss_cons (ds_if (dt_gt (de_idx (dv 0) de_int) de_int) (dss_cons (ds_set (i := 2) sc_draw.nd rfl (Or.inl rfl) (de_mod (de_idx (dv 0) de_int) (dv 1)))
      (dss_cons (ds_asg (de_fdiv (de_idx (dv 0) de_int) (dv 1)) (dg_ix (W := W0) (dv 0) de_int))
      (dss_one (ds_ret (dv 2))))) dss_nil)
      (dss_cons (ds_asg (de_mod (de_add (de_mulW (de_idx (dv 0) de_int) de_int) de_int) de_int) (dg_ix (W := W0) (dv 0) de_int))
      (dss_one (ds_ret (de_mod (de_fdiv (de_mod (de_mulW (de_idx (dv 0) de_int) (de_idx (dv 0) de_int)) de_int) de_int) (dv 1))))))) fun ds M Q E h => rd_draw ds M Q E h
theorem ok_great (T : Tx K mg) : FnD P w K mg base 6 T.f_great T.fd_great ["pool"] (sp_great K T.C_Effect) :=
  defD (N := N_great) (t := t_great K T.C_Effect) T.F_great sc_great (fun ds M Q E h => by unfold sp_great at h; split at h <;> first | rfl | exact h.elim) (fun cdv A outer s H E W hr tk =>
      (dss_cons (ds_par3 (i := 1) (j := 2) (l := 3) rfl sc_great.nd rfl rfl rfl (by decide) (by decide) (by decide) rfl rfl rfl (da_cons (de_lstM da_nil) (da_cons (de_lstM da_nil) (da_cons de_int da_nil))) rfl)
      (dss_cons (ds_for (passes_of rfl) rfl (di_range2 rfl T.z_range (da_cons (de_neg de_int) (da_cons de_int da_nil))) (dg_name (i := 4) sc_great.nd rfl (Or.inl rfl))
      (dss_cons (ds_set (i := 5) sc_great.nd rfl (Or.inl rfl) (de_idx (de_lst (da_cons de_int (da_cons (de_call (ok_draw T) (hr.mono (by decide)) rfl T.mg_draw T.kp_draw T.b_draw tk (da_cons (dv 0) (da_cons de_int da_nil))) (da_cons (de_call (ok_draw T) (hr.mono (by decide)) rfl T.mg_draw T.kp_draw T.b_draw tk (da_cons (dv 0) (da_cons (de_pow de_int de_int) da_nil))) da_nil)))) (de_call (ok_draw T) (hr.mono (by decide)) rfl T.mg_draw T.kp_draw T.b_draw tk (da_cons (dv 0) (da_cons de_int da_nil)))))
      (dss_cons (ds_set (i := 6) sc_great.nd rfl (Or.inl rfl) (de_idx (de_lst (da_cons de_int (da_cons (dv 5) (da_cons (de_call (ok_draw T) (hr.mono (by decide)) rfl T.mg_draw T.kp_draw T.b_draw tk (da_cons (dv 0) (da_cons (de_add (dv 5) de_int) da_nil))) da_nil)))) (de_call (ok_draw T) (hr.mono (by decide)) rfl T.mg_draw T.kp_draw T.b_draw tk (da_cons (dv 0) (da_cons de_int da_nil)))))
      (dss_cons (ds_expr (de_app (dv 1) (de_tup (da_cons (dv 4) (da_cons (dv 5) da_nil)))))
      (dss_cons (ds_expr (de_app (dv 2) (de_tup (da_cons (dv 4) (da_cons (dv 6) da_nil)))))
      (dss_one (ds_set (i := 3) sc_great.nd rfl (Or.inl rfl) (de_sub (de_add (dv 3) (dv 5)) (dv 6)))))))))
      (dss_cons (ds_frz (i := 1) (ds_set (i := 1) sc_great.nd rfl (Or.inl rfl) (de_cty call_tupN cd_tup rfl T.z_tuple bt_tuple (da_cons (de_lcA (own := [("entry", 8)]) (g := (.one 8)) rfl sc_great.nd (blkOk_by (N := N_great) (sc := defScope s_great) (by decide +kernel)) (by decide) (di_lst (dv 1)) (fun _ _ _ _ _ => (pg_name (i := 8) sc_great.nd rfl (Or.inl rfl))) (fun _ _ _ _ _ => (pts_one (dt_gt (de_idx (dv 8) de_int) de_int))) (fun _ _ _ _ _ => (dv 8))) da_nil))))
      (dss_cons (ds_frz (i := 2) (ds_set (i := 2) sc_great.nd rfl (Or.inl rfl) (de_cty call_tupN cd_tup rfl T.z_tuple bt_tuple (da_cons (de_lcA (own := [("entry", 8)]) (g := (.one 8)) rfl sc_great.nd (blkOk_by (N := N_great) (sc := defScope s_great) (by decide +kernel)) (by decide) (di_lst (dv 2)) (fun _ _ _ _ _ => (pg_name (i := 8) sc_great.nd rfl (Or.inl rfl))) (fun _ _ _ _ _ => (pts_one (dt_gt (de_idx (dv 8) de_int) de_int))) (fun _ _ _ _ _ => (dv 8))) da_nil))))
      (dss_cons (ds_set (i := 7) sc_great.nd rfl (Or.inl rfl) (de_idx (de_lst (da_cons de_int (da_cons (de_call (ok_draw T) (hr.mono (by decide)) rfl T.mg_draw T.kp_draw T.b_draw tk (da_cons (dv 0) (da_cons de_int da_nil))) (da_cons (de_call (ok_draw T) (hr.mono (by decide)) rfl T.mg_draw T.kp_draw T.b_draw tk (da_cons (dv 0) (da_cons (de_pow de_int de_int) da_nil))) da_nil)))) (de_call (ok_draw T) (hr.mono (by decide)) rfl T.mg_draw T.kp_draw T.b_draw tk (da_cons (dv 0) (da_cons de_int da_nil)))))
      (dss_one (ds_ret (de_make T.mk_Effect (ok_init T) (hr.mono (by decide)) rfl T.mg_Effect T.b_init tk (da_cons (dv 1) (da_cons (de_add (dv 3) (dv 7)) (da_cons (dv 2) da_nil)))))))))))) fun ds M Q E h => rd_great ds M Q E h
theorem ok_law (T : Tx K mg) : FnD P w K mg base 7 T.f_law T.fd_law ["script"] (sp_law K T.C_Effect) :=
  defD (N := N_law) (t := t_law K T.C_Effect) T.F_law sc_law (fun ds M Q E h => by unfold sp_law at h; split at h <;> first | rfl | exact h.elim) (fun cdv A outer s H E W hr tk =>
      (dss_cons (ds_for (passes_of rfl) rfl (di_range1 rfl T.z_range (da_cons (de_cb (call_max2 rfl) cd_I2 rfl T.z_max bt_max (da_cons de_int (da_cons (de_cb (call_min2 rfl) cd_I2 rfl T.z_min bt_min (da_cons (de_cb call_len_seq cd_len rfl T.z_len bt_len (da_cons (dv 0) da_nil)) (da_cons de_int da_nil))) da_nil))) da_nil)) (dg_name (i := 1) sc_law.nd rfl (Or.inl rfl))
      (dss_cons (ds_set (i := 2) sc_law.nd rfl (Or.inl rfl) (de_call (ok_pool T) (hr.mono (by decide)) rfl T.mg_pool T.kp_pool T.b_pool tk (da_cons (dv 0) (da_cons (dv 1) da_nil))))
      (dss_one (ds_for (passes_of rfl) rfl (di_range1 rfl T.z_range (da_cons de_int da_nil)) (dg_name (i := 3) sc_law.nd rfl (Or.inl rfl))
      (dss_cons (ds_par (i := 4) (j := 5) rfl sc_law.nd rfl rfl (by decide) rfl rfl (da_cons (de_call (ok_great T) (hr.mono (by decide)) rfl T.mg_great T.kp_great T.b_great tk (da_cons (dv 2) da_nil)) (da_cons (de_lstM da_nil) da_nil)) rfl)
      (dss_cons (ds_for (passes_of rfl) rfl (di_range2 rfl T.z_range (da_cons (de_neg de_int) (da_cons de_int da_nil))) (dg_name (i := 6) sc_law.nd rfl (Or.inl rfl))
      (dss_cons (ds_set (i := 7) sc_law.nd rfl (Or.inl rfl) (de_idx (de_lst (da_cons de_int (da_cons (de_call (ok_draw T) (hr.mono (by decide)) rfl T.mg_draw T.kp_draw T.b_draw tk (da_cons (dv 2) (da_cons de_int da_nil))) (da_cons (de_call (ok_draw T) (hr.mono (by decide)) rfl T.mg_draw T.kp_draw T.b_draw tk (da_cons (dv 2) (da_cons (de_pow de_int de_int) da_nil))) da_nil)))) (de_call (ok_draw T) (hr.mono (by decide)) rfl T.mg_draw T.kp_draw T.b_draw tk (da_cons (dv 2) (da_cons de_int da_nil)))))
      (dss_one (ds_expr (de_app (dv 5) (de_tup (da_cons (dv 6) (da_cons (de_add (dv 7) (de_mulW (de_prop T.cls_Effect T.pr_needed (ok_p_need T) (hr.mono (by decide)) T.b_p_need (dv 4)) (de_cty call_int1 cd_int rfl T.z_int bt_int (da_cons (de_eq hr (dv 6) de_int) da_nil)))) da_nil))))))))
      (dss_cons (ds_frz (i := 5) (ds_set (i := 8) sc_law.nd rfl (Or.inl rfl) (de_cty call_tupN cd_tup rfl T.z_tuple bt_tuple (da_cons (de_lcA (own := [("entry", 14)]) (g := (.one 14)) rfl sc_law.nd (blkOk_by (N := N_law) (sc := defScope s_law) (by decide +kernel)) (by decide) (di_lst (dv 5)) (fun _ _ _ _ _ => (pg_name (i := 14) sc_law.nd rfl (Or.inl rfl))) (fun _ _ _ _ _ => (pts_one (dt_gt (de_idx (dv 14) de_int) de_int))) (fun _ _ _ _ _ => (dv 14))) da_nil))))
      (dss_cons (ds_par (i := 9) (j := 10) rfl sc_law.nd rfl rfl (by decide) rfl rfl (da_cons (de_meth T.cls_Effect T.me_removed (ok_m_removed T) (hr.mono (by decide)) T.b_m_removed tk (dv 4) (da_cons (dv 8) da_nil)) (da_cons (de_meth T.cls_Effect T.me_apply (ok_m_apply T) (hr.mono (by decide)) T.b_m_apply tk (dv 4) (da_cons (dv 8) da_nil)) da_nil)) rfl)
      (dss_cons (ds_if (DWt (dw_or (dt_ne hr (de_callS (ok_union T) (hr.mono (by decide)) rfl T.mg_union T.kp_union tk (da_cons (dv 9) (da_cons (dv 10) da_nil))) (de_callS (ok_union T) (hr.mono (by decide)) rfl T.mg_union T.kp_union tk (da_cons (dv 8) (da_cons (de_prop T.cls_Effect T.pr_inserted (ok_p_ins T) (hr.mono (by decide)) T.b_p_ins (dv 4)) da_nil)))) (dw_or1 (dt_ne hr (de_call (ok_sizeof T) (hr.mono (by decide)) rfl T.mg_sizeof T.kp_sizeof T.b_sizeof tk (da_cons (dv 9) da_nil)) (de_prop T.cls_Effect T.pr_removals (ok_p_rem T) (hr.mono (by decide)) T.b_p_rem (dv 4)))))) (dss_one (ds_ret de_bl)) dss_nil)
      (dss_cons (ds_set (i := 11) sc_law.nd rfl (Or.inl rfl) (de_call (ok_diff T) (hr.mono (by decide)) rfl T.mg_diff T.kp_diff T.b_diff tk (da_cons (dv 10) (da_cons (de_prop T.cls_Effect T.pr_survivors (ok_p_sur T) (hr.mono (by decide)) T.b_p_sur (dv 4)) da_nil))))
      (dss_cons (ds_if (DWt (dw_or (dt_isN (dv 11)) (dw_or1 (DWt (dw_and (dt_ne hr (dv 11) (de_tup da_nil)) (dw_and (dt_ne hr (dv 9) (de_tup da_nil)) (dw_and1 (dt_gt (de_idx (de_idx (dv 9) (de_neg de_int)) de_int) (de_idx (de_idx (dv 11) de_int) de_int))))))))) (dss_one (ds_ret de_bl)) dss_nil)
      (dss_one (ds_for (passes_of rfl) rfl (di_range2 rfl T.z_range (da_cons (de_neg de_int) (da_cons de_int da_nil))) (dg_name (i := 6) sc_law.nd rfl (Or.inl rfl))
      (dss_cons (ds_set (i := 12) sc_law.nd rfl (Or.inl rfl) (de_sub (de_call (ok_atmost T) (hr.mono (by decide)) rfl T.mg_atmost T.kp_atmost T.b_atmost tk (da_cons (de_prop T.cls_Effect T.pr_inserted (ok_p_ins T) (hr.mono (by decide)) T.b_p_ins (dv 4)) (da_cons (dv 6) da_nil))) (de_prop T.cls_Effect T.pr_removals (ok_p_rem T) (hr.mono (by decide)) T.b_p_rem (dv 4))))
      (dss_cons (ds_set (i := 13) sc_law.nd rfl (Or.inl rfl) (de_cb (call_max2 rfl) cd_I2 rfl T.z_max bt_max (da_cons (de_add (de_call (ok_atmost T) (hr.mono (by decide)) rfl T.mg_atmost T.kp_atmost T.b_atmost tk (da_cons (dv 8) (da_cons (dv 6) da_nil))) (dv 12)) (da_cons (de_call (ok_atmost T) (hr.mono (by decide)) rfl T.mg_atmost T.kp_atmost T.b_atmost tk (da_cons (de_prop T.cls_Effect T.pr_survivors (ok_p_sur T) (hr.mono (by decide)) T.b_p_sur (dv 4)) (da_cons (dv 6) da_nil))) da_nil))))
      (dss_one (ds_if (dt_ne hr (de_call (ok_atmost T) (hr.mono (by decide)) rfl T.mg_atmost T.kp_atmost T.b_atmost tk (da_cons (dv 10) (da_cons (dv 6) da_nil))) (dv 13)) (dss_one (ds_ret de_bl)) dss_nil)))))))))))))))))
      (dss_one (ds_ret de_bl)))) fun ds M Q E h => rd_law ds M Q E h
end
theorem endF {K : PySem.W.Frag} {mg : Str → Option Value} {P : Program} {w : World} {fa : Addr} (T : Tx K mg) (hfa : mg "law" = some (.ref fa)) :
    ∃ fd : FuncData, (∀ (s : Shared) (v : Value), BindsTo s fd ⟨[v], []⟩ [("script", v)]) ∧ ∀ base : Heap, K.In base → base.Ns mainGlobals mg → FnOk P w K mg base (L2.CX P w) 7 fa fd ["script"] (lSp K (sp_law K 0)) := by
  have e : fa = T.f_law := Value.ref.inj (Option.some.inj (hfa.symm.trans T.mg_law))
  subst e
  refine ⟨T.fd_law, fun s v => ?_, fun base _ _ => ok_law T⟩
  obtain ⟨oc, od, kV, doc, pm, an, cdv, ct, osl, e, lk, hcd⟩ := T.F_law.ex
  rw [e]
  exact .of_eq rfl
theorem endM {K : PySem.W.Frag} {h : Heap} {mg : Str → Option Value} {P : Program} {w : World} {fa : Addr}
    {C_Effect : Addr}
    {f_isint : Addr} {od_isint an_isint : Option Addr} {sl_isint : Array (Option Value)} {oc_isint kV_isint dc_isint pm_isint cd_isint ct_isint : Value}
    {f_iscnt : Addr} {od_iscnt an_iscnt : Option Addr} {sl_iscnt : Array (Option Value)} {oc_iscnt kV_iscnt dc_iscnt pm_iscnt cd_iscnt ct_iscnt : Value}
    {f_isbag : Addr} {od_isbag an_isbag : Option Addr} {sl_isbag : Array (Option Value)} {oc_isbag kV_isbag dc_isbag pm_isbag cd_isbag ct_isbag : Value}
    {f_cknum : Addr} {od_cknum an_cknum : Option Addr} {sl_cknum : Array (Option Value)} {oc_cknum kV_cknum dc_cknum pm_cknum cd_cknum ct_cknum : Value}
    {f_ckcnt : Addr} {od_ckcnt an_ckcnt : Option Addr} {sl_ckcnt : Array (Option Value)} {oc_ckcnt kV_ckcnt dc_ckcnt pm_ckcnt cd_ckcnt ct_ckcnt : Value}
    {f_ckbag : Addr} {od_ckbag an_ckbag : Option Addr} {sl_ckbag : Array (Option Value)} {oc_ckbag kV_ckbag dc_ckbag pm_ckbag cd_ckbag ct_ckbag : Value}
    {f_fc : Addr} {od_fc an_fc : Option Addr} {sl_fc : Array (Option Value)} {oc_fc kV_fc dc_fc pm_fc cd_fc ct_fc : Value}
    {f_add : Addr} {od_add an_add : Option Addr} {sl_add : Array (Option Value)} {oc_add kV_add dc_add pm_add cd_add ct_add : Value}
    {f_subt : Addr} {od_subt an_subt : Option Addr} {sl_subt : Array (Option Value)} {oc_subt kV_subt dc_subt pm_subt cd_subt ct_subt : Value}
    {f_total : Addr} {od_total an_total : Option Addr} {sl_total : Array (Option Value)} {oc_total kV_total dc_total pm_total cd_total ct_total : Value}
    {f_level : Addr} {od_level an_level : Option Addr} {sl_level : Array (Option Value)} {oc_level kV_level dc_level pm_level cd_level ct_level : Value}
    {f_take : Addr} {od_take an_take : Option Addr} {sl_take : Array (Option Value)} {oc_take kV_take dc_take pm_take cd_take ct_take : Value}
    {f_drop : Addr} {od_drop an_drop : Option Addr} {sl_drop : Array (Option Value)} {oc_drop kV_drop dc_drop pm_drop cd_drop ct_drop : Value}
    {f_sizeof : Addr} {od_sizeof an_sizeof : Option Addr} {sl_sizeof : Array (Option Value)} {oc_sizeof kV_sizeof dc_sizeof pm_sizeof cd_sizeof ct_sizeof : Value}
    {f_atmost : Addr} {od_atmost an_atmost : Option Addr} {sl_atmost : Array (Option Value)} {oc_atmost kV_atmost dc_atmost pm_atmost cd_atmost ct_atmost : Value}
    {f_union : Addr} {od_union an_union : Option Addr} {sl_union : Array (Option Value)} {oc_union kV_union dc_union pm_union cd_union ct_union : Value}
    {f_diff : Addr} {od_diff an_diff : Option Addr} {sl_diff : Array (Option Value)} {oc_diff kV_diff dc_diff pm_diff cd_diff ct_diff : Value}
    {f_fault : Addr} {od_fault an_fault : Option Addr} {sl_fault : Array (Option Value)} {oc_fault kV_fault dc_fault pm_fault cd_fault ct_fault : Value}
    {f_init : Addr} {od_init an_init : Option Addr} {sl_init : Array (Option Value)} {oc_init kV_init dc_init pm_init cd_init ct_init : Value}
    {f_p_ins : Addr} {od_p_ins an_p_ins : Option Addr} {sl_p_ins : Array (Option Value)} {oc_p_ins kV_p_ins dc_p_ins pm_p_ins cd_p_ins ct_p_ins : Value}
    {p_p_ins : Addr} {rs_p_ins : List Value}
    {f_p_rem : Addr} {od_p_rem an_p_rem : Option Addr} {sl_p_rem : Array (Option Value)} {oc_p_rem kV_p_rem dc_p_rem pm_p_rem cd_p_rem ct_p_rem : Value}
    {p_p_rem : Addr} {rs_p_rem : List Value}
    {f_p_sur : Addr} {od_p_sur an_p_sur : Option Addr} {sl_p_sur : Array (Option Value)} {oc_p_sur kV_p_sur dc_p_sur pm_p_sur cd_p_sur ct_p_sur : Value}
    {p_p_sur : Addr} {rs_p_sur : List Value}
    {f_p_con : Addr} {od_p_con an_p_con : Option Addr} {sl_p_con : Array (Option Value)} {oc_p_con kV_p_con dc_p_con pm_p_con cd_p_con ct_p_con : Value}
    {p_p_con : Addr} {rs_p_con : List Value}
    {f_p_need : Addr} {od_p_need an_p_need : Option Addr} {sl_p_need : Array (Option Value)} {oc_p_need kV_p_need dc_p_need pm_p_need cd_p_need ct_p_need : Value}
    {p_p_need : Addr} {rs_p_need : List Value}
    {f_m_pool : Addr} {od_m_pool an_m_pool : Option Addr} {sl_m_pool : Array (Option Value)} {oc_m_pool kV_m_pool dc_m_pool pm_m_pool cd_m_pool ct_m_pool : Value}
    {f_m_apply : Addr} {od_m_apply an_m_apply : Option Addr} {sl_m_apply : Array (Option Value)} {oc_m_apply kV_m_apply dc_m_apply pm_m_apply cd_m_apply ct_m_apply : Value}
    {f_m_removed : Addr} {od_m_removed an_m_removed : Option Addr} {sl_m_removed : Array (Option Value)} {oc_m_removed kV_m_removed dc_m_removed pm_m_removed cd_m_removed ct_m_removed : Value}
    {f_pool : Addr} {od_pool an_pool : Option Addr} {sl_pool : Array (Option Value)} {oc_pool kV_pool dc_pool pm_pool cd_pool ct_pool : Value}
    {f_draw : Addr} {od_draw an_draw : Option Addr} {sl_draw : Array (Option Value)} {oc_draw kV_draw dc_draw pm_draw cd_draw ct_draw : Value}
    {f_great : Addr} {od_great an_great : Option Addr} {sl_great : Array (Option Value)} {oc_great kV_great dc_great pm_great cd_great ct_great : Value}
    {f_law : Addr} {od_law an_law : Option Addr} {sl_law : Array (Option Value)} {oc_law kV_law dc_law pm_law cd_law ct_law : Value}
    (X : K.In h) (G : h.Ns mainGlobals mg) (hfa : mg "law" = some (.ref fa))
    (a_Effect : PySem.W.nsIn K mainGlobals "Effect" = some (some (.ref C_Effect)))
    (pg_Effect : PySem.W.plainGet K C_Effect Str.empty = true)
    (hd_Effect : PySem.W.hasDictIn K C_Effect = true)
    (po_Effect : PySem.W.plainOver K C_Effect = true)
    (sa_Effect : PySem.W.findIn K (.ref C_Effect) "__setattr__" = some (some (.builtin "object.__setattr__")))
    (mk_Effect : PySem.W.makesIn K C_Effect = true)
    (kc_Effect : PySem.W.keepIn K (.ref C_Effect) = true)
    (no_own_parts : PySem.W.findIn K (.ref C_Effect) "own_parts" = some none)
    (a_isint : PySem.W.nsIn K mainGlobals "is_integer" = some (some (.ref f_isint)))
    (l_isint : K.lookup f_isint = some ⟨oc_isint, od_isint, .func (PySem.W.fnOf "is_integer" "is_integer" (defArgs s_isint) (defBody s_isint) (defScope s_isint) .none kV_isint dc_isint pm_isint an_isint cd_isint ct_isint), sl_isint⟩)
    (c_isint : PySem.W.codeIn K cd_isint "is_integer" = true)
    (k_isint : PySem.W.keepIn K (.ref f_isint) = true)
    (a_iscnt : PySem.W.nsIn K mainGlobals "is_count" = some (some (.ref f_iscnt)))
    (l_iscnt : K.lookup f_iscnt = some ⟨oc_iscnt, od_iscnt, .func (PySem.W.fnOf "is_count" "is_count" (defArgs s_iscnt) (defBody s_iscnt) (defScope s_iscnt) .none kV_iscnt dc_iscnt pm_iscnt an_iscnt cd_iscnt ct_iscnt), sl_iscnt⟩)
    (c_iscnt : PySem.W.codeIn K cd_iscnt "is_count" = true)
    (k_iscnt : PySem.W.keepIn K (.ref f_iscnt) = true)
    (a_isbag : PySem.W.nsIn K mainGlobals "is_bag" = some (some (.ref f_isbag)))
    (l_isbag : K.lookup f_isbag = some ⟨oc_isbag, od_isbag, .func (PySem.W.fnOf "is_bag" "is_bag" (defArgs s_isbag) (defBody s_isbag) (defScope s_isbag) .none kV_isbag dc_isbag pm_isbag an_isbag cd_isbag ct_isbag), sl_isbag⟩)
    (c_isbag : PySem.W.codeIn K cd_isbag "is_bag" = true)
    (k_isbag : PySem.W.keepIn K (.ref f_isbag) = true)
    (a_cknum : PySem.W.nsIn K mainGlobals "check_number" = some (some (.ref f_cknum)))
    (l_cknum : K.lookup f_cknum = some ⟨oc_cknum, od_cknum, .func (PySem.W.fnOf "check_number" "check_number" (defArgs s_cknum) (defBody s_cknum) (defScope s_cknum) .none kV_cknum dc_cknum pm_cknum an_cknum cd_cknum ct_cknum), sl_cknum⟩)
    (c_cknum : PySem.W.codeIn K cd_cknum "check_number" = true)
    (k_cknum : PySem.W.keepIn K (.ref f_cknum) = true)
    (a_ckcnt : PySem.W.nsIn K mainGlobals "check_count" = some (some (.ref f_ckcnt)))
    (l_ckcnt : K.lookup f_ckcnt = some ⟨oc_ckcnt, od_ckcnt, .func (PySem.W.fnOf "check_count" "check_count" (defArgs s_ckcnt) (defBody s_ckcnt) (defScope s_ckcnt) .none kV_ckcnt dc_ckcnt pm_ckcnt an_ckcnt cd_ckcnt ct_ckcnt), sl_ckcnt⟩)
    (c_ckcnt : PySem.W.codeIn K cd_ckcnt "check_count" = true)
    (k_ckcnt : PySem.W.keepIn K (.ref f_ckcnt) = true)
    (a_ckbag : PySem.W.nsIn K mainGlobals "check_bag" = some (some (.ref f_ckbag)))
    (l_ckbag : K.lookup f_ckbag = some ⟨oc_ckbag, od_ckbag, .func (PySem.W.fnOf "check_bag" "check_bag" (defArgs s_ckbag) (defBody s_ckbag) (defScope s_ckbag) .none kV_ckbag dc_ckbag pm_ckbag an_ckbag cd_ckbag ct_ckbag), sl_ckbag⟩)
    (c_ckbag : PySem.W.codeIn K cd_ckbag "check_bag" = true)
    (k_ckbag : PySem.W.keepIn K (.ref f_ckbag) = true)
    (a_fc : PySem.W.nsIn K mainGlobals "from_counts" = some (some (.ref f_fc)))
    (l_fc : K.lookup f_fc = some ⟨oc_fc, od_fc, .func (PySem.W.fnOf "from_counts" "from_counts" (defArgs s_fc) (defBody s_fc) (defScope s_fc) .none kV_fc dc_fc pm_fc an_fc cd_fc ct_fc), sl_fc⟩)
    (c_fc : PySem.W.codeIn K cd_fc "from_counts" = true)
    (k_fc : PySem.W.keepIn K (.ref f_fc) = true)
    (a_add : PySem.W.nsIn K mainGlobals "add" = some (some (.ref f_add)))
    (l_add : K.lookup f_add = some ⟨oc_add, od_add, .func (PySem.W.fnOf "add" "add" (defArgs s_add) (defBody s_add) (defScope s_add) .none kV_add dc_add pm_add an_add cd_add ct_add), sl_add⟩)
    (c_add : PySem.W.codeIn K cd_add "add" = true)
    (k_add : PySem.W.keepIn K (.ref f_add) = true)
    (a_subt : PySem.W.nsIn K mainGlobals "subtract" = some (some (.ref f_subt)))
    (l_subt : K.lookup f_subt = some ⟨oc_subt, od_subt, .func (PySem.W.fnOf "subtract" "subtract" (defArgs s_subt) (defBody s_subt) (defScope s_subt) .none kV_subt dc_subt pm_subt an_subt cd_subt ct_subt), sl_subt⟩)
    (c_subt : PySem.W.codeIn K cd_subt "subtract" = true)
    (k_subt : PySem.W.keepIn K (.ref f_subt) = true)
    (a_total : PySem.W.nsIn K mainGlobals "total" = some (some (.ref f_total)))
    (l_total : K.lookup f_total = some ⟨oc_total, od_total, .func (PySem.W.fnOf "total" "total" (defArgs s_total) (defBody s_total) (defScope s_total) .none kV_total dc_total pm_total an_total cd_total ct_total), sl_total⟩)
    (c_total : PySem.W.codeIn K cd_total "total" = true)
    (k_total : PySem.W.keepIn K (.ref f_total) = true)
    (a_level : PySem.W.nsIn K mainGlobals "level" = some (some (.ref f_level)))
    (l_level : K.lookup f_level = some ⟨oc_level, od_level, .func (PySem.W.fnOf "level" "level" (defArgs s_level) (defBody s_level) (defScope s_level) .none kV_level dc_level pm_level an_level cd_level ct_level), sl_level⟩)
    (c_level : PySem.W.codeIn K cd_level "level" = true)
    (k_level : PySem.W.keepIn K (.ref f_level) = true)
    (a_take : PySem.W.nsIn K mainGlobals "take" = some (some (.ref f_take)))
    (l_take : K.lookup f_take = some ⟨oc_take, od_take, .func (PySem.W.fnOf "take" "take" (defArgs s_take) (defBody s_take) (defScope s_take) .none kV_take dc_take pm_take an_take cd_take ct_take), sl_take⟩)
    (c_take : PySem.W.codeIn K cd_take "take" = true)
    (k_take : PySem.W.keepIn K (.ref f_take) = true)
    (a_drop : PySem.W.nsIn K mainGlobals "drop" = some (some (.ref f_drop)))
    (l_drop : K.lookup f_drop = some ⟨oc_drop, od_drop, .func (PySem.W.fnOf "drop" "drop" (defArgs s_drop) (defBody s_drop) (defScope s_drop) .none kV_drop dc_drop pm_drop an_drop cd_drop ct_drop), sl_drop⟩)
    (c_drop : PySem.W.codeIn K cd_drop "drop" = true)
    (k_drop : PySem.W.keepIn K (.ref f_drop) = true)
    (a_sizeof : PySem.W.nsIn K mainGlobals "size_of" = some (some (.ref f_sizeof)))
    (l_sizeof : K.lookup f_sizeof = some ⟨oc_sizeof, od_sizeof, .func (PySem.W.fnOf "size_of" "size_of" (defArgs s_sizeof) (defBody s_sizeof) (defScope s_sizeof) .none kV_sizeof dc_sizeof pm_sizeof an_sizeof cd_sizeof ct_sizeof), sl_sizeof⟩)
    (c_sizeof : PySem.W.codeIn K cd_sizeof "size_of" = true)
    (k_sizeof : PySem.W.keepIn K (.ref f_sizeof) = true)
    (a_atmost : PySem.W.nsIn K mainGlobals "at_most" = some (some (.ref f_atmost)))
    (l_atmost : K.lookup f_atmost = some ⟨oc_atmost, od_atmost, .func (PySem.W.fnOf "at_most" "at_most" (defArgs s_atmost) (defBody s_atmost) (defScope s_atmost) .none kV_atmost dc_atmost pm_atmost an_atmost cd_atmost ct_atmost), sl_atmost⟩)
    (c_atmost : PySem.W.codeIn K cd_atmost "at_most" = true)
    (k_atmost : PySem.W.keepIn K (.ref f_atmost) = true)
    (a_union : PySem.W.nsIn K mainGlobals "union" = some (some (.ref f_union)))
    (l_union : K.lookup f_union = some ⟨oc_union, od_union, .func (PySem.W.fnOf "union" "union" (defArgs s_union) (defBody s_union) (defScope s_union) .none kV_union dc_union pm_union an_union cd_union ct_union), sl_union⟩)
    (c_union : PySem.W.codeIn K cd_union "union" = true)
    (k_union : PySem.W.keepIn K (.ref f_union) = true)
    (a_diff : PySem.W.nsIn K mainGlobals "difference" = some (some (.ref f_diff)))
    (l_diff : K.lookup f_diff = some ⟨oc_diff, od_diff, .func (PySem.W.fnOf "difference" "difference" (defArgs s_diff) (defBody s_diff) (defScope s_diff) .none kV_diff dc_diff pm_diff an_diff cd_diff ct_diff), sl_diff⟩)
    (c_diff : PySem.W.codeIn K cd_diff "difference" = true)
    (k_diff : PySem.W.keepIn K (.ref f_diff) = true)
    (a_fault : PySem.W.nsIn K mainGlobals "find_fault" = some (some (.ref f_fault)))
    (l_fault : K.lookup f_fault = some ⟨oc_fault, od_fault, .func (PySem.W.fnOf "find_fault" "find_fault" (defArgs s_fault) (defBody s_fault) (defScope s_fault) .none kV_fault dc_fault pm_fault an_fault cd_fault ct_fault), sl_fault⟩)
    (c_fault : PySem.W.codeIn K cd_fault "find_fault" = true)
    (k_fault : PySem.W.keepIn K (.ref f_fault) = true)
    (a_init : PySem.W.findIn K (.ref C_Effect) "__init__" = some (some (.ref f_init)))
    (i_init : PySem.W.isFn K (.ref f_init) = true)
    (l_init : K.lookup f_init = some ⟨oc_init, od_init, .func (PySem.W.fnOf "__init__" "Effect.__init__" (defArgs s_init) (defBody s_init) (defScope s_init) .none kV_init dc_init pm_init an_init cd_init ct_init), sl_init⟩)
    (c_init : PySem.W.codeIn K cd_init "Effect.__init__" = true)
    (k_init : PySem.W.keepIn K (.ref f_init) = true)
    (a_p_ins : PySem.W.findIn K (.ref C_Effect) "inserted" = some (some (.ref p_p_ins)))
    (g_p_ins : PySem.W.specialIn K (.ref p_p_ins) "__get__" = some (some (.builtin "property.__get__")))
    (t_p_ins0 : PySem.W.takesIn K (.ref p_p_ins) = some true)
    (r_p_ins : PySem.W.recIn K p_p_ins "property" = some (.ref f_p_ins :: rs_p_ins))
    (l_p_ins : K.lookup f_p_ins = some ⟨oc_p_ins, od_p_ins, .func (PySem.W.fnOf "inserted" "Effect.inserted" (defArgs s_p_ins) (defBody s_p_ins) (defScope s_p_ins) .none kV_p_ins dc_p_ins pm_p_ins an_p_ins cd_p_ins ct_p_ins), sl_p_ins⟩)
    (c_p_ins : PySem.W.codeIn K cd_p_ins "Effect.inserted" = true)
    (k_p_ins : PySem.W.keepIn K (.ref f_p_ins) = true)
    (a_p_rem : PySem.W.findIn K (.ref C_Effect) "removals" = some (some (.ref p_p_rem)))
    (g_p_rem : PySem.W.specialIn K (.ref p_p_rem) "__get__" = some (some (.builtin "property.__get__")))
    (t_p_rem0 : PySem.W.takesIn K (.ref p_p_rem) = some true)
    (r_p_rem : PySem.W.recIn K p_p_rem "property" = some (.ref f_p_rem :: rs_p_rem))
    (l_p_rem : K.lookup f_p_rem = some ⟨oc_p_rem, od_p_rem, .func (PySem.W.fnOf "removals" "Effect.removals" (defArgs s_p_rem) (defBody s_p_rem) (defScope s_p_rem) .none kV_p_rem dc_p_rem pm_p_rem an_p_rem cd_p_rem ct_p_rem), sl_p_rem⟩)
    (c_p_rem : PySem.W.codeIn K cd_p_rem "Effect.removals" = true)
    (k_p_rem : PySem.W.keepIn K (.ref f_p_rem) = true)
    (a_p_sur : PySem.W.findIn K (.ref C_Effect) "survivors" = some (some (.ref p_p_sur)))
    (g_p_sur : PySem.W.specialIn K (.ref p_p_sur) "__get__" = some (some (.builtin "property.__get__")))
    (t_p_sur0 : PySem.W.takesIn K (.ref p_p_sur) = some true)
    (r_p_sur : PySem.W.recIn K p_p_sur "property" = some (.ref f_p_sur :: rs_p_sur))
    (l_p_sur : K.lookup f_p_sur = some ⟨oc_p_sur, od_p_sur, .func (PySem.W.fnOf "survivors" "Effect.survivors" (defArgs s_p_sur) (defBody s_p_sur) (defScope s_p_sur) .none kV_p_sur dc_p_sur pm_p_sur an_p_sur cd_p_sur ct_p_sur), sl_p_sur⟩)
    (c_p_sur : PySem.W.codeIn K cd_p_sur "Effect.survivors" = true)
    (k_p_sur : PySem.W.keepIn K (.ref f_p_sur) = true)
    (a_p_con : PySem.W.findIn K (.ref C_Effect) "consumed" = some (some (.ref p_p_con)))
    (g_p_con : PySem.W.specialIn K (.ref p_p_con) "__get__" = some (some (.builtin "property.__get__")))
    (t_p_con0 : PySem.W.takesIn K (.ref p_p_con) = some true)
    (r_p_con : PySem.W.recIn K p_p_con "property" = some (.ref f_p_con :: rs_p_con))
    (l_p_con : K.lookup f_p_con = some ⟨oc_p_con, od_p_con, .func (PySem.W.fnOf "consumed" "Effect.consumed" (defArgs s_p_con) (defBody s_p_con) (defScope s_p_con) .none kV_p_con dc_p_con pm_p_con an_p_con cd_p_con ct_p_con), sl_p_con⟩)
    (c_p_con : PySem.W.codeIn K cd_p_con "Effect.consumed" = true)
    (k_p_con : PySem.W.keepIn K (.ref f_p_con) = true)
    (a_p_need : PySem.W.findIn K (.ref C_Effect) "needed" = some (some (.ref p_p_need)))
    (g_p_need : PySem.W.specialIn K (.ref p_p_need) "__get__" = some (some (.builtin "property.__get__")))
    (t_p_need0 : PySem.W.takesIn K (.ref p_p_need) = some true)
    (r_p_need : PySem.W.recIn K p_p_need "property" = some (.ref f_p_need :: rs_p_need))
    (l_p_need : K.lookup f_p_need = some ⟨oc_p_need, od_p_need, .func (PySem.W.fnOf "needed" "Effect.needed" (defArgs s_p_need) (defBody s_p_need) (defScope s_p_need) .none kV_p_need dc_p_need pm_p_need an_p_need cd_p_need ct_p_need), sl_p_need⟩)
    (c_p_need : PySem.W.codeIn K cd_p_need "Effect.needed" = true)
    (k_p_need : PySem.W.keepIn K (.ref f_p_need) = true)
    (a_m_pool : PySem.W.findIn K (.ref C_Effect) "pool" = some (some (.ref f_m_pool)))
    (i_m_pool : PySem.W.isFn K (.ref f_m_pool) = true)
    (l_m_pool : K.lookup f_m_pool = some ⟨oc_m_pool, od_m_pool, .func (PySem.W.fnOf "pool" "Effect.pool" (defArgs s_m_pool) (defBody s_m_pool) (defScope s_m_pool) .none kV_m_pool dc_m_pool pm_m_pool an_m_pool cd_m_pool ct_m_pool), sl_m_pool⟩)
    (c_m_pool : PySem.W.codeIn K cd_m_pool "Effect.pool" = true)
    (k_m_pool : PySem.W.keepIn K (.ref f_m_pool) = true)
    (a_m_apply : PySem.W.findIn K (.ref C_Effect) "apply" = some (some (.ref f_m_apply)))
    (i_m_apply : PySem.W.isFn K (.ref f_m_apply) = true)
    (l_m_apply : K.lookup f_m_apply = some ⟨oc_m_apply, od_m_apply, .func (PySem.W.fnOf "apply" "Effect.apply" (defArgs s_m_apply) (defBody s_m_apply) (defScope s_m_apply) .none kV_m_apply dc_m_apply pm_m_apply an_m_apply cd_m_apply ct_m_apply), sl_m_apply⟩)
    (c_m_apply : PySem.W.codeIn K cd_m_apply "Effect.apply" = true)
    (k_m_apply : PySem.W.keepIn K (.ref f_m_apply) = true)
    (a_m_removed : PySem.W.findIn K (.ref C_Effect) "removed" = some (some (.ref f_m_removed)))
    (i_m_removed : PySem.W.isFn K (.ref f_m_removed) = true)
    (l_m_removed : K.lookup f_m_removed = some ⟨oc_m_removed, od_m_removed, .func (PySem.W.fnOf "removed" "Effect.removed" (defArgs s_m_removed) (defBody s_m_removed) (defScope s_m_removed) .none kV_m_removed dc_m_removed pm_m_removed an_m_removed cd_m_removed ct_m_removed), sl_m_removed⟩)
    (c_m_removed : PySem.W.codeIn K cd_m_removed "Effect.removed" = true)
    (k_m_removed : PySem.W.keepIn K (.ref f_m_removed) = true)
    (a_pool : PySem.W.nsIn K mainGlobals "_law_pool" = some (some (.ref f_pool)))
    (l_pool : K.lookup f_pool = some ⟨oc_pool, od_pool, .func (PySem.W.fnOf "_law_pool" "_law_pool" (defArgs s_pool) (defBody s_pool) (defScope s_pool) .none kV_pool dc_pool pm_pool an_pool cd_pool ct_pool), sl_pool⟩)
    (c_pool : PySem.W.codeIn K cd_pool "_law_pool" = true)
    (k_pool : PySem.W.keepIn K (.ref f_pool) = true)
    (a_draw : PySem.W.nsIn K mainGlobals "_law_draw" = some (some (.ref f_draw)))
    (l_draw : K.lookup f_draw = some ⟨oc_draw, od_draw, .func (PySem.W.fnOf "_law_draw" "_law_draw" (defArgs s_draw) (defBody s_draw) (defScope s_draw) .none kV_draw dc_draw pm_draw an_draw cd_draw ct_draw), sl_draw⟩)
    (c_draw : PySem.W.codeIn K cd_draw "_law_draw" = true)
    (k_draw : PySem.W.keepIn K (.ref f_draw) = true)
    (a_great : PySem.W.nsIn K mainGlobals "_law_great_effect" = some (some (.ref f_great)))
    (l_great : K.lookup f_great = some ⟨oc_great, od_great, .func (PySem.W.fnOf "_law_great_effect" "_law_great_effect" (defArgs s_great) (defBody s_great) (defScope s_great) .none kV_great dc_great pm_great an_great cd_great ct_great), sl_great⟩)
    (c_great : PySem.W.codeIn K cd_great "_law_great_effect" = true)
    (k_great : PySem.W.keepIn K (.ref f_great) = true)
    (a_law : PySem.W.nsIn K mainGlobals "law" = some (some (.ref f_law)))
    (l_law : K.lookup f_law = some ⟨oc_law, od_law, .func (PySem.W.fnOf "law" "law" (defArgs s_law) (defBody s_law) (defScope s_law) .none kV_law dc_law pm_law an_law cd_law ct_law), sl_law⟩)
    (c_law : PySem.W.codeIn K cd_law "law" = true)
    (k_law : PySem.W.keepIn K (.ref f_law) = true)
    (z_abs : PySem.W.nsIn K mainGlobals "abs" = some none)
    (z_any : PySem.W.nsIn K mainGlobals "any" = some none)
    (z_bool : PySem.W.nsIn K mainGlobals "bool" = some none)
    (z_dict : PySem.W.nsIn K mainGlobals "dict" = some none)
    (z_int : PySem.W.nsIn K mainGlobals "int" = some none)
    (z_isinstance : PySem.W.nsIn K mainGlobals "isinstance" = some none)
    (z_len : PySem.W.nsIn K mainGlobals "len" = some none)
    (z_max : PySem.W.nsIn K mainGlobals "max" = some none)
    (z_min : PySem.W.nsIn K mainGlobals "min" = some none)
    (z_range : PySem.W.nsIn K mainGlobals "range" = some none)
    (z_sorted : PySem.W.nsIn K mainGlobals "sorted" = some none)
    (z_sum : PySem.W.nsIn K mainGlobals "sum" = some none)
    (z_tuple : PySem.W.nsIn K mainGlobals "tuple" = some none) :
    ∃ fd : FuncData, (∀ (s : Shared) (v : Value), BindsTo s fd ⟨[v], []⟩ [("script", v)]) ∧ ∀ base : Heap, K.In base → base.Ns mainGlobals mg → FnOk P w K mg base (L2.CX P w) 7 fa fd ["script"] (lSp K (sp_law K 0)) :=
  endF { C_Effect := C_Effect,
            cls_Effect := ⟨pg_Effect, hd_Effect, po_Effect, sa_Effect⟩,
            mg_Effect := PySem.W.mg_of X G a_Effect,
            no_own_parts := no_own_parts,
            f_isint := f_isint,
            fd_isint := _,
            F_isint := fun_mk (st := s_isint) l_isint c_isint k_isint,
            b_isint := ((fun_mk (st := s_isint) l_isint c_isint k_isint).binds (ps := ["value"]) fun _ _ _ _ _ _ us hl => (match us, hl with | [_], _ => rfl)),
            kp_isint := k_isint,
            mg_isint := PySem.W.mg_of X G a_isint,
            f_iscnt := f_iscnt,
            fd_iscnt := _,
            F_iscnt := fun_mk (st := s_iscnt) l_iscnt c_iscnt k_iscnt,
            b_iscnt := ((fun_mk (st := s_iscnt) l_iscnt c_iscnt k_iscnt).binds (ps := ["value"]) fun _ _ _ _ _ _ us hl => (match us, hl with | [_], _ => rfl)),
            kp_iscnt := k_iscnt,
            mg_iscnt := PySem.W.mg_of X G a_iscnt,
            f_isbag := f_isbag,
            fd_isbag := _,
            F_isbag := fun_mk (st := s_isbag) l_isbag c_isbag k_isbag,
            b_isbag := ((fun_mk (st := s_isbag) l_isbag c_isbag k_isbag).binds (ps := ["value"]) fun _ _ _ _ _ _ us hl => (match us, hl with | [_], _ => rfl)),
            kp_isbag := k_isbag,
            mg_isbag := PySem.W.mg_of X G a_isbag,
            f_cknum := f_cknum,
            fd_cknum := _,
            F_cknum := fun_mk (st := s_cknum) l_cknum c_cknum k_cknum,
            b_cknum := ((fun_mk (st := s_cknum) l_cknum c_cknum k_cknum).binds (ps := ["value"]) fun _ _ _ _ _ _ us hl => (match us, hl with | [_], _ => rfl)),
            kp_cknum := k_cknum,
            mg_cknum := PySem.W.mg_of X G a_cknum,
            f_ckcnt := f_ckcnt,
            fd_ckcnt := _,
            F_ckcnt := fun_mk (st := s_ckcnt) l_ckcnt c_ckcnt k_ckcnt,
            b_ckcnt := ((fun_mk (st := s_ckcnt) l_ckcnt c_ckcnt k_ckcnt).binds (ps := ["value"]) fun _ _ _ _ _ _ us hl => (match us, hl with | [_], _ => rfl)),
            kp_ckcnt := k_ckcnt,
            mg_ckcnt := PySem.W.mg_of X G a_ckcnt,
            f_ckbag := f_ckbag,
            fd_ckbag := _,
            F_ckbag := fun_mk (st := s_ckbag) l_ckbag c_ckbag k_ckbag,
            b_ckbag := ((fun_mk (st := s_ckbag) l_ckbag c_ckbag k_ckbag).binds (ps := ["value"]) fun _ _ _ _ _ _ us hl => (match us, hl with | [_], _ => rfl)),
            kp_ckbag := k_ckbag,
            mg_ckbag := PySem.W.mg_of X G a_ckbag,
            f_fc := f_fc,
            fd_fc := _,
            F_fc := fun_mk (st := s_fc) l_fc c_fc k_fc,
            b_fc := ((fun_mk (st := s_fc) l_fc c_fc k_fc).binds (ps := ["counts"]) fun _ _ _ _ _ _ us hl => (match us, hl with | [_], _ => rfl)),
            kp_fc := k_fc,
            mg_fc := PySem.W.mg_of X G a_fc,
            f_add := f_add,
            fd_add := _,
            F_add := fun_mk (st := s_add) l_add c_add k_add,
            b_add := ((fun_mk (st := s_add) l_add c_add k_add).binds (ps := ["first", "second"]) fun _ _ _ _ _ _ us hl => (match us, hl with | [_, _], _ => rfl)),
            kp_add := k_add,
            mg_add := PySem.W.mg_of X G a_add,
            f_subt := f_subt,
            fd_subt := _,
            F_subt := fun_mk (st := s_subt) l_subt c_subt k_subt,
            b_subt := ((fun_mk (st := s_subt) l_subt c_subt k_subt).binds (ps := ["bag", "other"]) fun _ _ _ _ _ _ us hl => (match us, hl with | [_, _], _ => rfl)),
            kp_subt := k_subt,
            mg_subt := PySem.W.mg_of X G a_subt,
            f_total := f_total,
            fd_total := _,
            F_total := fun_mk (st := s_total) l_total c_total k_total,
            b_total := ((fun_mk (st := s_total) l_total c_total k_total).binds (ps := ["bag"]) fun _ _ _ _ _ _ us hl => (match us, hl with | [_], _ => rfl)),
            kp_total := k_total,
            mg_total := PySem.W.mg_of X G a_total,
            f_level := f_level,
            fd_level := _,
            F_level := fun_mk (st := s_level) l_level c_level k_level,
            b_level := ((fun_mk (st := s_level) l_level c_level k_level).binds (ps := ["bag", "number"]) fun _ _ _ _ _ _ us hl => (match us, hl with | [_, _], _ => rfl)),
            kp_level := k_level,
            mg_level := PySem.W.mg_of X G a_level,
            f_take := f_take,
            fd_take := _,
            F_take := fun_mk (st := s_take) l_take c_take k_take,
            b_take := ((fun_mk (st := s_take) l_take c_take k_take).binds (ps := ["bag", "count"]) fun _ _ _ _ _ _ us hl => (match us, hl with | [_, _], _ => rfl)),
            kp_take := k_take,
            mg_take := PySem.W.mg_of X G a_take,
            f_drop := f_drop,
            fd_drop := _,
            F_drop := fun_mk (st := s_drop) l_drop c_drop k_drop,
            b_drop := ((fun_mk (st := s_drop) l_drop c_drop k_drop).binds (ps := ["bag", "count"]) fun _ _ _ _ _ _ us hl => (match us, hl with | [_, _], _ => rfl)),
            kp_drop := k_drop,
            mg_drop := PySem.W.mg_of X G a_drop,
            f_sizeof := f_sizeof,
            fd_sizeof := _,
            F_sizeof := fun_mk (st := s_sizeof) l_sizeof c_sizeof k_sizeof,
            b_sizeof := ((fun_mk (st := s_sizeof) l_sizeof c_sizeof k_sizeof).binds (ps := ["bag"]) fun _ _ _ _ _ _ us hl => (match us, hl with | [_], _ => rfl)),
            kp_sizeof := k_sizeof,
            mg_sizeof := PySem.W.mg_of X G a_sizeof,
            f_atmost := f_atmost,
            fd_atmost := _,
            F_atmost := fun_mk (st := s_atmost) l_atmost c_atmost k_atmost,
            b_atmost := ((fun_mk (st := s_atmost) l_atmost c_atmost k_atmost).binds (ps := ["bag", "number"]) fun _ _ _ _ _ _ us hl => (match us, hl with | [_, _], _ => rfl)),
            kp_atmost := k_atmost,
            mg_atmost := PySem.W.mg_of X G a_atmost,
            f_union := f_union,
            fd_union := _,
            F_union := fun_mk (st := s_union) l_union c_union k_union,
            kp_union := k_union,
            mg_union := PySem.W.mg_of X G a_union,
            f_diff := f_diff,
            fd_diff := _,
            F_diff := fun_mk (st := s_diff) l_diff c_diff k_diff,
            b_diff := ((fun_mk (st := s_diff) l_diff c_diff k_diff).binds (ps := ["bag", "other"]) fun _ _ _ _ _ _ us hl => (match us, hl with | [_, _], _ => rfl)),
            kp_diff := k_diff,
            mg_diff := PySem.W.mg_of X G a_diff,
            f_fault := f_fault,
            fd_fault := _,
            F_fault := fun_mk (st := s_fault) l_fault c_fault k_fault,
            b_fault := ((fun_mk (st := s_fault) l_fault c_fault k_fault).binds (ps := ["inserted", "removals", "survivors"]) fun _ _ _ _ _ _ us hl => (match us, hl with | [_, _, _], _ => rfl)),
            kp_fault := k_fault,
            mg_fault := PySem.W.mg_of X G a_fault,
            f_init := f_init,
            fd_init := _,
            F_init := fun_mk (st := s_init) l_init c_init k_init,
            b_init := ((fun_mk (st := s_init) l_init c_init k_init).binds (ps := ["self", "inserted", "removals", "survivors"]) fun _ _ _ _ _ _ us hl => (match us, hl with | [_, _, _, _], _ => rfl)),
            kp_init := k_init,
            mk_Effect := ⟨mk_Effect, a_init, i_init, kc_Effect⟩,
            f_p_ins := f_p_ins,
            fd_p_ins := _,
            F_p_ins := fun_mk (st := s_p_ins) l_p_ins c_p_ins k_p_ins,
            b_p_ins := ((fun_mk (st := s_p_ins) l_p_ins c_p_ins k_p_ins).binds (ps := ["self"]) fun _ _ _ _ _ _ us hl => (match us, hl with | [_], _ => rfl)),
            kp_p_ins := k_p_ins,
            p_p_ins := p_p_ins,
            pr_inserted := ⟨a_p_ins, g_p_ins, t_p_ins0, rs_p_ins, r_p_ins⟩,
            f_p_rem := f_p_rem,
            fd_p_rem := _,
            F_p_rem := fun_mk (st := s_p_rem) l_p_rem c_p_rem k_p_rem,
            b_p_rem := ((fun_mk (st := s_p_rem) l_p_rem c_p_rem k_p_rem).binds (ps := ["self"]) fun _ _ _ _ _ _ us hl => (match us, hl with | [_], _ => rfl)),
            kp_p_rem := k_p_rem,
            p_p_rem := p_p_rem,
            pr_removals := ⟨a_p_rem, g_p_rem, t_p_rem0, rs_p_rem, r_p_rem⟩,
            f_p_sur := f_p_sur,
            fd_p_sur := _,
            F_p_sur := fun_mk (st := s_p_sur) l_p_sur c_p_sur k_p_sur,
            b_p_sur := ((fun_mk (st := s_p_sur) l_p_sur c_p_sur k_p_sur).binds (ps := ["self"]) fun _ _ _ _ _ _ us hl => (match us, hl with | [_], _ => rfl)),
            kp_p_sur := k_p_sur,
            p_p_sur := p_p_sur,
            pr_survivors := ⟨a_p_sur, g_p_sur, t_p_sur0, rs_p_sur, r_p_sur⟩,
            f_p_con := f_p_con,
            fd_p_con := _,
            F_p_con := fun_mk (st := s_p_con) l_p_con c_p_con k_p_con,
            b_p_con := ((fun_mk (st := s_p_con) l_p_con c_p_con k_p_con).binds (ps := ["self"]) fun _ _ _ _ _ _ us hl => (match us, hl with | [_], _ => rfl)),
            kp_p_con := k_p_con,
            p_p_con := p_p_con,
            pr_consumed := ⟨a_p_con, g_p_con, t_p_con0, rs_p_con, r_p_con⟩,
            f_p_need := f_p_need,
            fd_p_need := _,
            F_p_need := fun_mk (st := s_p_need) l_p_need c_p_need k_p_need,
            b_p_need := ((fun_mk (st := s_p_need) l_p_need c_p_need k_p_need).binds (ps := ["self"]) fun _ _ _ _ _ _ us hl => (match us, hl with | [_], _ => rfl)),
            kp_p_need := k_p_need,
            p_p_need := p_p_need,
            pr_needed := ⟨a_p_need, g_p_need, t_p_need0, rs_p_need, r_p_need⟩,
            f_m_pool := f_m_pool,
            fd_m_pool := _,
            F_m_pool := fun_mk (st := s_m_pool) l_m_pool c_m_pool k_m_pool,
            b_m_pool := ((fun_mk (st := s_m_pool) l_m_pool c_m_pool k_m_pool).binds (ps := ["self", "bag"]) fun _ _ _ _ _ _ us hl => (match us, hl with | [_, _], _ => rfl)),
            kp_m_pool := k_m_pool,
            me_pool := ⟨a_m_pool, i_m_pool, k_m_pool⟩,
            f_m_apply := f_m_apply,
            fd_m_apply := _,
            F_m_apply := fun_mk (st := s_m_apply) l_m_apply c_m_apply k_m_apply,
            b_m_apply := ((fun_mk (st := s_m_apply) l_m_apply c_m_apply k_m_apply).binds (ps := ["self", "bag"]) fun _ _ _ _ _ _ us hl => (match us, hl with | [_, _], _ => rfl)),
            kp_m_apply := k_m_apply,
            me_apply := ⟨a_m_apply, i_m_apply, k_m_apply⟩,
            f_m_removed := f_m_removed,
            fd_m_removed := _,
            F_m_removed := fun_mk (st := s_m_removed) l_m_removed c_m_removed k_m_removed,
            b_m_removed := ((fun_mk (st := s_m_removed) l_m_removed c_m_removed k_m_removed).binds (ps := ["self", "bag"]) fun _ _ _ _ _ _ us hl => (match us, hl with | [_, _], _ => rfl)),
            kp_m_removed := k_m_removed,
            me_removed := ⟨a_m_removed, i_m_removed, k_m_removed⟩,
            f_pool := f_pool,
            fd_pool := _,
            F_pool := fun_mk (st := s_pool) l_pool c_pool k_pool,
            b_pool := ((fun_mk (st := s_pool) l_pool c_pool k_pool).binds (ps := ["script", "k"]) fun _ _ _ _ _ _ us hl => (match us, hl with | [_, _], _ => rfl)),
            kp_pool := k_pool,
            mg_pool := PySem.W.mg_of X G a_pool,
            f_draw := f_draw,
            fd_draw := _,
            F_draw := fun_mk (st := s_draw) l_draw c_draw k_draw,
            b_draw := ((fun_mk (st := s_draw) l_draw c_draw k_draw).binds (ps := ["pool", "many"]) fun _ _ _ _ _ _ us hl => (match us, hl with | [_, _], _ => rfl)),
            kp_draw := k_draw,
            mg_draw := PySem.W.mg_of X G a_draw,
            f_great := f_great,
            fd_great := _,
            F_great := fun_mk (st := s_great) l_great c_great k_great,
            b_great := ((fun_mk (st := s_great) l_great c_great k_great).binds (ps := ["pool"]) fun _ _ _ _ _ _ us hl => (match us, hl with | [_], _ => rfl)),
            kp_great := k_great,
            mg_great := PySem.W.mg_of X G a_great,
            f_law := f_law,
            fd_law := _,
            F_law := fun_mk (st := s_law) l_law c_law k_law,
            b_law := ((fun_mk (st := s_law) l_law c_law k_law).binds (ps := ["script"]) fun _ _ _ _ _ _ us hl => (match us, hl with | [_], _ => rfl)),
            kp_law := k_law,
            mg_law := PySem.W.mg_of X G a_law,
            z_abs := PySem.W.mg_none_of X G z_abs,
            z_any := PySem.W.mg_none_of X G z_any,
            z_bool := PySem.W.mg_none_of X G z_bool,
            z_dict := PySem.W.mg_none_of X G z_dict,
            z_int := PySem.W.mg_none_of X G z_int,
            z_isinstance := PySem.W.mg_none_of X G z_isinstance,
            z_len := PySem.W.mg_none_of X G z_len,
            z_max := PySem.W.mg_none_of X G z_max,
            z_min := PySem.W.mg_none_of X G z_min,
            z_range := PySem.W.mg_none_of X G z_range,
            z_sorted := PySem.W.mg_none_of X G z_sorted,
            z_sum := PySem.W.mg_none_of X G z_sum,
            z_tuple := PySem.W.mg_none_of X G z_tuple } hfa
end G
open PySem PySem.W PyProof.Rows
set_option maxHeartbeats 0
open_top hd_k38 for PySem.Challenge.rw_heapeffects_k38_whole_nothing_is_lost
open PySem PySem.W PyProof.Rows L2 DL
set_option maxRecDepth 100000 in
set_option maxHeartbeats 0 in
theorem PySem.Challenge.cw_heapeffects_k38_whole_nothing_is_lost_holds : PySem.Challenge.rw_heapeffects_k38_whole_nothing_is_lost.Holds := by
  refine hd_k38 ?_
  k_fill
  refine L2.walk_of (l := PySem.Challenge.rw_heapeffects_k38_whole_nothing_is_lost) (n := 63) (k := 7) (x := "script") (CX := fun w => L2.CX (PySem.Challenge.rw_heapeffects_k38_whole_nothing_is_lost).prog w) (sp := fun w => lSp _ (_root_.G.sp_law _ 0)) rfl (by decide) rfl ⟨rfl, by decide, by decide⟩ (fun w h Y => PySem.W.kIn_of Y) ?F (fun w H a ns hl _ hS => _root_.G.start_law hl hS) fun _ _ _ _ _ ⟨_, _, _, _, _, _, _, _, _, _, _, _, z⟩ => z
  case F =>
    intro w mg fa h KX GG hmg
    refine' _root_.G.endM KX GG hmg ?a_Effect ?pg_Effect ?hd_Effect ?po_Effect ?sa_Effect ?mk_Effect ?kc_Effect ?no_own_parts ?a_isint ?l_isint ?c_isint ?k_isint ?a_iscnt ?l_iscnt ?c_iscnt ?k_iscnt ?a_isbag ?l_isbag ?c_isbag ?k_isbag ?a_cknum ?l_cknum ?c_cknum ?k_cknum ?a_ckcnt ?l_ckcnt ?c_ckcnt ?k_ckcnt ?a_ckbag ?l_ckbag ?c_ckbag ?k_ckbag ?a_fc ?l_fc ?c_fc ?k_fc ?a_add ?l_add ?c_add ?k_add ?a_subt ?l_subt ?c_subt ?k_subt ?a_total ?l_total ?c_total ?k_total ?a_level ?l_level ?c_level ?k_level ?a_take ?l_take ?c_take ?k_take ?a_drop ?l_drop ?c_drop ?k_drop ?a_sizeof ?l_sizeof ?c_sizeof ?k_sizeof ?a_atmost ?l_atmost ?c_atmost ?k_atmost ?a_union ?l_union ?c_union ?k_union ?a_diff ?l_diff ?c_diff ?k_diff ?a_fault ?l_fault ?c_fault ?k_fault ?a_init ?i_init ?l_init ?c_init ?k_init ?a_p_ins ?g_p_ins ?t_p_ins0 ?r_p_ins ?l_p_ins ?c_p_ins ?k_p_ins ?a_p_rem ?g_p_rem ?t_p_rem0 ?r_p_rem ?l_p_rem ?c_p_rem ?k_p_rem ?a_p_sur ?g_p_sur ?t_p_sur0 ?r_p_sur ?l_p_sur ?c_p_sur ?k_p_sur ?a_p_con ?g_p_con ?t_p_con0 ?r_p_con ?l_p_con ?c_p_con ?k_p_con ?a_p_need ?g_p_need ?t_p_need0 ?r_p_need ?l_p_need ?c_p_need ?k_p_need ?a_m_pool ?i_m_pool ?l_m_pool ?c_m_pool ?k_m_pool ?a_m_apply ?i_m_apply ?l_m_apply ?c_m_apply ?k_m_apply ?a_m_removed ?i_m_removed ?l_m_removed ?c_m_removed ?k_m_removed ?a_pool ?l_pool ?c_pool ?k_pool ?a_draw ?l_draw ?c_draw ?k_draw ?a_great ?l_great ?c_great ?k_great ?a_law ?l_law ?c_law ?k_law ?z_abs ?z_any ?z_bool ?z_dict ?z_int ?z_isinstance ?z_len ?z_max ?z_min ?z_range ?z_sorted ?z_sum ?z_tuple
    (case a_Effect => k_is)
    (case pg_Effect => k_is)
    (case hd_Effect => k_is)
    (case po_Effect => k_is)
    (case sa_Effect => k_is)
    (case mk_Effect => k_is)
    (case kc_Effect => k_is)
    (case no_own_parts => k_is)
    (case a_isint => k_is)
    (case l_isint => k_is)
    (case c_isint => k_is)
    (case k_isint => k_is)
    (case a_iscnt => k_is)
    (case l_iscnt => k_is)
    (case c_iscnt => k_is)
    (case k_iscnt => k_is)
    (case a_isbag => k_is)
    (case l_isbag => k_is)
    (case c_isbag => k_is)
    (case k_isbag => k_is)
    (case a_cknum => k_is)
    (case l_cknum => k_is)
    (case c_cknum => k_is)
    (case k_cknum => k_is)
    (case a_ckcnt => k_is)
    (case l_ckcnt => k_is)
    (case c_ckcnt => k_is)
    (case k_ckcnt => k_is)
    (case a_ckbag => k_is)
    (case l_ckbag => k_is)
    (case c_ckbag => k_is)
    (case k_ckbag => k_is)
    (case a_fc => k_is)
    (case l_fc => k_is)
    (case c_fc => k_is)
    (case k_fc => k_is)
    (case a_add => k_is)
    (case l_add => k_is)
    (case c_add => k_is)
    (case k_add => k_is)
    (case a_subt => k_is)
    (case l_subt => k_is)
    (case c_subt => k_is)
    (case k_subt => k_is)
    (case a_total => k_is)
    (case l_total => k_is)
    (case c_total => k_is)
    (case k_total => k_is)
    (case a_level => k_is)
    (case l_level => k_is)
    (case c_level => k_is)
    (case k_level => k_is)
    (case a_take => k_is)
    (case l_take => k_is)
    (case c_take => k_is)
    (case k_take => k_is)
    (case a_drop => k_is)
    (case l_drop => k_is)
    (case c_drop => k_is)
    (case k_drop => k_is)
    (case a_sizeof => k_is)
    (case l_sizeof => k_is)
    (case c_sizeof => k_is)
    (case k_sizeof => k_is)
    (case a_atmost => k_is)
    (case l_atmost => k_is)
    (case c_atmost => k_is)
    (case k_atmost => k_is)
    (case a_union => k_is)
    (case l_union => k_is)
    (case c_union => k_is)
    (case k_union => k_is)
    (case a_diff => k_is)
    (case l_diff => k_is)
    (case c_diff => k_is)
    (case k_diff => k_is)
    (case a_fault => k_is)
    (case l_fault => k_is)
    (case c_fault => k_is)
    (case k_fault => k_is)
    (case a_init => k_is)
    (case i_init => k_is)
    (case l_init => k_is)
    (case c_init => k_is)
    (case k_init => k_is)
    (case a_p_ins => k_is)
    (case g_p_ins => k_is)
    (case t_p_ins0 => k_is)
    (case r_p_ins => k_is)
    (case l_p_ins => k_is)
    (case c_p_ins => k_is)
    (case k_p_ins => k_is)
    (case a_p_rem => k_is)
    (case g_p_rem => k_is)
    (case t_p_rem0 => k_is)
    (case r_p_rem => k_is)
    (case l_p_rem => k_is)
    (case c_p_rem => k_is)
    (case k_p_rem => k_is)
    (case a_p_sur => k_is)
    (case g_p_sur => k_is)
    (case t_p_sur0 => k_is)
    (case r_p_sur => k_is)
    (case l_p_sur => k_is)
    (case c_p_sur => k_is)
    (case k_p_sur => k_is)
    (case a_p_con => k_is)
    (case g_p_con => k_is)
    (case t_p_con0 => k_is)
    (case r_p_con => k_is)
    (case l_p_con => k_is)
    (case c_p_con => k_is)
    (case k_p_con => k_is)
    (case a_p_need => k_is)
    (case g_p_need => k_is)
    (case t_p_need0 => k_is)
    (case r_p_need => k_is)
    (case l_p_need => k_is)
    (case c_p_need => k_is)
    (case k_p_need => k_is)
    (case a_m_pool => k_is)
    (case i_m_pool => k_is)
    (case l_m_pool => k_is)
    (case c_m_pool => k_is)
    (case k_m_pool => k_is)
    (case a_m_apply => k_is)
    (case i_m_apply => k_is)
    (case l_m_apply => k_is)
    (case c_m_apply => k_is)
    (case k_m_apply => k_is)
    (case a_m_removed => k_is)
    (case i_m_removed => k_is)
    (case l_m_removed => k_is)
    (case c_m_removed => k_is)
    (case k_m_removed => k_is)
    (case a_pool => k_is)
    (case l_pool => k_is)
    (case c_pool => k_is)
    (case k_pool => k_is)
    (case a_draw => k_is)
    (case l_draw => k_is)
    (case c_draw => k_is)
    (case k_draw => k_is)
    (case a_great => k_is)
    (case l_great => k_is)
    (case c_great => k_is)
    (case k_great => k_is)
    (case a_law => k_is)
    (case l_law => k_is)
    (case c_law => k_is)
    (case k_law => k_is)
    (case z_abs => k_is)
    (case z_any => k_is)
    (case z_bool => k_is)
    (case z_dict => k_is)
    (case z_int => k_is)
    (case z_isinstance => k_is)
    (case z_len => k_is)
    (case z_max => k_is)
    (case z_min => k_is)
    (case z_range => k_is)
    (case z_sorted => k_is)
    (case z_sum => k_is)
    (case z_tuple => k_is)
