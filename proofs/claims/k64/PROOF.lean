import PyProof.Rows.All
import Wide.All
import OpenK.AllK
import Wide.FinOn
import HandS.ForMost
import HandS.TupAny
import HandS.TupMul
import KE.KDictPairs
import HandS.Walk
import HandS.Wide
import HandS.IsInst
import HandS.Exc
import HandS.WordsExc
import HandS.Zip
import HandS.SortInts
import HandS.Style
import HandS.Defaults
import HandS.TupLe
import HandS.Text
import KE.SortCalls
import KE.LtData
import PyProof.FactsAll.tuple
import KE.DataMinMax
import HandS.CallSlots
import HandS.More
import HandS.SortKw
import HandS.WideBits
import KE.KRevSl
import KE.KUnpackStar
import HandS.ExcOwn
import HandS.ExcValue
import HandS.ExcInit
import HandS.ExcField
import HandS.ExcIs
import KE.KExcIs
import HandS.ExcBuiltin
import PyProof.ExcAttrAll.ValueError
import HandS.Ends
import PyProof.ReprRoads
import PyProof.CallStr
import HandS.RaiseMore
import HandS.SetKeys
import HandS.SetBool
import KE.GoesEnumKw
import KE.KItemsList
import HandS.Conv
import HandS.TryOnly
import PyProof.ListStr
import HandS.WordsDict
import KE.GoesMore
import HandS.MapObj
import KE.KDictZip
import HandS.Deep
import HandS.Strs
import PySem.Challenge.RW_blindtill_k64_what_can_be_parted
set_option Elab.async false
set_option linter.all false
set_option maxRecDepth 100000
set_option maxHeartbeats 1000000
set_option autoImplicit false
namespace Bt
open PySem L2
section
variable {X : Cx} {es : List Expr} {t : TA} {pos : Pos}
def tTupP (t : TA) : TE := fun σ H Q => t σ H fun xs H1 => xs.length ≤ sizeLine ∧ ∀ p o, H1 p = none → o.dict = none → Q (.ref p) (upd H1 p (.frz o (.tup xs)))
theorem laidP {pins : List (Addr × Obj)} {σ : L2.St} {H : Hp} {s : Shared} {xs : List V} {its : List Value} {tk : Nat} (I : Inv X pins σ H s) (z : xs.length ≤ sizeLine) (r : Vals xs its) :
    Inv X pins σ (upd H s.heap.objs.size (.frz { cls := .type "tuple", data := .seq its.toArray } (.tup xs))) { s with heap := s.heap.push { cls := .type "tuple", data := .seq its.toArray }, toks := tk } :=
  I.laid (t' := tk) (fun _ _ e => Heap.get?_push_of_some _ e) (Nat.le_refl _) ⟨Heap.get?_push_size _ rfl, z, its, r, _, Heap.get?_push_size _ rfl, rfl, _, rfl⟩
theorem pe_tupP {k : Nat} (h : PA X es t) : PE X (.Tuple es k pos) (tTupP t) := by
  refine ⟨fun pins s σ H Q I hq => wpAny_Tuple_spliced (thn (h.run pos pins s σ H _ I hq) fun us s1 ⟨xs, H1, I1, r, z, q⟩ => ⟨by rw [← r.length]; exact z, ?_⟩)⟩
  exact ⟨.ref s1.heap.objs.size, _, laidP (tk := s1.toks) I1 z r, rfl, q _ _ (I1.hok.fresh (Nat.le_refl _)) rfl⟩
def rTupP (K : PySem.W.Frag) : List V → Hp → VK → Prop := fun xs H Q => ∃ p ys, xs = [.ref p] ∧ ((SqL K H p ys ∧ ∀ l o, H l = none → o.dict = none → Q (.ref l) (upd H l (.frz o (.tup ys)))) ∨ (SqT K H p ys ∧ Q (.ref p) H))
theorem call_tupP : CallR X (.type "tuple") (rTupP X.K) := by
  intro pins s σ H xs us Q I r h
  obtain ⟨p, ys, rfl, h⟩ := h
  obtain ⟨u, rfl, rx⟩ := vals1 r
  cases rx
  rcases h with ⟨hq, q⟩ | ⟨hq, q⟩
  · obtain ⟨its, r', pl, hz⟩ := I.list hq
    have hlen := r'.length
    refine PySem.call_tuple_list pl.isList (fun h' kp => ?_) (by simp only [List.size_toArray]; omega)
    have I1 : Inv X pins σ H { s with heap := h' } := I.kept (t' := s.toks) kp
    exact ⟨.ref h'.objs.size, _, laidP (tk := s.toks) I1 hz r', rfl, q _ _ (I1.hok.fresh (Nat.le_refl _)) rfl⟩
  · obtain ⟨its, r', pl, hz⟩ := I.tuple hq
    exact PySem.call_tuple_same pl ⟨.ref p, H, I, rfl, q⟩
def rSlP (K : PySem.W.Frag) : V → Option Int → Option Int → Hp → VK → Prop := fun x lo hi H Q => ∃ a xs, x = .ref a ∧ SqT K H a xs ∧
  (HT.sIx xs.length 0 lo = 0 ∧ HT.sIx xs.length xs.length hi = xs.length → Q (.ref a) H) ∧ (¬ (HT.sIx xs.length 0 lo = 0 ∧ HT.sIx xs.length xs.length hi = xs.length) → ∀ p o, H p = none → o.dict = none → Q (.ref p) (upd H p (.frz o (.tup (cutV xs lo hi)))))
theorem sl_tupP : SlR X (rSlP X.K) := by
  intro pins s σ H x v vl vu lo hi sl Q I rx hs pl pu h
  obtain ⟨a, xs, rfl, hx, q1, q2⟩ := h
  by_cases hw : HT.sIx xs.length 0 lo = 0 ∧ HT.sIx xs.length xs.length hi = xs.length
  · exact sl_tupA pins s σ H _ v vl vu lo hi sl Q I rx hs pl pu ⟨a, xs, rfl, hx, q1, fun n => absurd hw n⟩
  · cases rx
    obtain ⟨its, r, ht, hz⟩ := I.tuple hx
    have hlen : its.toArray.size = xs.length := by rw [List.size_toArray]; exact r.length.symm
    refine ⟨"tuple", _, PyProof.Rows.slot_tuple_getitem.lookup, ht.typeIs, HT.getItem_tuple_cut ht hs pl pu (by rw [hlen]; exact hw) ?_ (by rw [hlen]; exact hz)⟩
    rw [hlen]
    exact ⟨.ref s.heap.objs.size, _, laidP (tk := s.toks) I (Nat.le_trans (cutV_length xs lo hi) hz) ((r.drop (HT.sIx xs.length 0 lo)).take (HT.sIx xs.length xs.length hi - HT.sIx xs.length 0 lo)), rfl, q2 hw _ _ (I.hok.fresh (Nat.le_refl _)) rfl⟩
def rCatP (K : PySem.W.Frag) : R2 := fun x y H Q => ∃ a b xs ys, x = .ref a ∧ y = .ref b ∧ SqT K H a xs ∧ SqT K H b ys ∧ xs.length + ys.length ≤ sizeLine ∧
  (xs = [] → Q (.ref b) H) ∧ (xs ≠ [] → ys = [] → Q (.ref a) H) ∧ (xs ≠ [] → ys ≠ [] → ∀ p o, H p = none → o.dict = none → Q (.ref p) (upd H p (.frz o (.tup (xs ++ ys)))))
theorem op_catP : OpR X (binaryOp .Add) (rCatP X.K) := by
  intro pins s σ H x y v u Q I rx ry h
  obtain ⟨a, b, xs, ys, rfl, rfl, ha, hb, hz, q0, q1, q2⟩ := h
  by_cases hx : xs = []
  · exact op_catA pins s σ H _ _ v u Q I rx ry ⟨a, b, xs, ys, rfl, rfl, ha, hb, hz, q0, fun n => absurd hx n, fun n => absurd hx n⟩
  · cases rx
    cases ry
    obtain ⟨its, r1, p1, _⟩ := I.tuple ha
    obtain ⟨its2, r2, p2, _⟩ := I.tuple hb
    refine HT.cat_tup p1 p2 (fun z => hx (r1.nil_iff.mp z)) (fun z => ⟨.ref a, H, I, rfl, q1 hx (r2.nil_iff.mp z)⟩) (fun z => ?_) (by rw [← r1.length, ← r2.length]; exact hz)
    exact ⟨.ref s.heap.objs.size, _, laidP (tk := s.toks) I (by rw [List.length_append]; exact hz) (r1.append r2), rfl, q2 hx (fun w => z (r2.nil_iff.mpr w)) _ _ (I.hok.fresh (Nat.le_refl _)) rfl⟩
end
end Bt
namespace Bt
open PySem L2

abbrev D := PyData
inductive Ob where
  | l (ds : List D)
  | d (kvs : List (Key × D))
inductive Sl where
  | un
  | dat (d : D)
  | ow (o : Ob)
  | scr (ns : List Int)
abbrev En := List Sl
def xNames : List Str := ["TillError", "NoPile", "NoRight", "NoName", "NoNumber", "NoWorths", "NoParts", "TooGreat", "NoTill", "Taken", "NoPromise", "NoPlace", "NoCall", "NoCoins", "NoPay", "Unserved", "Stuck"]
def xName (c : Nat) : Str := xNames.getD c "?"
def xFld (c : Nat) : Str := if c = 12 then "place" else if c = 14 then "rest" else "worth"
structure Exc where
  cls : Nat
  fld : Option D
inductive Res (α : Type) where
  | ok (a : α) (E : En)
  | ex (x : Exc) (E : En)
  | bad
abbrev M (α : Type) := En → Res α
section monad
variable {α β : Type}
def ret (a : α) : M α := fun E => .ok a E
def bnd (m : M α) (f : α → M β) : M β := fun E => match m E with
  | .ok a E' => f a E'
  | .ex x E' => .ex x E'
  | .bad => .bad
def stuck : M α := fun _ => .bad
def lift (o : Option α) : M α := fun E => match o with
  | some a => .ok a E
  | none => .bad
def Sat (r : Res α) (k : α → En → Prop) (w : Exc → En → Prop) : Prop := match r with
  | .ok a E => k a E
  | .ex x E => w x E
  | .bad => False
theorem Sat.mono {r : Res α} {k k' : α → En → Prop} {w w' : Exc → En → Prop} (h : Sat r k w) (hk : ∀ a E, k a E → k' a E) (hw : ∀ x E, w x E → w' x E) : Sat r k' w' := by
  cases r with
  | ok a E => exact hk a E h
  | ex x E => exact hw x E h
  | bad => exact h
theorem Sat.bnd {m : M α} {f : α → M β} {E : En} {k : β → En → Prop} {w : Exc → En → Prop} (h : Sat (bnd m f E) k w) : Sat (m E) (fun a E' => Sat (f a E') k w) w := by
  unfold Bt.bnd at h
  cases e : m E with
  | ok a E1 => rw [e] at h; exact h
  | ex x E1 => rw [e] at h; exact h
  | bad => rw [e] at h; exact h
theorem Sat.lift {o : Option α} {E : En} {k : α → En → Prop} {w : Exc → En → Prop} (h : Sat (lift o E) k w) : ∃ a, o = some a ∧ k a E := by
  cases o with
  | none => exact h.elim
  | some a => exact ⟨a, rfl, h⟩
end monad

def Mask (O : List Addr) (H : Hp) : Hp := fun a => if a ∈ O then none else H a
def Trk (O : List Addr) (H : Hp) : Prop := ∀ p ∈ O, H p ≠ none
def Le (O : List Addr) (H : Hp) (O' : List Addr) (H' : Hp) : Prop := Same (Mask O H) (Mask O' H')
theorem Le.refl (O : List Addr) (H : Hp) : Le O H O H := Same.refl _
theorem Le.trans {O O1 O2 : List Addr} {H H1 H2 : Hp} (a : Le O H O1 H1) (b : Le O1 H1 O2 H2) : Le O H O2 H2 := Same.trans a b
theorem mask_in {O : List Addr} {H : Hp} {a : Addr} (h : a ∈ O) : Mask O H a = none := if_pos h
theorem mask_out {O : List Addr} {H : Hp} {a : Addr} (h : a ∉ O) : Mask O H a = H a := if_neg h
theorem mask_some {O : List Addr} {H : Hp} {a : Addr} {o : HO} (h : Mask O H a = some o) : a ∉ O ∧ H a = some o := by
  by_cases q : a ∈ O
  · rw [mask_in q] at h; cases h
  · rw [mask_out q] at h; exact ⟨q, h⟩
theorem mask_le (O : List Addr) (H : Hp) : Same (Mask O H) H := fun _ _ h => (mask_some h).2
theorem trk_fresh {O : List Addr} {H : Hp} {p : Addr} (t : Trk O H) (h : H p = none) : p ∉ O := fun q => t p q h

structure Grow (O : List Addr) (H H' : Hp) : Prop where
  le : Same (Mask O H) (Mask O H')
  keep : ∀ p ∈ O, H' p = H p
theorem Grow.refl (O : List Addr) (H : Hp) : Grow O H H := ⟨Same.refl _, fun _ _ => rfl⟩
theorem Grow.trans {O : List Addr} {H H1 H2 : Hp} (a : Grow O H H1) (b : Grow O H1 H2) : Grow O H H2 := ⟨a.le.trans b.le, fun p q => (b.keep p q).trans (a.keep p q)⟩
theorem Grow.new {O : List Addr} {H : Hp} {p : Addr} {o : HO} (t : Trk O H) (h : H p = none) : Grow O H (upd H p o) := by
  have np := trk_fresh t h
  refine ⟨fun a x e => ?_, fun q hq => upd_ne (fun z => np (z ▸ hq))⟩
  obtain ⟨n, e⟩ := mask_some e
  rw [mask_out n, upd_ne (ne_of_none e h)]
  exact e
theorem Grow.trk {O : List Addr} {H H' : Hp} (g : Grow O H H') (t : Trk O H) : Trk O H' := fun p q => by rw [g.keep p q]; exact t p q

def SqP (K : PySem.W.Frag) (G : Hp) (a : Addr) (xs : List V) : Prop :=
  (∃ o, G a = some (.frz o (.tup xs)) ∧ o.dict = none) ∨ ∃ (o : Obj) (its : Array Value) (n : Nat), K.lookup a = some o ∧ o.cls = .type "tuple" ∧ o.dict = none ∧ o.data = .seq its n ∧ its.size ≤ sizeLine ∧ Vals xs its.toList
theorem SqP.t {K : PySem.W.Frag} {G : Hp} {a : Addr} {xs : List V} (h : SqP K G a xs) : SqT K G a xs := by
  rcases h with ⟨o, h, _⟩ | ⟨o, its, n, h1, h2, _, h3, h4, h5⟩
  · exact .inl (.inr ⟨o, h⟩)
  · exact .inr ⟨o, its, n, h1, h2, h3, h4, h5⟩
theorem SqP.mono {K : PySem.W.Frag} {G G' : Hp} {a : Addr} {xs : List V} (e : Same G G') (h : SqP K G a xs) : SqP K G' a xs := by
  rcases h with ⟨o, h, d⟩ | h
  · exact .inl ⟨o, e _ _ h, d⟩
  · exact .inr h
def ExT (cls : Value) (dd : Option Addr) (a : Addr) : HO := .ext fun h => ∃ (oe : Obj) (vs : Array Value), h.get? a = some oe ∧ Zc cls dd oe ∧ oe.data = .fields vs
mutual
inductive Rp (K : PySem.W.Frag) (G : Hp) : V → D → Prop
  | non : Rp K G .non .none
  | bl (b : Bool) : Rp K G (.bl b) (.bool b)
  | int (i : Int) : Rp K G (.int i) (.int i)
  | str (x : Str) : Rp K G (.str x) (.str x)
  | lst {a : Addr} {xs : List V} {ds : List D} : G a = some (.lst xs) → RpAll K G xs ds → Rp K G (.ref a) (.list ds)
  | tup {a : Addr} {xs : List V} {ds : List D} : SqP K G a xs → RpAll K G xs ds → Rp K G (.ref a) (.tuple ds)
  | exc0 {a C : Addr} {c : Nat} : G a = some (ExT (.ref C) none a) → PySem.W.nsIn K mainGlobals (xName c) = some (some (.ref C)) → c < 17 → Rp K G (.ref a) (.dict [(.int c, .none)])
  | exc1 {a q C : Addr} {c : Nat} {v : V} {d : D} : G a = some (ExT (.ref C) (some q) a) → PySem.W.nsIn K mainGlobals (xName c) = some (some (.ref C)) → c < 17 → G q = some (.xd [(xFld c, v)]) → Rp K G v d → Rp K G (.ref a) (.dict [(.int c, .none), (.none, d)])
inductive RpAll (K : PySem.W.Frag) (G : Hp) : List V → List D → Prop
  | nil : RpAll K G [] []
  | cons {v : V} {vs : List V} {d : D} {ds : List D} : Rp K G v d → RpAll K G vs ds → RpAll K G (v :: vs) (d :: ds)
end
theorem sqT_mono {K : PySem.W.Frag} {G G' : Hp} {a : Addr} {xs : List V} (e : Same G G') (h : SqT K G a xs) : SqT K G' a xs := by
  rcases h with (h | ⟨o, h⟩) | h
  · exact .inl (.inl (e _ _ h))
  · exact .inl (.inr ⟨o, e _ _ h⟩)
  · exact .inr h
mutual
theorem Rp.mono {K : PySem.W.Frag} {G G' : Hp} (e : Same G G') : ∀ {v : V} {d : D}, Rp K G v d → Rp K G' v d
  | _, _, .non => .non
  | _, _, .bl b => .bl b
  | _, _, .int i => .int i
  | _, _, .str x => .str x
  | _, _, .lst h r => .lst (e _ _ h) (RpAll.mono e r)
  | _, _, .tup h r => .tup (h.mono e) (RpAll.mono e r)
  | _, _, .exc0 h n l => .exc0 (e _ _ h) n l
  | _, _, .exc1 h n l q r => .exc1 (e _ _ h) n l (e _ _ q) (Rp.mono e r)
theorem RpAll.mono {K : PySem.W.Frag} {G G' : Hp} (e : Same G G') : ∀ {vs : List V} {ds : List D}, RpAll K G vs ds → RpAll K G' vs ds
  | _, _, .nil => .nil
  | _, _, .cons h r => .cons (Rp.mono e h) (RpAll.mono e r)
end
mutual
theorem Rp.dp {K : PySem.W.Frag} {G : Hp} : ∀ {v : V} {d : D}, Rp K G v d → d.canLay0 = true → Dp K G v d
  | _, _, .non, _ => .non
  | _, _, .bl b, _ => .bl b
  | _, _, .int i, _ => .int i
  | _, _, .str x, _ => .str x
  | _, _, .lst h r, c => .lst (.inl (.inl h)) (RpAll.dp r (by simpa only [PyData.canLay0] using c))
  | _, _, .tup h r, c => .tup h.t (RpAll.dp r (by simpa only [PyData.canLay0] using c))
  | _, _, .exc0 _ _ _, c => by simp [PyData.canLay0] at c
  | _, _, .exc1 _ _ _ _ _, c => by simp [PyData.canLay0] at c
theorem RpAll.dp {K : PySem.W.Frag} {G : Hp} : ∀ {vs : List V} {ds : List D}, RpAll K G vs ds → PyData.canLayAll0 ds = true → DpAll K G vs ds
  | _, _, .nil, _ => .nil
  | _, _, .cons h r, c => by
    simp only [PyData.canLayAll0, Bool.and_eq_true] at c
    exact .cons (Rp.dp h c.1) (RpAll.dp r c.2)
end
section
variable {K : PySem.W.Frag} {G : Hp} {vs ws : List V} {ds es : List D}
theorem RpAll.length : ∀ {vs : List V} {ds : List D}, RpAll K G vs ds → vs.length = ds.length
  | _, _, .nil => rfl
  | _, _, .cons _ r => by rw [List.length_cons, List.length_cons, RpAll.length r]
theorem RpAll.get : ∀ {vs : List V} {ds : List D} {i : Nat} {v : V}, RpAll K G vs ds → vs[i]? = some v → ∃ d, ds[i]? = some d ∧ Rp K G v d
  | _, _, _, _, .nil, e => by simp at e
  | _, _, 0, _, .cons h _, e => by simp at e; subst e; exact ⟨_, rfl, h⟩
  | _, _, i + 1, v, .cons _ r, e => by
    obtain ⟨d, h1, h2⟩ := RpAll.get (i := i) (v := v) r (by simpa using e)
    exact ⟨d, by simpa using h1, h2⟩
theorem RpAll.get' : ∀ {vs : List V} {ds : List D} {i : Nat} {d : D}, RpAll K G vs ds → ds[i]? = some d → ∃ v, vs[i]? = some v ∧ Rp K G v d
  | _, _, _, _, .nil, e => by simp at e
  | _, _, 0, _, .cons h _, e => by simp at e; subst e; exact ⟨_, rfl, h⟩
  | _, _, i + 1, d, .cons _ r, e => by
    obtain ⟨v, h1, h2⟩ := RpAll.get' (i := i) (d := d) r (by simpa using e)
    exact ⟨v, by simpa using h1, h2⟩
theorem RpAll.append : ∀ {vs ws : List V} {ds es : List D}, RpAll K G vs ds → RpAll K G ws es → RpAll K G (vs ++ ws) (ds ++ es)
  | _, _, _, _, .nil, s => s
  | _, _, _, _, .cons h r, s => .cons h (RpAll.append r s)
theorem RpAll.one {v : V} {d : D} (h : Rp K G v d) : RpAll K G [v] [d] := .cons h .nil
theorem RpAll.take : ∀ {vs : List V} {ds : List D} (n : Nat), RpAll K G vs ds → RpAll K G (vs.take n) (ds.take n)
  | _, _, 0, _ => .nil
  | _, _, _ + 1, .nil => .nil
  | _, _, n + 1, .cons h r => .cons h (RpAll.take n r)
theorem RpAll.drop : ∀ {vs : List V} {ds : List D} (n : Nat), RpAll K G vs ds → RpAll K G (vs.drop n) (ds.drop n)
  | _, _, 0, r => r
  | _, _, _ + 1, .nil => .nil
  | _, _, n + 1, .cons _ r => RpAll.drop n r
theorem RpAll.set {v : V} {d : D} (h : Rp K G v d) : ∀ {vs : List V} {ds : List D} (n : Nat), RpAll K G vs ds → RpAll K G (vs.set n v) (ds.set n d)
  | _, _, _, .nil => .nil
  | _, _, 0, .cons _ r => .cons h r
  | _, _, n + 1, .cons q r => .cons q (RpAll.set h n r)
theorem RpAll.reverse : ∀ {vs : List V} {ds : List D}, RpAll K G vs ds → RpAll K G vs.reverse ds.reverse
  | _, _, .nil => .nil
  | _, _, .cons h r => by rw [List.reverse_cons, List.reverse_cons]; exact RpAll.append (RpAll.reverse r) (.one h)
theorem RpAll.repeat (r : RpAll K G vs ds) : ∀ n : Nat, RpAll K G (List.replicate n vs).flatten (List.replicate n ds).flatten
  | 0 => .nil
  | n + 1 => by rw [List.replicate_succ, List.replicate_succ, List.flatten_cons, List.flatten_cons]; exact RpAll.append r (RpAll.repeat r n)
theorem RpAll.ints : ∀ {vs : List V} {ns : List Int}, RpAll K G vs (ns.map .int) → vs = ns.map V.int
  | _, [], r => by cases r; rfl
  | _, n :: ns, r => by
    cases r with
    | cons h r => cases h; rw [RpAll.ints r]; rfl
theorem RpAll.bools : ∀ {vs : List V} {ns : List Bool}, RpAll K G vs (ns.map .bool) → vs = ns.map V.bl
  | _, [], r => by cases r; rfl
  | _, n :: ns, r => by
    cases r with
    | cons h r => cases h; rw [RpAll.bools r]; rfl
end

def RpKV (K : PySem.W.Frag) (G : Hp) : List (Key × V) → List (Key × D) → Prop := Paired fun p q => p.1 = q.1 ∧ Rp K G p.2 q.2
theorem RpKV.mono {K : PySem.W.Frag} {G G' : Hp} (e : Same G G') : ∀ {xs : List (Key × V)} {ys : List (Key × D)}, RpKV K G xs ys → RpKV K G' xs ys
  | _, _, .nil => .nil
  | _, _, .cons h r => .cons ⟨h.1, h.2.mono e⟩ (RpKV.mono e r)
def RpO (K : PySem.W.Frag) (G : Hp) : HO → Ob → Prop
  | .lst vs, .l ds => RpAll K G vs ds
  | .dK kvs, .d es => RpKV K G kvs es
  | _, _ => False
theorem RpO.mono {K : PySem.W.Frag} {G G' : Hp} (e : Same G G') {h : HO} {o : Ob} (r : RpO K G h o) : RpO K G' h o := by
  cases h <;> cases o <;> first | exact False.elim r | exact RpAll.mono e r | exact RpKV.mono e r
theorem RpO.lst {K : PySem.W.Frag} {G : Hp} {h : HO} {ds : List D} (r : RpO K G h (.l ds)) : ∃ vs, h = .lst vs ∧ RpAll K G vs ds := by
  cases h <;> first | exact ⟨_, rfl, r⟩ | exact False.elim r
theorem RpO.dct {K : PySem.W.Frag} {G : Hp} {h : HO} {es : List (Key × D)} (r : RpO K G h (.d es)) : ∃ vs, h = .dK vs ∧ RpKV K G vs es := by
  cases h <;> first | exact ⟨_, rfl, r⟩ | exact False.elim r
def RpB (b : Bool) (K : PySem.W.Frag) (G : Hp) (v : V) (d : D) : Prop := Rp K G v d ∨ (b = true ∧ ∃ a xs ds, v = .ref a ∧ d = .tuple ds ∧ SqT K G a xs ∧ RpAll K G xs ds)
theorem RpB.mono {b : Bool} {K : PySem.W.Frag} {G G' : Hp} {v : V} {d : D} (e : Same G G') (h : RpB b K G v d) : RpB b K G' v d := by
  rcases h with h | ⟨hb, a, xs, ds, h1, h2, h3, h4⟩
  · exact .inl (h.mono e)
  · exact .inr ⟨hb, a, xs, ds, h1, h2, sqT_mono e h3, h4.mono e⟩
theorem RpB.tup {b : Bool} {K : PySem.W.Frag} {G : Hp} {v : V} {ds : List D} (h : RpB b K G v (.tuple ds)) : ∃ a xs, v = .ref a ∧ SqT K G a xs ∧ RpAll K G xs ds := by
  rcases h with h | ⟨hb, a, xs, ds, h1, h2, h3, h4⟩
  · cases h with
    | tup h r => exact ⟨_, _, rfl, h.t, r⟩
  · cases h2; exact ⟨a, xs, h1, h3, h4⟩
theorem RpB.rp {K : PySem.W.Frag} {G : Hp} {v : V} {d : D} (h : RpB false K G v d) : Rp K G v d := by
  rcases h with h | ⟨hb, _⟩
  · exact h
  · cases hb
def SlOk (K : PySem.W.Frag) (O : List Addr) (H : Hp) : Sl → Option (Option V) → Prop
  | .un, _ => True
  | .dat d, o => ∃ v, o = some (some v) ∧ Rp K (Mask O H) v d
  | .ow ob, o => ∃ p ho, o = some (some (.ref p)) ∧ p ∈ O ∧ H p = some ho ∧ RpO K (Mask O H) ho ob
  | .scr ns, o => ∃ a, o = some (some (.ref a)) ∧ SqL K (Mask O H) a (ns.map V.int)
abbrev Frm := List (Addr × HO)
structure Rel (K : PySem.W.Frag) (F : Frm) (O : List Addr) (E : En) (σ : St) (H : Hp) : Prop where
  len : E.length = σ.length
  trk : Trk O H
  slot : ∀ (i : Nat) (s : Sl), E[i]? = some s → SlOk K O H s σ[i]?
  apart : ∀ (i j : Nat) (ds es : Ob) (p : Addr), E[i]? = some (.ow ds) → E[j]? = some (.ow es) → σ[i]? = some (some (.ref p)) → σ[j]? = some (some (.ref p)) → i = j
  frm : ∀ x ∈ F, x.1 ∈ O ∧ H x.1 = some x.2
  fap : ∀ (i : Nat) (ds : Ob) (p : Addr), E[i]? = some (.ow ds) → σ[i]? = some (some (.ref p)) → ∀ x ∈ F, x.1 ≠ p
theorem SlOk.grow {K : PySem.W.Frag} {O : List Addr} {H H' : Hp} (g : Grow O H H') : ∀ {s : Sl} {o : Option (Option V)}, SlOk K O H s o → SlOk K O H' s o
  | .un, _, _ => trivial
  | .dat d, o, ⟨v, e, r⟩ => ⟨v, e, r.mono g.le⟩
  | .ow ds, o, ⟨p, vs, e, hp, hh, r⟩ => ⟨p, vs, e, hp, by rw [g.keep p hp]; exact hh, r.mono g.le⟩
  | .scr ns, o, ⟨a, e, r⟩ => ⟨a, e, g.le.seq r⟩
theorem Rel.grow {K : PySem.W.Frag} {F : Frm} {O : List Addr} {E : En} {σ : St} {H H' : Hp} (R : Rel K F O E σ H) (g : Grow O H H') : Rel K F O E σ H' :=
  ⟨R.len, g.trk R.trk, fun i s e => (R.slot i s e).grow g, R.apart, fun x hx => ⟨(R.frm x hx).1, by rw [g.keep _ (R.frm x hx).1]; exact (R.frm x hx).2⟩, R.fap⟩

theorem Rel.ownL {K : PySem.W.Frag} {F : Frm} {O : List Addr} {E : En} {σ : St} {H : Hp} {i : Nat} {ds : List D} (R : Rel K F O E σ H) (h : E[i]? = some ((.ow (.l ds)))) : ∃ p vs, σ[i]? = some (some (.ref p)) ∧ p ∈ O ∧ H p = some (.lst vs) ∧ RpAll K (Mask O H) vs ds := by
  obtain ⟨p, ho, e, hp, hh, r⟩ := R.slot i _ h
  obtain ⟨vs, rfl, r⟩ := r.lst
  exact ⟨p, vs, e, hp, hh, r⟩
theorem Rel.ownD {K : PySem.W.Frag} {F : Frm} {O : List Addr} {E : En} {σ : St} {H : Hp} {i : Nat} {es : List (Key × D)} (R : Rel K F O E σ H) (h : E[i]? = some ((.ow (.d es)))) : ∃ p vs, σ[i]? = some (some (.ref p)) ∧ p ∈ O ∧ H p = some (.dK vs) ∧ RpKV K (Mask O H) vs es := by
  obtain ⟨p, ho, e, hp, hh, r⟩ := R.slot i _ h
  obtain ⟨vs, rfl, r⟩ := r.dct
  exact ⟨p, vs, e, hp, hh, r⟩
def ExR (K : PySem.W.Frag) (mg : Str → Option Value) (O : List Addr) (H : Hp) (x : Exc) (c : Value) (dd : Option Addr) : Prop :=
  (∃ C : Addr, c = .ref C ∧ PySem.W.nsIn K mainGlobals (xName x.cls) = some (some (.ref C))) ∧ x.cls < 17 ∧ match x.fld with
  | none => dd = none
  | some d => ∃ a v, dd = some a ∧ Mask O H a = some (.xd [(xFld x.cls, v)]) ∧ Rp K (Mask O H) v d

abbrev KD (K : PySem.W.Frag) (F : Frm) (σ : St) (O : List Addr) (H : Hp) (Q : VK) : D → En → Prop := fun d E' => ∀ O' v H', Rel K F O' E' σ H' → Le O H O' H' → Rp K (Mask O' H') v d → Q v H'
abbrev KB (K : PySem.W.Frag) (F : Frm) (σ : St) (O : List Addr) (H : Hp) (Q : Bool → Hp → Prop) : Bool → En → Prop := fun b E' => ∀ O' H', Rel K F O' E' σ H' → Le O H O' H' → Q b H'
abbrev KX (K : PySem.W.Frag) (mg : Str → Option Value) (F : Frm) (σ : St) (O : List Addr) (H : Hp) (W : WX) : Exc → En → Prop := fun x E' => ∀ O' H' c dd, Rel K F O' E' σ H' → Le O H O' H' → ExR K mg O' H' x c dd → W c dd σ H'
theorem KX.le {K : PySem.W.Frag} {mg : Str → Option Value} {F : Frm} {σ : St} {O O1 : List Addr} {H H1 : Hp} {W : WX} (l : Le O H O1 H1) : ∀ x E, KX K mg F σ O H W x E → KX K mg F σ O1 H1 W x E := fun x E h O' H' c dd R l' e => h O' H' c dd R (l.trans l') e

structure SE (X : Cx) (W : WX) (e : Expr) (t : TE) (m : M D) : Prop where
  pe : PE X e t
  rd : ∀ F O E σ H (Q : VK), Rel X.K F O E σ H → Sat (m E) (KD X.K F σ O H Q) (KX X.K X.mg F σ O H W) → t σ H Q
structure STt (X : Cx) (W : WX) (e : Expr) (t : TT) (m : M Bool) : Prop where
  pt : PT X e t
  rd : ∀ F O E σ H (Q : Bool → Hp → Prop), Rel X.K F O E σ H → Sat (m E) (KB X.K F σ O H Q) (KX X.K X.mg F σ O H W) → t σ H Q
structure SW (X : Cx) (W : WX) (e : Expr) (t : TT) (m : M Bool) : Prop where
  pw : PW X e t
  rd : ∀ F O E σ H (Q : Bool → Hp → Prop), Rel X.K F O E σ H → Sat (m E) (KB X.K F σ O H Q) (KX X.K X.mg F σ O H W) → t σ H Q
structure SA (X : Cx) (W : WX) (es : List Expr) (t : TA) (m : M (List D)) : Prop where
  pa : PA X es t
  rd : ∀ F O E σ H (Q : List V → Hp → Prop), Rel X.K F O E σ H → Sat (m E) (fun ds E' => ∀ O' vs H', Rel X.K F O' E' σ H' → Le O H O' H' → RpAll X.K (Mask O' H') vs ds → Q vs H') (KX X.K X.mg F σ O H W) → t σ H Q
end Bt
namespace Bt
open PySem L2

inductive Ag where
  | d (d : D)
  | r (i : Nat)
def AgV (K : PySem.W.Frag) (σ : L2.St) (O : List Addr) (H : Hp) (v : V) : Ag → Prop
  | .d d => Rp K (Mask O H) v d
  | .r i => σ[i]? = some (some v)
theorem AgV.le {K : PySem.W.Frag} {σ : L2.St} {O O' : List Addr} {H H' : Hp} {v : V} {a : Ag} (l : Le O H O' H') (h : AgV K σ O H v a) : AgV K σ O' H' v a := by
  cases a with
  | d d => exact Rp.mono l h
  | r i => exact h
def rsv (E : En) : Ag → Option D
  | .d d => some d
  | .r i => match E[i]? with
    | some (.dat d) => some d
    | some ((.ow (.l ds))) => some (.list ds)
    | _ => none
def Rq (K : PySem.W.Frag) (O : List Addr) (H : Hp) (v : V) (d : D) : Prop :=
  Rp K (Mask O H) v d ∨ ∃ p vs ds, v = .ref p ∧ d = .list ds ∧ H p = some (.lst vs) ∧ RpAll K (Mask O H) vs ds
section
variable {K : PySem.W.Frag} {O : List Addr} {H : Hp} {v : V}
theorem Rel.rsv {F : Frm} {E : En} {σ : L2.St} {a : Ag} {d : D} (R : Rel K F O E σ H) (h : AgV K σ O H v a) (e : rsv E a = some d) : Rq K O H v d := by
  cases a with
  | d d' => cases e; exact .inl h
  | r i =>
    unfold Bt.rsv at e
    dsimp only at e
    cases q : E[i]? with
    | none => rw [q] at e; cases e
    | some s =>
      rw [q] at e
      have z := R.slot i s q
      rw [show σ[i]? = some (some v) from h] at z
      cases s with
      | un => cases e
      | dat d' =>
        cases e
        obtain ⟨w, e1, r⟩ := z
        cases e1
        exact .inl r
      | ow o =>
        cases o with
        | d _ => cases e
        | l ds =>
          cases e
          obtain ⟨p, vs, e1, _, hp, r⟩ := R.ownL q
          rw [show σ[i]? = some (some v) from h] at e1
          cases e1
          exact .inr ⟨p, vs, ds, rfl, rfl, hp, r⟩
      | scr ns => cases e
theorem Rq.int {i : Int} (h : Rq K O H v (.int i)) : v = .int i := by
  rcases h with h | ⟨_, _, _, _, e, _⟩
  · cases h; rfl
  · cases e
theorem Rq.bool {b : Bool} (h : Rq K O H v (.bool b)) : v = .bl b := by
  rcases h with h | ⟨_, _, _, _, e, _⟩
  · cases h; rfl
  · cases e
theorem Rq.str {b : Str} (h : Rq K O H v (.str b)) : v = .str b := by
  rcases h with h | ⟨_, _, _, _, e, _⟩
  · cases h; rfl
  · cases e
theorem Rq.list {ds : List D} (h : Rq K O H v (.list ds)) : ∃ p vs, v = .ref p ∧ H p = some (.lst vs) ∧ RpAll K (Mask O H) vs ds := by
  rcases h with h | ⟨p, vs, _, e, e', h, r⟩
  · cases h with
    | lst h r => exact ⟨_, _, rfl, mask_le O H _ _ h, r⟩
  · cases e'; exact ⟨p, vs, e, h, r⟩
theorem Rq.tuple {ds : List D} (h : Rq K O H v (.tuple ds)) : ∃ p vs, v = .ref p ∧ SqT K H p vs ∧ RpAll K (Mask O H) vs ds ∧ Rp K (Mask O H) v (.tuple ds) := by
  rcases h with h | ⟨_, _, _, _, e, _⟩
  · have h' := h
    cases h with
    | tup h r => exact ⟨_, _, rfl, sqT_mono (mask_le O H) h.t, r, h'⟩
  · cases e
theorem Rq.dp {d : D} (h : Rq K O H v d) (c : d.canLay0 = true) : Dp K H v d := by
  rcases h with h | ⟨p, vs, ds, rfl, rfl, h, r⟩
  · exact (h.mono (mask_le O H)).dp c
  · exact .lst (SqL.of h) ((r.mono (mask_le O H)).dp (by simpa only [PyData.canLay0] using c))
theorem Rq.non {d : D} (h : Rq K O H v d) : decide (v = .non) = (match d with | .none => true | _ => false) := by
  rcases h with h | ⟨p, vs, ds, rfl, rfl, h, r⟩
  · cases h <;> rfl
  · rfl
theorem new_lst {vs : List V} {ds : List D} {p : Addr} (t : Trk O H) (r : RpAll K (Mask O H) vs ds) (hp : H p = none) : Grow O H (upd H p (.lst vs)) ∧ Rp K (Mask O (upd H p (.lst vs))) (.ref p) (.list ds) := by
  have g := Grow.new (o := .lst vs) t hp
  exact ⟨g, .lst (by rw [mask_out (trk_fresh t hp), upd_same]) (r.mono g.le)⟩
theorem new_tup {vs : List V} {ds : List D} {p : Addr} {o : Obj} (t : Trk O H) (r : RpAll K (Mask O H) vs ds) (hp : H p = none) (ho : o.dict = none) : Grow O H (upd H p (.frz o (.tup vs))) ∧ Rp K (Mask O (upd H p (.frz o (.tup vs)))) (.ref p) (.tuple ds) := by
  have g := Grow.new (o := .frz o (.tup vs)) t hp
  exact ⟨g, .tup (.inl ⟨o, by rw [mask_out (trk_fresh t hp), upd_same], ho⟩) (r.mono g.le)⟩
theorem new_tupW {vs : List V} {ds : List D} {p : Addr} (t : Trk O H) (r : RpAll K (Mask O H) vs ds) (hp : H p = none) : Grow O H (upd H p (.tup vs)) ∧ RpB true K (Mask O (upd H p (.tup vs))) (.ref p) (.tuple ds) := by
  have g := Grow.new (o := .tup vs) t hp
  exact ⟨g, .inr ⟨rfl, p, vs, ds, rfl, rfl, .inl (.inl (by rw [mask_out (trk_fresh t hp), upd_same])), r.mono g.le⟩⟩
end
abbrev KA (K : PySem.W.Frag) (F : Frm) (σ : L2.St) (O : List Addr) (H : Hp) (Q : VK) : Ag → En → Prop := fun a E' => ∀ O' v H', Rel K F O' E' σ H' → Le O H O' H' → AgV K σ O' H' v a → Q v H'
abbrev KAs (K : PySem.W.Frag) (F : Frm) (σ : L2.St) (O : List Addr) (H : Hp) (Q : List V → Hp → Prop) : List Ag → En → Prop := fun as E' => ∀ O' vs H', Rel K F O' E' σ H' → Le O H O' H' → Paired (AgV K σ O' H') vs as → Q vs H'
structure SO (X : Cx) (W : WX) (e : Expr) (t : TE) (m : M Ag) : Prop where
  pe : PE X e t
  rd : ∀ F O E σ H (Q : VK), Rel X.K F O E σ H → Sat (m E) (KA X.K F σ O H Q) (KX X.K X.mg F σ O H W) → t σ H Q
structure SOs (X : Cx) (W : WX) (es : List Expr) (t : TA) (m : M (List Ag)) : Prop where
  pa : PA X es t
  rd : ∀ F O E σ H (Q : List V → Hp → Prop), Rel X.K F O E σ H → Sat (m E) (KAs X.K F σ O H Q) (KX X.K X.mg F σ O H W) → t σ H Q
def mD (m : M D) : M Ag := bnd m fun d => ret (.d d)
def mR (i : Nat) : M Ag := fun E => match E[i]? with
  | some (.dat _) => .ok (.r i) E
  | some (.ow _) => .ok (.r i) E
  | some (.scr _) => .ok (.r i) E
  | _ => .bad
def mV (i : Nat) : M D := fun E => match E[i]? with
  | some (.dat d) => .ok d E
  | _ => .bad
section
variable {X : Cx} {W : WX} {e : Expr} {t : TE}
theorem SE.so {m : M D} (h : SE X W e t m) : SO X W e t (mD m) := ⟨h.pe, fun F O E σ H Q R s => h.rd F O E σ H Q R (s.bnd.mono (fun d E' k O' v H' R' l r => k O' v H' R' l r) (fun _ _ k => k))⟩
theorem se_var {i : Nat} {x : Str} {pos : Pos} (h : PE X (.Name x pos) (tVar i)) : SE X W (.Name x pos) (tVar i) (mV i) := by
  refine ⟨h, fun F O E σ H Q R s => ?_⟩
  unfold mV at s
  cases q : E[i]? with
  | none => rw [q] at s; exact s.elim
  | some z =>
    rw [q] at s
    cases z with
    | dat d =>
      obtain ⟨v, e, r⟩ := R.slot i _ q
      exact ⟨v, e, s O v H R (Le.refl O H) r⟩
    | un => exact s.elim
    | ow _ => exact s.elim
    | scr _ => exact s.elim
theorem so_var {i : Nat} {x : Str} {pos : Pos} (h : PE X (.Name x pos) (tVar i)) : SO X W (.Name x pos) (tVar i) (mR i) := by
  refine ⟨h, fun F O E σ H Q R s => ?_⟩
  unfold mR at s
  cases q : E[i]? with
  | none => rw [q] at s; exact s.elim
  | some z =>
    rw [q] at s
    have z0 := R.slot i _ q
    cases z with
    | dat d =>
      obtain ⟨v, e, r⟩ := z0
      exact ⟨v, e, s O v H R (Le.refl O H) e⟩
    | un => exact s.elim
    | ow _ =>
      obtain ⟨p, vs, e, _⟩ := z0
      exact ⟨_, e, s O _ H R (Le.refl O H) e⟩
    | scr _ =>
      obtain ⟨p, e, _⟩ := z0
      exact ⟨_, e, s O _ H R (Le.refl O H) e⟩
theorem sos_nil : SOs X W [] tNil (ret []) := ⟨pa_nil, fun F O E σ H Q R s => s O [] H R (Le.refl O H) .nil⟩
def mCons (m : M Ag) (ms : M (List Ag)) : M (List Ag) := bnd m fun a => bnd ms fun as => ret (a :: as)
theorem sos_cons {es : List Expr} {ts : TA} {m : M Ag} {ms : M (List Ag)} (pa : PE X e t → PA X es ts → PA X (e :: es) (tCons t ts)) (h : SO X W e t m) (hs : SOs X W es ts ms) : SOs X W (e :: es) (tCons t ts) (mCons m ms) := by
  refine ⟨pa h.pe hs.pa, fun F O E σ H Q R s => h.rd F O E σ H _ R (s.bnd.mono (fun a E1 k O1 v H1 R1 l1 av => ?_) (fun _ _ k => k))⟩
  refine hs.rd F O1 E1 σ H1 _ R1 (k.bnd.mono (fun as E2 k2 O2 vs H2 R2 l2 avs => ?_) (KX.le l1))
  exact k2 O2 (v :: vs) H2 R2 (l1.trans l2) (.cons (av.le l2) avs)
end
end Bt
namespace Bt
open PySem L2
section
open PySem.Spec PyProof.Rows
theorem tuple_mul1 (l : Addr) (items : Array Value) (n : Nat) (dd : Option Addr) (sl : Array (Option Value)) (x : Int) (u : Tok) (c0 : (decide (x < -(2 ^ 63)) || decide (x ≥ 2 ^ 63)) = false) (c1 : (items.isEmpty || x == 1) = true) :
    Meets (Builtin.«tuple.__mul__» ⟨[.ref l, .int x u], []⟩) (fun _ R s => s.heap.get? l = some { cls := .type "tuple", dict := dd, data := .seq items n, slots := sl } ∧ R (.ok (.ret (Value.ref l))) s) :=
  .of_wp fun prog w A R s h => by
    obtain ⟨hp, g, d, tk, os⟩ := s
    obtain ⟨hl, h⟩ := h
    have f1 := AutoSeq1.idx_int
    wp_walk using wpAny_loadPart' hl
    repeat (first
      | (refine wpAny_ite_false (decide_eq_false (by rw [c0]; exact Bool.false_ne_true)) ?_; wp_walk using wpAny_loadPart' hl)
      | (refine wpAny_ite_true (decide_eq_true (by rw [c1])) ?_; wp_walk using wpAny_loadPart' hl))
    exact ⟨_, rfl, h⟩
theorem tuple_mul0 (l : Addr) (items : Array Value) (n : Nat) (dd : Option Addr) (sl : Array (Option Value)) (x : Int) (u : Tok) (c0 : (decide (x < -(2 ^ 63)) || decide (x ≥ 2 ^ 63)) = false) (c1 : (items.isEmpty || x == 1) = false) (c2 : (decide (x ≤ 0) || items.isEmpty) = true) :
    Meets (Builtin.«tuple.__mul__» ⟨[.ref l, .int x u], []⟩) (fun _ R s => s.heap.get? l = some { cls := .type "tuple", dict := dd, data := .seq items n, slots := sl } ∧
      R (.ok (.ret (Value.ref s.heap.objs.size))) { s with heap := s.heap.push { cls := Value.type "tuple", data := Data.seq #[] }, toks := s.toks }) :=
  .of_wp fun prog w A R s h => by
    obtain ⟨hp, g, d, tk, os⟩ := s
    obtain ⟨hl, h⟩ := h
    have f1 := AutoSeq1.idx_int
    wp_walk using wpAny_loadPart' hl
    repeat (first
      | (refine wpAny_ite_false (decide_eq_false (by rw [c0]; exact Bool.false_ne_true)) ?_; wp_walk using wpAny_loadPart' hl)
      | (refine wpAny_ite_false (decide_eq_false (by rw [c1]; exact Bool.false_ne_true)) ?_; wp_walk using wpAny_loadPart' hl)
      | (refine wpAny_ite_true (decide_eq_true (by rw [c2])) ?_; wp_walk using wpAny_loadPart' hl))
    exact ⟨_, rfl, h⟩
end
section
open PySem.Spec PyProof.Rows
variable {X : Cx}
def rRepP (K : PySem.W.Frag) : R2 := fun x y H Q => ∃ l k xs, x = .ref l ∧ y = .int k ∧ SqT K H l xs ∧ -1000 ≤ k ∧ k ≤ 1000 ∧ xs.length ≤ 1000 ∧ (xs = [] ∨ k = 1 → Q (.ref l) H) ∧ (xs ≠ [] → k ≠ 1 → ∀ p o, H p = none → o.dict = none → Q (.ref p) (upd H p (.frz o (.tup (List.replicate k.toNat xs).flatten))))
theorem op_repP : OpR X (binaryOp .Mult) (rRepP X.K) := by
  intro pins s σ H x y v u Q I rx ry h
  obtain ⟨l, k, xs, rfl, rfl, hT, h0, h2, hz, q1, q2⟩ := h
  cases rx
  obtain ⟨t, rfl⟩ := ry
  obtain ⟨its, r, ⟨⟨cls, dd, data, sl⟩, ho, hc, n, hd⟩, hs⟩ := I.tuple hT
  simp only at hc hd
  subst hc hd
  have hle : its.length = xs.length := r.length.symm
  have c0 : (decide (k < -(2 ^ 63)) || decide (k ≥ 2 ^ 63)) = false := by
    rw [decide_eq_false (by omega), decide_eq_false (by omega)] <;> rfl
  by_cases hk : xs = [] ∨ k = 1
  · have c1 : (its.toArray.isEmpty || k == 1) = true := by
      rcases hk with rfl | rfl
      · have : its = [] := List.eq_nil_of_length_eq_zero (by rw [hle]; rfl)
        subst this
        rfl
      · simp
    refine wpAny_binaryOp_repeat_ref (T := "tuple") (U := "int") (by decide) ⟨_, ho, rfl⟩ (fun s' => typeIs_int s' k t) noFill_tuple_mul F.fills_int_mul F.slot_int_rmul repeat_tuple F.slot_int_index.lookup
      (call_meets F.slot_int_rmul (typeIs_int s k t) F.entry_int_rmul (F.args_int_rmul_2 _ _) (int_rmul_tuple k t l its.toArray n dd sl)
        ⟨ho, rfl, ⟨_, ho, rfl⟩, call_meets F.slot_tuple_mul ⟨_, ho, rfl⟩ F.entry_tuple_mul (F.args_tuple_mul_2 _ _) (tuple_mul1 l its.toArray n dd sl k t c0 c1) ⟨ho, ?_⟩⟩)
    exact ⟨.ref l, H, I, rfl, q1 hk⟩
  · have hne : xs ≠ [] := fun e => hk (.inl e)
    have hk1 : k ≠ 1 := fun e => hk (.inr e)
    have hn : its ≠ [] := fun e => hne (by
      rw [e] at hle
      exact List.eq_nil_of_length_eq_zero hle.symm)
    have hi : its.toArray.isEmpty = false := by
      cases its with
      | nil => exact absurd rfl hn
      | cons a b => rfl
    have c1 : (its.toArray.isEmpty || k == 1) = false := by
      rw [hi, Bool.false_or]
      exact beq_eq_false_iff_ne.mpr hk1
    by_cases h1 : k ≤ 0
    · have c2 : (decide (k ≤ 0) || its.toArray.isEmpty) = true := by rw [decide_eq_true h1]; rfl
      refine wpAny_binaryOp_repeat_ref (T := "tuple") (U := "int") (by decide) ⟨_, ho, rfl⟩ (fun s' => typeIs_int s' k t) noFill_tuple_mul F.fills_int_mul F.slot_int_rmul repeat_tuple F.slot_int_index.lookup
        (call_meets F.slot_int_rmul (typeIs_int s k t) F.entry_int_rmul (F.args_int_rmul_2 _ _) (int_rmul_tuple k t l its.toArray n dd sl)
          ⟨ho, rfl, ⟨_, ho, rfl⟩, call_meets F.slot_tuple_mul ⟨_, ho, rfl⟩ F.entry_tuple_mul (F.args_tuple_mul_2 _ _) (tuple_mul0 l its.toArray n dd sl k t c0 c1 c2) ⟨ho, ?_⟩⟩)
      have hq := q2 hne hk1
      rw [show k.toNat = 0 by omega, List.replicate_zero, List.flatten_nil] at hq
      exact ⟨.ref s.heap.objs.size, _, laidP (tk := s.toks) (xs := []) (its := []) I (Nat.zero_le _) .nil, rfl, hq _ _ (I.hok.fresh (Nat.le_refl _)) rfl⟩
    · have hsz0 : its.toArray.size = xs.length := by rw [List.size_toArray, hle]
      have hm : ((its.toArray.size : Nat) : Int) * k ≤ 1000000 := by
        rw [hsz0]
        have a1 : ((xs.length : Nat) : Int) * k ≤ 1000 * k := Int.mul_le_mul_of_nonneg_right (by omega) (by omega)
        omega
      have flen : (List.replicate k.toNat its).flatten.length ≤ sizeLine := by
        rw [PyProof.Rows.lm_len_rep_flat, hle, sizeLine_eq]
        have a1 : k.toNat * xs.length ≤ 1000 * 1000 := Nat.mul_le_mul (by omega) hz
        omega
      have c2 : (decide (k ≤ 0) || its.toArray.isEmpty) = false := by
        rw [hi, Bool.or_false]
        exact decide_eq_false (by omega)
      have c4 : Builtin.Tuple.tupleTooMany (((its.toArray.size : Nat) : Int) * k) = false := by
        unfold Builtin.Tuple.tupleTooMany
        rw [sizeLine_eq]
        exact decide_eq_false (by omega)
      refine wpAny_binaryOp_repeat_ref (T := "tuple") (U := "int") (by decide) ⟨_, ho, rfl⟩ (fun s' => typeIs_int s' k t) noFill_tuple_mul F.fills_int_mul F.slot_int_rmul repeat_tuple F.slot_int_index.lookup
        (call_meets F.slot_int_rmul (typeIs_int s k t) F.entry_int_rmul (F.args_int_rmul_2 _ _) (int_rmul_tuple k t l its.toArray n dd sl)
          ⟨ho, rfl, ⟨_, ho, rfl⟩, call_meets F.slot_tuple_mul ⟨_, ho, rfl⟩ F.entry_tuple_mul (F.args_tuple_mul_2 _ _) (tuple_mulW l its.toArray n dd sl k t c0 c1 c2 (by omega) c4 (by rw [size_rep, List.size_toArray]; exact flen)) ⟨ho, ?_⟩⟩)
      rw [size_rep]
      exact ⟨.ref s.heap.objs.size, _, laidP (tk := s.toks) (xs := (List.replicate k.toNat xs).flatten) I (by rw [(r.rep k.toNat).length]; exact flen) (r.rep k.toNat), rfl, q2 hne hk1 _ _ (I.hok.fresh (Nat.le_refl _)) rfl⟩
end
end Bt
namespace Bt
open PySem L2

def okI (i : Int) : Bool := decide (i.natAbs.log2 < 9000)
def LIM : Nat := 100000
theorem lim_le {n : Nat} (h : n ≤ LIM) : n ≤ sizeLine := Nat.le_trans h (by decide)
theorem lim_lt {n : Nat} (h : n < LIM) : n < sizeLine := Nat.lt_of_lt_of_le h (by decide)
noncomputable def repOk (n : Nat) (k : Int) : Bool := @decide (k ≤ 100000 ∧ -100000 ≤ k ∧ n * k.toNat ≤ 100000) (Classical.propDecidable _)
theorem repOk_iff {n : Nat} {k : Int} : repOk n k = true ↔ k ≤ 100000 ∧ -100000 ≤ k ∧ n * k.toNat ≤ 100000 := by
  unfold repOk
  exact @decide_eq_true_iff _ (Classical.propDecidable _)
noncomputable def repT (n : Nat) (k : Int) : Bool := @decide (-1000 ≤ k ∧ k ≤ 1000 ∧ n ≤ 1000) (Classical.propDecidable _)
theorem repT_iff {n : Nat} {k : Int} : repT n k = true ↔ -1000 ≤ k ∧ k ≤ 1000 ∧ n ≤ 1000 := by
  unfold repT
  exact @decide_eq_true_iff _ (Classical.propDecidable _)
def addD : D → D → Option D
  | .int i, .int j => some (.int (i + j))
  | .list a, .list b => if a.length + b.length ≤ LIM then some (.list (a ++ b)) else none
  | .tuple a, .tuple b => if a.length + b.length ≤ LIM then some (.tuple (a ++ b)) else none
  | .str a, .str b => if a.length + b.length ≤ LIM then some (.str (a ++ b)) else none
  | _, _ => none
def subD : D → D → Option D
  | .int i, .int j => some (.int (i - j))
  | _, _ => none
noncomputable def mulD : D → D → Option D
  | .int i, .int j => if okI i && okI j then some (.int (i * j)) else none
  | .list a, .int k => if repOk a.length k then some (.list (List.replicate k.toNat a).flatten) else none
  | .tuple a, .int k => if repT a.length k then some (.tuple (List.replicate k.toNat a).flatten) else none
  | _, _ => none
def fdivD : D → D → Option D
  | .int i, .int j => if decide (0 < j) && okI j then some (.int (i / j)) else none
  | _, _ => none
def modD : D → D → Option D
  | .int i, .int j => if 0 < j then some (.int (i % j)) else none
  | _, _ => none
def powD : D → D → Option D
  | .int i, .int j => if decide (0 ≤ j) && decide (j ≤ 1000000) && decide (i.natAbs < 2 ^ 64) then some (.int (i ^ j.toNat)) else none
  | _, _ => none
def ltD : D → D → Option D
  | .int i, .int j => some (.bool (decide (i < j)))
  | _, _ => none
def leD : D → D → Option D
  | .int i, .int j => some (.bool (decide (i ≤ j)))
  | _, _ => none
def gtD : D → D → Option D
  | .int i, .int j => some (.bool (decide (j < i)))
  | _, _ => none
def geD : D → D → Option D
  | .int i, .int j => some (.bool (decide (j ≤ i)))
  | _, _ => none
def eqD (d e : D) : Option D := if SeqAt.shaped d && SeqAt.shaped e then some (.bool (PyData.eqv d e)) else none
def neD (d e : D) : Option D := if SeqAt.shaped d && SeqAt.shaped e then some (.bool (!PyData.eqv d e)) else none
def isNone : D → Bool
  | .none => true
  | _ => false
def isD (d e : D) : Option D := match e with
  | .none => some (.bool (isNone d))
  | _ => none
def isntD (d e : D) : Option D := match e with
  | .none => some (.bool (!isNone d))
  | _ => none
def flatD : D → Bool
  | .none | .bool _ | .int _ | .str _ => true
  | _ => false
def signOf : D → Option Nat
  | .str x => match x.cps.toList with
    | [c] => some c
    | _ => none
  | _ => none
theorem signOf_eq {d : D} {c : Nat} (h : signOf d = some c) : d = .str ⟨#[c]⟩ := by
  unfold signOf at h
  split at h
  · rename_i x
    split at h
    · rename_i c' e
      cases h
      obtain ⟨a⟩ := x
      have e2 : a.toList = [c] := e
      rw [show a = #[c] from Array.toList_inj.mp (by rw [e2])]
    · cases h
  · cases h
def inD (d e : D) : Option D := match e with
  | .str z => (signOf d).map fun c => .bool (decide (c ∈ z.cps.toList))
  | .list ds => if flatD d && ds.all flatD then some (.bool (ds.any fun y => PyData.eqv y d)) else none
  | .tuple ds => if flatD d && ds.all flatD then some (.bool (ds.any fun y => PyData.eqv y d)) else none
  | _ => none
def ninD (d e : D) : Option D := match e with
  | .str z => (signOf d).map fun c => .bool (!decide (c ∈ z.cps.toList))
  | .list ds => if flatD d && ds.all flatD then some (.bool (!(ds.any fun y => PyData.eqv y d))) else none
  | .tuple ds => if flatD d && ds.all flatD then some (.bool (!(ds.any fun y => PyData.eqv y d))) else none
  | _ => none
def ixD : D → D → Option D
  | .list ds, .int i => atI ds i
  | .tuple ds, .int i => atI ds i
  | .str z, .int i => if z.length ≤ LIM then (atI z.cps.toList i).map fun c => .str ⟨#[c]⟩ else none
  | _, _ => none
def cutD (xs : List D) (lo hi : Option Int) : List D := (xs.drop (HT.sIx xs.length 0 lo)).take (HT.sIx xs.length xs.length hi - HT.sIx xs.length 0 lo)

def ROk (K : PySem.W.Frag) (r : R2) (f : D → D → Option D) : Prop := ∀ O H x y d e z Q, Trk O H → Rq K O H x d → Rq K O H y e → f d e = some z → (∀ v H', Grow O H H' → Rp K (Mask O H') v z → Q v H') → r x y H Q
def COk (K : PySem.W.Frag) (r : List V → Hp → VK → Prop) (f : List D → Option D) : Prop := ∀ O H vs ds z Q, Trk O H → Paired (Rq K O H) vs ds → f ds = some z → (∀ v H', Grow O H H' → Rp K (Mask O H') v z → Q v H') → r vs H Q
section
variable {K : PySem.W.Frag}
def rAddS : R2 := fun x y H Q => ∃ i j, x = .str i ∧ y = .str j ∧ i.length + j.length ≤ sizeLine ∧ Q (.str (i ++ j)) H
def rAdd (K : PySem.W.Frag) : R2 := fun x y H Q => (rI0 fun i j => .int (i + j)) x y H Q ∨ (rCat x y H Q ∨ (rCatP K x y H Q ∨ rAddS x y H Q))
theorem op_Add {X : Cx} : OpR X (binaryOp .Add) (rAdd X.K) := op_add.or (op_cat.or (op_catP.or op_add_str))
theorem ok_add : ROk K (rAdd K) addD := by
  intro O H x y d e z Q t hx hy hf q
  unfold addD at hf
  split at hf
  · cases hf
    exact .inl ⟨_, _, hx.int, hy.int, q _ H (Grow.refl O H) (.int _)⟩
  · rename_i a b
    split at hf
    · rename_i hl
      cases hf
      obtain ⟨p, vs, rfl, hp, r1⟩ := hx.list
      obtain ⟨p2, ws, rfl, hp2, r2⟩ := hy.list
      refine .inr (.inl ⟨p, p2, vs, ws, rfl, rfl, hp, hp2, by rw [r1.length, r2.length]; exact lim_le hl, fun l nl => ?_⟩)
      obtain ⟨g, r⟩ := new_lst t (r1.append r2) nl
      exact q _ _ g r
    · cases hf
  · rename_i a b
    split at hf
    · rename_i hl
      cases hf
      obtain ⟨p, vs, rfl, hp, r1, rr1⟩ := hx.tuple
      obtain ⟨p2, ws, rfl, hp2, r2, rr2⟩ := hy.tuple
      refine .inr (.inr (.inl ⟨p, p2, vs, ws, rfl, rfl, hp, hp2, by rw [r1.length, r2.length]; exact lim_le hl, fun e => ?_, fun _ e => ?_, fun _ _ l o nl ho => ?_⟩))
      · subst e
        have ea : a = [] := List.eq_nil_of_length_eq_zero (by rw [← r1.length]; rfl)
        subst ea
        exact q _ _ (Grow.refl O H) rr2
      · subst e
        have ea : b = [] := List.eq_nil_of_length_eq_zero (by rw [← r2.length]; rfl)
        subst ea
        rw [List.append_nil] at q
        exact q _ _ (Grow.refl O H) rr1
      · obtain ⟨g, r⟩ := new_tup t (r1.append r2) nl ho
        exact q _ _ g r
    · cases hf
  · split at hf
    · rename_i hl
      cases hf
      exact .inr (.inr (.inr ⟨_, _, hx.str, hy.str, lim_le hl, q _ H (Grow.refl O H) (.str _)⟩))
    · cases hf
  · cases hf
theorem ok_sub : ROk K (rI0 fun i j => .int (i - j)) subD := by
  intro O H x y d e z Q t hx hy hf q
  unfold subD at hf
  split at hf
  · cases hf
    exact ⟨_, _, hx.int, hy.int, q _ H (Grow.refl O H) (.int _)⟩
  · cases hf
def rMul (K : PySem.W.Frag) : R2 := fun x y H Q => (rI CMulW fun i j => .int (i * j)) x y H Q ∨ (rRep x y H Q ∨ rRepP K x y H Q)
theorem op_Mul {X : Cx} : OpR X (binaryOp .Mult) (rMul X.K) := op_mulW.or (op_rep.or op_repP)
theorem ok_mul : ROk K (rMul K) mulD := by
  intro O H x y d e z Q t hx hy hf q
  unfold mulD at hf
  split at hf
  · split at hf
    · rename_i hl
      cases hf
      rw [Bool.and_eq_true] at hl
      refine .inl ⟨_, _, hx.int, hy.int, ?_, q _ H (Grow.refl O H) (.int _)⟩
      have h1 := of_decide_eq_true hl.1
      have h2 := of_decide_eq_true hl.2
      unfold CMulW
      omega
    · cases hf
  · rename_i a k
    split at hf
    · rename_i hl
      cases hf
      obtain ⟨h1, h2, h3⟩ := repOk_iff.mp hl
      have e0 : LIM = 100000 := rfl
      obtain ⟨p, vs, rfl, hp, r1⟩ := hx.list
      refine .inr (.inl ⟨p, k, vs, rfl, hy.int, hp, by omega, by omega, by rw [r1.length]; exact lim_le h3, fun l nl => ?_⟩)
      obtain ⟨g, r⟩ := new_lst t (r1.repeat k.toNat) nl
      exact q _ _ g r
    · cases hf
  · rename_i a k
    split at hf
    · rename_i hl
      cases hf
      obtain ⟨h1, h2, h3⟩ := repT_iff.mp hl
      obtain ⟨p, vs, rfl, hp, r1, rr⟩ := hx.tuple
      refine .inr (.inr ⟨p, k, vs, rfl, hy.int, hp, h1, h2, by rw [r1.length]; exact h3, fun hk => ?_, fun _ _ l o nl ho => ?_⟩)
      · have e : (List.replicate k.toNat a).flatten = a := by
          rcases hk with rfl | rfl
          · have ea : a = [] := List.eq_nil_of_length_eq_zero (by rw [← r1.length]; rfl)
            subst ea
            simp
          · simp
        rw [e] at q
        exact q _ _ (Grow.refl O H) rr
      · obtain ⟨g, r⟩ := new_tup t (r1.repeat k.toNat) nl ho
        exact q _ _ g r
    · cases hf
  · cases hf
theorem ok_fdiv : ROk K (rI CDivW fun i j => .int (i / j)) fdivD := by
  intro O H x y d e z Q t hx hy hf q
  unfold fdivD at hf
  split at hf
  · split at hf
    · rename_i hl
      cases hf
      rw [Bool.and_eq_true] at hl
      exact ⟨_, _, hx.int, hy.int, ⟨of_decide_eq_true hl.1, of_decide_eq_true hl.2⟩, q _ H (Grow.refl O H) (.int _)⟩
    · cases hf
  · cases hf
theorem ok_mod : ROk K (rI (fun _ j => 0 < j) fun i j => .int (i % j)) modD := by
  intro O H x y d e z Q t hx hy hf q
  unfold modD at hf
  split at hf
  · split at hf
    · rename_i hl
      cases hf
      exact ⟨_, _, hx.int, hy.int, hl, q _ H (Grow.refl O H) (.int _)⟩
    · cases hf
  · cases hf
theorem ok_pow : ROk K (rI CPow fun i j => .int (i ^ j.toNat)) powD := by
  intro O H x y d e z Q t hx hy hf q
  unfold powD at hf
  split at hf
  · split at hf
    · rename_i hl
      cases hf
      rw [Bool.and_eq_true, Bool.and_eq_true] at hl
      exact ⟨_, _, hx.int, hy.int, ⟨of_decide_eq_true hl.1.1, of_decide_eq_true hl.1.2, of_decide_eq_true hl.2⟩, q _ H (Grow.refl O H) (.int _)⟩
    · cases hf
  · cases hf
theorem ok_lt : ROk K (rI0 fun i j => .bl (decide (i < j))) ltD := by
  intro O H x y d e z Q t hx hy hf q
  unfold ltD at hf
  split at hf
  · cases hf
    exact ⟨_, _, hx.int, hy.int, q _ H (Grow.refl O H) (.bl _)⟩
  · cases hf
theorem ok_le : ROk K (rI0 fun i j => .bl (decide (i ≤ j))) leD := by
  intro O H x y d e z Q t hx hy hf q
  unfold leD at hf
  split at hf
  · cases hf
    exact ⟨_, _, hx.int, hy.int, q _ H (Grow.refl O H) (.bl _)⟩
  · cases hf
theorem ok_gt : ROk K (rI0 fun i j => .bl (decide (j < i))) gtD := by
  intro O H x y d e z Q t hx hy hf q
  unfold gtD at hf
  split at hf
  · cases hf
    exact ⟨_, _, hx.int, hy.int, q _ H (Grow.refl O H) (.bl _)⟩
  · cases hf
theorem ok_ge : ROk K (rI0 fun i j => .bl (decide (j ≤ i))) geD := by
  intro O H x y d e z Q t hx hy hf q
  unfold geD at hf
  split at hf
  · cases hf
    exact ⟨_, _, hx.int, hy.int, q _ H (Grow.refl O H) (.bl _)⟩
  · cases hf
theorem ok_eq : ROk K (rEqD K) eqD := by
  intro O H x y d e z Q t hx hy hf q
  unfold eqD at hf
  split at hf
  · rename_i hl
    cases hf
    rw [Bool.and_eq_true] at hl
    exact ⟨d, e, hx.dp (SeqAt.canLay_of_shaped hl.1), hy.dp (SeqAt.canLay_of_shaped hl.2), hl.1, hl.2, q _ H (Grow.refl O H) (.bl _)⟩
  · cases hf
theorem ok_ne : ROk K (rNeD K) neD := by
  intro O H x y d e z Q t hx hy hf q
  unfold neD at hf
  split at hf
  · rename_i hl
    cases hf
    rw [Bool.and_eq_true] at hl
    exact ⟨d, e, hx.dp (SeqAt.canLay_of_shaped hl.1), hy.dp (SeqAt.canLay_of_shaped hl.2), hl.1, hl.2, q _ H (Grow.refl O H) (.bl _)⟩
  · cases hf
theorem Rq.isNone {O : List Addr} {H : Hp} {v : V} {d : D} (h : Rq K O H v d) : decide (v = .non) = Bt.isNone d := by
  rw [h.non]
  cases d <;> rfl
theorem ok_is : ROk K (fun x y H Q => y = .non ∧ Q (.bl (decide (x = .non))) H) isD := by
  intro O H x y d e z Q t hx hy hf q
  unfold isD at hf
  split at hf
  · cases hf
    rcases hy with hy | ⟨_, _, _, _, e, _⟩
    · cases hy
      exact ⟨rfl, q _ H (Grow.refl O H) (by rw [hx.isNone]; exact .bl _)⟩
    · cases e
  · cases hf
theorem ok_isnt : ROk K (fun x y H Q => y = .non ∧ Q (.bl (!decide (x = .non))) H) isntD := by
  intro O H x y d e z Q t hx hy hf q
  unfold isntD at hf
  split at hf
  · cases hf
    rcases hy with hy | ⟨_, _, _, _, e, _⟩
    · cases hy
      exact ⟨rfl, q _ H (Grow.refl O H) (by rw [hx.isNone]; exact .bl _)⟩
    · cases e
  · cases hf
theorem Rp.flat {G : Hp} {v : V} {d : D} (h : Rp K G v d) (f : flatD d = true) : flatV v = true := by
  cases h <;> first | rfl | exact absurd f Bool.false_ne_true
theorem Rp.eqv {G : Hp} {v u : V} {d e : D} (h : Rp K G v d) (h2 : Rp K G u e) (f : flatD d = true) (f2 : flatD e = true) : eqV v u = PyData.eqv d e := by
  cases h <;> cases h2 <;> first | exact absurd f Bool.false_ne_true | exact absurd f2 Bool.false_ne_true | rfl | simp [eqV, PyData.eqv]
theorem Rq.rp {O : List Addr} {H : Hp} {v : V} {d : D} (h : Rq K O H v d) (f : flatD d = true) : Rp K (Mask O H) v d := by
  rcases h with h | ⟨_, _, _, _, e, _⟩
  · exact h
  · subst e; exact absurd f Bool.false_ne_true
theorem RpAll.flat {G : Hp} : ∀ {vs : List V} {ds : List D}, RpAll K G vs ds → ds.all flatD = true → vs.all flatV = true
  | _, _, .nil, _ => rfl
  | _, _, .cons h r, f => by
    rw [List.all_cons, Bool.and_eq_true] at f
    rw [List.all_cons, h.flat f.1, RpAll.flat r f.2]
    rfl
theorem RpAll.inV {G : Hp} {x : V} {d : D} (hx : Rp K G x d) (fx : flatD d = true) : ∀ {vs : List V} {ds : List D}, RpAll K G vs ds → ds.all flatD = true → L2.inV x vs = ds.any fun y => PyData.eqv y d
  | _, _, .nil, _ => rfl
  | _, _, .cons h r, f => by
    rw [List.all_cons, Bool.and_eq_true] at f
    have ih := RpAll.inV hx fx r f.2
    unfold L2.inV at ih ⊢
    rw [List.any_cons, List.any_cons, ih, h.eqv hx f.1 fx]
def rInB (K : PySem.W.Frag) : R2 := fun x y H Q => rIn K false x y H Q ∨ ∃ (c : Nat) (z : Str), x = .str ⟨#[c]⟩ ∧ y = .str z ∧ Q (.bl (decide (c ∈ z.cps.toList))) H
def rNinB (K : PySem.W.Frag) : R2 := fun x y H Q => rIn K true x y H Q ∨ ∃ (c : Nat) (z : Str), x = .str ⟨#[c]⟩ ∧ y = .str z ∧ Q (.bl (!decide (c ∈ z.cps.toList))) H
theorem ok_in : ROk K (rInB K) inD := by
  intro O H x y d e z Q t hx hy hf q
  unfold inD at hf
  split at hf
  · cases es : signOf d with
    | none => rw [es] at hf; cases hf
    | some c =>
      rw [es] at hf
      cases hf
      have ed := signOf_eq es
      subst ed
      exact .inr ⟨c, _, hx.str, hy.str, q _ H (Grow.refl O H) (.bl _)⟩
  · split at hf
    · rename_i hl
      cases hf
      rw [Bool.and_eq_true] at hl
      obtain ⟨p, vs, rfl, hp, r1⟩ := hy.list
      refine .inl ⟨p, vs, rfl, .inl (SqL.of hp), (hx.rp hl.1).flat hl.1, r1.flat hl.2, ?_⟩
      have := r1.inV (hx.rp hl.1) hl.1 hl.2
      exact q _ H (Grow.refl O H) (by rw [this]; exact .bl _)
    · cases hf
  · split at hf
    · rename_i hl
      cases hf
      rw [Bool.and_eq_true] at hl
      obtain ⟨p, vs, rfl, hp, r1, _⟩ := hy.tuple
      refine .inl ⟨p, vs, rfl, .inr hp, (hx.rp hl.1).flat hl.1, r1.flat hl.2, ?_⟩
      have := r1.inV (hx.rp hl.1) hl.1 hl.2
      exact q _ H (Grow.refl O H) (by rw [this]; exact .bl _)
    · cases hf
  · cases hf
theorem ok_nin : ROk K (rNinB K) ninD := by
  intro O H x y d e z Q t hx hy hf q
  unfold ninD at hf
  split at hf
  · cases es : signOf d with
    | none => rw [es] at hf; cases hf
    | some c =>
      rw [es] at hf
      cases hf
      have ed := signOf_eq es
      subst ed
      exact .inr ⟨c, _, hx.str, hy.str, q _ H (Grow.refl O H) (.bl _)⟩
  · split at hf
    · rename_i hl
      cases hf
      rw [Bool.and_eq_true] at hl
      obtain ⟨p, vs, rfl, hp, r1⟩ := hy.list
      refine .inl ⟨p, vs, rfl, .inl (SqL.of hp), (hx.rp hl.1).flat hl.1, r1.flat hl.2, ?_⟩
      have := r1.inV (hx.rp hl.1) hl.1 hl.2
      exact q _ H (Grow.refl O H) (by rw [this]; exact .bl _)
    · cases hf
  · split at hf
    · rename_i hl
      cases hf
      rw [Bool.and_eq_true] at hl
      obtain ⟨p, vs, rfl, hp, r1, _⟩ := hy.tuple
      refine .inl ⟨p, vs, rfl, .inr hp, (hx.rp hl.1).flat hl.1, r1.flat hl.2, ?_⟩
      have := r1.inV (hx.rp hl.1) hl.1 hl.2
      exact q _ H (Grow.refl O H) (by rw [this]; exact .bl _)
    · cases hf
  · cases hf
theorem RpAll.atI {G : Hp} {vs : List V} {ds : List D} {i : Int} {d : D} (r : RpAll K G vs ds) (h : L2.atI ds i = some d) : ∃ v, L2.atI vs i = some v ∧ Rp K G v d := by
  unfold L2.atI at h ⊢
  rw [r.length]
  cases e : ixN ds.length i with
  | none => rw [e] at h; cases h
  | some j =>
    rw [e] at h
    obtain ⟨v, h1, h2⟩ := r.get' (show ds[j]? = some d from h)
    exact ⟨v, h1, h2⟩
def rIxB (K : PySem.W.Frag) : R2 := fun x y H Q => rIxL K x y H Q ∨ (rIxT K x y H Q ∨ rIxS x y H Q)
theorem ix_B {X : Cx} : IxR X (rIxB X.K) := ix_list.or (ix_tup.or ix_str)
theorem ok_ix : ROk K (rIxB K) ixD := by
  intro O H x y d e z Q t hx hy hf q
  unfold ixD at hf
  split at hf
  · obtain ⟨p, vs, rfl, hp, r1⟩ := hx.list
    obtain ⟨v, h1, h2⟩ := r1.atI hf
    exact .inl ⟨p, vs, _, v, rfl, hy.int, SqL.of hp, h1, q v H (Grow.refl O H) h2⟩
  · obtain ⟨p, vs, rfl, hp, r1, _⟩ := hx.tuple
    obtain ⟨v, h1, h2⟩ := r1.atI hf
    exact .inr (.inl ⟨p, vs, _, v, rfl, hy.int, hp, h1, q v H (Grow.refl O H) h2⟩)
  · split at hf
    · rename_i w i hl
      cases e1 : L2.atI w.cps.toList i with
      | none => rw [e1] at hf; cases hf
      | some c =>
        rw [e1] at hf
        cases hf
        exact .inr (.inr ⟨w, i, c, hx.str, hy.int, lim_le hl, e1, q _ H (Grow.refl O H) (.str _)⟩)
    · cases hf
  · cases hf
end

def mOp (f : D → D → Option D) (ma mb : M Ag) : M D := bnd ma fun a => bnd mb fun b => fun E => match rsv E a, rsv E b with
  | some x, some y => lift (f x y) E
  | _, _ => .bad
section
variable {X : Cx} {W : WX} {a b c : Expr} {ta tb tc : TE} {ma mb mc : M Ag}
theorem op_rd {r : R2} {f : D → D → Option D} (ha : SO X W a ta ma) (hb : SO X W b tb mb) (hr : ROk X.K r f) : ∀ F O E σ H (Q : VK), Rel X.K F O E σ H → Sat (mOp f ma mb E) (KD X.K F σ O H Q) (KX X.K X.mg F σ O H W) → tOp r ta tb σ H Q := by
  intro F O E σ H Q R s
  refine ha.rd F O E σ H _ R (s.bnd.mono (fun a1 E1 k O1 v H1 R1 l1 av => ?_) (fun _ _ k => k))
  refine hb.rd F O1 E1 σ H1 _ R1 (k.bnd.mono (fun b1 E2 k2 O2 u H2 R2 l2 bv => ?_) (KX.le l1))
  cases ea : rsv E2 a1 with
  | none => rw [ea] at k2; exact k2.elim
  | some x =>
    cases eb : rsv E2 b1 with
    | none => rw [ea, eb] at k2; exact k2.elim
    | some y =>
      rw [ea, eb] at k2
      obtain ⟨z, hz, k3⟩ := Sat.lift k2
      refine hr O2 H2 v u x y z Q R2.trk (R2.rsv (av.le l2) ea) (R2.rsv bv eb) hz fun w H3 g rw3 => ?_
      exact k3 O2 w H3 (R2.grow g) ((l1.trans l2).trans g.le) rw3
theorem se_op {op : Operator} {pos : Pos} {r : R2} {f : D → D → Option D} (ho : OpR X (binaryOp op) r) (hr : ROk X.K r f) (ha : SO X W a ta ma) (hb : SO X W b tb mb) : SE X W (.BinOp a op b pos) (tOp r ta tb) (mOp f ma mb) :=
  ⟨pe_op ho ha.pe hb.pe, op_rd ha hb hr⟩
theorem se_cmp {op : CmpOp} {pos : Pos} {r : R2} {f : D → D → Option D} (ho : OpR X (compareOp op) r) (hr : ROk X.K r f) (hm : behindInMarks op b = false) (ha : SO X W a ta ma) (hb : SO X W b tb mb) : SE X W (.Compare a [op] [b] pos) (tOp r ta tb) (mOp f ma mb) :=
  ⟨pe_cmpR ho ha.pe hb.pe hm, op_rd ha hb hr⟩
theorem se_ix {pos : Pos} (hs : PlainIx b) (ha : SO X W a ta ma) (hb : SO X W b tb mb) : SE X W (.Subscript a b pos) (tOp (rIxB X.K) ta tb) (mOp ixD ma mb) :=
  ⟨pe_ix ix_B ha.pe hb.pe hs, op_rd ha hb ok_ix⟩
def asB : D → M Bool
  | .bool b => ret b
  | _ => stuck
theorem st_val {e : Expr} {t : TE} {m : M D} (h : SE X W e t m) (he : ∀ whole, isTrue e X.env whole = (do let v ← whole; standAt e.pos; holding [v] (truthy v)) := by intro _; rfl) : STt X W e (tB t) (bnd m asB) := by
  refine ⟨pt_val h.pe he, fun F O E σ H Q R s => h.rd F O E σ H _ R (s.bnd.mono (fun d E1 k O1 v H1 R1 l1 r => ?_) (fun _ _ k => k))⟩
  cases d <;> first | (exact k.elim) | skip
  cases r
  exact ⟨_, rfl, k O1 H1 R1 l1⟩
theorem st_cmp {op : CmpOp} {pos : Pos} {r : R2} {f : D → D → Option D} (ho : OpR X (compareOp op) r) (hr : ROk X.K r f) (hm : behindInMarks op b = false) (ha : SO X W a ta ma) (hb : SO X W b tb mb) : STt X W (.Compare a [op] [b] pos) (tTest (tOp r ta tb)) (bnd (mOp f ma mb) asB) := by
  refine ⟨pt_cmpR ho ha.pe hb.pe hm, fun F O E σ H Q R s => op_rd ha hb hr F O E σ H _ R (s.bnd.mono (fun d E1 k O1 v H1 R1 l1 r => ?_) (fun _ _ k => k))⟩
  cases d <;> first | (exact k.elim) | skip
  cases r
  exact ⟨_, rfl, k O1 H1 R1 l1⟩
def mChain (f g : D → D → Option D) (ma mb mc : M Ag) : M D := bnd ma fun a => bnd mb fun b => fun E => match rsv E a, rsv E b with
  | some x, some y => match f x y with
    | some (.bool true) => (bnd mc fun c => fun E => match rsv E b, rsv E c with
      | some y, some z => lift (g y z) E
      | _, _ => .bad) E
    | some (.bool false) => .ok (.bool false) E
    | _ => .bad
  | _, _ => .bad
end
end Bt
namespace Bt
open PySem L2

section
variable {X : Cx} {W : WX} {a b c e : Expr} {ta tb tc t : TE} {ma mb mc m : M D}

theorem se_c {v : V} {d : D} (h : PE X e (tC v)) (r : ∀ G, Rp X.K G v d) : SE X W e (tC v) (ret d) := ⟨h, fun F O E σ H Q R s => s O v H R (Le.refl O H) (r _)⟩
theorem se_int {i : Int} {j : Nat} {pos : Pos} : SE X W (.Constant (.int i) j pos) (tC (.int i)) (ret (.int i)) := se_c pe_int fun _ => .int _
theorem se_bl {i : Bool} {j : Nat} {pos : Pos} : SE X W (.Constant (.bool i) j pos) (tC (.bl i)) (ret (.bool i)) := se_c pe_bl fun _ => .bl _
theorem se_non {j : Nat} {pos : Pos} : SE X W (.Constant .none j pos) (tC .non) (ret .none) := se_c pe_non fun _ => .non
theorem se_str {i : Str} {j : Nat} {pos : Pos} : SE X W (.Constant (.str i) j pos) (tC (.str i)) (ret (.str i)) := se_c pe_str fun _ => .str _
def mNeg (m : M Ag) : M D := bnd m fun a => fun E => match rsv E a with
  | some (.int i) => .ok (.int (-i)) E
  | _ => .bad
theorem se_neg {m : M Ag} {pos : Pos} (h : SO X W e t m) : SE X W (.UnaryOp .USub e pos) (tUn (rU fun i => .int (-i)) t) (mNeg m) := by
  refine ⟨pe_un un_neg h.pe, fun F O E σ H Q R s => h.rd F O E σ H _ R (s.bnd.mono (fun a E1 k O1 v H1 R1 l1 av => ?_) (fun _ _ k => k))⟩
  cases ea : rsv E1 a with
  | none => rw [ea] at k; exact k.elim
  | some x =>
    rw [ea] at k
    have rq := R1.rsv av ea
    cases x <;> first | exact k.elim | skip
    exact ⟨_, rq.int, k O1 _ H1 R1 l1 (.int _)⟩

theorem sa_nil : SA X W [] tNil (ret []) := ⟨pa_nil, fun F O E σ H Q R s => s O [] H R (Le.refl O H) .nil⟩
def mConsD (m : M D) (ms : M (List D)) : M (List D) := bnd m fun a => bnd ms fun as => ret (a :: as)
theorem sa_cons {es : List Expr} {ts : TA} {ms : M (List D)} (h : SE X W e t m) (hs : SA X W es ts ms) (hst : starEach (e :: es) X.env = (false, eval e X.env) :: starEach es X.env := by rfl) : SA X W (e :: es) (tCons t ts) (mConsD m ms) := by
  refine ⟨pa_cons h.pe hs.pa hst, fun F O E σ H Q R s => h.rd F O E σ H _ R (s.bnd.mono (fun a E1 k O1 v H1 R1 l1 r1 => ?_) (fun _ _ k => k))⟩
  refine hs.rd F O1 E1 σ H1 _ R1 (k.bnd.mono (fun as E2 k2 O2 vs H2 R2 l2 r2 => ?_) (KX.le l1))
  exact k2 O2 (v :: vs) H2 R2 (l1.trans l2) (.cons (r1.mono l2) r2)
def mTup (ms : M (List D)) : M D := bnd ms fun ds => fun E => if ds.length ≤ LIM then .ok (.tuple ds) E else .bad
def mLst (ms : M (List D)) : M D := bnd ms fun ds => fun E => if ds.length ≤ LIM then .ok (.list ds) E else .bad
theorem se_tup {es : List Expr} {ts : TA} {ms : M (List D)} {k : Nat} {pos : Pos} (h : SA X W es ts ms) : SE X W (.Tuple es k pos) (tTupP ts) (mTup ms) := by
  refine ⟨pe_tupP h.pa, fun F O E σ H Q R s => h.rd F O E σ H _ R (s.bnd.mono (fun ds E1 k O1 vs H1 R1 l1 r1 => ?_) (fun _ _ k => k))⟩
  split at k
  · rename_i hl
    refine ⟨by rw [r1.length]; exact lim_le hl, fun p o np ho => ?_⟩
    obtain ⟨g, r⟩ := new_tup R1.trk r1 np ho
    exact k O1 _ _ (R1.grow g) (l1.trans g.le) r
  · exact k.elim
theorem se_lst {es : List Expr} {ts : TA} {ms : M (List D)} {pos : Pos} (h : SA X W es ts ms) : SE X W (.List es pos) (tLst ts) (mLst ms) := by
  refine ⟨pe_lst h.pa, fun F O E σ H Q R s => h.rd F O E σ H _ R (s.bnd.mono (fun ds E1 k O1 vs H1 R1 l1 r1 => ?_) (fun _ _ k => k))⟩
  split at k
  · rename_i hl
    refine ⟨by rw [r1.length]; exact lim_le hl, fun p np => ?_⟩
    obtain ⟨g, r⟩ := new_lst R1.trk r1 np
    exact k O1 _ _ (R1.grow g) (l1.trans g.le) r
  · exact k.elim

def mIf {α : Type} (mt : M Bool) (x y : M α) : M α := bnd mt fun b => if b then x else y
theorem se_if {tt : TT} {mt : M Bool} {pos : Pos} (hc : STt X W c tt mt) (ha : SE X W a ta ma) (hb : SE X W b tb mb) : SE X W (.IfExp c a b pos) (tIf tt ta tb) (mIf mt ma mb) := by
  refine ⟨pe_ifExp hc.pt ha.pe hb.pe, fun F O E σ H Q R s => hc.rd F O E σ H _ R (s.bnd.mono (fun b E1 k O1 H1 R1 l1 => ?_) (fun _ _ k => k))⟩
  cases b with
  | true =>
    show ta σ H1 Q
    exact ha.rd F O1 E1 σ H1 Q R1 (Sat.mono k (fun d E2 k2 O2 v H2 R2 l2 r => k2 O2 v H2 R2 (l1.trans l2) r) (KX.le l1))
  | false =>
    show tb σ H1 Q
    exact hb.rd F O1 E1 σ H1 Q R1 (Sat.mono k (fun d E2 k2 O2 v H2 R2 l2 r => k2 O2 v H2 R2 (l1.trans l2) r) (KX.le l1))
def mAnd (x y : M Bool) : M Bool := bnd x fun b => if b then y else ret false
def mOr (x y : M Bool) : M Bool := bnd x fun b => if b then ret true else y
def mNot (x : M Bool) : M Bool := bnd x fun b => ret (!b)
theorem sw_and1 {tt : TT} {mt : M Bool} {pos : Pos} (h : STt X W a tt mt) : SW X W (.BoolOp .And [a] pos) tt mt := ⟨pw_and1 h.pt, h.rd⟩
theorem sw_or1 {tt : TT} {mt : M Bool} {pos : Pos} (h : STt X W a tt mt) : SW X W (.BoolOp .Or [a] pos) tt mt := ⟨pw_or1 h.pt, h.rd⟩
theorem sw_and {rest : List Expr} {tt tu : TT} {mt mu : M Bool} {pos : Pos} (ha : STt X W a tt mt) (hb : SW X W (.BoolOp .And (b :: rest) pos) tu mu) : SW X W (.BoolOp .And (a :: b :: rest) pos) (tAnd tt tu) (mAnd mt mu) := by
  refine ⟨pw_and ha.pt hb.pw, fun F O E σ H Q R s => ha.rd F O E σ H _ R (s.bnd.mono (fun b E1 k O1 H1 R1 l1 => ?_) (fun _ _ k => k))⟩
  cases b with
  | true =>
    show tu σ H1 Q
    exact hb.rd F O1 E1 σ H1 Q R1 (Sat.mono k (fun d E2 k2 O2 H2 R2 l2 => k2 O2 H2 R2 (l1.trans l2)) (KX.le l1))
  | false =>
    show Q false H1
    exact k O1 H1 R1 l1
theorem sw_or {rest : List Expr} {tt tu : TT} {mt mu : M Bool} {pos : Pos} (ha : STt X W a tt mt) (hb : SW X W (.BoolOp .Or (b :: rest) pos) tu mu) : SW X W (.BoolOp .Or (a :: b :: rest) pos) (tOr tt tu) (mOr mt mu) := by
  refine ⟨pw_or ha.pt hb.pw, fun F O E σ H Q R s => ha.rd F O E σ H _ R (s.bnd.mono (fun b E1 k O1 H1 R1 l1 => ?_) (fun _ _ k => k))⟩
  cases b with
  | true =>
    show Q true H1
    exact k O1 H1 R1 l1
  | false =>
    show tu σ H1 Q
    exact hb.rd F O1 E1 σ H1 Q R1 (Sat.mono k (fun d E2 k2 O2 H2 R2 l2 => k2 O2 H2 R2 (l1.trans l2)) (KX.le l1))
theorem SW.st {tt : TT} {mt : M Bool} (h : SW X W e tt mt) : STt X W e tt mt := ⟨h.pw.pt, h.rd⟩
theorem st_not {tt : TT} {mt : M Bool} {pos : Pos} (h : STt X W a tt mt) : STt X W (.UnaryOp .Not a pos) (tNot tt) (mNot mt) :=
  ⟨pt_not h.pt, fun F O E σ H Q R s => h.rd F O E σ H _ R (s.bnd.mono (fun _ _ k O1 H1 R1 l1 => k O1 H1 R1 l1) (fun _ _ k => k))⟩
def mAndV (x y : M D) : M D := bnd x fun d => match d with
  | .bool true => y
  | .bool false => ret (.bool false)
  | _ => stuck
def mOrV (x y : M D) : M D := bnd x fun d => match d with
  | .bool true => ret (.bool true)
  | .bool false => y
  | _ => stuck
def mNotV (x : M D) : M D := bnd x fun d => match d with
  | .bool b => ret (.bool (!b))
  | _ => stuck
theorem se_one {op : BoolOp} {pos : Pos} (h : SE X W a ta ma) : SE X W (.BoolOp op [a] pos) ta ma := ⟨pe_one h.pe, h.rd⟩
theorem se_and {rest : List Expr} {pos : Pos} (ha : SE X W a ta ma) (hb : SE X W (.BoolOp .And (b :: rest) pos) tb mb) : SE X W (.BoolOp .And (a :: b :: rest) pos) (tAndV ta tb) (mAndV ma mb) := by
  refine ⟨pe_and ha.pe hb.pe, fun F O E σ H Q R s => ha.rd F O E σ H _ R (s.bnd.mono (fun d E1 k O1 v H1 R1 l1 r => ?_) (fun _ _ k => k))⟩
  cases d with
  | bool z =>
    cases r
    cases z with
    | true =>
      refine ⟨true, rfl, ?_⟩
      show tb σ H1 Q
      exact hb.rd F O1 E1 σ H1 Q R1 (Sat.mono k (fun d E2 k2 O2 v H2 R2 l2 r => k2 O2 v H2 R2 (l1.trans l2) r) (KX.le l1))
    | false => exact ⟨false, rfl, k O1 _ H1 R1 l1 (.bl _)⟩
  | _ => exact k.elim
theorem se_not {pos : Pos} (ha : SE X W a ta ma) : SE X W (.UnaryOp .Not a pos) (tNotV ta) (mNotV ma) := by
  refine ⟨pe_not ha.pe, fun F O E σ H Q R s => ha.rd F O E σ H _ R (s.bnd.mono (fun d E1 k O1 v H1 R1 l1 r => ?_) (fun _ _ k => k))⟩
  cases d with
  | bool z => cases r; exact ⟨z, rfl, k O1 _ H1 R1 l1 (.bl _)⟩
  | _ => exact k.elim

def mPart : Option (M D) → M (Option Int)
  | none => ret none
  | some m => bnd m fun d => match d with
    | .int i => ret (some i)
    | _ => stuck
structure SP (X : Cx) (W : WX) (e : Option Expr) (t : TO) (m : M (Option Int)) : Prop where
  po : PO X e t
  rd : ∀ F O E σ H (Q : Option Int → Hp → Prop), Rel X.K F O E σ H → Sat (m E) (fun o E' => ∀ O' H', Rel X.K F O' E' σ H' → Le O H O' H' → Q o H') (KX X.K X.mg F σ O H W) → t σ H Q
theorem sp_none : SP X W none tNoPart (mPart none) := ⟨po_none, fun F O E σ H Q R s => s O H R (Le.refl O H)⟩
theorem sp_some (h : SE X W e t m) : SP X W (some e) (tPart t) (mPart (some m)) := by
  refine ⟨po_some h.pe, fun F O E σ H Q R s => h.rd F O E σ H _ R (s.bnd.mono (fun d E1 k O1 v H1 R1 l1 r => ?_) (fun _ _ k => k))⟩
  cases d with
  | int i => cases r; exact ⟨i, rfl, k O1 H1 R1 l1⟩
  | _ => exact k.elim
def slD (lo hi : Option Int) : D → Option D
  | .list ds => some (.list (cutD ds lo hi))
  | .tuple ds => some (.tuple (cutD ds lo hi))
  | _ => none
def mSl (ma : M Ag) (ml mh : M (Option Int)) : M D := bnd ma fun a => bnd ml fun lo => bnd mh fun hi => fun E => match rsv E a with
  | some d => lift (slD lo hi d) E
  | none => .bad
def rSlB (K : PySem.W.Frag) : V → Option Int → Option Int → Hp → VK → Prop := fun x lo hi H Q => rSlL K x lo hi H Q ∨ rSlP K x lo hi H Q
theorem RpAll.cut {K : PySem.W.Frag} {G : Hp} {vs : List V} {ds : List D} (r : RpAll K G vs ds) (lo hi : Option Int) : RpAll K G (cutV vs lo hi) (cutD ds lo hi) := by
  unfold cutV cutD
  rw [r.length]
  exact (r.drop _).take _
theorem cutD_whole {ds : List D} {lo hi : Option Int} (h : HT.sIx ds.length 0 lo = 0 ∧ HT.sIx ds.length ds.length hi = ds.length) : cutD ds lo hi = ds := by
  unfold cutD
  rw [h.1, h.2, List.drop_zero, Nat.sub_zero, List.take_length]
theorem se_sl {lo hi : Option Expr} {tl th : TO} {ml mh : M (Option Int)} {m : M Ag} {p2 pos : Pos} (h : SO X W e t m) (hl : SP X W lo tl ml) (hh : SP X W hi th mh) : SE X W (.Subscript e (.Slice lo hi none p2) pos) (tSl (rSlB X.K) t tl th) (mSl m ml mh) := by
  refine ⟨pe_slice (sl_list.or sl_tupP) h.pe hl.po hh.po, fun F O E σ H Q R s => h.rd F O E σ H _ R (s.bnd.mono (fun a E1 k O1 v H1 R1 l1 av => ?_) (fun _ _ k => k))⟩
  refine hl.rd F O1 E1 σ H1 _ R1 (k.bnd.mono (fun lo E2 k2 O2 H2 R2 l2 => ?_) (KX.le l1))
  refine hh.rd F O2 E2 σ H2 _ R2 (k2.bnd.mono (fun hi E3 k3 O3 H3 R3 l3 => ?_) (KX.le (l1.trans l2)))
  cases ea : rsv E3 a with
  | none => rw [ea] at k3; exact k3.elim
  | some x =>
    rw [ea] at k3
    obtain ⟨z, hz, k4⟩ := Sat.lift k3
    have rq := R3.rsv (av.le (l2.trans l3)) ea
    have ll : Le O H O3 H3 := (l1.trans l2).trans l3
    cases x <;> first | (cases hz; done) | skip
    · cases hz
      obtain ⟨p, vs, rfl, hp, r1⟩ := rq.list
      refine .inl ⟨p, vs, rfl, SqL.of hp, fun q nq => ?_⟩
      obtain ⟨g, r⟩ := new_lst R3.trk (r1.cut lo hi) nq
      exact k4 O3 _ _ (R3.grow g) (ll.trans g.le) r
    · cases hz
      obtain ⟨p, vs, rfl, hp, r1, rr⟩ := rq.tuple
      refine .inr ⟨p, vs, rfl, hp, fun hw => ?_, fun _ q o nq ho => ?_⟩
      · rw [r1.length] at hw
        rw [cutD_whole hw] at k4
        exact k4 O3 _ _ R3 ll rr
      · obtain ⟨g, r⟩ := new_tup R3.trk (r1.cut lo hi) nq ho
        exact k4 O3 _ _ (R3.grow g) (ll.trans g.le) r

def rsvs (E : En) : List Ag → Option (List D)
  | [] => some []
  | a :: as => match rsv E a, rsvs E as with
    | some d, some ds => some (d :: ds)
    | _, _ => none
theorem Rel.rsvs {K : PySem.W.Frag} {F : Frm} {O : List Addr} {H : Hp} {E : En} {σ : L2.St} (R : Rel K F O E σ H) : ∀ {vs : List V} {as : List Ag} {ds : List D}, Paired (AgV K σ O H) vs as → rsvs E as = some ds → Paired (Rq K O H) vs ds
  | _, _, _, .nil, e => by cases e; exact .nil
  | _, _, ds, .cons h r, e => by
    unfold Bt.rsvs at e
    split at e
    · rename_i d ds' e1 e2
      cases e
      exact .cons (R.rsv h e1) (Rel.rsvs R r e2)
    · cases e
def mB (f : List D → Option D) (ms : M (List Ag)) : M D := bnd ms fun as => fun E => match rsvs E as with
  | some ds => lift (f ds) E
  | none => .bad
theorem cb_rd {es : List Expr} {ts : TA} {ms : M (List Ag)} {r : List V → Hp → VK → Prop} {f : List D → Option D} (h : SOs X W es ts ms) (hr : COk X.K r f) : ∀ F O E σ H (Q : VK), Rel X.K F O E σ H → Sat (mB f ms E) (KD X.K F σ O H Q) (KX X.K X.mg F σ O H W) → tCB r ts σ H Q := by
  intro F O E σ H Q R s
  refine h.rd F O E σ H _ R (s.bnd.mono (fun as E1 k O1 vs H1 R1 l1 av => ?_) (fun _ _ k => k))
  cases ea : rsvs E1 as with
  | none => rw [ea] at k; exact k.elim
  | some ds =>
    rw [ea] at k
    obtain ⟨z, hz, k2⟩ := Sat.lift k
    exact hr O1 H1 vs ds z Q R1.trk (R1.rsvs av ea) hz fun w H2 g r2 => k2 O1 w H2 (R1.grow g) (l1.trans g.le) r2
end
end Bt
namespace Bt
open PySem PySem.Calls PyProof.Rows PySem.W PySem.SeqAt
theorem call_tuple_lt {A : Around} {s : Shared} {prog : Program} {w : World} {E : Value → Shared → Prop} {Q : Value → Shared → Prop} {l b : Addr} {items items2 : Array Value} {e r : Nat → Bool} (hl : s.heap.IsTuple l items) (hb : s.heap.IsTuple b items2)
    (he : ∀ j (h1 : j < items.size) (h2 : j < items2.size), EqAt A.in1 s items[j] items2[j] (e j)) (hr : ∀ j (h1 : j < items.size) (h2 : j < items2.size), e j = false → RcLt A.in1 s items[j] items2[j] (r j))
    (h : Q (.bool (firstLt e r (decide (items.size < items2.size)) (List.range (min items.size items2.size)))) s) : wpAny (model prog w) A (call (.builtin "tuple.__lt__") [.ref l, .ref b]) Q E s := by
  obtain ⟨⟨cls, dd, data, sl⟩, ho, hc, n, hd⟩ := id hl
  obtain ⟨⟨cls2, dd2, data2, sl2⟩, ho2, hc2, n2, hd2⟩ := id hb
  simp only at hc hd hc2 hd2
  subst hc hd hc2 hd2
  exact call_meets F.slot_tuple_lt ⟨_, ho, rfl⟩ F.entry_tuple_lt (F.args_tuple_lt_2 _ _) (tuple_ltAt l b items items2 n n2 dd dd2 sl sl2 e r) ⟨ho, ho2, he, hr, h⟩
section
variable {prog : Program} {w : World} {A : Around} {E : Value → Shared → Prop} {s : Shared}
theorem oneLt_tup {xs ys : List PyData} {a b : Value} {as bs : List Addr} {Q : Bool → Shared → Prop} (ra : Reads s.heap a (.tuple xs) as) (rb : Reads s.heap b (.tuple ys) bs) (hal : alikeAll xs ys = true)
    (hu : A.units + min (PyData.tuple xs).depth (PyData.tuple ys).depth < cLine) (hq : Q (dataLt (.tuple xs) (.tuple ys)) s) : wpAny (model prog w) A (oneLt' true a b) Q E s := by
  cases ra with
  | @tuple l o vs n _ as₁ h1 h2 h3 h4 =>
    cases rb with
    | @tuple l' o' vs' n' _ bs₁ k1 k2 k3 k4 =>
      have n1 : vs.size = xs.length := by simpa using ReadsAll.length _ _ _ h4
      have n2 : vs'.size = ys.length := by simpa using ReadsAll.length _ _ _ k4
      rw [dataLt_tuple, ← firstLt_toks xs ys hal, ← n1, ← n2] at hq
      rw [oneLt'_eq]
      simp only [if_true]
      refine wpAny_bind (wpAny_cRoomFor (room_here hu) ?_)
      refine wpAny_bind (wpAny_callSpecialIfBound?_slot (T := "tuple") ⟨_, h1, h2⟩ F.slot_tuple_lt (call_tuple_lt (e := pairEq xs ys) (r := fun j => dataLt (xs.getD j .none) (ys.getD j .none)) ⟨_, h1, h2, _, h3⟩ ⟨_, k1, k2, _, k3⟩ (fun j j1 j2 => ?_) (fun j j1 j2 hj => ?_) ?_))
      · have := eqAt_alikeAll xs ys A.in1 s vs.toList vs'.toList _ _ h4 k4 hal (room_in hu) j (by simpa using j1) (by simpa using j2)
        simpa using this
      · have := rcLt_alikeAll xs ys A.in1 s vs.toList vs'.toList _ _ h4 k4 hal (room_in hu) j (by simpa using j1) (by simpa using j2) hj
        simpa using this
      · exact wpAny_truthy_bool hq
def Sort0 (ds : List PyData) : Prop := (∃ r, ds = .tuple [] :: r) ∧ ∀ d ∈ ds, ∃ xs, d = .tuple xs
theorem firsts_any {M : Model} : ∀ (vs : List Value) {ds : List PyData} {Q : List (Option Value) → Shared → Prop}, EachIs (fun v d => ∃ as, Reads s.heap v d as) vs ds → (∀ d ∈ ds, ∃ xs, d = .tuple xs) → (∀ bs : List (Option Value), bs.length = vs.length → (∀ r, ds = .tuple [] :: r → ∃ bs', bs = none :: bs') → Q bs s) → wpAny M A (vs.mapM firstOfTuple') Q E s
  | [], _, _, .nil, _, h => by rw [List.mapM_nil]; exact wpAny_pure (h [] rfl fun r e => by cases e)
  | v :: vs, d :: ds, Q, .cons ⟨as, r⟩ t, ht, h => by
    rw [List.mapM_cons]
    refine wpAny_bind ?_
    rw [kas_first_eq]
    obtain ⟨xs, rfl⟩ := ht d List.mem_cons_self
    refine wpAny_bind ((looks_reads (M := M) r).here ?_)
    have q : (dataType (.tuple xs) != Value.type "tuple") = false := by simp [dataType]
    rw [q]
    simp only [Bool.false_eq_true, if_false]
    cases r with
    | @tuple a o ws n _ _ ho hc hd hr =>
      refine wpAny_bind (listItems_at ho hd (wpAny_pure ?_))
      refine wpAny_bind (firsts_any vs (Q := fun bs s' => wpAny M A (pure (ws[0]? :: bs)) Q E s') t (fun d hd => ht d (List.mem_cons_of_mem _ hd)) fun bs hl _ => wpAny_pure (h _ (by rw [List.length_cons, List.length_cons, hl]) fun r e => ?_))
      cases e
      have : ws.toList = [] := by cases q : ws.toList with
        | nil => rfl
        | cons f fr => rw [q] at hr; cases hr
      exact ⟨bs, by rw [show ws[0]? = none by rw [← Array.getElem?_toList, this]; rfl]⟩
theorem kind0 {M : Model} {vs : List Value} {ds : List PyData} {Q : SortKind → Shared → Prop} (e : EachIs (fun v d => ∃ as, Reads s.heap v d as) vs ds) (h0 : Sort0 ds) (h : Q oneType' s) : wpAny M A (keyKind' vs.toArray) Q E s := by
  obtain ⟨⟨r, er⟩, ht⟩ := h0
  rw [keyKind'_eq, List.mapM_toArray, map_eq_pure_bind]
  refine wpAny_bind (wpAny_bind (firsts_any vs e ht fun bs hl hb => wpAny_pure ?_))
  obtain ⟨bs', rfl⟩ := hb r er
  rw [if_neg (by simp), if_neg (by simp)]
  rw [oneTypeOnly'_eq, List.mapM_toArray, map_eq_pure_bind]
  refine wpAny_bind (wpAny_bind (wpAny_bind (kas_mapM (r := Value.type "tuple") _ (fun v hv Q' hq => ?_) (wpAny_pure ?_))))
  · obtain ⟨d, hd, as, rd⟩ := e.left v hv
    obtain ⟨xs, rfl⟩ := ht d hd
    exact (looks_reads (M := M) rd).here hq
  · have hall : ((List.map (fun _ => Value.type "tuple") vs).toArray.all fun x => x == Value.type "tuple") = true := by
      simp only [List.all_toArray, List.all_map, List.all_eq_true]
      intro _ _
      exact beq_self_eq_true _
    obtain ⟨v, vr, rfl⟩ : ∃ v vr, vs = v :: vr := by
      cases vs with
      | nil => rw [er] at e; cases e
      | cons v vr => exact ⟨v, vr, rfl⟩
    have h0 : (List.map (fun _ => Value.type "tuple") (v :: vr)).toArray[0]? = some (Value.type "tuple") := by simp
    rw [h0]
    simp only [hall, if_true]
    exact wpAny_pure (wpAny_pure h)
theorem SortsAt.data0 {vs : List Value} {ds : List PyData} (e : EachIs (fun v d => ∃ as, Reads s.heap v d as) vs ds) (hal : AllAlike ds) (hk : Sort0 ds) (hu : ∀ d, d ∈ ds → A.units + d.depth < cLine) : SortsAt prog w A s (dataKind s.heap ds) vs := by
  have room : ∀ {d d' : PyData}, d ∈ ds → A.units + min d.depth d'.depth < cLine := fun {d d'} hd => Nat.lt_of_le_of_lt (Nat.add_le_add_left (Nat.min_le_left _ _) _) (hu d hd)
  refine ⟨fun v hv => ?_, oneType', ?_, fun h2 E Q hq => kind0 e hk hq⟩
  · obtain ⟨d, hd, as, r⟩ := e.left v hv
    exact ⟨_, dataKind_some hal hd r⟩
  · intro E x y a b Q ha hb hq
    obtain ⟨d, as, hd, ra, rfl⟩ := dataKind_inv ha
    obtain ⟨d', as', hd', rb, rfl⟩ := dataKind_inv hb
    have hdd := hal d hd d' hd'
    have hroom := room (d' := d') hd
    obtain ⟨xs, rfl⟩ := hk.2 d hd
    obtain ⟨ys, rfl⟩ := hk.2 d' hd'
    rw [keyLt'_oneType]
    exact oneLt_tup ra rb (by simpa [alike] using hdd) hroom hq
theorem SortsAt.dataB {vs : List Value} {ds : List PyData} (e : EachIs (fun v d => ∃ as, Reads s.heap v d as) vs ds) (hal : AllAlike ds) (hk : Sortable ds ∨ Sort0 ds) (hu : ∀ d, d ∈ ds → A.units + d.depth < cLine) : SortsAt prog w A s (dataKind s.heap ds) vs :=
  hk.elim (fun k => PySem.W.SortsAt.data e hal k hu) (fun k => SortsAt.data0 e hal k hu)
end
end Bt
namespace Bt
open PySem L2
section
variable {X : Cx} {W : WX} {a b c e : Expr} {ta tb tc t : TE} {ma mb mc m : M D}
theorem se_callB {es : List Expr} {ts : TA} {ms : M (List Ag)} {r : List V → Hp → VK → Prop} {f : List D → Option D} {id : String} {x : Str} {p pos : Pos} (hc : CallR X (.builtin id) r) (hr : COk X.K r f) (hg : Gl X x) (hm : X.mg x = none) (hv : bootBuiltins x = some (.builtin id)) (h : SOs X W (e :: es) ts ms)
    (hn : x ≠ "__name__" := by decide) (hdb : (x == ("__debug__" : Str)) = false := by decide) (he : starEach (e :: es) X.env = (false, eval e X.env) :: starEach es X.env := by rfl) (hpl : (backTo pos (starEach es X.env)).any (·.1) = false := by rfl) : SE X W (.Call (.Name x p) (e :: es) [] pos) (tCB r ts) (mB f ms) :=
  ⟨pe_callB hc hg hm hv h.pa hn hdb he hpl, cb_rd h hr⟩
theorem se_callTy {es : List Expr} {ts : TA} {ms : M (List Ag)} {r : List V → Hp → VK → Prop} {f : List D → Option D} {T : String} {x : Str} {p pos : Pos} (hc : CallR X (.type T) r) (hr : COk X.K r f) (hg : Gl X x) (hm : X.mg x = none) (hv : bootBuiltins x = some (.type T)) (h : SOs X W (e :: es) ts ms)
    (hn : x ≠ "__name__" := by decide) (hdb : (x == ("__debug__" : Str)) = false := by decide) (he : starEach (e :: es) X.env = (false, eval e X.env) :: starEach es X.env := by rfl) (hpl : (backTo pos (starEach es X.env)).any (·.1) = false := by rfl) : SE X W (.Call (.Name x p) (e :: es) [] pos) (tCB r ts) (mB f ms) :=
  ⟨pe_callTy hc hg hm hv h.pa hn hdb he hpl, cb_rd h hr⟩
theorem paired1 {α β : Type} {F : α → β → Prop} {xs : List α} {y : β} (h : Paired F xs [y]) : ∃ x, xs = [x] ∧ F x y := by
  cases h with
  | cons h r => cases r; exact ⟨_, rfl, h⟩
theorem paired2 {α β : Type} {F : α → β → Prop} {xs : List α} {y z : β} (h : Paired F xs [y, z]) : ∃ x w, xs = [x, w] ∧ F x y ∧ F w z := by
  cases h with
  | cons h r =>
    cases r with
    | cons h2 r => cases r; exact ⟨_, _, rfl, h, h2⟩
end
def lenF : List D → Option D
  | [.list ds] => some (.int (ds.length : Nat))
  | [.tuple ds] => some (.int (ds.length : Nat))
  | [.str z] => if z.length ≤ LIM then some (.int (z.length : Nat)) else none
  | _ => none
def intsOf : List D → Option (List Int)
  | [] => some []
  | .int i :: ds => (intsOf ds).map (i :: ·)
  | _ => none
def boolsOf : List D → Option (List Bool)
  | [] => some []
  | .bool i :: ds => (boolsOf ds).map (i :: ·)
  | _ => none
theorem intsOf_eq : ∀ {ds : List D} {ns : List Int}, intsOf ds = some ns → ds = ns.map .int
  | [], ns, h => by cases h; rfl
  | d :: ds, ns, h => by
    unfold intsOf at h
    cases d <;> first | (cases h; done) | skip
    dsimp only at h
    cases e : intsOf ds with
    | none => rw [e] at h; cases h
    | some ms => rw [e] at h; cases h; rw [intsOf_eq e]; rfl
theorem boolsOf_eq : ∀ {ds : List D} {ns : List Bool}, boolsOf ds = some ns → ds = ns.map .bool
  | [], ns, h => by cases h; rfl
  | d :: ds, ns, h => by
    unfold boolsOf at h
    cases d <;> first | (cases h; done) | skip
    dsimp only at h
    cases e : boolsOf ds with
    | none => rw [e] at h; cases h
    | some ms => rw [e] at h; cases h; rw [boolsOf_eq e]; rfl
theorem intsOf_map : ∀ ns : List Int, intsOf (ns.map .int) = some ns
  | [] => rfl
  | n :: ns => by show (intsOf (ns.map .int)).map (n :: ·) = _; rw [intsOf_map ns]; rfl
theorem boolsOf_map : ∀ ns : List Bool, boolsOf (ns.map .bool) = some ns
  | [] => rfl
  | n :: ns => by show (boolsOf (ns.map .bool)).map (n :: ·) = _; rw [boolsOf_map ns]; rfl
def minL : List Int → Int
  | [] => 0
  | [x] => x
  | x :: y :: r => min x (minL (y :: r))
def maxL : List Int → Int
  | [] => 0
  | [x] => x
  | x :: y :: r => max x (maxL (y :: r))
theorem minL_le : ∀ {ns : List Int} {y : Int}, y ∈ ns → minL ns ≤ y
  | [], _, h => by cases h
  | [x], y, h => by cases h with
    | head => exact Int.le_refl _
    | tail _ h => cases h
  | x :: z :: r, y, h => by
    show min x (minL (z :: r)) ≤ y
    cases h with
    | head => exact Int.min_le_left _ _
    | tail _ h => exact Int.le_trans (Int.min_le_right _ _) (minL_le h)
theorem maxL_ge : ∀ {ns : List Int} {y : Int}, y ∈ ns → y ≤ maxL ns
  | [], _, h => by cases h
  | [x], y, h => by cases h with
    | head => exact Int.le_refl _
    | tail _ h => cases h
  | x :: z :: r, y, h => by
    show y ≤ max x (maxL (z :: r))
    cases h with
    | head => exact Int.le_max_left _ _
    | tail _ h => exact Int.le_trans (maxL_ge h) (Int.le_max_right _ _)
theorem minL_mem : ∀ {ns : List Int}, ns ≠ [] → minL ns ∈ ns
  | [], h => absurd rfl h
  | [x], _ => List.mem_singleton.mpr rfl
  | x :: z :: r, _ => by
    show min x (minL (z :: r)) ∈ _
    have ih := minL_mem (ns := z :: r) (List.cons_ne_nil _ _)
    by_cases h : x ≤ minL (z :: r)
    · rw [Int.min_eq_left h]; exact List.mem_cons_self
    · rw [Int.min_eq_right (by omega)]; exact List.mem_cons_of_mem _ ih
theorem maxL_mem : ∀ {ns : List Int}, ns ≠ [] → maxL ns ∈ ns
  | [], h => absurd rfl h
  | [x], _ => List.mem_singleton.mpr rfl
  | x :: z :: r, _ => by
    show max x (maxL (z :: r)) ∈ _
    have ih := maxL_mem (ns := z :: r) (List.cons_ne_nil _ _)
    by_cases h : maxL (z :: r) ≤ x
    · rw [Int.max_eq_left h]; exact List.mem_cons_self
    · rw [Int.max_eq_right (by omega)]; exact List.mem_cons_of_mem _ ih
theorem minL_uniq {ns : List Int} {m : Int} (h1 : m ∈ ns) (h2 : ∀ y ∈ ns, m ≤ y) : m = minL ns :=
  Int.le_antisymm (h2 _ (minL_mem (List.ne_nil_of_mem h1))) (minL_le h1)
theorem maxL_uniq {ns : List Int} {m : Int} (h1 : m ∈ ns) (h2 : ∀ y ∈ ns, y ≤ m) : m = maxL ns :=
  Int.le_antisymm (maxL_ge h1) (h2 _ (maxL_mem (List.ne_nil_of_mem h1)))
def sumF : List D → Option D
  | [.list ds] => (intsOf ds).map fun ns => .int ns.sum
  | _ => none
def allF : List D → Option D
  | [.list ds] => (boolsOf ds).map fun bs => .bool (bs.all id)
  | _ => none
def minF : List D → Option D
  | [.list ds] => match intsOf ds with
    | some (n :: ns) => some (.int (minL (n :: ns)))
    | _ => none
  | [.int i, .int j] => some (.int (min i j))
  | _ => none
def maxF : List D → Option D
  | [.list ds] => match intsOf ds with
    | some (n :: ns) => some (.int (maxL (n :: ns)))
    | _ => none
  | [.int i, .int j] => some (.int (max i j))
  | _ => none
def intF : List D → Option D
  | [.int i] => some (.int i)
  | [.bool b] => some (.int (if b then 1 else 0))
  | _ => none
def tupleF : List D → Option D
  | [.list ds] => some (.tuple ds)
  | [.tuple ds] => some (.tuple ds)
  | _ => none
def listF : List D → Option D
  | [.list ds] => some (.list ds)
  | [.tuple ds] => some (.list ds)
  | _ => none
def sortI (ns : List Int) : List Int := ns.mergeSort (fun a b => decide (a ≤ b))
def leT (x y : D) : Bool := PySem.W.sortLe (PyProof.Rows.listOrd PyProof.Rows.itemOrd) false PySem.W.keyToks x y
def sortT (ds : List D) : List D := ds.mergeSort leT
def SortD (ds : List D) : Prop := PySem.W.AllAlike ds ∧ (PySem.W.Sortable ds ∨ Sort0 ds) ∧ ∀ d ∈ ds, d.canLay0 = true ∧ d.depth ≤ 40
noncomputable def sortedF : List D → Option D
  | [.list ds] => match intsOf ds with
    | some ns => some (.list ((sortI ns).map .int))
    | none => if ds.length < 2 then some (.list ds) else if @decide (SortD ds) (Classical.propDecidable _) then some (.list (sortT ds)) else none
  | _ => none
section
variable {K : PySem.W.Frag}
theorem ok_len : COk K (fun xs H Q => ∃ x n, xs = [x] ∧ LenV K x H n ∧ Q (.int n) H) lenF := by
  intro O H vs ds z Q t hp hf q
  unfold lenF at hf
  split at hf
  · cases hf
    obtain ⟨v, rfl, rq⟩ := paired1 hp
    obtain ⟨p, vs, rfl, h1, r1⟩ := rq.list
    exact ⟨_, _, rfl, .inl ⟨vs, SqL.of h1, rfl⟩, q _ H (Grow.refl O H) (by rw [r1.length]; exact .int _)⟩
  · cases hf
    obtain ⟨v, rfl, rq⟩ := paired1 hp
    obtain ⟨p, vs, rfl, h1, r1, _⟩ := rq.tuple
    exact ⟨_, _, rfl, .inr ⟨vs, h1, rfl⟩, q _ H (Grow.refl O H) (by rw [r1.length]; exact .int _)⟩
  · split at hf
    · rename_i hl
      cases hf
      obtain ⟨v, rfl, rq⟩ := paired1 hp
      cases rq.str
      exact ⟨_, _, rfl, ⟨lim_le hl, rfl⟩, q _ H (Grow.refl O H) (.int _)⟩
    · cases hf
  · cases hf
theorem ok_sum : COk K (rSum K) sumF := by
  intro O H vs ds z Q t hp hf q
  unfold sumF at hf
  split at hf
  · rename_i ds
    obtain ⟨v, rfl, rq⟩ := paired1 hp
    obtain ⟨p, vs, rfl, h1, r1⟩ := rq.list
    cases e : intsOf ds with
    | none => rw [e] at hf; cases hf
    | some ns =>
      rw [e] at hf
      cases hf
      rw [intsOf_eq e] at r1
      exact ⟨p, ns, rfl, by rw [← r1.ints]; exact SqL.of h1, q _ H (Grow.refl O H) (.int _)⟩
  · cases hf
theorem ok_all : COk K (rAll K) allF := by
  intro O H vs ds z Q t hp hf q
  unfold allF at hf
  split at hf
  · rename_i ds
    obtain ⟨v, rfl, rq⟩ := paired1 hp
    obtain ⟨p, vs, rfl, h1, r1⟩ := rq.list
    cases e : boolsOf ds with
    | none => rw [e] at hf; cases hf
    | some ns =>
      rw [e] at hf
      cases hf
      rw [boolsOf_eq e] at r1
      exact ⟨p, ns, rfl, by rw [← r1.bools]; exact SqL.of h1, q _ H (Grow.refl O H) (.bl _)⟩
  · cases hf
def rMin2 : List V → Hp → VK → Prop := fun xs H Q => ∃ i j, xs = [.int i, .int j] ∧ Q (.int (if j < i then j else i)) H
def rMax2 : List V → Hp → VK → Prop := fun xs H Q => ∃ i j, xs = [.int i, .int j] ∧ Q (.int (if j > i then j else i)) H
def rMinB (K : PySem.W.Frag) : List V → Hp → VK → Prop := fun xs H Q => rMin K xs H Q ∨ rMin2 xs H Q
def rMaxB (K : PySem.W.Frag) : List V → Hp → VK → Prop := fun xs H Q => rMax K xs H Q ∨ rMax2 xs H Q
theorem call_minB {X : Cx} (hc : X.calm = true) : CallR X (.builtin "min") (rMinB X.K) := (cr_min hc).or (call_min2 hc)
theorem call_maxB {X : Cx} (hc : X.calm = true) : CallR X (.builtin "max") (rMaxB X.K) := (cr_max hc).or (call_max2 hc)
theorem ok_min : COk K (rMinB K) minF := by
  intro O H vs ds z Q t hp hf q
  unfold minF at hf
  split at hf
  · rename_i ds
    obtain ⟨v, rfl, rq⟩ := paired1 hp
    obtain ⟨p, vs, rfl, h1, r1⟩ := rq.list
    split at hf
    · rename_i n ns e
      cases hf
      rw [intsOf_eq e] at r1
      refine .inl ⟨p, n :: ns, rfl, by rw [← r1.ints]; exact SqL.of h1, Nat.succ_pos _, fun m h2 h3 => q _ H (Grow.refl O H) (by rw [minL_uniq h2 h3]; exact .int _)⟩
    · cases hf
  · cases hf
    obtain ⟨v, u, rfl, r1, r2⟩ := paired2 hp
    cases r1.int
    cases r2.int
    refine .inr ⟨_, _, rfl, q _ H (Grow.refl O H) ?_⟩
    rename_i i j
    have : (if j < i then j else i) = min i j := by
      by_cases h : j < i
      · rw [if_pos h, Int.min_eq_right (by omega)]
      · rw [if_neg h, Int.min_eq_left (by omega)]
    rw [this]
    exact .int _
  · cases hf
theorem ok_max : COk K (rMaxB K) maxF := by
  intro O H vs ds z Q t hp hf q
  unfold maxF at hf
  split at hf
  · rename_i ds
    obtain ⟨v, rfl, rq⟩ := paired1 hp
    obtain ⟨p, vs, rfl, h1, r1⟩ := rq.list
    split at hf
    · rename_i n ns e
      cases hf
      rw [intsOf_eq e] at r1
      refine .inl ⟨p, n :: ns, rfl, by rw [← r1.ints]; exact SqL.of h1, Nat.succ_pos _, fun m h2 h3 => q _ H (Grow.refl O H) (by rw [maxL_uniq h2 h3]; exact .int _)⟩
    · cases hf
  · cases hf
    obtain ⟨v, u, rfl, r1, r2⟩ := paired2 hp
    cases r1.int
    cases r2.int
    refine .inr ⟨_, _, rfl, q _ H (Grow.refl O H) ?_⟩
    rename_i i j
    have : (if j > i then j else i) = max i j := by
      by_cases h : j > i
      · rw [if_pos h, Int.max_eq_right (by omega)]
      · rw [if_neg h, Int.max_eq_left (by omega)]
    rw [this]
    exact .int _
  · cases hf
theorem ok_int : COk K (fun xs H Q => (∃ i, xs = [.int i] ∧ Q (.int i) H) ∨ ∃ k, xs = [.bl k] ∧ Q (.int (if k then 1 else 0)) H) intF := by
  intro O H vs ds z Q t hp hf q
  unfold intF at hf
  split at hf
  · cases hf
    obtain ⟨v, rfl, rq⟩ := paired1 hp
    cases rq.int
    exact .inl ⟨_, rfl, q _ H (Grow.refl O H) (.int _)⟩
  · cases hf
    obtain ⟨v, rfl, rq⟩ := paired1 hp
    cases rq.bool
    exact .inr ⟨_, rfl, q _ H (Grow.refl O H) (.int _)⟩
  · cases hf
theorem ok_tuple : COk K (rTupP K) tupleF := by
  intro O H vs ds z Q t hp hf q
  unfold tupleF at hf
  split at hf
  · cases hf
    obtain ⟨v, rfl, rq⟩ := paired1 hp
    obtain ⟨p, vs, rfl, h1, r1⟩ := rq.list
    refine ⟨p, vs, rfl, .inl ⟨SqL.of h1, fun l o nl ho => ?_⟩⟩
    obtain ⟨g, r⟩ := new_tup t r1 nl ho
    exact q _ _ g r
  · cases hf
    obtain ⟨v, rfl, rq⟩ := paired1 hp
    obtain ⟨p, vs, rfl, h1, r1, rr⟩ := rq.tuple
    exact ⟨p, vs, rfl, .inr ⟨h1, q _ _ (Grow.refl O H) rr⟩⟩
  · cases hf
theorem sortI_uniq {ns ms : List Int} (h1 : ms.Perm ns) (h2 : ms.Pairwise (· ≤ ·)) : ms = sortI ns := by
  have p1 : (sortI ns).Pairwise (fun a b => decide (a ≤ b) = true) := List.pairwise_mergeSort (fun a b c h1 h2 => by simp at *; omega) (fun a b => by simp; omega) ns
  have p2 : (sortI ns).Perm ns := List.mergeSort_perm ns _
  refine List.Perm.eq_of_pairwise (le := fun a b => a ≤ b) (fun a b _ _ h1 h2 => Int.le_antisymm h1 h2) h2 (p1.imp fun h => of_decide_eq_true h) (h1.trans p2.symm)
theorem RpAll.of_ints (G : Hp) : ∀ ns : List Int, RpAll K G (ns.map V.int) (ns.map .int)
  | [] => .nil
  | n :: ns => .cons (.int n) (RpAll.of_ints G ns)
def rSort1 (K : PySem.W.Frag) : List V → Hp → VK → Prop := fun vs H Q => ∃ (a : Addr) (xs : List V), vs = [V.ref a] ∧ SqL K H a xs ∧ xs.length < 2 ∧ ∀ p, H p = none → Q (.ref p) (upd H p (.lst xs))
theorem cr_sort1 {X : Cx} : CallR X (.builtin "sorted") (rSort1 X.K) := by
  intro pins s σ H vs us Q I r h
  obtain ⟨a, xs, rfl, hs, h2, q⟩ := h
  obtain ⟨its, rv, hl, hz⟩ := I.list hs
  rw [Vals.ref1 r]
  have hle := rv.length
  refine SrtO.sorted_ord SrtO.swo_int hl.isList (by rw [← rv.length]; exact hz) (fun k => absurd k (by omega)) fun out _ hb => ?_
  have eo : out = its := by
    have e := hb.perm.length_eq
    match its, out, hb.perm, e, (show its.length < 2 by omega) with
    | [], [], _, _, _ => rfl
    | [x], [y], p, _, _ => rw [List.perm_singleton.mp p]
    | [], _ :: _, _, e, _ => simp at e
    | _ :: _ :: _, _, _, _, k => simp at k; omega
    | [_], [], _, e, _ => simp at e
    | [_], _ :: _ :: _, _, e, _ => simp at e
  subst eo
  obtain ⟨ep, he'⟩ := PyProof.Rows.sortedAll_at s.heap out out.toArray
  exact ⟨.ref _, upd H (s.heap.objs.size + 1) (.lst xs), I.laid (t' := s.toks) (fun _ _ => PyProof.Rows.sortedAll_old) (Nat.le_succ _) ⟨hz, out, ep, rv, he'⟩, rfl, q _ (I.hok.fresh (Nat.le_succ _))⟩
def leZ (x y : V × D) : Bool := leT x.2 y.2
def rSortT (K : PySem.W.Frag) : List V → Hp → VK → Prop := fun vs H Q => ∃ (a : Addr) (zs : List (V × D)), vs = [V.ref a] ∧ SqL K H a (zs.map (·.1)) ∧ (∀ z ∈ zs, Dp K H z.1 z.2) ∧ SortD (zs.map (·.2)) ∧ ∀ p, H p = none → Q (.ref p) (upd H p (.lst ((zs.mergeSort leZ).map (·.1))))
theorem each_zs {P : V × D → Prop} : ∀ {zs : List (V × D)} {us : List Value}, Vals (zs.map (·.1)) us → (∀ z ∈ zs, P z) → PySem.W.EachIs (fun u z => RelV z.1 u ∧ P z) us zs
  | [], _, .nil, _ => .nil
  | z :: zs, _, .cons r t, h => .cons ⟨r, h z List.mem_cons_self⟩ (each_zs t fun y hy => h y (List.mem_cons_of_mem _ hy))
theorem vals_zs {P : V × D → Prop} : ∀ {zs : List (V × D)} {us : List Value}, PySem.W.EachIs (fun u z => RelV z.1 u ∧ P z) us zs → Vals (zs.map (·.1)) us
  | _, _, .nil => .nil
  | _, _, .cons r t => .cons r.1 (vals_zs t)
theorem each_snd {R : Value → D → Prop} {S : Value → V × D → Prop} (h : ∀ u z, S u z → R u z.2) : ∀ {zs : List (V × D)} {us : List Value}, PySem.W.EachIs S us zs → PySem.W.EachIs R us (zs.map (·.2))
  | _, _, .nil => .nil
  | _, _, .cons r t => .cons (h _ _ r) (each_snd h t)
theorem cr_sortT {X : Cx} (hu : X.A.units + 64 < cLine) : CallR X (.builtin "sorted") (rSortT X.K) := by
  intro pn s σ H vs us Q J r h
  obtain ⟨a, zs, rfl, hs, hd, hS, q⟩ := h
  obtain ⟨its, rv, hl, hz⟩ := J.list hs
  rw [Vals.ref1 r]
  have hlen := rv.length
  rw [List.length_map] at hlen hz
  have hz' : its.length ≤ sizeLine := by rw [← hlen]; exact hz
  obtain ⟨al, so, dp⟩ := hS
  have e0 : PySem.W.EachIs (fun u z => RelV z.1 u ∧ ∃ (u : Value) (as : List Addr), RelV z.1 u ∧ PySem.Reads s.heap u z.2 as) its zs := each_zs rv fun z hz => by
    obtain ⟨u, _, ru⟩ : ∃ u, u ∈ its ∧ RelV z.1 u := by
      obtain ⟨i, hi⟩ := List.getElem?_of_mem hz
      obtain ⟨u, hu1, hu2⟩ := rv.get (i := i) (x := z.1) (by rw [List.getElem?_map, hi]; rfl)
      exact ⟨u, List.mem_of_getElem? hu1, hu2⟩
    obtain ⟨as, rd⟩ := Dp.reads J z.2 z.1 u (hd z hz) ru
    exact ⟨u, as, ru, rd⟩
  have e1 : PySem.W.EachIs (fun u z => RelV z.1 u ∧ Dp X.K H z.1 z.2) its zs := each_zs rv hd
  have keep : ∀ b o, s.heap.get? b = some o → (PySem.W.sortingHeap (PySem.W.copyHeap s.heap its) (s.heap.objs.size + 1) its).get? b = some o := fun b o e => PySem.W.sorting_copy_old e
  have e2 : PySem.W.EachIs (fun u z => RelV z.1 u ∧ ∃ as, PySem.Reads (PySem.W.sortingHeap (PySem.W.copyHeap s.heap its) (s.heap.objs.size + 1) its) u z.2 as) its zs := e1.mono fun u z hz => by
    obtain ⟨as, rd⟩ := Dp.reads J z.2 z.1 u hz.2 hz.1
    exact ⟨hz.1, as, PySem.W.reads_keeps keep rd⟩
  have e3 : PySem.W.EachIs (fun u d => ∃ as, PySem.Reads (PySem.W.sortingHeap (PySem.W.copyHeap s.heap its) (s.heap.objs.size + 1) its) u d as) its (zs.map (·.2)) := each_snd (fun _ _ h => h.2) e2
  refine PySem.W.sorted_vals hl.isList (SortsAt.dataB e3 al so fun d hd => by
    have := (dp d hd).2
    show X.A.units + 1 + 1 + _ < _
    omega) hz' ?_
  have ek : PySem.W.EachIs (fun u z => (PySem.W.dataKind (PySem.W.sortingHeap (PySem.W.copyHeap s.heap its) (s.heap.objs.size + 1) its) (zs.map (·.2))).keyOf u = some (PySem.W.keyToks z.2)) its zs := by
    have : PySem.W.EachIs (fun u z => (∃ as, PySem.Reads (PySem.W.sortingHeap (PySem.W.copyHeap s.heap its) (s.heap.objs.size + 1) its) u z.2 as) ∧ z ∈ zs) its zs := by
      refine (PySem.W.each_mem e2).mono fun u z h => ⟨h.1.2, h.2⟩
    refine this.mono fun u z h => ?_
    obtain ⟨⟨as, rd⟩, hz⟩ := h
    exact PySem.W.dataKind_some al (List.mem_map.mpr ⟨z, hz, rfl⟩) rd
  have e4 := PySem.W.sortVals_each (κ := PySem.W.dataKind (PySem.W.sortingHeap (PySem.W.copyHeap s.heap its) (s.heap.objs.size + 1) its) (zs.map (·.2))) (rev := false) (fun z : V × D => PySem.W.keyToks z.2) e1 ek
  have v4 := vals_zs e4
  obtain ⟨ep, he'⟩ := PyProof.Rows.sortedAll_at s.heap its (PySem.W.sortVals (PySem.W.dataKind (PySem.W.sortingHeap (PySem.W.copyHeap s.heap its) (s.heap.objs.size + 1) its) (zs.map (·.2))) false its its).toArray
  have hl2 : ((zs.mergeSort leZ).map (·.1)).length ≤ sizeLine := by
    rw [List.length_map, (List.mergeSort_perm _ _).length_eq]
    exact hz
  exact ⟨.ref _, upd H (s.heap.objs.size + 1) (.lst ((zs.mergeSort leZ).map (·.1))), J.laid (t' := s.toks) (fun _ _ => PyProof.Rows.sortedAll_old) (Nat.le_succ _) ⟨hl2, _, ep, v4, he'⟩, rfl, q _ (J.hok.fresh (Nat.le_succ _))⟩
theorem RpAll.zip {G : Hp} : ∀ {vs : List V} {ds : List D}, RpAll K G vs ds → ∀ z ∈ vs.zip ds, Rp K G z.1 z.2
  | _, _, .nil => by simp
  | _, _, .cons h r => fun z hz => by
    rcases List.mem_cons.mp hz with rfl | hz
    · exact h
    · exact RpAll.zip r z hz
theorem RpAll.ofZ {G : Hp} : ∀ {zs : List (V × D)}, (∀ z ∈ zs, Rp K G z.1 z.2) → RpAll K G (zs.map (·.1)) (zs.map (·.2))
  | [], _ => .nil
  | z :: zs, h => .cons (h z List.mem_cons_self) (RpAll.ofZ fun y hy => h y (List.mem_cons_of_mem _ hy))
theorem zip_fst : ∀ {vs : List V} {ds : List D}, vs.length = ds.length → (vs.zip ds).map (·.1) = vs ∧ (vs.zip ds).map (·.2) = ds
  | [], [], _ => ⟨rfl, rfl⟩
  | v :: vs, d :: ds, h => by
    obtain ⟨e1, e2⟩ := zip_fst (vs := vs) (ds := ds) (by simpa using h)
    simp [e1, e2]
  | [], _ :: _, h => by simp at h
  | _ :: _, [], h => by simp at h
def rSortB (K : PySem.W.Frag) : List V → Hp → VK → Prop := fun vs H Q => rSortedI K vs H Q ∨ rSort1 K vs H Q ∨ rSortT K vs H Q
theorem ok_sorted : COk K (rSortB K) sortedF := by
  intro O H vs ds z Q t hp hf q
  unfold sortedF at hf
  split at hf
  · rename_i ds
    obtain ⟨v, rfl, rq⟩ := paired1 hp
    obtain ⟨p, vs, rfl, h1, r1⟩ := rq.list
    cases e : intsOf ds with
    | none =>
      rw [e] at hf
      dsimp only at hf
      split at hf
      · rename_i hl
        cases hf
        refine .inr (.inl ⟨p, vs, rfl, SqL.of h1, by rw [r1.length]; exact hl, fun l nl => ?_⟩)
        obtain ⟨g, r⟩ := new_lst t r1 nl
        exact q _ _ g r
      · split at hf
        · rename_i hS
          cases hf
          have hS := @of_decide_eq_true _ (Classical.propDecidable _) hS
          obtain ⟨z1, z2⟩ := zip_fst r1.length
          have rz := RpAll.zip r1
          refine .inr (.inr ⟨p, vs.zip ds, rfl, by rw [z1]; exact SqL.of h1, fun z hz => ?_, by rw [z2]; exact hS, fun l nl => ?_⟩)
          · have hm : z.2 ∈ ds := by rw [← z2]; exact List.mem_map.mpr ⟨z, hz, rfl⟩
            exact ((rz z hz).mono (mask_le O H)).dp (hS.2.2 _ hm).1
          · have rm : RpAll K (Mask O H) (((vs.zip ds).mergeSort leZ).map (·.1)) (sortT ds) := by
              have e : sortT ds = ((vs.zip ds).mergeSort leZ).map (·.2) := by
                unfold sortT
                rw [List.map_mergeSort (r := leZ) (s := leT) (f := fun z : V × D => z.2) (fun a _ b _ => rfl), z2]
              rw [e]
              exact RpAll.ofZ fun z hz => rz z ((List.mergeSort_perm _ _).mem_iff.mp hz)
            obtain ⟨g, r⟩ := new_lst t rm nl
            exact q _ _ g r
        · cases hf
    | some ns =>
      rw [e] at hf
      cases hf
      rw [intsOf_eq e] at r1
      refine .inl ⟨p, ns, rfl, by rw [← r1.ints]; exact SqL.of h1, fun ns' l h2 h3 nl => ?_⟩
      rw [← sortI_uniq h2 h3] at q
      obtain ⟨g, r⟩ := new_lst t (RpAll.of_ints (K := K) (Mask O H) ns') nl
      exact q _ _ g r
  · cases hf
end
def tyName : D → String
  | .none => "NoneType"
  | .bool _ => "bool"
  | .int _ => "int"
  | .str _ => "str"
  | .list _ => "list"
  | .tuple _ => "tuple"
  | .dict _ => "dict"
def tyIs (T n : String) : Bool := T == n || (T == "int" && n == "bool")
def isiD (T : String) (d : D) : Bool := tyIs T (tyName d)
def notX : D → Bool
  | .dict _ => false
  | _ => true
def mIsi (T : String) (m : M Ag) : M D := bnd m fun a => fun E => match rsv E a with
  | some d => if notX d then .ok (.bool (isiD T d)) E else .bad
  | none => .bad
theorem Rq.ty {K : PySem.W.Frag} {O : List Addr} {H : Hp} {v : V} {d : D} (h : Rq K O H v d) (nx : notX d = true) : TyX K H v (.type (tyName d)) := by
  cases d with
  | none => rcases h with h | ⟨_, _, _, _, e, _⟩ <;> first | (cases h; exact .base .non) | cases e
  | bool b => cases h.bool; exact .base (.bl _)
  | int b => cases h.int; exact .base (.int _)
  | str b => cases h.str; exact .base (.str _)
  | list b =>
    obtain ⟨p, vs, rfl, h1, r1⟩ := h.list
    exact .base (.lst h1)
  | tuple b =>
    obtain ⟨p, vs, rfl, h1, r1, _⟩ := h.tuple
    rcases h1 with (h1 | ⟨o, h1⟩) | ⟨o, its, n, hk, hc, _⟩
    · exact .base (.tup h1)
    · exact .fTuple h1
    · exact .kTuple hk hc
  | dict b => exact absurd nx Bool.false_ne_true
def tyAll : List String := ["NoneType", "bool", "int", "str", "list", "tuple", "dict"]
theorem tyName_mem (d : D) : tyName d ∈ tyAll := by cases d <;> simp [tyName, tyAll]
section
variable {X : Cx} {W : WX} {e : Expr} {t : TE}
theorem se_isi {T : String} {x : Str} {m : M Ag} {p p2 pos : Pos} (hg : Gl X "isinstance") (hm : X.mg "isinstance" = none) (h : SO X W e t m) (hT : PE X (.Name x p2) (tC (.ty T))) (hk : tyAll.all (fun n => kitB n T == some (tyIs T n)) = true)
    (hst : starEach [e, .Name x p2] X.env = (false, eval e X.env) :: starEach [.Name x p2] X.env := by rfl) (hst2 : starEach [.Name x p2] X.env = (false, eval (.Name x p2) X.env) :: starEach [] X.env := by rfl) (hpl : (backTo pos (starEach [.Name x p2] X.env)).any (·.1) = false := by rfl) :
    SE X W (.Call (.Name "isinstance" p) [e, .Name x p2] [] pos) (tCB (rIsi X.K) (tCons t (tCons (tC (.ty T)) tNil))) (mIsi T m) := by
  refine ⟨pe_callB call_isi hg hm (by decide +kernel) (pa_cons h.pe (pa_cons hT pa_nil hst2) hst) (by decide) (by decide) hst hpl, fun F O E σ H Q R s => h.rd F O E σ H _ R (s.bnd.mono (fun a E1 k O1 v H1 R1 l1 av => ?_) (fun _ _ k => k))⟩
  cases ea : rsv E1 a with
  | none => rw [ea] at k; exact k.elim
  | some d =>
    rw [ea] at k
    have hh := (List.all_eq_true.mp hk) _ (tyName_mem d)
    dsimp only at k
    split at k
    · rename_i nx
      exact ⟨v, .ty T, .type (tyName d), .type T, isiD T d, rfl, .ty T, (R1.rsv av ea).ty nx, kit_ty (by unfold isiD; simpa using hh), k O1 _ H1 R1 l1 (.bl _)⟩
    · exact k.elim
end
end Bt
namespace Bt
open PySem L2

section
variable {K : PySem.W.Frag} {F : Frm} {O : List Addr} {E : En} {σ : L2.St} {H : Hp}
theorem Rel.set {i : Nat} {v : V} {d : D} (R : Rel K F O E σ H) (r : Rp K (Mask O H) v d) (hi : i < E.length) : Rel K F O (E.set i (.dat d)) (σ.set i (some v)) H := by
  refine ⟨by rw [List.length_set, List.length_set]; exact R.len, R.trk, fun j s e => ?_, fun j k ds es p e1 e2 e3 e4 => ?_, R.frm, fun j ds p e1 e2 => ?_⟩
  · by_cases h : i = j
    · subst h
      rw [List.getElem?_set_self hi] at e
      cases e
      rw [List.getElem?_set_self (by rw [← R.len]; exact hi)]
      exact ⟨v, rfl, r⟩
    · rw [List.getElem?_set_ne h] at e
      rw [List.getElem?_set_ne h]
      exact R.slot j s e
  · by_cases h1 : i = j
    · subst h1; rw [List.getElem?_set_self hi] at e1; cases e1
    · by_cases h2 : i = k
      · subst h2; rw [List.getElem?_set_self hi] at e2; cases e2
      · rw [List.getElem?_set_ne h1] at e1 e3
        rw [List.getElem?_set_ne h2] at e2 e4
        exact R.apart j k ds es p e1 e2 e3 e4
  · by_cases h1 : i = j
    · subst h1; rw [List.getElem?_set_self hi] at e1; cases e1
    · rw [List.getElem?_set_ne h1] at e1 e2
      exact R.fap j ds p e1 e2
theorem Rel.un {i : Nat} {o : Option V} (R : Rel K F O E σ H) : Rel K F O (E.set i .un) (σ.set i o) H := by
  refine ⟨by rw [List.length_set, List.length_set]; exact R.len, R.trk, fun j s e => ?_, fun j k ds es p e1 e2 e3 e4 => ?_, R.frm, fun j ds p e1 e2 => ?_⟩
  · by_cases h : i = j
    · subst h
      by_cases hi : i < E.length
      · rw [List.getElem?_set_self hi] at e
        cases e
        trivial
      · rw [List.getElem?_eq_none (by rw [List.length_set]; omega)] at e; cases e
    · rw [List.getElem?_set_ne h] at e
      rw [List.getElem?_set_ne h]
      exact R.slot j s e
  · by_cases h1 : i = j
    · subst h1
      by_cases hi : i < E.length
      · rw [List.getElem?_set_self hi] at e1; cases e1
      · rw [List.getElem?_eq_none (by rw [List.length_set]; omega)] at e1; cases e1
    · by_cases h2 : i = k
      · subst h2
        by_cases hi : i < E.length
        · rw [List.getElem?_set_self hi] at e2; cases e2
        · rw [List.getElem?_eq_none (by rw [List.length_set]; omega)] at e2; cases e2
      · rw [List.getElem?_set_ne h1] at e1 e3
        rw [List.getElem?_set_ne h2] at e2 e4
        exact R.apart j k ds es p e1 e2 e3 e4
  · by_cases h1 : i = j
    · subst h1
      by_cases hi : i < E.length
      · rw [List.getElem?_set_self hi] at e1; cases e1
      · rw [List.getElem?_eq_none (by rw [List.length_set]; omega)] at e1; cases e1
    · rw [List.getElem?_set_ne h1] at e1 e2
      exact R.fap j ds p e1 e2
theorem Rel.forget {i : Nat} (R : Rel K F O E σ H) : Rel K F O (E.set i .un) σ H := by
  have o' : ∀ {j : Nat} {es : Ob}, (E.set i Sl.un)[j]? = some (.ow es) → E[j]? = some (.ow es) := fun {j es} e => by
    by_cases h : i = j
    · subst h
      by_cases hi : i < E.length
      · rw [List.getElem?_set_self hi] at e; cases e
      · rw [List.getElem?_eq_none (by rw [List.length_set]; omega)] at e; cases e
    · rw [List.getElem?_set_ne h] at e; exact e
  refine ⟨by rw [List.length_set]; exact R.len, R.trk, fun j s e => ?_, fun j k ds es p e1 e2 e3 e4 => R.apart j k ds es p (o' e1) (o' e2) e3 e4, R.frm, fun j ds p e1 e2 => R.fap j ds p (o' e1) e2⟩
  by_cases h : i = j
  · subst h
    by_cases hi : i < E.length
    · rw [List.getElem?_set_self hi] at e
      cases e
      trivial
    · rw [List.getElem?_eq_none (by rw [List.length_set]; omega)] at e; cases e
  · rw [List.getElem?_set_ne h] at e
    exact R.slot j s e
def wipeE (E : En) : List Nat → En
  | [] => E
  | v :: vs => (wipeE E vs).set v .un
theorem Rel.wipe (R : Rel K F O E σ H) : ∀ vs : List Nat, Rel K F O (wipeE E vs) (L2.wipe σ vs) H
  | [] => R
  | v :: vs => (Rel.wipe R vs).un
theorem Rel.forgets (R : Rel K F O E σ H) : ∀ vs : List Nat, Rel K F O (wipeE E vs) σ H
  | [] => R
  | v :: vs => (Rel.forgets R vs).forget
theorem wipeE_length (E : En) : ∀ vs : List Nat, (wipeE E vs).length = E.length
  | [] => rfl
  | v :: vs => by unfold wipeE; rw [List.length_set, wipeE_length E vs]
def backE (E0 E1 : En) : List Nat → En
  | [] => E1
  | v :: vs => match E0[v]? with
    | some (.dat d) => (backE E0 E1 vs).set v (.dat d)
    | _ => (backE E0 E1 vs).set v .un
theorem backE_length (E0 E1 : En) : ∀ vs : List Nat, (backE E0 E1 vs).length = E1.length
  | [] => rfl
  | v :: vs => by
    unfold backE
    split <;> rw [List.length_set, backE_length E0 E1 vs]
theorem get_wipe {σ : L2.St} {i : Nat} : ∀ {vs : List Nat}, i ∉ vs → (L2.wipe σ vs)[i]? = σ[i]?
  | [], _ => rfl
  | v :: vs, h => by
    have hne : v ≠ i := fun e => h (e ▸ List.mem_cons_self)
    show ((L2.wipe σ vs).set v none)[i]? = σ[i]?
    rw [List.getElem?_set_ne hne]
    exact get_wipe fun z => h (List.mem_cons_of_mem _ z)
theorem get_backE_in {E0 E1 : En} {i : Nat} (hl : i < E1.length) : ∀ {vs : List Nat}, i ∈ vs → (backE E0 E1 vs)[i]? = some (match E0[i]? with | some (.dat d) => .dat d | _ => .un)
  | [], h => by cases h
  | v :: vs, h => by
    unfold backE
    by_cases e : v = i
    · subst e
      split
      · rename_i d q; rw [List.getElem?_set_self (by rw [backE_length]; exact hl)]
      · rename_i q
        rw [List.getElem?_set_self (by rw [backE_length]; exact hl)]
    · have h' : i ∈ vs := by
        cases h with
        | head => exact absurd rfl e
        | tail _ h => exact h
      split <;> rw [List.getElem?_set_ne e] <;> exact get_backE_in hl h'
theorem get_backE_out {E0 E1 : En} {i : Nat} : ∀ {vs : List Nat}, i ∉ vs → (backE E0 E1 vs)[i]? = E1[i]?
  | [], _ => rfl
  | v :: vs, h => by
    unfold backE
    have e : v ≠ i := fun e => h (e ▸ List.mem_cons_self)
    have h' : i ∉ vs := fun z => h (List.mem_cons_of_mem _ z)
    split <;> rw [List.getElem?_set_ne e] <;> exact get_backE_out h'
theorem Rel.back {F' : Frm} {O1 : List Addr} {E1 : En} {σ1 : L2.St} {H1 : Hp} {vs : List Nat} (R : Rel K F O E σ H) (R1 : Rel K F' O1 E1 σ1 H1) (l : Le O H O1 H1) (hw : L2.wipe σ1 vs = L2.wipe σ vs) : Rel K F' O1 (backE E E1 vs) σ H1 := by
  have hs : ∀ i, i ∉ vs → σ[i]? = σ1[i]? := fun i hi => by rw [← get_wipe (σ := σ) hi, ← get_wipe (σ := σ1) hi, hw]
  have hl : σ1.length = σ.length := by rw [← wipe_length σ1 vs, hw, wipe_length]
  refine ⟨by rw [backE_length, R1.len, hl], R1.trk, fun i s e => ?_, fun i j ds es p e1 e2 e3 e4 => ?_, R1.frm, fun i ds p e1 e2 => ?_⟩
  · by_cases hi : i ∈ vs
    · have hlt : i < E1.length := by
        have := (List.getElem?_eq_some_iff.mp e).1
        rw [backE_length] at this
        exact this
      rw [get_backE_in hlt hi] at e
      cases e
      split
      · rename_i d q
        obtain ⟨v, e, r⟩ := R.slot i _ q
        exact ⟨v, e, r.mono l⟩
      · trivial
    · rw [get_backE_out hi] at e
      rw [hs i hi]
      exact R1.slot i s e
  · have ho : ∀ {i : Nat} {ds : Ob}, (backE E E1 vs)[i]? = some (.ow ds) → i ∉ vs := fun {i ds} e hi => by
      have hlt : i < E1.length := by
        have := (List.getElem?_eq_some_iff.mp e).1
        rw [backE_length] at this
        exact this
      rw [get_backE_in hlt hi] at e
      split at e <;> cases e
    have hi := ho e1
    have hj := ho e2
    rw [get_backE_out hi] at e1
    rw [get_backE_out hj] at e2
    rw [hs i hi] at e3
    rw [hs j hj] at e4
    exact R1.apart i j ds es p e1 e2 e3 e4
  · have hi : i ∉ vs := fun hi => by
      have hlt : i < E1.length := by
        have := (List.getElem?_eq_some_iff.mp e1).1
        rw [backE_length] at this
        exact this
      rw [get_backE_in hlt hi] at e1
      split at e1 <;> cases e1
    rw [get_backE_out hi] at e1
    rw [hs i hi] at e2
    exact R1.fap i ds p e1 e2
end

abbrev MG := D → En → Option En
structure SG (X : Cx) (b : Bool) (asg : List Nat) (tg : Expr) (g : TG) (m : MG) : Prop where
  pg : PG X tg g
  rd : ∀ F O E σ H v d E' (Q : L2.St → Hp → Prop), Rel X.K F O E σ H → RpB b X.K (Mask O H) v d → m d E = some E' → (∀ σ', Rel X.K F O E' σ' H → σ'.length = σ.length → (∀ i, i ∉ asg → σ'[i]? = σ[i]?) → Q σ' H) → g v σ H Q
structure SGs (X : Cx) (asg : List Nat) (tgs : List Expr) (g : TGs) (m : List D → En → Option En) : Prop where
  pg : PGs X tgs g
  rd : ∀ F O E σ H vs ds E' (Q : L2.St → Hp → Prop), Rel X.K F O E σ H → RpAll X.K (Mask O H) vs ds → m ds E = some E' → (∀ σ', Rel X.K F O E' σ' H → σ'.length = σ.length → (∀ i, i ∉ asg → σ'[i]? = σ[i]?) → Q σ' H) → g vs σ H Q
def gN (i : Nat) : MG := fun d E => if i < E.length then some (E.set i (.dat d)) else none
def gNilM : List D → En → Option En
  | [], E => some E
  | _, _ => none
def gConsM (m : MG) (ms : List D → En → Option En) : List D → En → Option En
  | d :: ds, E => (m d E).bind (ms ds)
  | _, _ => none
def gTupM (n : Nat) (ms : List D → En → Option En) : MG
  | .tuple ds, E => if ds.length = n then ms ds E else none
  | _, _ => none
section
variable {X : Cx}
theorem sg_name {i : Nat} {x : Str} {pos : Pos} (h : PG X (.Name x pos) (gName i)) : SG X false [i] (.Name x pos) (gName i) (gN i) := by
  refine ⟨h, fun F O E σ H v d E' Q R r e q => ?_⟩
  unfold gN at e
  split at e
  · rename_i hi
    cases e
    refine q _ (R.set r.rp hi) (List.length_set) fun j hj => ?_
    have hne : i ≠ j := fun z => hj (by rw [z]; exact List.mem_cons_self)
    rw [List.getElem?_set_ne hne]
  · cases e
theorem sgs_nil : SGs X [] [] gNil gNilM := by
  refine ⟨pgs_nil, fun F O E σ H vs ds E' Q R r e q => ?_⟩
  unfold gNilM at e
  split at e
  · cases e; cases r; exact ⟨rfl, q σ R rfl fun _ _ => rfl⟩
  · cases e
theorem sgs_cons {as1 as2 : List Nat} {tg : Expr} {tgs : List Expr} {g : TG} {gs : TGs} {m : MG} {ms : List D → En → Option En} (h : SG X false as1 tg g m) (hs : SGs X as2 tgs gs ms) (pgc : PG X tg g → PGs X tgs gs → PGs X (tg :: tgs) (gCons g gs) := by exact pgs_cons) : SGs X (as1 ++ as2) (tg :: tgs) (gCons g gs) (gConsM m ms) := by
  refine ⟨pgc h.pg hs.pg, fun F O E σ H vs ds E' Q R r e q => ?_⟩
  cases r with
  | nil => cases e
  | @cons v vs d ds r1 rr =>
    change (m d E).bind (ms ds) = some E' at e
    cases e1 : m d E with
    | none => rw [e1] at e; cases e
    | some E1 =>
      rw [e1] at e
      refine ⟨_, _, rfl, h.rd F O E σ H _ d E1 _ R (.inl r1) e1 fun σ1 R1 l1 p1 => ?_⟩
      exact hs.rd F O E1 σ1 H _ ds E' Q R1 rr e fun σ2 R2 l2 p2 => q σ2 R2 (l2.trans l1) fun i hi => (p2 i fun z => hi (List.mem_append_right _ z)).trans (p1 i fun z => hi (List.mem_append_left _ z))
theorem sg_tup {b : Bool} {asg : List Nat} {tgs : List Expr} {gs : TGs} {ms : List D → En → Option En} {k n : Nat} {pos : Pos} (pgt : PGs X tgs gs → PG X (.Tuple tgs k pos) (gTup X.K n gs)) (hs : SGs X asg tgs gs ms) : SG X b asg (.Tuple tgs k pos) (gTup X.K n gs) (gTupM n ms) := by
  refine ⟨pgt hs.pg, fun F O E σ H v d E' Q R r e q => ?_⟩
  cases d with
  | tuple ds =>
    obtain ⟨a, xs, rfl, h, r1⟩ := r.tup
    change (if ds.length = n then ms ds E else none) = some E' at e
    split at e
    · rename_i hl
      exact ⟨_, _, rfl, sqT_mono (mask_le O H) h, by rw [r1.length]; exact hl, hs.rd F O E σ H _ ds E' Q R r1 e q⟩
    · cases e
  | _ => cases e
theorem wipe_agree {σ σ' : L2.St} {asg vs : List Nat} (hl : σ'.length = σ.length) (h : ∀ i, i ∉ asg → σ'[i]? = σ[i]?) (hs : ∀ i ∈ asg, i ∈ vs) : L2.wipe σ' vs = L2.wipe σ vs := by
  have wg : ∀ {τ : L2.St} {i : Nat} {vs : List Nat}, i ∈ vs → i < τ.length → (L2.wipe τ vs)[i]? = some none := by
    intro τ i vs
    induction vs with
    | nil => intro h; cases h
    | cons v vs ih =>
      intro h hl
      show ((L2.wipe τ vs).set v none)[i]? = some none
      by_cases e : v = i
      · subst e
        rw [List.getElem?_set_self (by rw [wipe_length]; exact hl)]
      · rw [List.getElem?_set_ne e]
        cases h with
        | head => exact absurd rfl e
        | tail _ h => exact ih h hl
  refine List.ext_getElem? fun i => ?_
  by_cases hv : i ∈ vs
  · by_cases hi : i < σ.length
    · rw [wg hv hi, wg hv (by rw [hl]; exact hi)]
    · rw [List.getElem?_eq_none (by rw [wipe_length]; omega), List.getElem?_eq_none (by rw [wipe_length]; omega)]
  · rw [get_wipe hv, get_wipe hv, h i fun z => hv (hs i z)]
end

structure Wk (b : Bool) (K : PySem.W.Frag) (O' : List Addr) (H' : Hp) (J : It) (its : List D) : Prop where
  ex : ∃ G Y, Walk J its.length G Y ∧ (∀ O2 H2, Le O' H' O2 H2 → G H2) ∧ (∀ O2 H2 i x H3 d, Trk O2 H2 → Le O' H' O2 H2 → its[i]? = some d → Y i H2 x H3 → Grow O2 H2 H3 ∧ RpB b K (Mask O2 H3) x d)
structure SI (X : Cx) (W : WX) (b : Bool) (tg e : Expr) (wi : TI) (m : M (List D)) : Prop where
  pi : PI X tg e wi
  rd : ∀ F O E σ H (R : It → Hp → Prop), Rel X.K F O E σ H → Sat (m E) (fun its E' => ∀ O' H' J, Rel X.K F O' E' σ H' → Le O H O' H' → Wk b X.K O' H' J its → R J H') (KX X.K X.mg F σ O H W) → wi σ H R
theorem pi_or {X : Cx} {tg e : Expr} {w1 w2 : TI} (h1 : PI X tg e w1) (h2 : PI X tg e w2) : PI X tg e (fun σ H R => w1 σ H R ∨ w2 σ H R) := ⟨fun pins s σ H R I h => h.elim (fun z => h1.run pins s σ H R I z) (fun z => h2.run pins s σ H R I z)⟩
theorem PI.imp {X : Cx} {tg e : Expr} {w1 w2 : TI} (h : PI X tg e w1) (hw : ∀ σ H R, w2 σ H R → w1 σ H R) : PI X tg e w2 := ⟨fun pins s σ H R I z => h.run pins s σ H R I (hw σ H R z)⟩
end Bt
namespace Bt
open PySem L2
section
variable {X : Cx} {W : WX} {tg a b c e : Expr} {ta tb tc t : TE} {ma mb mc m : M D}
def signsD (z : Str) : List D := z.cps.toList.map fun c => .str ⟨#[c]⟩
def itemsOf : D → Option (List D)
  | .list ds => some ds
  | .tuple ds => some ds
  | .str z => some (signsD z)
  | _ => none
def mIt (m : M D) : M (List D) := bnd m fun d => lift (itemsOf d)
def iSeq (K : PySem.W.Frag) (t : TE) : TI := fun σ H R => iList K t σ H R ∨ (iTup K t σ H R ∨ iStr t σ H R)
theorem wk_list {K : PySem.W.Frag} {O : List Addr} {H : Hp} {p : Addr} {vs : List V} {ds : List D} (h : Mask O H p = some (.lst vs)) (r : RpAll K (Mask O H) vs ds) : Wk false K O H (Itl K p) ds := by
  refine ⟨_, _, r.length ▸ walk_list (xs := vs), fun O2 H2 l => SqL.of (mask_le _ _ _ _ (l _ _ h)), fun O2 H2 i x H3 d t l e y => ?_⟩
  obtain ⟨rfl, y2⟩ := y
  obtain ⟨d', e', rr⟩ := r.get y2
  rw [e] at e'
  cases e'
  exact ⟨Grow.refl _ _, .inl (rr.mono l)⟩
theorem wk_tup {K : PySem.W.Frag} {O : List Addr} {H : Hp} {p : Addr} {vs : List V} {ds : List D} (h : SqT K (Mask O H) p vs) (r : RpAll K (Mask O H) vs ds) : Wk false K O H (Itt K p) ds := by
  refine ⟨_, _, r.length ▸ walk_tup (xs := vs), fun O2 H2 l => sqT_mono (mask_le _ _) (sqT_mono l h), fun O2 H2 i x H3 d t l e y => ?_⟩
  obtain ⟨rfl, y2⟩ := y
  obtain ⟨d', e', rr⟩ := r.get y2
  rw [e] at e'
  cases e'
  exact ⟨Grow.refl _ _, .inl (rr.mono l)⟩
theorem wk_str {K : PySem.W.Frag} {O : List Addr} {H : Hp} {z : Str} : Wk false K O H (Its z) (signsD z) := by
  refine ⟨fun _ => True, _, by unfold signsD; rw [List.length_map, Array.length_toList]; exact walk_str, fun _ _ _ => trivial, fun O2 H2 i x H3 d t l e y => ?_⟩
  obtain ⟨rfl, c, hc, rfl⟩ := y
  unfold signsD at e
  rw [List.getElem?_map, Array.getElem?_toList, hc] at e
  cases e
  exact ⟨Grow.refl _ _, .inl (.str _)⟩
theorem si_seq (hl : PE X e t → PI X tg e (iSeq X.K t)) (h : SE X W e t m) : SI X W false tg e (iSeq X.K t) (mIt m) := by
  refine ⟨hl h.pe, fun F O E σ H R Re s => ?_⟩
  have s' := s.bnd
  cases hm : m E with
  | bad => rw [hm] at s'; exact s'.elim
  | ex x E1 => rw [hm] at s'; exact .inl (h.rd F O E σ H _ Re (by rw [hm]; exact s'))
  | ok d E1 =>
    rw [hm] at s'
    obtain ⟨its, hi, k⟩ := Sat.lift s'
    cases d <;> first | (cases hi; done) | skip
    · cases hi
      refine .inr (.inr (h.rd F O E σ H _ Re (by
        rw [hm]
        intro O1 v H1 R1 l1 r1
        cases r1
        exact ⟨_, rfl, k O1 H1 _ R1 l1 wk_str⟩)))
    · cases hi
      refine .inl (h.rd F O E σ H _ Re (by
        rw [hm]
        intro O1 v H1 R1 l1 r1
        cases r1 with
        | lst hp rr => exact ⟨_, rfl, ⟨_, SqL.of (mask_le _ _ _ _ hp)⟩, k O1 H1 _ R1 l1 (wk_list hp rr)⟩))
    · cases hi
      refine .inr (.inl (h.rd F O E σ H _ Re (by
        rw [hm]
        intro O1 v H1 R1 l1 r1
        cases r1 with
        | tup hp rr => exact ⟨_, rfl, ⟨_, sqT_mono (mask_le _ _) hp.t⟩, k O1 H1 _ R1 l1 (wk_tup hp.t rr)⟩)))
def rangeD (lo hi : Int) : List D := (List.range (hi - lo).toNat).map fun k => .int (lo + (k : Nat))
noncomputable def rgOk (i : Int) : Bool := @decide (-1000000 ≤ i ∧ i ≤ 1000000) (Classical.propDecidable _)
theorem rgOk_iff {i : Int} : rgOk i = true ↔ -1000000 ≤ i ∧ i ≤ 1000000 := by
  unfold rgOk
  exact @decide_eq_true_iff _ (Classical.propDecidable _)
theorem wk_range {K : PySem.W.Frag} {O : List Addr} {H : Hp} {lo : Int} {n : Nat} : Wk false K O H (Itr lo n) ((List.range n).map fun k => .int (lo + (k : Nat))) := by
  refine ⟨fun _ => True, YFn fun i => .int (lo + i), ?_, fun _ _ _ => trivial, fun O2 H2 i x H3 d t l e y => ?_⟩
  · rw [List.length_map, List.length_range]
    exact walk_range
  · obtain ⟨rfl, rfl⟩ := y
    rw [List.getElem?_map] at e
    cases q : (List.range n)[i]? with
    | none => rw [q] at e; cases e
    | some k =>
      rw [q] at e
      cases e
      have := (List.getElem?_eq_some_iff.mp q).2
      rw [List.getElem_range] at this
      subst this
      exact ⟨Grow.refl _ _, .inl (.int _)⟩
theorem rgOk_b {i : Int} (h : rgOk i = true) : -(2 ^ 62) ≤ i ∧ i < 2 ^ 62 := by
  have h := rgOk_iff.mp h
  omega
noncomputable def mRng1 (ms : M (List Ag)) : M (List D) := bnd ms fun as => fun E => match rsvs E as with
  | some [.int j] => if rgOk j then .ok (rangeD 0 j) E else .bad
  | _ => .bad
noncomputable def mRng2 (ms : M (List Ag)) : M (List D) := bnd ms fun as => fun E => match rsvs E as with
  | some [.int i, .int j] => if rgOk i && rgOk j then .ok (rangeD i j) E else .bad
  | _ => .bad
theorem si_range1 {es : List Expr} {ts : TA} {ms : M (List Ag)} (hp : PA X es ts → PI X tg e (iRng1 ts)) (h : SOs X W es ts ms) : SI X W false tg e (iRng1 ts) (mRng1 ms) := by
  refine ⟨hp h.pa, fun F O E σ H R Re s => h.rd F O E σ H _ Re (s.bnd.mono (fun as E1 k O1 vs H1 R1 l1 av => ?_) (fun _ _ k => k))⟩
  split at k
  · rename_i j q
    split at k
    · rename_i hj
      obtain ⟨v, rfl, rq⟩ := paired1 (R1.rsvs av q)
      cases rq.int
      obtain ⟨b1, b2⟩ := rgOk_b hj
      exact ⟨j, rfl, b1, b2, k O1 H1 _ R1 l1 (by have := wk_range (K := X.K) (O := O1) (H := H1) (lo := 0) (n := j.toNat); unfold rangeD; rw [Int.sub_zero]; exact this)⟩
    · exact k.elim
  · exact k.elim
theorem si_range2 {es : List Expr} {ts : TA} {ms : M (List Ag)} (hp : PA X es ts → PI X tg e (iRng2 ts)) (h : SOs X W es ts ms) : SI X W false tg e (iRng2 ts) (mRng2 ms) := by
  refine ⟨hp h.pa, fun F O E σ H R Re s => h.rd F O E σ H _ Re (s.bnd.mono (fun as E1 k O1 vs H1 R1 l1 av => ?_) (fun _ _ k => k))⟩
  split at k
  · rename_i i j q
    split at k
    · rename_i hj
      rw [Bool.and_eq_true] at hj
      obtain ⟨v, u, rfl, rq, rq2⟩ := paired2 (R1.rsvs av q)
      cases rq.int
      cases rq2.int
      obtain ⟨b1, b2⟩ := rgOk_b hj.1
      obtain ⟨c1, c2⟩ := rgOk_b hj.2
      exact ⟨i, j, rfl, ⟨b1, b2, c1, c2⟩, k O1 H1 _ R1 l1 wk_range⟩
    · exact k.elim
  · exact k.elim
theorem walk_zipT {K : PySem.W.Frag} {a b : Addr} {xs ys : List V} {n : Nat} (hn : n = min xs.length ys.length) : Walk (RZ.ItzT K a b) n (fun H => SqT K H a xs ∧ SqT K H b ys) (YPair (fun i => xs[i]?) (fun i => ys[i]?)) := by
  subst hn
  refine ⟨fun i _ hi q => ?_, fun _ q => ⟨xs, ys, q.1, q.2, by omega⟩, fun i H v H' _ q y => ?_⟩
  · have h1 : i < xs.length := by omega
    have h2 : i < ys.length := by omega
    exact ⟨xs, ys, xs[i], ys[i], q.1, q.2, by simp [h1], by simp [h2]⟩
  · obtain ⟨T, x, z, h1, h2, h3, h4, h5⟩ := y
    exact ⟨T, x, z, h1, h2, h3, h4 xs q.1, h5 ys q.2⟩
def zipD (xs ys : List D) : List D := List.zipWith (fun x y => .tuple [x, y]) xs ys
theorem pair_new {K : PySem.W.Frag} {O : List Addr} {H : Hp} {T : Addr} {x y : V} {d d2 : D} (t : Trk O H) (r1 : Rp K (Mask O H) x d) (r2 : Rp K (Mask O H) y d2) (hT : H T = none) : Grow O H (upd H T (.tup [x, y])) ∧ RpB true K (Mask O (upd H T (.tup [x, y]))) (.ref T) (.tuple [d, d2]) := new_tupW t (.cons r1 (.cons r2 .nil)) hT
theorem wk_pair {K : PySem.W.Frag} {O : List Addr} {H : Hp} {J : It} {vs ws : List V} {ds es : List D} {G : Hp → Prop} (w : Walk J (min vs.length ws.length) G (YPair (fun i => vs[i]?) (fun i => ws[i]?))) (hG : ∀ O2 H2, Le O H O2 H2 → G H2)
    (r1 : RpAll K (Mask O H) vs ds) (r2 : RpAll K (Mask O H) ws es) : Wk true K O H J (zipD ds es) := by
  refine ⟨G, YPair (fun i => vs[i]?) (fun i => ws[i]?), ?_, hG, fun O2 H2 i x H3 d t l e y => ?_⟩
  · unfold zipD
    rw [List.length_zipWith, ← r1.length, ← r2.length]
    exact w
  · obtain ⟨T, x1, x2, rfl, nT, rfl, e1, e2⟩ := y
    obtain ⟨d1, q1, s1⟩ := r1.get e1
    obtain ⟨d2, q2, s2⟩ := r2.get e2
    unfold zipD at e
    rw [List.getElem?_zipWith, q1, q2] at e
    cases e
    exact pair_new t (s1.mono l) (s2.mono l) nT
def mZip (ms : M (List D)) : M (List D) := bnd ms fun ds => match ds with
  | [.list xs, .list ys] => ret (zipD xs ys)
  | [.tuple xs, .tuple ys] => ret (zipD xs ys)
  | _ => stuck
theorem si_zip {es : List Expr} {ts : TA} {ms : M (List D)} (hp : PA X es ts → PI X tg e (RZ.iZipA X.K ts)) (h : SA X W es ts ms) : SI X W true tg e (RZ.iZipA X.K ts) (mZip ms) := by
  refine ⟨hp h.pa, fun F O E σ H R Re s => h.rd F O E σ H _ Re (s.bnd.mono (fun ds E1 k O1 vs H1 R1 l1 rr => ?_) (fun _ _ k => k))⟩
  split at k
  · cases rr with
    | cons r1 rr =>
      cases rr with
      | cons r2 rr =>
        cases rr
        cases r1 with
        | lst h1 s1 =>
          cases r2 with
          | lst h2 s2 =>
            refine ⟨_, _, _, _, rfl, .inl ⟨SqL.of (mask_le _ _ _ _ h1), SqL.of (mask_le _ _ _ _ h2), k O1 H1 _ R1 l1 ?_⟩⟩
            exact wk_pair (walk_zip rfl) (fun O2 H2 l => ⟨SqL.of (mask_le _ _ _ _ (l _ _ h1)), SqL.of (mask_le _ _ _ _ (l _ _ h2))⟩) s1 s2
  · cases rr with
    | cons r1 rr =>
      cases rr with
      | cons r2 rr =>
        cases rr
        cases r1 with
        | tup h1 s1 =>
          cases r2 with
          | tup h2 s2 =>
            refine ⟨_, _, _, _, rfl, .inr ⟨sqT_mono (mask_le _ _) h1.t, sqT_mono (mask_le _ _) h2.t, k O1 H1 _ R1 l1 ?_⟩⟩
            exact wk_pair (walk_zipT rfl) (fun O2 H2 l => ⟨sqT_mono (mask_le _ _) (sqT_mono l h1.t), sqT_mono (mask_le _ _) (sqT_mono l h2.t)⟩) s1 s2
  · exact k.elim
def enumD (xs : List D) : List D := zipD ((List.range xs.length).map fun (i : Nat) => .int (i : Int)) xs
def mEnum (ms : M (List D)) : M (List D) := bnd ms fun ds => match ds with
  | [.list xs] => ret (enumD xs)
  | _ => stuck
end
end Bt
namespace Bt
open PySem L2
abbrev W0 : WX := fun _ _ _ _ => False
structure STs (X : Cx) (W : WX) (es : List Expr) (t : TT) (m : M Bool) : Prop where
  pt : PTs X es t
  rd : ∀ F O E σ H (Q : Bool → Hp → Prop), Rel X.K F O E σ H → Sat (m E) (KB X.K F σ O H Q) (KX X.K X.mg F σ O H W) → t σ H Q
theorem sts_nil {X : Cx} {W : WX} : STs X W [] tYes (ret true) := ⟨pts_nil, fun F O E σ H Q R s => s O H R (Le.refl O H)⟩
theorem sts_one {X : Cx} {W : WX} {e : Expr} {t : TT} {m : M Bool} (h : STt X W e t m) : STs X W [e] t m := ⟨pts_one h.pt, h.rd⟩
section
variable {K : PySem.W.Frag} {F : Frm} {O : List Addr} {E : En} {σ : L2.St} {H : Hp}
theorem mask_cons_new {p : Addr} {o : HO} (h : H p = none) : Same (Mask O H) (Mask (p :: O) (upd H p o)) := fun a x e => by
  obtain ⟨n, e⟩ := mask_some e
  have hne : a ≠ p := ne_of_none e h
  rw [mask_out (by intro z; cases z with | head => exact hne rfl | tail _ z => exact n z), upd_ne hne]
  exact e
theorem mask_upd_in {p : Addr} {o : HO} (h : p ∈ O) : Mask O (upd H p o) = Mask O H := by
  funext a
  by_cases q : a ∈ O
  · rw [mask_in q, mask_in q]
  · have hne : a ≠ p := fun z => q (by rw [z]; exact h)
    rw [mask_out q, mask_out q, upd_ne hne]
theorem Rel.newF {p : Addr} {o : HO} (R : Rel K F O E σ H) (h : H p = none) : Rel K ((p, o) :: F) (p :: O) E σ (upd H p o) := by
  have l := mask_cons_new (O := O) (o := o) h
  have hO := trk_fresh R.trk h
  refine ⟨R.len, fun q hq => ?_, fun i s e => ?_, R.apart, fun x hx => ?_, fun i ds q e1 e2 x hx => ?_⟩
  · by_cases z : q = p
    · subst z; rw [upd_same]; exact fun z => nomatch z
    · rw [upd_ne z]
      cases hq with
      | head => exact absurd rfl z
      | tail _ hq => exact R.trk q hq
  · have z := R.slot i s e
    cases s with
    | un => trivial
    | dat d => obtain ⟨v, e, r⟩ := z; exact ⟨v, e, r.mono l⟩
    | ow ds =>
      obtain ⟨q, vs, e, hq, hh, r⟩ := z
      have hne : q ≠ p := fun z => hO (by rw [← z]; exact hq)
      exact ⟨q, vs, e, List.mem_cons_of_mem _ hq, by rw [upd_ne hne]; exact hh, r.mono l⟩
    | scr ns => obtain ⟨q, e, r⟩ := z; exact ⟨q, e, Same.seq l r⟩
  · cases hx with
    | head => exact ⟨List.mem_cons_self, upd_same⟩
    | tail _ hx =>
      obtain ⟨h1, h2⟩ := R.frm x hx
      have hne : x.1 ≠ p := fun z => hO (by rw [← z]; exact h1)
      exact ⟨List.mem_cons_of_mem _ h1, by rw [upd_ne hne]; exact h2⟩
  · cases hx with
    | head =>
      obtain ⟨q', vs, e', hq, _⟩ := R.slot i _ e1
      rw [e2] at e'
      cases e'
      exact fun z => hO (by rw [show p = q from z]; exact hq)
    | tail _ hx => exact R.fap i ds q e1 e2 x hx
theorem Rel.updF {p : Addr} {o o' : HO} (R : Rel K ((p, o) :: F) O E σ H) (hF : ∀ x ∈ F, x.1 ≠ p) : Rel K ((p, o') :: F) O E σ (upd H p o') := by
  obtain ⟨hp, _⟩ := R.frm _ List.mem_cons_self
  have hp : p ∈ O := hp
  have em : Mask O (upd H p o') = Mask O H := mask_upd_in hp
  refine ⟨R.len, fun q hq => ?_, fun i s e => ?_, R.apart, fun x hx => ?_, fun i ds q e1 e2 x hx => ?_⟩
  · by_cases z : q = p
    · subst z; rw [upd_same]; exact fun z => nomatch z
    · rw [upd_ne z]; exact R.trk q hq
  · have z := R.slot i s e
    cases s with
    | un => trivial
    | dat d => obtain ⟨v, e, r⟩ := z; exact ⟨v, e, by rw [em]; exact r⟩
    | ow ds =>
      obtain ⟨q, vs, e', hq, hh, r⟩ := z
      have hne : q ≠ p := fun z => R.fap i ds q e e' _ List.mem_cons_self z.symm
      exact ⟨q, vs, e', hq, by rw [upd_ne hne]; exact hh, by rw [em]; exact r⟩
    | scr ns => obtain ⟨q, e, r⟩ := z; exact ⟨q, e, by rw [em]; exact r⟩
  · cases hx with
    | head => exact ⟨hp, upd_same⟩
    | tail _ hx =>
      obtain ⟨h1, h2⟩ := R.frm x (List.mem_cons_of_mem _ hx)
      exact ⟨h1, by rw [upd_ne (hF x hx)]; exact h2⟩
  · cases hx with
    | head => exact R.fap i ds q e1 e2 (p, o) List.mem_cons_self
    | tail _ hx => exact R.fap i ds q e1 e2 x (List.mem_cons_of_mem _ hx)
def rmA (O : List Addr) (p : Addr) : List Addr := O.filter fun q => decide (q ≠ p)
theorem mem_rmA {p q : Addr} : q ∈ rmA O p ↔ q ∈ O ∧ q ≠ p := by
  unfold rmA
  rw [List.mem_filter]
  simp
theorem mask_rm {p : Addr} : Same (Mask O H) (Mask (rmA O p) H) := fun a x e => by
  obtain ⟨n, e⟩ := mask_some e
  rw [mask_out (fun z => n (mem_rmA.mp z).1)]
  exact e
theorem Rel.freeF {p : Addr} {o : HO} (R : Rel K ((p, o) :: F) O E σ H) (hF : ∀ x ∈ F, x.1 ≠ p) : Rel K F (rmA O p) E σ H := by
  have l := mask_rm (O := O) (H := H) (p := p)
  refine ⟨R.len, fun q hq => R.trk q (mem_rmA.mp hq).1, fun i s e => ?_, R.apart, fun x hx => ?_, fun i ds q e1 e2 x hx => R.fap i ds q e1 e2 x (List.mem_cons_of_mem _ hx)⟩
  · have z := R.slot i s e
    cases s with
    | un => trivial
    | dat d => obtain ⟨v, e, r⟩ := z; exact ⟨v, e, r.mono l⟩
    | ow ds =>
      obtain ⟨q, vs, e', hq, hh, r⟩ := z
      have hne : q ≠ p := fun z => R.fap i ds q e e' _ List.mem_cons_self z.symm
      exact ⟨q, vs, e', mem_rmA.mpr ⟨hq, hne⟩, hh, r.mono l⟩
    | scr ns => obtain ⟨q, e, r⟩ := z; exact ⟨q, e, Same.seq l r⟩
  · obtain ⟨h1, h2⟩ := R.frm x (List.mem_cons_of_mem _ hx)
    exact ⟨mem_rmA.mpr ⟨h1, hF x hx⟩, h2⟩
end

theorem wipe_get {σ : L2.St} {i : Nat} : ∀ {vs : List Nat}, i ∈ vs → i < σ.length → (L2.wipe σ vs)[i]? = some none
  | [], h, _ => by cases h
  | v :: vs, h, hl => by
    show ((L2.wipe σ vs).set v none)[i]? = some none
    by_cases e : v = i
    · subst e
      rw [List.getElem?_set_self (by rw [wipe_length]; exact hl)]
    · rw [List.getElem?_set_ne e]
      cases h with
      | head => exact absurd rfl e
      | tail _ h => exact wipe_get h hl
theorem wipe_wipe (σ : L2.St) (vs : List Nat) : L2.wipe (L2.wipe σ vs) vs = L2.wipe σ vs := by
  refine List.ext_getElem? fun i => ?_
  by_cases h : i ∈ vs
  · by_cases hl : i < σ.length
    · rw [wipe_get h (by rw [wipe_length]; exact hl), wipe_get h hl]
    · rw [List.getElem?_eq_none (by rw [wipe_length, wipe_length]; omega), List.getElem?_eq_none (by rw [wipe_length]; omega)]
  · rw [get_wipe h]
section
variable (vs : List Nat) (g : MG) (mt : M Bool) (me : M D) (E0 : En)
def lcGo : List D → En → List D → Res D
  | [], E, acc => .ok (.list acc) (backE E0 E vs)
  | d :: ds, E, acc => match g d (wipeE E vs) with
    | none => .bad
    | some E1 => match mt E1 with
      | .ok true E2 => match me E2 with
        | .ok y E3 => if acc.length < LIM then lcGo ds E3 (acc ++ [y]) else .bad
        | _ => .bad
      | .ok false E2 => lcGo ds E2 acc
      | _ => .bad
end
def mLc (mi : M (List D)) (g : MG) (mt : M Bool) (me : M D) (vs : List Nat) : M D := bnd mi fun its => fun E => lcGo vs g mt me E its E []
theorem lc_rd {X : Cx} {W : WX} {tg : Expr} {wi : TI} {mi : M (List D)} {g : TG} {mg : MG} {tt : TT} {mt : M Bool} {te : TE} {me : M D} {vs : List Nat} {iter : Expr} {b : Bool} (hi : SI X W b tg iter wi mi)
    (hg : ∀ O E σ H v d E' (F : Frm) (Q : L2.St → Hp → Prop), Rel X.K F O E σ H → RpB b X.K (Mask O H) v d → mg d E = some E' → (∀ σ', Rel X.K F O E' σ' H → L2.wipe σ' vs = L2.wipe σ vs → Q σ' H) → g v σ H Q)
    (ht : ∀ F O E σ H (Q : Bool → Hp → Prop), Rel X.K F O E σ H → Sat (mt E) (KB X.K F σ O H Q) (KX X.K X.mg F σ O H W0) → tt σ H Q)
    (he : ∀ F O E σ H (Q : VK), Rel X.K F O E σ H → Sat (me E) (KD X.K F σ O H Q) (KX X.K X.mg F σ O H W0) → te σ H Q) :
    ∀ F O E σ H (Q : VK), Rel X.K F O E σ H → Sat (mLc mi mg mt me vs E) (KD X.K F σ O H Q) (KX X.K X.mg F σ O H W) → tLc wi g tt te vs σ H Q := by
  intro F O E σ H Q R s
  refine hi.rd F O E σ H _ R (s.bnd.mono (fun its E1 k O1 H1 J R1 l1 wk => ?_) (fun _ _ k => k))
  intro D nD
  obtain ⟨G, Y, w, hG, hY⟩ := wk.ex
  have hFD : ∀ x ∈ F, x.1 ≠ D := fun x hx z => by
    have h2 := (R1.frm x hx).2
    rw [z, nD] at h2
    cases h2
  refine lc_it w (fun i H2 => ∃ O2 E2 σ2 acc ws, Rel X.K ((D, .lst ws) :: F) O2 E2 σ2 H2 ∧ L2.wipe σ2 vs = L2.wipe σ vs ∧ Le O1 H1 O2 H2 ∧ RpAll X.K (Mask O2 H2) ws acc ∧ i ≤ its.length ∧ Sat (lcGo vs mg mt me E1 (its.drop i) E2 acc) (KD X.K F σ O H Q) (KX X.K X.mg F σ O H W)) ?_ ?_ ?_ ?_
  · exact ⟨D :: O1, E1, σ, [], [], R1.newF nD, rfl, mask_cons_new nD, .nil, Nat.zero_le _, k⟩
  · rintro i H2 hi ⟨O2, E2, σ2, acc, ws, R2, _, l2, _⟩
    exact hG O2 H2 l2
  · rintro i x H2 H3 hi ⟨O2, E2, σ2, acc, ws, R2, hw, l2, ra, _, s2⟩ y
    have hd : its.drop i = its[i] :: its.drop (i + 1) := List.drop_eq_getElem_cons hi
    rw [hd] at s2
    unfold lcGo at s2
    obtain ⟨gr, rx⟩ := hY O2 H2 i x H3 its[i] R2.trk l2 (List.getElem?_eq_getElem hi) y
    have R3 := (R2.grow gr).wipe vs
    rw [hw] at R3
    cases eg : mg its[i] (wipeE E2 vs) with
    | none => rw [eg] at s2; exact s2.elim
    | some E3 =>
      rw [eg] at s2
      refine hg O2 _ _ H3 x its[i] E3 _ _ R3 rx eg fun σ3 R4 hw3 => ⟨by rw [hw3]; exact wipe_wipe _ _, ?_⟩
      dsimp only at s2
      refine ht _ O2 E3 σ3 H3 _ R4 ?_
      cases em : mt E3 with
      | bad => rw [em] at s2; exact s2.elim
      | ex _ _ => rw [em] at s2; exact s2.elim
      | ok bb E4 =>
        rw [em] at s2
        intro O4 H4 R5 l4
        have l5 : Le O1 H1 O4 H4 := (l2.trans gr.le).trans l4
        cases bb with
        | false =>
          show ∃ _, _
          exact ⟨O4, E4, σ3, acc, ws, R5, by rw [hw3]; exact wipe_wipe _ _, l5, (ra.mono gr.le).mono l4, hi, s2⟩
        | true =>
          show te σ3 H4 _
          dsimp only at s2
          refine he _ O4 E4 σ3 H4 _ R5 ?_
          cases ee : me E4 with
          | bad => rw [ee] at s2; exact s2.elim
          | ex _ _ => rw [ee] at s2; exact s2.elim
          | ok y E5 =>
            rw [ee] at s2
            intro O5 v5 H5 R6 l6 rv
            dsimp only at s2
            split at s2
            · rename_i hlim
              have l7 : Le O1 H1 O5 H5 := l5.trans l6
              have ra5 : RpAll X.K (Mask O5 H5) ws acc := ((ra.mono gr.le).mono l4).mono l6
              obtain ⟨hDO, hDw⟩ := R6.frm _ List.mem_cons_self
              refine ⟨ws, hDw, by rw [ra5.length]; exact lim_lt hlim, ?_⟩
              have em5 : Mask O5 (upd H5 D (.lst (ws ++ [v5]))) = Mask O5 H5 := mask_upd_in hDO
              exact ⟨O5, E5, σ3, acc ++ [y], ws ++ [v5], R6.updF hFD, by rw [hw3]; exact wipe_wipe _ _, by unfold Le; rw [em5]; exact l7, by rw [em5]; exact ra5.append (.one rv), hi, s2⟩
            · exact s2.elim
  · rintro H2 ⟨O2, E2, σ2, acc, ws, R2, hw, l2, ra, _, s2⟩
    rw [List.drop_length] at s2
    obtain ⟨hDO, hDw⟩ := R2.frm _ List.mem_cons_self
    have R3 := R2.freeF hFD
    have l3 : Same (Mask O2 H2) (Mask (rmA O2 D) H2) := mask_rm
    refine s2 (rmA O2 D) (.ref D) H2 (R1.back R3 (l2.trans l3) hw) ((l1.trans l2).trans l3) (.lst ?_ (ra.mono l3))
    rw [mask_out (fun z => (mem_rmA.mp z).2 rfl)]
    exact hDw
theorem lc_rdF {X : Cx} {W : WX} {tg : Expr} {wi : TI} {mi : M (List D)} {g : TG} {mg : MG} {tt : TT} {mt : M Bool} {te : TE} {me : M D} {vs : List Nat} {iter : Expr} {b : Bool} (hi : SI X W b tg iter wi mi)
    (hg : ∀ O E σ H v d E' (F : Frm) (Q : L2.St → Hp → Prop), Rel X.K F O E σ H → RpB b X.K (Mask O H) v d → mg d E = some E' → (∀ σ', Rel X.K F O E' σ' H → L2.wipe σ' vs = L2.wipe σ vs → Q σ' H) → g v σ H Q)
    (ht : ∀ F O E σ H (Q : Bool → Hp → Prop), Rel X.K F O E σ H → Sat (mt E) (KB X.K F σ O H Q) (KX X.K X.mg F σ O H W0) → tt σ H Q)
    (he : ∀ F O E σ H (Q : VK), Rel X.K F O E σ H → Sat (me E) (KD X.K F σ O H Q) (KX X.K X.mg F σ O H W0) → te σ H Q) :
    ∀ F O E σ H (Q : VK), Rel X.K F O E σ H → Sat (mLc mi mg mt me vs E) (fun d E' => ∀ O' p ws ds H', d = .list ds → Rel X.K ((p, .lst ws) :: F) O' E' σ H' → (∀ x ∈ F, x.1 ≠ p) → Le O H O' H' → RpAll X.K (Mask O' H') ws ds → Q (.ref p) H') (KX X.K X.mg F σ O H W) → tLc wi g tt te vs σ H Q := by
  intro F O E σ H Q R s
  refine hi.rd F O E σ H _ R (s.bnd.mono (fun its E1 k O1 H1 J R1 l1 wk => ?_) (fun _ _ k => k))
  intro D nD
  obtain ⟨G, Y, w, hG, hY⟩ := wk.ex
  have hFD : ∀ x ∈ F, x.1 ≠ D := fun x hx z => by
    have h2 := (R1.frm x hx).2
    rw [z, nD] at h2
    cases h2
  refine lc_it w (fun i H2 => ∃ O2 E2 σ2 acc ws, Rel X.K ((D, .lst ws) :: F) O2 E2 σ2 H2 ∧ L2.wipe σ2 vs = L2.wipe σ vs ∧ Le O1 H1 O2 H2 ∧ RpAll X.K (Mask O2 H2) ws acc ∧ i ≤ its.length ∧ Sat (lcGo vs mg mt me E1 (its.drop i) E2 acc) (fun d E' => ∀ O' p ws ds H', d = .list ds → Rel X.K ((p, .lst ws) :: F) O' E' σ H' → (∀ x ∈ F, x.1 ≠ p) → Le O H O' H' → RpAll X.K (Mask O' H') ws ds → Q (.ref p) H') (KX X.K X.mg F σ O H W)) ?_ ?_ ?_ ?_
  · exact ⟨D :: O1, E1, σ, [], [], R1.newF nD, rfl, mask_cons_new nD, .nil, Nat.zero_le _, k⟩
  · rintro i H2 hi ⟨O2, E2, σ2, acc, ws, R2, _, l2, _⟩
    exact hG O2 H2 l2
  · rintro i x H2 H3 hi ⟨O2, E2, σ2, acc, ws, R2, hw, l2, ra, _, s2⟩ y
    have hd : its.drop i = its[i] :: its.drop (i + 1) := List.drop_eq_getElem_cons hi
    rw [hd] at s2
    unfold lcGo at s2
    obtain ⟨gr, rx⟩ := hY O2 H2 i x H3 its[i] R2.trk l2 (List.getElem?_eq_getElem hi) y
    have R3 := (R2.grow gr).wipe vs
    rw [hw] at R3
    cases eg : mg its[i] (wipeE E2 vs) with
    | none => rw [eg] at s2; exact s2.elim
    | some E3 =>
      rw [eg] at s2
      refine hg O2 _ _ H3 x its[i] E3 _ _ R3 rx eg fun σ3 R4 hw3 => ⟨by rw [hw3]; exact wipe_wipe _ _, ?_⟩
      dsimp only at s2
      refine ht _ O2 E3 σ3 H3 _ R4 ?_
      cases em : mt E3 with
      | bad => rw [em] at s2; exact s2.elim
      | ex _ _ => rw [em] at s2; exact s2.elim
      | ok bb E4 =>
        rw [em] at s2
        intro O4 H4 R5 l4
        have l5 : Le O1 H1 O4 H4 := (l2.trans gr.le).trans l4
        cases bb with
        | false =>
          show ∃ _, _
          exact ⟨O4, E4, σ3, acc, ws, R5, by rw [hw3]; exact wipe_wipe _ _, l5, (ra.mono gr.le).mono l4, hi, s2⟩
        | true =>
          show te σ3 H4 _
          dsimp only at s2
          refine he _ O4 E4 σ3 H4 _ R5 ?_
          cases ee : me E4 with
          | bad => rw [ee] at s2; exact s2.elim
          | ex _ _ => rw [ee] at s2; exact s2.elim
          | ok y E5 =>
            rw [ee] at s2
            intro O5 v5 H5 R6 l6 rv
            dsimp only at s2
            split at s2
            · rename_i hlim
              have l7 : Le O1 H1 O5 H5 := l5.trans l6
              have ra5 : RpAll X.K (Mask O5 H5) ws acc := ((ra.mono gr.le).mono l4).mono l6
              obtain ⟨hDO, hDw⟩ := R6.frm _ List.mem_cons_self
              refine ⟨ws, hDw, by rw [ra5.length]; exact lim_lt hlim, ?_⟩
              have em5 : Mask O5 (upd H5 D (.lst (ws ++ [v5]))) = Mask O5 H5 := mask_upd_in hDO
              exact ⟨O5, E5, σ3, acc ++ [y], ws ++ [v5], R6.updF hFD, by rw [hw3]; exact wipe_wipe _ _, by unfold Le; rw [em5]; exact l7, by rw [em5]; exact ra5.append (.one rv), hi, s2⟩
            · exact s2.elim
  · rintro H2 ⟨O2, E2, σ2, acc, ws, R2, hw, l2, ra, _, s2⟩
    rw [List.drop_length] at s2
    obtain ⟨hDO, hDw⟩ := R2.frm _ List.mem_cons_self
    exact s2 O2 D ws acc H2 rfl (R1.back R2 l2 hw) hFD (l1.trans l2) ra
end Bt
namespace Bt
open PySem L2
section
variable {X : Cx} {W : WX}
theorem se_lc {b : Bool} {elt tg iter : Expr} {ifs : List Expr} {scope : Scope} {own : List (Str × Nat)} {asg : List Nat} {pos : Pos} {wi : TI} {g : TG} {tt : TT} {te : TE} {mi : M (List D)} {mg : MG} {mt : M Bool} {me : M D} (hc : X.calm = true) (hN : X.N.Nodup) (hi : SI X W b tg iter wi mi) (ok : BlkOk X.N X.env.scope scope own)
    (hg : ∀ (s : Shared) (H : Hp) (C : Addr) (cl : List (Str × Addr)) (fp : List Addr), SG (X.blk s H scope (compEnvC scope cl C X.env) fp) b asg tg g mg) (ha : ∀ i ∈ asg, i ∈ own.map (·.2)) (ht : ∀ (s : Shared) (H : Hp) (C : Addr) (cl : List (Str × Addr)) (fp : List Addr), STs (X.blk s H scope (compEnvC scope cl C X.env) fp) W0 ifs tt mt)
    (he : ∀ (s : Shared) (H : Hp) (C : Addr) (cl : List (Str × Addr)) (fp : List Addr), SE (X.blk s H scope (compEnvC scope cl C X.env) fp) W0 elt te me) (hs : ∀ x, foldedSetIterable iter X.env x = pure x := by intro _; rfl) :
    SE X W (.ListComp elt [⟨tg, iter, ifs, 0⟩] scope pos) (tLc wi g tt te (own.map (·.2))) (mLc mi mg mt me (own.map (·.2))) := by
  refine ⟨pe_lc hc hN hi.pi ok (fun s H C cl fp => (hg s H C cl fp).pg) (fun s H C cl fp => (ht s H C cl fp).pt) (fun s H C cl fp => (he s H C cl fp).pe) hs, ?_⟩
  refine lc_rd hi (fun O E σ H v d E' F Q R r e q => ?_) (fun F O E σ H Q R s => (ht X.s_0 X.H_0 0 [] []).rd F O E σ H Q R s) (fun F O E σ H Q R s => (he X.s_0 X.H_0 0 [] []).rd F O E σ H Q R s)
  exact (hg X.s_0 X.H_0 0 [] []).rd F O E σ H v d E' Q R r e fun σ' R' l' p' => q σ' R' (wipe_agree l' p' ha)
end

inductive Fl where
  | nx
  | bk
  | ct
  | rt (s : Sl)
def RelE (K : PySem.W.Frag) (F : Frm) (O' : List Addr) (E' : En) (σ' : L2.St) (H' : Hp) (v : V) : Fl → Prop
  | .nx => Rel K F O' E' σ' H'
  | .bk => Rel K F O' E' σ' H'
  | .ct => Rel K F O' E' σ' H'
  | .rt s => match s with
    | .dat d => Rel K F O' E' σ' H' ∧ Rp K (Mask O' H') v d
    | .ow ob => ∃ p ho, v = .ref p ∧ Rel K ((p, ho) :: F) O' E' σ' H' ∧ (∀ x ∈ F, x.1 ≠ p) ∧ RpO K (Mask O' H') ho ob
    | _ => False
def EndV (σ' : L2.St) (H' : Hp) (D' : Ends) (v : V) : Fl → Prop
  | .nx => D'.nx σ' H'
  | .bk => D'.bk σ' H'
  | .ct => D'.ct σ' H'
  | .rt _ => D'.rt v H'
abbrev Agr (asg : List Nat) (σ σ' : L2.St) : Prop := ∀ i, i ∉ asg → σ'[i]? = σ[i]?
abbrev KS (K : PySem.W.Frag) (F : Frm) (asg : List Nat) (σ : L2.St) (O : List Addr) (H : Hp) (D' : Ends) : Fl → En → Prop := fun f E' => ∀ O' σ' H' v, RelE K F O' E' σ' H' v f → Le O H O' H' → Agr asg σ σ' → EndV σ' H' D' v f
abbrev KXs (K : PySem.W.Frag) (mg : Str → Option Value) (F : Frm) (asg : List Nat) (σ : L2.St) (O : List Addr) (H : Hp) (W : WX) : Exc → En → Prop := fun x E' => ∀ O' σ' H' c dd, Rel K F O' E' σ' H' → Le O H O' H' → Agr asg σ σ' → ExR K mg O' H' x c dd → W c dd σ' H'
structure SS (X : Cx) (W : WX) (asg : List Nat) (st : Stmt) (t : TS) (m : M Fl) : Prop where
  ps : PS X st t
  rd : ∀ F O E σ H (D' : Ends), Rel X.K F O E σ H → Sat (m E) (KS X.K F asg σ O H D') (KXs X.K X.mg F asg σ O H W) → t D' σ H
structure SSs (X : Cx) (W : WX) (asg : List Nat) (st : List Stmt) (t : TS) (m : M Fl) : Prop where
  ps : PSs X st t
  rd : ∀ F O E σ H (D' : Ends), Rel X.K F O E σ H → Sat (m E) (KS X.K F asg σ O H D') (KXs X.K X.mg F asg σ O H W) → t D' σ H
theorem Agr.refl {asg : List Nat} {σ : L2.St} : Agr asg σ σ := fun _ _ => rfl
theorem Agr.trans {a b : List Nat} {σ σ1 σ2 : L2.St} (h : Agr a σ σ1) (h2 : Agr b σ1 σ2) : Agr (a ++ b) σ σ2 := fun i hi => (h2 i fun z => hi (List.mem_append_right _ z)).trans (h i fun z => hi (List.mem_append_left _ z))
theorem Agr.left {a b : List Nat} {σ σ1 : L2.St} (h : Agr a σ σ1) : Agr (a ++ b) σ σ1 := fun i hi => h i fun z => hi (List.mem_append_left _ z)
theorem Agr.right {a b : List Nat} {σ σ1 : L2.St} (h : Agr b σ σ1) : Agr (a ++ b) σ σ1 := fun i hi => h i fun z => hi (List.mem_append_right _ z)
theorem KXs.of {K : PySem.W.Frag} {mg : Str → Option Value} {F : Frm} {asg : List Nat} {σ : L2.St} {O : List Addr} {H : Hp} {W : WX} : ∀ x E, KXs K mg F asg σ O H W x E → KX K mg F σ O H W x E := fun x E h O' H' c dd R l e => h O' σ H' c dd R l Agr.refl e
section
variable {X : Cx} {W : WX} {e : Expr} {t : TE} {m : M D} {pos : Pos}
def mNil : M Fl := ret .nx
def mSeq (a b : M Fl) : M Fl := fun E => match a E with
  | .ok .nx E' => b E'
  | r => r
theorem Sat.seq {a b : M Fl} {E : En} {k : Fl → En → Prop} {w : Exc → En → Prop} (h : Sat (mSeq a b E) k w) : Sat (a E) (fun f E' => match f with | .nx => Sat (b E') k w | f => k f E') w := by
  unfold mSeq at h
  cases e : a E with
  | bad => rw [e] at h; exact h
  | ex x E1 => rw [e] at h; exact h
  | ok f E1 => rw [e] at h; cases f <;> exact h
theorem sss_nil : SSs X W [] [] tNext mNil := ⟨pss_nil, fun F O E σ H D' R s => s O σ H .non R (Le.refl O H) Agr.refl⟩
theorem sss_cons {a1 a2 : List Nat} {st : Stmt} {sts : List Stmt} {t u : TS} {m1 m2 : M Fl} (h : SS X W a1 st t m1) (hs : SSs X W a2 sts u m2) : SSs X W (a1 ++ a2) (st :: sts) (tSeq t u) (mSeq m1 m2) := by
  refine ⟨pss_cons h.ps hs.ps, fun F O E σ H D' R s => h.rd F O E σ H _ R (s.seq.mono (fun f E1 k O1 σ1 H1 v1 R1 l1 a1 => ?_) (fun x E1 k O1 σ1 H1 c dd R1 l1 a1 ex => k O1 σ1 H1 c dd R1 l1 a1.left ex))⟩
  cases f with
  | nx =>
    refine hs.rd F O1 E1 σ1 H1 D' R1 (Sat.mono k (fun f E2 k2 O2 σ2 H2 v2 R2 l2 a2 => ?_) (fun x E2 k2 O2 σ2 H2 c dd R2 l2 a2 ex => k2 O2 σ2 H2 c dd R2 (l1.trans l2) (a1.trans a2) ex))
    exact k2 O2 σ2 H2 v2 R2 (l1.trans l2) (a1.trans a2)
  | bk => exact k O1 σ1 H1 v1 R1 l1 a1.left
  | ct => exact k O1 σ1 H1 v1 R1 l1 a1.left
  | rt d => exact k O1 σ1 H1 v1 R1 l1 a1.left
def mRet (m : M D) : M Fl := bnd m fun d => ret (.rt (.dat d))
theorem ss_ret (h : SE X W e t m) : SS X W [] (.Return (some e) pos) (tRet t) (mRet m) :=
  ⟨ps_ret h.pe, fun F O E σ H D' R s => h.rd F O E σ H _ R (s.bnd.mono (fun d E1 k O1 v H1 R1 l1 r => k O1 σ H1 v ⟨R1, r⟩ l1 Agr.refl) (KXs.of))⟩
def mExpr (m : M D) : M Fl := bnd m fun _ => ret .nx
theorem ss_expr (hp : PE X e t → PS X (.Expr e pos) (tDrop t)) (h : SE X W e t m) : SS X W [] (.Expr e pos) (tDrop t) (mExpr m) :=
  ⟨hp h.pe, fun F O E σ H D' R s => h.rd F O E σ H _ R (s.bnd.mono (fun d E1 k O1 v H1 R1 l1 r => k O1 σ H1 .non R1 l1 Agr.refl) (KXs.of))⟩
def mSet (g : MG) (m : M D) : M Fl := bnd m fun d => fun E => match g d E with
  | some E' => .ok .nx E'
  | none => .bad
def mIfS (mt : M Bool) (a b : M Fl) : M Fl := bnd mt fun c => if c then a else b
theorem ss_if {a1 a2 : List Nat} {c : Expr} {a b : List Stmt} {tc : TT} {t u : TS} {mt : M Bool} {m1 m2 : M Fl} (hc : STt X W c tc mt) (ha : SSs X W a1 a t m1) (hb : SSs X W a2 b u m2) : SS X W (a1 ++ a2) (.If c a b pos) (tIfS tc t u) (mIfS mt m1 m2) := by
  refine ⟨ps_if hc.pt ha.ps hb.ps, fun F O E σ H D' R s => hc.rd F O E σ H _ R (s.bnd.mono (fun c E1 k O1 H1 R1 l1 => ?_) (KXs.of))⟩
  cases c with
  | true =>
    show t D' σ H1
    exact ha.rd F O1 E1 σ H1 D' R1 (Sat.mono k (fun f E2 k2 O2 σ2 H2 v2 R2 l2 a2 => k2 O2 σ2 H2 v2 R2 (l1.trans l2) a2.left) (fun x E2 k2 O2 σ2 H2 c dd R2 l2 a2 ex => k2 O2 σ2 H2 c dd R2 (l1.trans l2) a2.left ex))
  | false =>
    show u D' σ H1
    exact hb.rd F O1 E1 σ H1 D' R1 (Sat.mono k (fun f E2 k2 O2 σ2 H2 v2 R2 l2 a2 => k2 O2 σ2 H2 v2 R2 (l1.trans l2) a2.right) (fun x E2 k2 O2 σ2 H2 c dd R2 l2 a2 ex => k2 O2 σ2 H2 c dd R2 (l1.trans l2) a2.right ex))
def forGo (ws : List Nat) (g : MG) (mb : M Fl) : List D → M Fl
  | [], E => .ok .nx E
  | d :: ds, E => match g d E with
    | none => .bad
    | some E1 => match mb E1 with
      | .ok .nx E2 => forGo ws g mb ds (wipeE E2 ws)
      | .ok .ct E2 => forGo ws g mb ds (wipeE E2 ws)
      | .ok .bk E2 => .ok .nx (wipeE E2 ws)
      | .ok (.rt d) E2 => .ok (.rt d) E2
      | .ex x E2 => .ex x E2
      | .bad => .bad
def mFor (ws : List Nat) (mi : M (List D)) (g : MG) (mb : M Fl) : M Fl := bnd mi fun its => forGo ws g mb its
theorem ss_for (ws : List Nat) {b : Bool} {a1 a2 : List Nat} {tg iter : Expr} {body : List Stmt} {wi : TI} {g : TG} {tb : TS} {mi : M (List D)} {mg : MG} {mb : M Fl} (hp : PassesOwn (model X.prog X.w) X.A X.env X.xe) (hc : X.calm = true) (hi : SI X W b tg iter wi mi) (hg : SG X b a1 tg g mg) (hb : SSs X W a2 body tb mb)
    (hs : ∀ x, foldedSetIterable iter X.env x = pure x := by intro _; rfl) : SS X W (a1 ++ a2) (.For tg iter body [] pos) (tFor wi g tb) (mFor ws mi mg mb) := by
  refine ⟨ps_for hp hc hi.pi hg.pg hb.ps hs, fun F O E σ H D' R s => hi.rd F O E σ H _ R (s.bnd.mono (fun its E1 k O1 H1 J R1 l1 wk => ?_) (KXs.of))⟩
  obtain ⟨G, Y, w, hG, hY⟩ := wk.ex
  have ag : ∀ {σ1 σ2 σ3 : L2.St}, Agr (a1 ++ a2) σ1 σ2 → Agr (a1 ++ a2) σ2 σ3 → Agr (a1 ++ a2) σ1 σ3 := fun h h2 i hi => (h2 i hi).trans (h i hi)
  refine for_it w (fun i σ2 H2 => ∃ O2 E2, Rel X.K F O2 E2 σ2 H2 ∧ Le O1 H1 O2 H2 ∧ Agr (a1 ++ a2) σ σ2 ∧ i ≤ its.length ∧ Sat (forGo ws mg mb (its.drop i) E2) (KS X.K F (a1 ++ a2) σ O H D') (KXs X.K X.mg F (a1 ++ a2) σ O H W)) ⟨O1, E1, R1, Le.refl _ _, Agr.refl, Nat.zero_le _, k⟩ ?_ ?_ ?_
  · rintro i σ2 H2 _ ⟨O2, E2, R2, l2, _⟩
    exact hG O2 H2 l2
  · rintro i x σ2 H2 H3 hi ⟨O2, E2, R2, l2, g2, _, s2⟩ y
    have hd : its.drop i = its[i] :: its.drop (i + 1) := List.drop_eq_getElem_cons hi
    rw [hd] at s2
    unfold forGo at s2
    obtain ⟨gr, rx⟩ := hY O2 H2 i x H3 its[i] R2.trk l2 (List.getElem?_eq_getElem hi) y
    cases eg : mg its[i] E2 with
    | none => rw [eg] at s2; exact s2.elim
    | some E3 =>
      rw [eg] at s2
      dsimp only at s2
      refine hg.rd F O2 E2 σ2 H3 x its[i] E3 _ (R2.grow gr) rx eg fun σ3 R3 _ g3 => ?_
      have l3 : Le O1 H1 O2 H3 := l2.trans gr.le
      have g3' : Agr (a1 ++ a2) σ σ3 := ag g2 (Agr.left g3)
      refine hb.rd F O2 E3 σ3 H3 _ R3 ?_
      cases em : mb E3 with
      | bad => rw [em] at s2; exact s2.elim
      | ex z E4 =>
        rw [em] at s2
        intro O4 σ4 H4 c dd R4 l4 g4 ex
        exact s2 O4 σ4 H4 c dd R4 ((l1.trans l3).trans l4) (ag g3' (Agr.right g4)) ex
      | ok f E4 =>
        rw [em] at s2
        intro O4 σ4 H4 v4 R4 l4 g4
        have l5 : Le O1 H1 O4 H4 := l3.trans l4
        have g5 : Agr (a1 ++ a2) σ σ4 := ag g3' (Agr.right g4)
        cases f with
        | nx => exact ⟨O4, wipeE E4 ws, Rel.forgets R4 ws, l5, g5, hi, s2⟩
        | ct => exact ⟨O4, wipeE E4 ws, Rel.forgets R4 ws, l5, g5, hi, s2⟩
        | bk => exact s2 O4 σ4 H4 v4 (Rel.forgets R4 ws) (l1.trans l5) g5
        | rt d => exact s2 O4 σ4 H4 v4 R4 (l1.trans l5) g5
  · rintro σ2 H2 ⟨O2, E2, R2, l2, g2, _, s2⟩
    rw [List.drop_length] at s2
    exact s2 O2 σ2 H2 .non R2 (l1.trans l2) g2
end
end Bt
namespace Bt
open PySem L2
section
variable {K : PySem.W.Frag} {F : Frm} {O : List Addr} {E : En} {σ : L2.St} {H : Hp}
theorem Rel.toOwn {p : Addr} {vs : HO} {ds : Ob} {i : Nat} (R : Rel K ((p, vs) :: F) O E σ H) (r : RpO K (Mask O H) vs ds) (hF : ∀ x ∈ F, x.1 ≠ p) (hi : i < E.length) : Rel K F O (E.set i (.ow ds)) (σ.set i (some (.ref p))) H := by
  obtain ⟨hp, hh⟩ := R.frm _ List.mem_cons_self
  have hl : i < σ.length := by rw [← R.len]; exact hi
  refine ⟨by rw [List.length_set, List.length_set]; exact R.len, R.trk, fun j s e => ?_, fun j k ds es q e1 e2 e3 e4 => ?_, fun x hx => R.frm x (List.mem_cons_of_mem _ hx), fun j ds q e1 e2 x hx => ?_⟩
  · by_cases h : i = j
    · subst h
      rw [List.getElem?_set_self hi] at e
      cases e
      rw [List.getElem?_set_self hl]
      exact ⟨p, vs, rfl, hp, hh, r⟩
    · rw [List.getElem?_set_ne h] at e
      rw [List.getElem?_set_ne h]
      exact R.slot j s e
  · by_cases h1 : i = j
    · by_cases h2 : i = k
      · rw [← h1, ← h2]
      · subst h1
        rw [List.getElem?_set_self hl] at e3
        rw [List.getElem?_set_ne h2] at e2 e4
        cases e3
        exact absurd rfl (R.fap k es p e2 e4 _ List.mem_cons_self)
    · by_cases h2 : i = k
      · subst h2
        rw [List.getElem?_set_self hl] at e4
        rw [List.getElem?_set_ne h1] at e1 e3
        cases e4
        exact absurd rfl (R.fap j ds p e1 e3 _ List.mem_cons_self)
      · rw [List.getElem?_set_ne h1] at e1 e3
        rw [List.getElem?_set_ne h2] at e2 e4
        exact R.apart j k ds es q e1 e2 e3 e4
  · by_cases h1 : i = j
    · subst h1
      rw [List.getElem?_set_self hl] at e2
      cases e2
      exact hF x hx
    · rw [List.getElem?_set_ne h1] at e1 e2
      exact R.fap j ds q e1 e2 x (List.mem_cons_of_mem _ hx)
theorem Rel.updOwn {p : Addr} {vs : HO} {ds ds0 : Ob} {i : Nat} (R : Rel K F O E σ H) (h0 : E[i]? = some (.ow ds0)) (hs : σ[i]? = some (some (.ref p))) (r : RpO K (Mask O H) vs ds) : Rel K F O (E.set i (.ow ds)) σ (upd H p vs) ∧ Mask O (upd H p vs) = Mask O H := by
  obtain ⟨q, ws, e, hp, hh, _⟩ := R.slot i _ h0
  rw [hs] at e
  cases e
  have em : Mask O (upd H p vs) = Mask O H := mask_upd_in hp
  have hi : i < E.length := (List.getElem?_eq_some_iff.mp h0).1
  refine ⟨⟨by rw [List.length_set]; exact R.len, fun q hq => ?_, fun j s e => ?_, fun j k d1 d2 q e1 e2 e3 e4 => ?_, fun x hx => ?_, fun j d1 q e1 e2 x hx => ?_⟩, em⟩
  · by_cases z : q = p
    · subst z; rw [upd_same]; exact fun z => nomatch z
    · rw [upd_ne z]; exact R.trk q hq
  · by_cases h : i = j
    · subst h
      rw [List.getElem?_set_self hi] at e
      cases e
      exact ⟨p, vs, hs, hp, upd_same, by rw [em]; exact r⟩
    · rw [List.getElem?_set_ne h] at e
      have z := R.slot j s e
      cases s with
      | un => trivial
      | dat d => obtain ⟨v, e, r⟩ := z; exact ⟨v, e, by rw [em]; exact r⟩
      | ow es =>
        obtain ⟨q, ws, e', hq, hh, r⟩ := z
        have hne : q ≠ p := fun z => h (R.apart i j ds0 es p h0 e hs (by rw [e', z]))
        exact ⟨q, ws, e', hq, by rw [upd_ne hne]; exact hh, by rw [em]; exact r⟩
      | scr ns => obtain ⟨q, e, r⟩ := z; exact ⟨q, e, by rw [em]; exact r⟩
  · have o' : ∀ {j : Nat} {es : Ob}, (E.set i (Sl.ow ds))[j]? = some (.ow es) → ∃ es', E[j]? = some (.ow es') := fun {j es} e => by
      by_cases h : i = j
      · subst h; exact ⟨ds0, h0⟩
      · rw [List.getElem?_set_ne h] at e; exact ⟨es, e⟩
    obtain ⟨a, ea⟩ := o' e1
    obtain ⟨b, eb⟩ := o' e2
    exact R.apart j k a b q ea eb e3 e4
  · obtain ⟨h1, h2⟩ := R.frm x hx
    have hne : x.1 ≠ p := R.fap i ds0 p h0 hs x hx
    exact ⟨h1, by rw [upd_ne hne]; exact h2⟩
  · by_cases h : i = j
    · subst h
      exact R.fap i ds0 q h0 e2 x hx
    · rw [List.getElem?_set_ne h] at e1
      exact R.fap j d1 q e1 e2 x hx
theorem Rel.frz {p : Addr} {ds : List D} {i : Nat} (R : Rel K F O E σ H) (h0 : E[i]? = some ((.ow (.l ds)))) (hs : σ[i]? = some (some (.ref p))) : Rel K F (rmA O p) (E.set i (.dat (.list ds))) σ H ∧ Rp K (Mask (rmA O p) H) (.ref p) (.list ds) := by
  obtain ⟨q, ws, e, hp, hh, r⟩ := R.ownL h0
  rw [hs] at e
  cases e
  have l := mask_rm (O := O) (H := H) (p := p)
  have hi : i < E.length := (List.getElem?_eq_some_iff.mp h0).1
  have rp : Rp K (Mask (rmA O p) H) (.ref p) (.list ds) := .lst (by rw [mask_out (fun z => (mem_rmA.mp z).2 rfl)]; exact hh) (r.mono l)
  refine ⟨⟨by rw [List.length_set]; exact R.len, fun q hq => R.trk q (mem_rmA.mp hq).1, fun j s e => ?_, fun j k ds es q e1 e2 e3 e4 => ?_, fun x hx => ?_, fun j ds q e1 e2 x hx => ?_⟩, rp⟩
  · by_cases h : i = j
    · subst h
      rw [List.getElem?_set_self hi] at e
      cases e
      exact ⟨_, hs, rp⟩
    · rw [List.getElem?_set_ne h] at e
      have z := R.slot j s e
      cases s with
      | un => trivial
      | dat d => obtain ⟨v, e, r⟩ := z; exact ⟨v, e, r.mono l⟩
      | ow es =>
        obtain ⟨q, ws, e', hq, hh, r⟩ := z
        have hne : q ≠ p := fun z => h (R.apart i j _ es p h0 e hs (by rw [e', z]))
        exact ⟨q, ws, e', mem_rmA.mpr ⟨hq, hne⟩, hh, r.mono l⟩
      | scr ns => obtain ⟨q, e, r⟩ := z; exact ⟨q, e, Same.seq l r⟩
  · by_cases h1 : i = j
    · subst h1; rw [List.getElem?_set_self hi] at e1; cases e1
    · by_cases h2 : i = k
      · subst h2; rw [List.getElem?_set_self hi] at e2; cases e2
      · rw [List.getElem?_set_ne h1] at e1
        rw [List.getElem?_set_ne h2] at e2
        exact R.apart j k ds es q e1 e2 e3 e4
  · obtain ⟨h1, h2⟩ := R.frm x hx
    exact ⟨mem_rmA.mpr ⟨h1, R.fap i _ p h0 hs x hx⟩, h2⟩
  · by_cases h : i = j
    · subst h; rw [List.getElem?_set_self hi] at e1; cases e1
    · rw [List.getElem?_set_ne h] at e1
      exact R.fap j ds q e1 e2 x hx
theorem Rel.newApart {p : Addr} (R : Rel K F O E σ H) (h : H p = none) : ∀ x ∈ F, x.1 ≠ p := fun x hx z => by
  have h2 := (R.frm x hx).2
  rw [z, h] at h2
  cases h2
end

structure SF (X : Cx) (W : WX) (e : Expr) (t : TE) (m : M (List D)) : Prop where
  pe : PE X e t
  rd : ∀ F O E σ H (Q : VK), Rel X.K F O E σ H → Sat (m E) (fun ds E' => ∀ O' p vs H', Rel X.K ((p, .lst vs) :: F) O' E' σ H' → (∀ x ∈ F, x.1 ≠ p) → Le O H O' H' → RpAll X.K (Mask O' H') vs ds → Q (.ref p) H') (KX X.K X.mg F σ O H W) → t σ H Q
section
variable {X : Cx} {W : WX} {e a b : Expr} {t ta tb : TE} {m : M D} {pos : Pos}
def mLstF (ms : M (List D)) : M (List D) := bnd ms fun ds => fun E => if ds.length ≤ LIM then .ok ds E else .bad
theorem sf_lst {es : List Expr} {ts : TA} {ms : M (List D)} (h : SA X W es ts ms) : SF X W (.List es pos) (tLst ts) (mLstF ms) := by
  refine ⟨pe_lst h.pa, fun F O E σ H Q R s => h.rd F O E σ H _ R (s.bnd.mono (fun ds E1 k O1 vs H1 R1 l1 r1 => ?_) (fun _ _ k => k))⟩
  split at k
  · rename_i hl
    refine ⟨by rw [r1.length]; exact lim_le hl, fun p np => ?_⟩
    have l2 := mask_cons_new (O := O1) (o := .lst vs) np
    exact k (p :: O1) p vs _ (R1.newF np) (R1.newApart np) (l1.trans l2) (r1.mono l2)
  · exact k.elim
def COkF (K : PySem.W.Frag) (r : List V → Hp → VK → Prop) (f : List D → Option (List D)) : Prop := ∀ O H vs ds z Q, Trk O H → Paired (Rq K O H) vs ds → f ds = some z → (∀ p vs, H p = none → RpAll K (Mask O H) vs z → Q (.ref p) (upd H p (.lst vs))) → r vs H Q
def addL : D → D → Option (List D)
  | .list a, .list b => if a.length + b.length ≤ LIM then some (a ++ b) else none
  | _, _ => none
noncomputable def mulL : D → D → Option (List D)
  | .list a, .int k => if repOk a.length k then some (List.replicate k.toNat a).flatten else none
  | _, _ => none
def listL : List D → Option (List D)
  | [.list ds] => some ds
  | [.tuple ds] => some ds
  | _ => none
def mOpF (f : D → D → Option (List D)) (ma mb : M Ag) : M (List D) := bnd ma fun a => bnd mb fun b => fun E => match rsv E a, rsv E b with
  | some x, some y => lift (f x y) E
  | _, _ => .bad
def mBF (f : List D → Option (List D)) (ms : M (List Ag)) : M (List D) := bnd ms fun as => fun E => match rsvs E as with
  | some ds => lift (f ds) E
  | none => .bad
theorem sf_call {es : List Expr} {ts : TA} {ms : M (List Ag)} {r : List V → Hp → VK → Prop} {f : List D → Option (List D)} (pe : PA X es ts → PE X e (tCB r ts)) (hr : COkF X.K r f) (h : SOs X W es ts ms) : SF X W e (tCB r ts) (mBF f ms) := by
  refine ⟨pe h.pa, ?_⟩
  intro F O E σ H Q R s
  refine h.rd F O E σ H _ R (s.bnd.mono (fun as E1 k O1 vs H1 R1 l1 av => ?_) (fun _ _ k => k))
  cases ea : rsvs E1 as with
  | none => rw [ea] at k; exact k.elim
  | some ds =>
    rw [ea] at k
    obtain ⟨z, hz, k2⟩ := Sat.lift k
    refine hr O1 H1 vs ds z Q R1.trk (R1.rsvs av ea) hz fun p ws np r3 => ?_
    have l3 := mask_cons_new (O := O1) (o := .lst ws) np
    exact k2 (p :: O1) p ws _ (R1.newF np) (R1.newApart np) (l1.trans l3) (r3.mono l3)
def mOwn (i : Nat) (m : M (List D)) : M Fl := bnd m fun ds => fun E => if i < E.length then .ok .nx (E.set i ((.ow (.l ds)))) else .bad
theorem ss_own {i : Nat} {st : Stmt} {m : M (List D)} (hp : PE X e t → PS X st (tAsg t (gName i))) (h : SF X W e t m) : SS X W [i] st (tAsg t (gName i)) (mOwn i m) := by
  refine ⟨hp h.pe, fun F O E σ H D' R s => h.rd F O E σ H _ R (s.bnd.mono (fun ds E1 k O1 p vs H1 R1 hF l1 r => ?_) (KXs.of))⟩
  split at k
  · rename_i hi
    refine k O1 (σ.set i (some (.ref p))) H1 .non (R1.toOwn r hF hi) l1 fun j hj => ?_
    have hne : i ≠ j := fun z => hj (by rw [z]; exact List.mem_cons_self)
    rw [List.getElem?_set_ne hne]
  · exact k.elim
def mApp (i : Nat) (m : M D) : M Fl := fun E => match E[i]? with
  | some ((.ow (.l _))) => (bnd m fun d => fun E => match E[i]? with
    | some ((.ow (.l ds))) => if ds.length < LIM then .ok .nx (E.set i ((.ow (.l (ds ++ [d]))))) else .bad
    | _ => .bad) E
  | _ => .bad
theorem ss_app {i : Nat} {st : Stmt} (hp : PE X e t → PS X st (tDrop (tBM X.K "list" rAppend (tVar i) (tCons t tNil)))) (h : SE X W e t m) : SS X W [] st (tDrop (tBM X.K "list" rAppend (tVar i) (tCons t tNil))) (mApp i m) := by
  refine ⟨hp h.pe, fun F O E σ H D' R s => ?_⟩
  unfold mApp at s
  split at s
  · rename_i ds0 h0
    obtain ⟨p, vs0, e0, hp0, hh0, r0⟩ := R.ownL h0
    refine ⟨.ref p, e0, .inl ⟨rfl, _, SqL.of hh0⟩, h.rd F O E σ H _ R (s.bnd.mono (fun d E1 k O1 v H1 R1 l1 r => ?_) (KXs.of))⟩
    split at k
    · rename_i ds h1
      split at k
      · rename_i hl
        obtain ⟨p', vs, e1, hp1, hh1, r1⟩ := R1.ownL h1
        rw [e0] at e1
        cases e1
        obtain ⟨R2, em⟩ := R1.updOwn (vs := .lst (vs ++ [v])) (ds := .l (ds ++ [d])) h1 e0 (r1.append (.one r))
        refine ⟨p, vs, v, rfl, rfl, hh1, by rw [r1.length]; exact lim_lt hl, k O1 σ _ .non R2 (by unfold Le; rw [em]; exact l1) Agr.refl⟩
      · exact k.elim
    · exact k.elim
  · exact s.elim
def mPut (i : Nat) (mk : M Ag) (m : M D) : M Fl := bnd m fun d => fun E => match E[i]? with
  | some ((.ow (.l _))) => (bnd mk fun a => fun E => match E[i]?, rsv E a with
    | some ((.ow (.l ds))), some (.int k) => match ixN ds.length k with
      | some j => .ok .nx (E.set i ((.ow (.l (ds.set j d)))))
      | none => .bad
    | _, _ => .bad) E
  | _ => .bad
theorem ss_put {i : Nat} {k : Expr} {tk : TE} {mk : M Ag} {st : Stmt} (hp : PE X e t → PE X k tk → PS X st (tAsg t (gSub (tVar i) tk rSetL))) (h : SE X W e t m) (hk : SO X W k tk mk) : SS X W [] st (tAsg t (gSub (tVar i) tk rSetL)) (mPut i mk m) := by
  refine ⟨hp h.pe hk.pe, fun F O E σ H D' R s => h.rd F O E σ H _ R (s.bnd.mono (fun d E1 k1 O1 v H1 R1 l1 r => ?_) (KXs.of))⟩
  split at k1
  · rename_i ds0 h0
    obtain ⟨p, vs0, e0, hp0, hh0, r0⟩ := R1.ownL h0
    refine ⟨.ref p, e0, hk.rd F O1 E1 σ H1 _ R1 (k1.bnd.mono (fun a E2 k2 O2 u H2 R2 l2 av => ?_) (fun x E2 k2 => KX.le l1 _ _ (KXs.of _ _ k2)))⟩
    split at k2
    · rename_i ds kk h1 q
      split at k2
      · rename_i j hj
        obtain ⟨p', vs, e1, hp1, hh1, r1⟩ := R2.ownL h1
        rw [e0] at e1
        cases e1
        obtain ⟨R3, em⟩ := R2.updOwn (vs := .lst (vs.set j v)) (ds := .l (ds.set j d)) h1 e0 (r1.set (r.mono l2) j)
        refine ⟨p, vs, kk, j, rfl, (R2.rsv av q).int, hh1, by rw [r1.length]; exact hj, k2 O2 σ _ .non R3 (by unfold Le; rw [em]; exact l1.trans l2) Agr.refl⟩
      · exact k2.elim
    · exact k2.elim
  · exact k1.elim
def mFrz (i : Nat) : M D := fun E => match E[i]? with
  | some ((.ow (.l ds))) => .ok (.list ds) (E.set i (.dat (.list ds)))
  | some (.dat d) => .ok d E
  | _ => .bad
theorem se_frz {i : Nat} (h : PE X e (tVar i)) : SE X W e (tVar i) (mFrz i) := by
  refine ⟨h, fun F O E σ H Q R s => ?_⟩
  unfold mFrz at s
  split at s
  · rename_i ds h0
    obtain ⟨p, vs, e0, hp, hh, r⟩ := R.ownL h0
    obtain ⟨R2, r2⟩ := R.frz h0 e0
    exact ⟨_, e0, s (rmA O p) _ H R2 mask_rm r2⟩
  · rename_i d h0
    obtain ⟨v, e0, r⟩ := R.slot i _ h0
    exact ⟨v, e0, s O v H R (Le.refl O H) r⟩
  · exact s.elim
def mAug (f : Int → Int → Int) (i : Nat) (m : M D) : M Fl := fun E => match E[i]? with
  | some (.dat (.int x)) => (bnd m fun d => fun E => match d with
    | .int y => if i < E.length then .ok .nx (E.set i (.dat (.int (f x y)))) else .bad
    | _ => .bad) E
  | _ => .bad
end
structure SFO (X : Cx) (W : WX) (e : Expr) (t : TE) (m : M Ob) : Prop where
  pe : PE X e t
  rd : ∀ F O E σ H (Q : VK), Rel X.K F O E σ H → Sat (m E) (fun ob E' => ∀ O' p ho H', Rel X.K ((p, ho) :: F) O' E' σ H' → (∀ x ∈ F, x.1 ≠ p) → Le O H O' H' → RpO X.K (Mask O' H') ho ob → Q (.ref p) H') (KX X.K X.mg F σ O H W) → t σ H Q

structure SV (X : Cx) (W : WX) (e : Expr) (t : TE) (m : M Sl) : Prop where
  pe : PE X e t
  rd : ∀ F O E σ H (Q : VK), Rel X.K F O E σ H → Sat (m E) (fun s E' => ∀ O' v H', RelE X.K F O' E' σ H' v (.rt s) → Le O H O' H' → Q v H') (KX X.K X.mg F σ O H W) → t σ H Q
section
variable {K : PySem.W.Frag} {F : Frm} {O : List Addr} {E : En} {σ : L2.St} {H : Hp}
theorem Rel.melt {p : Addr} {ho : HO} {ds : List D} (R : Rel K ((p, ho) :: F) O E σ H) (hF : ∀ x ∈ F, x.1 ≠ p) (r : RpO K (Mask O H) ho (.l ds)) : Rel K F (rmA O p) E σ H ∧ Rp K (Mask (rmA O p) H) (.ref p) (.list ds) := by
  obtain ⟨vs, rfl, r⟩ := r.lst
  refine ⟨R.freeF hF, .lst ?_ (r.mono mask_rm)⟩
  rw [mask_out (fun z => (mem_rmA.mp z).2 rfl)]
  exact (R.frm _ List.mem_cons_self).2
end
def thaw (s : Sl) : M D := match s with
  | .dat d => ret d
  | .ow (.l ds) => ret (.list ds)
  | _ => stuck
section
variable {X : Cx} {W : WX} {e : Expr} {t : TE} {pos : Pos}
def mDat (m : M D) : M Sl := bnd m fun d => ret (.dat d)
def mObj (m : M Ob) : M Sl := bnd m fun o => ret (.ow o)
def mLstO (m : M (List D)) : M Ob := bnd m fun ds => ret (.l ds)
theorem SE.sv {m : M D} (h : SE X W e t m) : SV X W e t (mDat m) := ⟨h.pe, fun F O E σ H Q R s => h.rd F O E σ H Q R (s.bnd.mono (fun d E' k O' v H' R' l r => k O' v H' ⟨R', r⟩ l) (fun _ _ k => k))⟩
theorem SF.o {m : M (List D)} (h : SF X W e t m) : SFO X W e t (mLstO m) := ⟨h.pe, fun F O E σ H Q R s => h.rd F O E σ H Q R (s.bnd.mono (fun ds E' k O' p vs H' R' hF l r => k O' p (.lst vs) H' R' hF l r) (fun _ _ k => k))⟩
theorem SFO.sv {m : M Ob} (h : SFO X W e t m) : SV X W e t (mObj m) := ⟨h.pe, fun F O E σ H Q R s => h.rd F O E σ H Q R (s.bnd.mono (fun ob E' k O' p ho H' R' hF l r => k O' (.ref p) H' ⟨p, ho, rfl, R', hF, r⟩ l) (fun _ _ k => k))⟩
theorem SV.se {m : M Sl} (h : SV X W e t m) : SE X W e t (bnd m thaw) := by
  refine ⟨h.pe, fun F O E σ H Q R s => h.rd F O E σ H Q R (s.bnd.mono (fun z E' k O' v H' R' l => ?_) (fun _ _ k => k))⟩
  cases z with
  | dat d => exact k O' v H' R'.1 l R'.2
  | un => exact k.elim
  | scr _ => exact k.elim
  | ow ob =>
    cases ob with
    | d _ => exact k.elim
    | l ds =>
      obtain ⟨p, ho, rfl, R1, hF, r⟩ := R'
      obtain ⟨R2, r2⟩ := R1.melt hF r
      exact k (rmA O' p) _ H' R2 (l.trans mask_rm) r2
def mGive (i : Nat) : M Sl := fun E => match E[i]? with
  | some (.ow ob) => .ok (.ow ob) (E.set i .un)
  | some (.dat d) => .ok (.dat d) E
  | _ => .bad
def mRetS (m : M Sl) : M Fl := bnd m fun z => ret (.rt z)
theorem ss_retS {m : M Sl} (h : SV X W e t m) : SS X W [] (.Return (some e) pos) (tRet t) (mRetS m) :=
  ⟨ps_ret h.pe, fun F O E σ H D' R s => h.rd F O E σ H _ R (s.bnd.mono (fun z E1 k O1 v H1 R1 l1 => k O1 σ H1 v R1 l1 Agr.refl) (KXs.of))⟩
def mSetS (i : Nat) (m : M Sl) : M Fl := bnd m fun z => fun E => if i < E.length then .ok .nx (E.set i z) else .bad
end
end Bt
namespace Bt
open PySem L2

def spOf (K : PySem.W.Frag) (mg : Str → Option Value) (n : Nat) (Fm : M Sl) : Sp := fun vs H Q Ex => vs.length = n ∧ ∃ F O as, Rel K F O as (vs.map some) H ∧
  Sat (Fm as) (fun z as' => ∀ O' v H', RelE K F O' as' (vs.map some) H' v (.rt z) → Le O H O' H' → Q v H')
    (fun x as' => ∀ O' H' c dd, Rel K F O' as' (vs.map some) H' → Le O H O' H' → ExR K mg O' H' x c dd → Ex c dd H')
def okAsg (asg : List Nat) (as : List Sl) : Bool := asg.all fun i => match as[i]? with
  | some (.ow _) => false
  | _ => true
def parBack : List Sl → En → Option (List Sl)
  | [], _ => some []
  | .ow _ :: as, .ow ds :: E => (parBack as E).map (.ow ds :: ·)
  | .ow _ :: _, _ => none
  | s :: as, _ :: E => (parBack as E).map (s :: ·)
  | _ :: _, [] => none
def mFn (asg : List Nat) (nl : Nat) (m : M Fl) : M Sl := fun as => if okAsg asg as then match m (as ++ List.replicate nl .un) with
  | .ok f E' => match f, parBack as E' with
    | .rt d, some as' => .ok d as'
    | .nx, some as' => .ok (.dat .none) as'
    | _, _ => .bad
  | .ex x E' => match parBack as E' with
    | some as' => .ex x as'
    | none => .bad
  | .bad => .bad
  else .bad
theorem parBack_get : ∀ {as : List Sl} {E : En} {as' : List Sl}, parBack as E = some as' → as'.length = as.length ∧ ∀ (i : Nat) (s' : Sl), as'[i]? = some s' → (∃ ds0 ds, as[i]? = some (.ow ds0) ∧ E[i]? = some (.ow ds) ∧ s' = .ow ds) ∨ (as[i]? = some s' ∧ ∀ ds, s' ≠ .ow ds)
  | [], _, as', h => by
    cases h
    exact ⟨rfl, fun i s' e => by simp at e⟩
  | a :: as, E, as', h => by
    cases E with
    | nil => cases a <;> cases h
    | cons e E =>
      have key : ∀ (z : Sl), (parBack as E).map (z :: ·) = some as' → ((∃ ds0 ds, a = .ow ds0 ∧ e = .ow ds ∧ z = .ow ds) ∨ (z = a ∧ ∀ ds, a ≠ .ow ds)) → as'.length = (a :: as).length ∧ ∀ (i : Nat) (s' : Sl), as'[i]? = some s' → (∃ ds0 ds, (a :: as)[i]? = some (.ow ds0) ∧ (e :: E)[i]? = some (.ow ds) ∧ s' = .ow ds) ∨ ((a :: as)[i]? = some s' ∧ ∀ ds, s' ≠ .ow ds) := by
        intro z hz hc
        cases q : parBack as E with
        | none => rw [q] at hz; cases hz
        | some bs =>
          rw [q] at hz
          cases hz
          obtain ⟨l, ih⟩ := parBack_get q
          refine ⟨by rw [List.length_cons, List.length_cons, l], fun i s' es => ?_⟩
          cases i with
          | zero =>
            cases es
            rcases hc with ⟨d0, d1, rfl, rfl, rfl⟩ | ⟨rfl, hn⟩
            · exact .inl ⟨d0, d1, rfl, rfl, rfl⟩
            · exact .inr ⟨rfl, hn⟩
          | succ i => exact ih i s' es
      cases a with
      | ow d0 =>
        cases e with
        | ow d1 => exact key (.ow d1) h (.inl ⟨d0, d1, rfl, rfl, rfl⟩)
        | un => cases h
        | dat _ => cases h
        | scr _ => cases h
      | un => exact key .un h (.inr ⟨rfl, fun _ z => nomatch z⟩)
      | dat d => exact key (.dat d) h (.inr ⟨rfl, fun _ z => nomatch z⟩)
      | scr d => exact key (.scr d) h (.inr ⟨rfl, fun _ z => nomatch z⟩)
section
variable {K : PySem.W.Frag} {F : Frm} {O : List Addr} {as : List Sl} {vs : List V} {H : Hp}
theorem Rel.start {N : List Str} (R : Rel K F O as (vs.map some) H) (hN : vs.length ≤ N.length) : Rel K F O (as ++ List.replicate (N.length - vs.length) .un) (L2.start N vs) H := by
  have hl : as.length = vs.length := by rw [R.len, List.length_map]
  have g : ∀ (i : Nat) (s : Sl), (as ++ List.replicate (N.length - vs.length) Sl.un)[i]? = some s → (as[i]? = some s ∧ (L2.start N vs)[i]? = (vs.map some)[i]?) ∨ s = .un := fun i s e => by
    by_cases h : i < as.length
    · rw [List.getElem?_append_left h] at e
      exact .inl ⟨e, by unfold L2.start; rw [List.getElem?_append_left (by rw [List.length_map]; omega)]⟩
    · rw [List.getElem?_append_right (by omega)] at e
      have := List.mem_of_getElem? e
      exact .inr (List.eq_of_mem_replicate this)
  refine ⟨by unfold L2.start; rw [List.length_append, List.length_append, List.length_map, List.length_replicate, List.length_replicate, hl], R.trk, fun i s e => ?_, fun i j ds es p e1 e2 e3 e4 => ?_, R.frm, fun i ds p e1 e2 => ?_⟩
  · rcases g i s e with ⟨h1, h2⟩ | h
    · rw [h2]; exact R.slot i s h1
    · subst h; trivial
  · rcases g i _ e1 with ⟨h1, h2⟩ | h
    · rcases g j _ e2 with ⟨h3, h4⟩ | h
      · rw [h2] at e3; rw [h4] at e4
        exact R.apart i j ds es p h1 h3 e3 e4
      · cases h
    · cases h
  · rcases g i _ e1 with ⟨h1, h2⟩ | h
    · rw [h2] at e2
      exact R.fap i ds p h1 e2
    · cases h
theorem Rel.finish {N : List Str} {asg : List Nat} {F' : Frm} {O' : List Addr} {E' : En} {σ' : L2.St} {H' : Hp} {as' : List Sl} (R : Rel K F O as (vs.map some) H) (R' : Rel K F' O' E' σ' H') (l : Le O H O' H') (ag : Agr asg (L2.start N vs) σ') (ok : okAsg asg as = true) (hb : parBack as E' = some as') : Rel K F' O' as' (vs.map some) H' := by
  obtain ⟨hl, hg⟩ := parBack_get hb
  have st : ∀ (i : Nat) (ds : Ob), as[i]? = some (.ow ds) → σ'[i]? = (vs.map some)[i]? := fun i ds e => by
    have hi : i < (vs.map some).length := by rw [← R.len]; exact (List.getElem?_eq_some_iff.mp e).1
    have hn : i ∉ asg := fun z => by
      have := List.all_eq_true.mp ok i z
      rw [e] at this
      cases this
    rw [ag i hn]
    unfold L2.start
    rw [List.getElem?_append_left hi]
  refine ⟨by rw [hl]; exact R.len, R'.trk, fun i s e => ?_, fun i j ds es p e1 e2 e3 e4 => ?_, R'.frm, fun i ds p e1 e2 => ?_⟩
  · rcases hg i s e with ⟨d0, d1, h1, h2, rfl⟩ | ⟨h1, hn⟩
    · have z := R'.slot i _ h2
      rw [st i d0 h1] at z
      exact z
    · have z := R.slot i s h1
      cases s with
      | un => trivial
      | dat d => obtain ⟨v, e, r⟩ := z; exact ⟨v, e, r.mono l⟩
      | ow ds => exact absurd rfl (hn ds)
      | scr ns => obtain ⟨q, e, r⟩ := z; exact ⟨q, e, Same.seq l r⟩
  · rcases hg i _ e1 with ⟨d0, d1, h1, h2, q1⟩ | ⟨h1, hn⟩
    · rcases hg j _ e2 with ⟨c0, c1, h3, h4, q2⟩ | ⟨h3, hn⟩
      · rw [← st i d0 h1] at e3
        rw [← st j c0 h3] at e4
        exact R'.apart i j d1 c1 p h2 h4 e3 e4
      · exact absurd rfl (hn es)
    · exact absurd rfl (hn ds)
  · rcases hg i _ e1 with ⟨d0, d1, h1, h2, q1⟩ | ⟨h1, hn⟩
    · rw [← st i d0 h1] at e2
      exact R'.fap i d1 p h2 e2
    · exact absurd rfl (hn ds)
end
theorem fn_rd {X : Cx} {W : WX} {asg : List Nat} {body : List Stmt} {t : TS} {m : M Fl} {N : List Str} {n : Nat} {vs : List V} {H : Hp} {Q : VK} {Ex : XK} (h : SSs X W asg body t m) (hN : n ≤ N.length) (hW : ∀ c dd σ H', Ex c dd H' → W c dd σ H') (hsp : spOf X.K X.mg n (mFn asg (N.length - n) m) vs H Q Ex) : t { nx := fun _ H' => Q .non H', rt := Q } (L2.start N vs) H := by
  obtain ⟨rfl, F, O, as, R, s⟩ := hsp
  refine h.rd F O _ _ H _ (R.start hN) ?_
  unfold mFn at s
  split at s
  · rename_i ok
    cases em : m (as ++ List.replicate (N.length - vs.length) .un) with
    | bad => rw [em] at s; exact s.elim
    | ex x E' =>
      rw [em] at s
      dsimp only at s
      cases hb : parBack as E' with
      | none => rw [hb] at s; exact s.elim
      | some as' =>
        rw [hb] at s
        intro O' σ' H' c dd R' l ag ex
        exact hW _ _ _ _ (s O' H' c dd (R.finish R' l ag ok hb) l ex)
    | ok f E' =>
      rw [em] at s
      dsimp only at s
      intro O' σ' H' v R' l ag
      cases hb : parBack as E' with
      | none => rw [hb] at s; cases f <;> exact s.elim
      | some as' =>
        rw [hb] at s
        cases f with
        | nx => exact s O' .non H' ⟨R.finish R' l ag ok hb, .non⟩ l
        | bk => exact s.elim
        | ct => exact s.elim
        | rt z =>
          cases z with
          | un => exact R'.elim
          | scr _ => exact R'.elim
          | dat d => exact s O' v H' ⟨R.finish R'.1 l ag ok hb, R'.2⟩ l
          | ow ob =>
            obtain ⟨p, ho, rfl, R1, hF, r⟩ := R'
            exact s O' _ H' ⟨p, ho, rfl, R.finish R1 l ag ok hb, hF, r⟩ l
  · exact s.elim
section
variable {P : Program} {w : World} {K : PySem.W.Frag} {mg : Str → Option Value} {base : Heap}
theorem fn_okX {x qual : Str} {st : Stmt} {f : Addr} {fd : FuncData} {N ps : List Str} {k : Nat} {asg : List Nat} {m : M Fl} (Fn : Fun K x qual st f fd) (S : FnScope N ps (defScope st)) (hN : ps.length ≤ N.length)
    (hbody : ∀ (cdv : Value) (A : Around) (outer : List Env) (s : Shared) (H : Hp) (E : XK), Room k (A.deeper (PyProof.Rows.envOfC qual (defScope st) s.heap.objs.size f cdv)) → ∃ t, SSs (cxOf (L2.CX P w) P w K mg base N qual (defScope st) f cdv A outer s H E) (fun c dd _ H' => E c dd H') asg (defBody st) t m) :
    FnOk P w K mg base (L2.CX P w) (k + 1) f fd ps (spOf K mg ps.length (mFn asg (N.length - ps.length) m)) := by
  refine Fn.okX S (fun vs H Q E h => h.1) (fun cdv A outer s H vs Q E hr h => ?_)
  obtain ⟨t, hS⟩ := hbody cdv A outer s H E hr
  exact ⟨t, hS.ps, fn_rd hS hN (fun _ _ _ _ z => z) h⟩
theorem fn_ok0 {x qual : Str} {st : Stmt} {f : Addr} {fd : FuncData} {N ps : List Str} {k : Nat} {asg : List Nat} {m : M Fl} (Fn : Fun K x qual st f fd) (S : FnScope N ps (defScope st)) (hN : ps.length ≤ N.length)
    (hbody : ∀ (cdv : Value) (A : Around) (outer : List Env) (s : Shared) (H : Hp) (E : XK), Room k (A.deeper (PyProof.Rows.envOfC qual (defScope st) s.heap.objs.size f cdv)) → ∃ t, SSs (cxOf CX0 P w K mg base N qual (defScope st) f cdv A outer s H E).nox W0 asg (defBody st) t m) :
    FnOk P w K mg base CX0 (k + 1) f fd ps (fun vs H Q E => spOf K mg ps.length (mFn asg (N.length - ps.length) m) vs H Q E0) := by
  refine Fn.ok S (fun vs H Q E h => h.1) (fun cdv A outer s H vs Q E hr h => ?_)
  obtain ⟨t, hS⟩ := hbody cdv A outer s H E hr
  exact ⟨t, hS.ps, fn_rd hS hN (fun _ _ _ _ z => z) h⟩
end

def argSl (E : En) : List Ag → Option (List Sl)
  | [] => some []
  | .d d :: r => (argSl E r).map (.dat d :: ·)
  | .r i :: r => match E[i]? with
    | some (.dat d) => (argSl E r).map (.dat d :: ·)
    | some (.ow d) => (argSl E r).map (.ow d :: ·)
    | some (.scr d) => (argSl E r).map (.scr d :: ·)
    | some .un => (argSl E r).map (.un :: ·)
    | none => none
def isOwn (E : En) (i : Nat) : Bool := match E[i]? with
  | some (.ow _) => true
  | _ => false
def apartA (E : En) : List Ag → Bool
  | [] => true
  | .d _ :: r => apartA E r
  | .r i :: r => (!isOwn E i || !(r.any fun a => match a with | .r j => i == j | _ => false)) && apartA E r
def putB (E : En) : List Ag → List Sl → Option En
  | [], [] => some E
  | .d _ :: r, _ :: as => putB E r as
  | .r i :: r, a :: as => if isOwn E i then match a with
      | .ow ds => putB (E.set i (.ow ds)) r as
      | _ => none
    else putB E r as
  | _, _ => none
def mCallO (Fm : M Sl) (dds : List D) (ms : M (List Ag)) : M Sl := bnd ms fun ags => fun E => if apartA E ags then match argSl E ags with
  | none => .bad
  | some as => match Fm (as ++ dds.map .dat) with
    | .ok d as' => match putB E ags (as'.take ags.length) with
      | some E' => .ok d E'
      | none => .bad
    | .ex x as' => match putB E ags (as'.take ags.length) with
      | some E' => .ex x E'
      | none => .bad
    | .bad => .bad
  else .bad
def mCall (Fm : M Sl) (dds : List D) (ms : M (List Ag)) : M D := bnd (mCallO Fm dds ms) thaw
end Bt
namespace Bt
open PySem L2
def isRef (ags : List Ag) (j : Nat) : Bool := ags.any (fun a => match a with | .r i => i == j | _ => false)
def othF (E : En) (σ : L2.St) (H : Hp) (ags : List Ag) : Frm := (List.range E.length).filterMap fun j => if isRef ags j then none else match E[j]?, σ[j]? with
  | some (.ow _), some (some (.ref p)) => (H p).map fun o => (p, o)
  | _, _ => none
theorem isRef_of {ags : List Ag} {j k : Nat} (h : ags[k]? = some (.r j)) : isRef ags j = true := by
  unfold isRef
  exact List.any_eq_true.mpr ⟨_, List.mem_of_getElem? h, by simp⟩
theorem argSl_get {E : En} : ∀ {ags : List Ag} {as : List Sl}, argSl E ags = some as → as.length = ags.length ∧ ∀ (k : Nat) (s : Sl), as[k]? = some s → (∃ d, ags[k]? = some (.d d) ∧ s = .dat d) ∨ (∃ i, ags[k]? = some (.r i) ∧ E[i]? = some s)
  | [], as, h => by cases h; exact ⟨rfl, fun k s e => by simp at e⟩
  | a :: ags, as, h => by
    have key : ∀ z, (argSl E ags).map (z :: ·) = some as → ((∃ d, a = .d d ∧ z = .dat d) ∨ (∃ i, a = .r i ∧ E[i]? = some z)) → as.length = (a :: ags).length ∧ ∀ (k : Nat) (s : Sl), as[k]? = some s → (∃ d, (a :: ags)[k]? = some (.d d) ∧ s = .dat d) ∨ (∃ i, (a :: ags)[k]? = some (.r i) ∧ E[i]? = some s) := by
      intro z hz hc
      cases q : argSl E ags with
      | none => rw [q] at hz; cases hz
      | some bs =>
        rw [q] at hz
        cases hz
        obtain ⟨l, ih⟩ := argSl_get q
        refine ⟨by rw [List.length_cons, List.length_cons, l], fun k s e => ?_⟩
        cases k with
        | zero =>
          cases e
          rcases hc with ⟨d, rfl, rfl⟩ | ⟨i, rfl, e⟩
          · exact .inl ⟨d, rfl, rfl⟩
          · exact .inr ⟨i, rfl, e⟩
        | succ k => exact ih k s e
    cases a with
    | d d => exact key (.dat d) h (.inl ⟨d, rfl, rfl⟩)
    | r i =>
      unfold argSl at h
      cases q : E[i]? with
      | none => rw [q] at h; cases h
      | some s =>
        rw [q] at h
        cases s with
        | un => exact key .un h (.inr ⟨i, rfl, q⟩)
        | dat d => exact key (.dat d) h (.inr ⟨i, rfl, q⟩)
        | ow d => exact key (.ow d) h (.inr ⟨i, rfl, q⟩)
        | scr d => exact key (.scr d) h (.inr ⟨i, rfl, q⟩)
theorem apartA_get {E : En} : ∀ {ags : List Ag}, apartA E ags = true → ∀ {k j i : Nat}, ags[k]? = some (.r i) → ags[j]? = some (.r i) → isOwn E i = true → k = j
  | [], _, k, j, i, e, _, _ => by simp at e
  | a :: ags, h, k, j, i, e1, e2, ho => by
    cases a with
    | d d =>
      cases k with
      | zero => cases e1
      | succ k =>
        cases j with
        | zero => cases e2
        | succ j => rw [apartA_get (ags := ags) h e1 e2 ho]
    | r i0 =>
      have h' : ((!isOwn E i0 || !(isRef ags i0)) && apartA E ags) = true := by
        unfold apartA at h
        unfold isRef
        have e : (fun a : Ag => match a with | .r j => i0 == j | _ => false) = (fun a : Ag => match a with | .r i => i == i0 | _ => false) := by
          funext a
          cases a with
          | d _ => rfl
          | r j => exact Bool.beq_comm
        rw [← e]
        exact h
      rw [Bool.and_eq_true] at h'
      have nr : isOwn E i0 = true → isRef ags i0 = false := fun z => by
        have := h'.1
        rw [z] at this
        simpa using this
      cases k with
      | zero =>
        cases e1
        cases j with
        | zero => rfl
        | succ j =>
          have := isRef_of (ags := ags) (k := j) e2
          rw [nr ho] at this
          cases this
      | succ k =>
        cases j with
        | zero =>
          cases e2
          have := isRef_of (ags := ags) (k := k) e1
          rw [nr ho] at this
          cases this
        | succ j => rw [apartA_get (ags := ags) h'.2 e1 e2 ho]
theorem isOwn_get {E : En} {i : Nat} (h : isOwn E i = true) : ∃ ds, E[i]? = some (.ow ds) := by
  unfold isOwn at h
  split at h
  · rename_i ds e; exact ⟨ds, e⟩
  · cases h
theorem isOwn_of {E : En} {i : Nat} {ds : Ob} (h : E[i]? = some (.ow ds)) : isOwn E i = true := by
  unfold isOwn
  rw [h]
theorem isOwn_set {E : En} {i j : Nat} {ds : Ob} (h : isOwn E i = true) : isOwn (E.set i (.ow ds)) j = isOwn E j := by
  by_cases e : i = j
  · subst e
    obtain ⟨d, hd⟩ := isOwn_get h
    rw [h, isOwn_of (ds := ds) (List.getElem?_set_self (List.getElem?_eq_some_iff.mp hd).1)]
  · unfold isOwn
    rw [List.getElem?_set_ne e]
theorem apartA_set {E : En} {i : Nat} {ds : Ob} (h : isOwn E i = true) : ∀ ags : List Ag, apartA (E.set i (.ow ds)) ags = apartA E ags
  | [] => rfl
  | .d _ :: r => by unfold apartA; exact apartA_set h r
  | .r j :: r => by unfold apartA; rw [apartA_set h r, isOwn_set h]
theorem putB_get : ∀ {ags : List Ag} {E : En} {as : List Sl} {E' : En}, putB E ags as = some E' → apartA E ags = true → as.length = ags.length ∧ E'.length = E.length ∧
    ∀ j : Nat, (∃ (k : Nat) (ds : Ob), ags[k]? = some (.r j) ∧ isOwn E j = true ∧ as[k]? = some (.ow ds) ∧ E'[j]? = some (.ow ds)) ∨ ((isOwn E j = false ∨ isRef ags j = false) ∧ E'[j]? = E[j]?)
  | [], E, as, E', h, _ => by
    cases as with
    | nil => cases h; exact ⟨rfl, rfl, fun j => .inr ⟨.inr rfl, rfl⟩⟩
    | cons a as => cases h
  | .d d :: ags, E, as, E', h, ha => by
    cases as with
    | nil => cases h
    | cons a as =>
      obtain ⟨h1, h2, h3⟩ := putB_get (ags := ags) (E := E) (as := as) h ha
      refine ⟨by rw [List.length_cons, List.length_cons, h1], h2, fun j => ?_⟩
      rcases h3 j with ⟨k, ds, e1, e2, e3, e4⟩ | ⟨c, e⟩
      · exact .inl ⟨k + 1, ds, e1, e2, e3, e4⟩
      · exact .inr ⟨c.imp id fun z => by unfold isRef at z ⊢; rw [List.any_cons, z]; rfl, e⟩
  | .r i :: ags, E, as, E', h, ha => by
    cases as with
    | nil => cases h
    | cons a as =>
      have ha2 : apartA E ags = true := by unfold apartA at ha; exact (Bool.and_eq_true _ _ ▸ ha).2
      unfold putB at h
      by_cases ho : isOwn E i = true
      · rw [if_pos ho] at h
        cases a <;> first | (cases h; done) | skip
        rename_i ds
        obtain ⟨h1, h2, h3⟩ := putB_get (ags := ags) (E := E.set i (.ow ds)) (as := as) h (by rw [apartA_set ho]; exact ha2)
        refine ⟨by rw [List.length_cons, List.length_cons, h1], by rw [h2, List.length_set], fun j => ?_⟩
        by_cases e : i = j
        · subst e
          refine .inl ⟨0, ds, rfl, ho, rfl, ?_⟩
          obtain ⟨d0, hd⟩ := isOwn_get ho
          rcases h3 i with ⟨k, ds', e1, e2, e3, e4⟩ | ⟨c, e⟩
          · exact absurd (apartA_get ha (k := 0) (j := k + 1) (i := i) rfl e1 ho) (by omega)
          · rw [e, List.getElem?_set_self (List.getElem?_eq_some_iff.mp hd).1]
        · rcases h3 j with ⟨k, ds', e1, e2, e3, e4⟩ | ⟨c, q⟩
          · exact .inl ⟨k + 1, ds', e1, by rw [isOwn_set ho] at e2; exact e2, e3, e4⟩
          · refine .inr ⟨?_, by rw [q, List.getElem?_set_ne e]⟩
            rcases c with c | c
            · rw [isOwn_set ho] at c; exact .inl c
            · refine .inr ?_
              unfold isRef at c ⊢
              rw [List.any_cons, c]
              simpa using e
      · rw [if_neg ho] at h
        have ho' : isOwn E i = false := by simpa using ho
        obtain ⟨h1, h2, h3⟩ := putB_get (ags := ags) (E := E) (as := as) h ha2
        refine ⟨by rw [List.length_cons, List.length_cons, h1], h2, fun j => ?_⟩
        rcases h3 j with ⟨k, ds, e1, e2, e3, e4⟩ | ⟨c, e⟩
        · exact .inl ⟨k + 1, ds, e1, e2, e3, e4⟩
        · by_cases z : i = j
          · subst z; exact .inr ⟨.inl ho', e⟩
          · refine .inr ⟨c.imp id fun c => ?_, e⟩
            unfold isRef at c ⊢
            rw [List.any_cons, c]
            simpa using z
end Bt
namespace Bt
open PySem L2
theorem Paired.get2 {α β : Type} {P : α → β → Prop} : ∀ {xs : List α} {ys : List β} {k : Nat} {y : β}, Paired P xs ys → ys[k]? = some y → ∃ x, xs[k]? = some x ∧ P x y
  | _, _, _, _, .nil, e => by simp at e
  | _, _, 0, _, .cons h _, e => by cases e; exact ⟨_, rfl, h⟩
  | _, _, k + 1, _, .cons _ r, e => Paired.get2 (k := k) r e
theorem othF_mem {E : En} {σ : L2.St} {H : Hp} {ags : List Ag} {x : Addr × HO} (h : x ∈ othF E σ H ags) : ∃ (j : Nat) (ds : Ob), isRef ags j = false ∧ E[j]? = some (.ow ds) ∧ σ[j]? = some (some (.ref x.1)) ∧ H x.1 = some x.2 := by
  unfold othF at h
  obtain ⟨j, _, e⟩ := List.mem_filterMap.mp h
  by_cases c : isRef ags j = true
  · rw [if_pos c] at e; cases e
  · have c' : isRef ags j = false := by simpa using c
    rw [if_neg c] at e
    split at e
    · rename_i ds p e1 e2
      cases q : H p with
      | none => rw [q] at e; cases e
      | some o =>
        rw [q] at e
        cases e
        exact ⟨j, ds, c', e1, e2, q⟩
    · cases e
theorem othF_in {E : En} {σ : L2.St} {H : Hp} {ags : List Ag} {j : Nat} {ds : Ob} {p : Addr} {o : HO} (c : isRef ags j = false) (e1 : E[j]? = some (.ow ds)) (e2 : σ[j]? = some (some (.ref p))) (q : H p = some o) : (p, o) ∈ othF E σ H ags := by
  unfold othF
  refine List.mem_filterMap.mpr ⟨j, List.mem_range.mpr (List.getElem?_eq_some_iff.mp e1).1, ?_⟩
  have c' : ¬ isRef ags j = true := by rw [c]; exact Bool.false_ne_true
  rw [if_neg c', e1, e2]
  show (H p).map _ = _
  rw [q]
  rfl
section
variable {K : PySem.W.Frag} {F : Frm} {O : List Addr} {E : En} {σ : L2.St} {H : Hp} {vs dvs : List V} {ags : List Ag} {dds : List D} {as : List Sl}
theorem call_in (R : Rel K F O E σ H) (av : Paired (AgV K σ O H) vs ags) (hd : RpAll K (Mask O H) dvs dds) (ap : apartA E ags = true) (ha : argSl E ags = some as) : Rel K (F ++ othF E σ H ags) O (as ++ dds.map .dat) ((vs ++ dvs).map some) H := by
  obtain ⟨la, ga⟩ := argSl_get ha
  have lv : vs.length = ags.length := av.length
  have g : ∀ (k : Nat) (s : Sl), (as ++ dds.map Sl.dat)[k]? = some s → (∃ d v, s = .dat d ∧ ((vs ++ dvs).map some)[k]? = some (some v) ∧ Rp K (Mask O H) v d) ∨ (∃ i, ags[k]? = some (.r i) ∧ E[i]? = some s ∧ ((vs ++ dvs).map some)[k]? = σ[i]?) := fun k s e => by
    by_cases h : k < as.length
    · rw [List.getElem?_append_left h] at e
      have hv : k < vs.length := by omega
      rcases ga k s e with ⟨d, e1, rfl⟩ | ⟨i, e1, e2⟩
      · obtain ⟨v, q1, q2⟩ := Paired.get2 av e1
        exact .inl ⟨d, v, rfl, by rw [List.getElem?_map, List.getElem?_append_left hv, q1]; rfl, q2⟩
      · obtain ⟨v, q1, q2⟩ := Paired.get2 av e1
        refine .inr ⟨i, e1, e2, ?_⟩
        rw [List.getElem?_map, List.getElem?_append_left hv, q1]
        exact (show σ[i]? = some (some v) from q2).symm
    · rw [List.getElem?_append_right (by omega), List.getElem?_map] at e
      cases q : dds[k - as.length]? with
      | none => rw [q] at e; cases e
      | some d =>
        rw [q] at e
        cases e
        obtain ⟨v, q1, q2⟩ := hd.get' q
        refine .inl ⟨d, v, rfl, ?_, q2⟩
        rw [List.getElem?_map, List.getElem?_append_right (by omega), show k - vs.length = k - as.length by omega, q1]
        rfl
  refine ⟨by rw [List.length_append, List.length_map, List.length_map, List.length_append, hd.length]; omega, R.trk, fun k s e => ?_, fun k j ds es p e1 e2 e3 e4 => ?_, fun x hx => ?_, fun k ds p e1 e2 x hx => ?_⟩
  · rcases g k s e with ⟨d, v, rfl, q1, q2⟩ | ⟨i, q1, q2, q3⟩
    · exact ⟨v, q1, q2⟩
    · rw [q3]; exact R.slot i s q2
  · rcases g k _ e1 with ⟨d, v, z, _⟩ | ⟨i, q1, q2, q3⟩
    · cases z
    · rcases g j _ e2 with ⟨d, v, z, _⟩ | ⟨i', p1, p2, p3⟩
      · cases z
      · rw [q3] at e3
        rw [p3] at e4
        have := R.apart i i' ds es p q2 p2 e3 e4
        subst this
        exact apartA_get ap q1 p1 (isOwn_of q2)
  · rcases List.mem_append.mp hx with hx | hx
    · exact R.frm x hx
    · obtain ⟨j, ds, c, q1, q2, q3⟩ := othF_mem hx
      obtain ⟨p, ws, e', hp, _⟩ := R.slot j _ q1
      rw [q2] at e'
      cases e'
      exact ⟨hp, q3⟩
  · rcases g k _ e1 with ⟨d, v, z, _⟩ | ⟨i, q1, q2, q3⟩
    · cases z
    · rw [q3] at e2
      rcases List.mem_append.mp hx with hx | hx
      · exact R.fap i ds p q2 e2 x hx
      · obtain ⟨j, es, c, p1, p2, p3⟩ := othF_mem hx
        intro z
        rw [z] at p2
        have := R.apart i j ds es p q2 p1 e2 p2
        subst this
        rw [isRef_of q1] at c
        cases c
theorem call_out {F' : Frm} {O' : List Addr} {H' : Hp} {as' : List Sl} {E' : En} (R : Rel K F O E σ H) (av : Paired (AgV K σ O H) vs ags) (ap : apartA E ags = true) (R' : Rel K (F' ++ othF E σ H ags) O' as' ((vs ++ dvs).map some) H') (l : Le O H O' H') (hb : putB E ags (as'.take ags.length) = some E')
    (hF : ∀ (i : Nat) (ds : Ob) (p : Addr), E[i]? = some (.ow ds) → isRef ags i = false → σ[i]? = some (some (.ref p)) → ∀ x ∈ F', x.1 ≠ p) : Rel K F' O' E' σ H' := by
  obtain ⟨h1, h2, h3⟩ := putB_get hb ap
  have lv : vs.length = ags.length := av.length
  have own : ∀ (k j : Nat) (ds : Ob), ags[k]? = some (.r j) → (as'.take ags.length)[k]? = some (.ow ds) → as'[k]? = some (.ow ds) ∧ ((vs ++ dvs).map some)[k]? = σ[j]? := fun k j ds e1 e2 => by
    have hk : k < ags.length := (List.getElem?_eq_some_iff.mp e1).1
    obtain ⟨v, q1, q2⟩ := Paired.get2 av e1
    refine ⟨by rw [List.getElem?_take_of_lt hk] at e2; exact e2, ?_⟩
    rw [List.getElem?_map, List.getElem?_append_left (by omega), q1]
    exact (show σ[j]? = some (some v) from q2).symm
  -- an owned slot of E' is one of E, with its list
  have key : ∀ (j : Nat) (ds : Ob), E'[j]? = some (.ow ds) → (∃ k : Nat, ags[k]? = some (.r j) ∧ as'[k]? = some (.ow ds) ∧ ((vs ++ dvs).map some)[k]? = σ[j]? ∧ isOwn E j = true) ∨ (E[j]? = some (.ow ds) ∧ isRef ags j = false) := fun j ds e => by
    rcases h3 j with ⟨k, ds', e1, e2, e3, e4⟩ | ⟨c, q⟩
    · rw [e] at e4
      cases e4
      obtain ⟨q1, q2⟩ := own k j ds e1 e3
      exact .inl ⟨k, e1, q1, q2, e2⟩
    · rw [q] at e
      rcases c with c | c
      · rw [isOwn_of e] at c; cases c
      · exact .inr ⟨e, c⟩
  refine ⟨by rw [h2]; exact R.len, R'.trk, fun j s e => ?_, fun i j ds es p e1 e2 e3 e4 => ?_, fun x hx => R'.frm x (List.mem_append_left _ hx), fun i ds p e1 e2 x hx => ?_⟩
  · cases s with
    | un => trivial
    | ow ds =>
      rcases key j ds e with ⟨k, q1, q2, q3, q4⟩ | ⟨q1, q2⟩
      · have z := R'.slot k _ q2
        rw [q3] at z
        exact z
      · obtain ⟨p, ws, e', hp, hh, r⟩ := R.slot j _ q1
        obtain ⟨f1, f2⟩ := R'.frm _ (List.mem_append_right _ (othF_in (σ := σ) q2 q1 e' hh))
        exact ⟨p, ws, e', f1, f2, r.mono l⟩
    | dat d =>
      rcases h3 j with ⟨k, ds', e1, e2, e3, e4⟩ | ⟨c, q⟩
      · rw [e] at e4; cases e4
      · rw [q] at e
        obtain ⟨v, e', r⟩ := R.slot j _ e
        exact ⟨v, e', r.mono l⟩
    | scr ns =>
      rcases h3 j with ⟨k, ds', e1, e2, e3, e4⟩ | ⟨c, q⟩
      · rw [e] at e4; cases e4
      · rw [q] at e
        obtain ⟨v, e', r⟩ := R.slot j _ e
        exact ⟨v, e', Same.seq l r⟩
  · have ow : ∀ (j : Nat) (ds : Ob), E'[j]? = some (.ow ds) → ∃ ds', E[j]? = some (.ow ds') := fun j ds e => by
      rcases key j ds e with ⟨k, q1, q2, q3, q4⟩ | ⟨q1, q2⟩
      · exact isOwn_get q4
      · exact ⟨ds, q1⟩
    obtain ⟨d1, z1⟩ := ow i ds e1
    obtain ⟨d2, z2⟩ := ow j es e2
    exact R.apart i j d1 d2 p z1 z2 e3 e4
  · rcases key i ds e1 with ⟨k, q1, q2, q3, q4⟩ | ⟨q1, q2⟩
    · exact R'.fap k ds p q2 (by rw [q3]; exact e2) x (List.mem_append_left _ hx)
    · exact hF i ds p q1 q2 e2 x hx
theorem call_outE {z : Sl} {v : V} {O' : List Addr} {H' : Hp} {as' : List Sl} {E' : En} (R : Rel K F O E σ H) (av : Paired (AgV K σ O H) vs ags) (ap : apartA E ags = true) (R' : RelE K (F ++ othF E σ H ags) O' as' ((vs ++ dvs).map some) H' v (.rt z)) (l : Le O H O' H') (hb : putB E ags (as'.take ags.length) = some E') : RelE K F O' E' σ H' v (.rt z) := by
  cases z with
  | un => exact R'.elim
  | scr _ => exact R'.elim
  | dat d => exact ⟨call_out R av ap R'.1 l hb fun i ds p e1 _ e2 => R.fap i ds p e1 e2, R'.2⟩
  | ow ob =>
    obtain ⟨p, ho, rfl, R1, hF, r⟩ := R'
    refine ⟨p, ho, rfl, call_out (F' := (p, ho) :: F) R av ap R1 l hb fun i ds q e1 e3 e2 x hx => ?_, fun x hx => hF x (List.mem_append_left _ hx), r⟩
    cases hx with
    | tail _ hx => exact R.fap i ds q e1 e2 x hx
    | head =>
      obtain ⟨q', ho', e', hp, hh, _⟩ := R.slot i _ e1
      rw [e2] at e'
      cases e'
      exact fun z => hF _ (List.mem_append_right _ (othF_in e3 e1 e2 hh)) z.symm
end
section
variable {X : Cx} {W : WX} {k : Nat} {f : Addr} {fd : FuncData} {ps : List Str} {Fm : M Sl} {dds : List D} {dvs : List V} {x : Str} {p pos : Pos} {e : Expr} {es : List Expr} {ts : TA} {ms : M (List Ag)}
theorem call_rd (hd : ∀ G, RpAll X.K G dvs dds) (h : SOs X W es ts ms) (hlen : ∀ E ags E', ms E = .ok ags E' → ags.length + dvs.length = ps.length) : ∀ F O E σ H (Q : VK), Rel X.K F O E σ H → Sat (mCallO Fm dds ms E) (fun z E' => ∀ O' v H', RelE X.K F O' E' σ H' v (.rt z) → Le O H O' H' → Q v H') (KX X.K X.mg F σ O H W) → tCallSD (spOf X.K X.mg ps.length Fm) dvs (fun σ => WE W σ) ts σ H Q := by
  intro F O E σ H Q R s
  have s' := s.bnd
  refine h.rd F O E σ H _ R ?_
  cases em : ms E with
  | bad => rw [em] at s'; exact s'.elim
  | ex z E1 => rw [em] at s'; exact s'
  | ok ags E1 =>
    rw [em] at s'
    intro O1 vs H1 R1 l1 av
    have hl := hlen E ags E1 em
    refine ⟨by rw [List.length_append, av.length]; exact hl, ?_⟩
    change Sat ((if apartA E1 ags then _ else _ : Res Sl)) _ _ at s'
    split at s'
    · rename_i ap
      cases ha : argSl E1 ags with
      | none => rw [ha] at s'; exact s'.elim
      | some as =>
        rw [ha] at s'
        dsimp only at s'
        refine ⟨F ++ othF E1 σ H1 ags, O1, as ++ dds.map .dat, call_in R1 av (hd _) ap ha, ?_⟩
        cases ef : Fm (as ++ dds.map .dat) with
        | bad => rw [ef] at s'; exact s'.elim
        | ok d as' =>
          rw [ef] at s'
          dsimp only at s'
          intro O2 v H2 R2 l2
          split at s'
          · rename_i E2 hb2
            exact s' O2 v H2 (call_outE R1 av ap R2 l2 hb2) (l1.trans l2)
          · exact s'.elim
        | ex z as' =>
          rw [ef] at s'
          dsimp only at s'
          intro O2 H2 c dd R2 l2 r2
          split at s'
          · rename_i E2 hb2
            exact s' O2 H2 c dd (call_out R1 av ap R2 l2 hb2 fun i ds p e1 _ e2 => R1.fap i ds p e1 e2) (l1.trans l2) r2
          · exact s'.elim
    · exact s'.elim
theorem sv_call (Fo : FnOk X.prog X.w X.K X.mg X.base (L2.CX X.prog X.w) k f fd ps (spOf X.K X.mg ps.length Fm)) (hr : Room k X.A) (hg : Gl X x) (hm : X.mg x = some (.ref f)) (hk : PySem.W.keepIn X.K (.ref f) = true) {dvals : List Value} (hb : Binds X.K fd ps dvals) (hdv : Vals dvs dvals) (hd : ∀ G, RpAll X.K G dvs dds) (tk : Takes X W)
    (h : SOs X W (e :: es) ts ms) (hlen : ∀ E ags E', ms E = .ok ags E' → ags.length + dvs.length = ps.length) (hdb : (x == ("__debug__" : Str)) = false := by decide) (he : starEach (e :: es) X.env = (false, eval e X.env) :: starEach es X.env := by rfl) (hpl : (backTo pos (starEach es X.env)).any (·.1) = false := by rfl) :
    SV X W (.Call (.Name x p) (e :: es) [] pos) (tCallSD (spOf X.K X.mg ps.length Fm) dvs (fun σ => WE W σ) ts) (mCallO Fm dds ms) := by
  exact ⟨pe_callSD Fo hr hg hm hk hb hdv (fun σ => passAt tk σ) h.pa hdb he hpl, call_rd hd h hlen⟩
end
end Bt
namespace Bt
open PySem L2
def LenM (m : M (List Ag)) (n : Nat) : Prop := ∀ E ags E', m E = .ok ags E' → ags.length = n
theorem lm_nil : LenM (ret []) 0 := fun E ags E' h => by cases h; rfl
theorem lm_cons {m : M Ag} {ms : M (List Ag)} {n : Nat} (h : LenM ms n) : LenM (mCons m ms) (n + 1) := fun E ags E' e => by
  unfold mCons bnd at e
  cases q : m E with
  | bad => rw [q] at e; cases e
  | ex _ _ => rw [q] at e; cases e
  | ok a E1 =>
    rw [q] at e
    dsimp only at e
    cases q2 : ms E1 with
    | bad => rw [q2] at e; cases e
    | ex _ _ => rw [q2] at e; cases e
    | ok as E2 =>
      rw [q2] at e
      cases e
      rw [List.length_cons, h E1 as _ q2]
section
variable {X : Cx} {W : WX} {a b c e : Expr} {t ta tb tc : TE} {m : M D} {pos : Pos}
theorem so_cons {es : List Expr} {ts : TA} {m : M Ag} {ms : M (List Ag)} (h : SO X W e t m) (hs : SOs X W es ts ms) (hst : starEach (e :: es) X.env = (false, eval e X.env) :: starEach es X.env := by rfl) : SOs X W (e :: es) (tCons t ts) (mCons m ms) := sos_cons (fun h hs => pa_cons h hs hst) h hs
def mLenScr (i : Nat) : M D := fun E => match E[i]? with
  | some (.scr ns) => .ok (.int (ns.length : Nat)) E
  | _ => .bad
theorem se_lenScr {i : Nat} (h : PE X e (tCB (fun xs H Q => ∃ x n, xs = [x] ∧ LenV X.K x H n ∧ Q (.int n) H) (tCons (tVar i) tNil))) : SE X W e (tCB (fun xs H Q => ∃ x n, xs = [x] ∧ LenV X.K x H n ∧ Q (.int n) H) (tCons (tVar i) tNil)) (mLenScr i) := by
  refine ⟨h, fun F O E σ H Q R s => ?_⟩
  unfold mLenScr at s
  split at s
  · rename_i ns h0
    obtain ⟨p, e0, r⟩ := R.slot i _ h0
    refine ⟨.ref p, e0, .ref p, _, rfl, .inl ⟨_, (mask_le O H).seq r, rfl⟩, s O _ H R (Le.refl O H) ?_⟩
    rw [List.length_map]
    exact .int _
  · exact s.elim
def mIxScr (i : Nat) (mk : M Ag) : M D := fun E => match E[i]? with
  | some (.scr ns) => (bnd mk fun a => fun E => match rsv E a with
    | some (.int k) => match atI ns k with
      | some n => .ok (.int n) E
      | none => .bad
    | _ => .bad) E
  | _ => .bad
theorem atI_map {α β : Type} (f : α → β) {xs : List α} {k : Int} {a : α} (h : atI xs k = some a) : atI (xs.map f) k = some (f a) := by
  unfold atI at h ⊢
  rw [List.length_map]
  cases q : ixN xs.length k with
  | none => rw [q] at h; cases h
  | some j =>
    rw [q] at h
    show (xs.map f)[j]? = _
    rw [List.getElem?_map, show xs[j]? = some a from h]
    rfl
theorem se_ixScr {i : Nat} {k : Expr} {tk : TE} {mk : M Ag} (hp : PE X k tk → PE X e (tOp (rIxB X.K) (tVar i) tk)) (h : SO X W k tk mk) : SE X W e (tOp (rIxB X.K) (tVar i) tk) (mIxScr i mk) := by
  refine ⟨hp h.pe, fun F O E σ H Q R s => ?_⟩
  unfold mIxScr at s
  split at s
  · rename_i ns h0
    obtain ⟨p, e0, r⟩ := R.slot i _ h0
    refine ⟨.ref p, e0, h.rd F O E σ H _ R (s.bnd.mono (fun a E1 k1 O1 v H1 R1 l1 av => ?_) (fun _ _ k => k))⟩
    split at k1
    · rename_i kk q
      split at k1
      · rename_i n hn
        exact .inl ⟨p, _, kk, .int n, rfl, (R1.rsv av q).int, (mask_le O1 H1).seq (Same.seq l1 r), atI_map V.int hn, k1 O1 _ H1 R1 l1 (.int _)⟩
      · exact k1.elim
    · exact k1.elim
  · exact s.elim
theorem SSs.sub {a1 a2 : List Nat} {sts : List Stmt} {t : TS} {m : M Fl} (h : SSs X W a1 sts t m) (hs : ∀ i ∈ a1, i ∈ a2) : SSs X W a2 sts t m :=
  ⟨h.ps, fun F O E σ H D' R s => h.rd F O E σ H D' R (s.mono (fun f E1 k O1 σ1 H1 v1 R1 l1 g1 => k O1 σ1 H1 v1 R1 l1 fun i hi => g1 i fun z => hi (hs i z)) (fun x E1 k O1 σ1 H1 c dd R1 l1 g1 ex => k O1 σ1 H1 c dd R1 l1 (fun i hi => g1 i fun z => hi (hs i z)) ex))⟩
theorem SSs.ex {a1 a2 : List Nat} {sts : List Stmt} {t : TS} {m : M Fl} (h : SSs X W a1 sts t m) (hs : ∀ i ∈ a1, i ∈ a2) : ∃ t, SSs X W a2 sts t m := ⟨t, h.sub hs⟩
theorem ss_setLc {b : Bool} {i : Nat} {y : Str} {py : Pos} {elt tg iter : Expr} {ifs : List Expr} {scope : Scope} {own : List (Str × Nat)} {asg : List Nat} {pos spos : Pos} {wi : TI} {g : TG} {tt : TT} {te : TE} {mi : M (List D)} {mg : MG} {mt : M Bool} {me : M D} (hc : X.calm = true) (hN : X.N.Nodup) (hy : X.N[i]? = some y) (hyl : X.env.scope.names.lookup y = some .local)
    (hsw : swapsWith (.ListComp elt [⟨tg, iter, ifs, 0⟩] scope pos) (some (.Name y py)) spos.line X.env = pure true) (hi : SI X W b tg iter wi mi) (ok : BlkOk X.N X.env.scope scope own)
    (hg : ∀ (s : Shared) (H : Hp) (C : Addr) (cl : List (Str × Addr)) (fp : List Addr), SG (X.blk s H scope (compEnvC scope cl C X.env) fp) b asg tg g mg) (ha : ∀ i ∈ asg, i ∈ own.map (·.2)) (ht : ∀ (s : Shared) (H : Hp) (C : Addr) (cl : List (Str × Addr)) (fp : List Addr), STs (X.blk s H scope (compEnvC scope cl C X.env) fp) W0 ifs tt mt)
    (he : ∀ (s : Shared) (H : Hp) (C : Addr) (cl : List (Str × Addr)) (fp : List Addr), SE (X.blk s H scope (compEnvC scope cl C X.env) fp) W0 elt te me) (hs : ∀ x, foldedSetIterable iter X.env x = pure x := by intro _; rfl) :
    SS X W [i] (.Assign [.Name y py] (.ListComp elt [⟨tg, iter, ifs, 0⟩] scope pos) spos) (tAsg (tLc wi g tt te (own.map (·.2))) (gName i)) (mSet (gN i) (mLc mi mg mt me (own.map (·.2)))) := by
  have hE := se_lc (pos := pos) hc hN hi ok hg ha ht he hs
  refine ⟨ps_setLc hc hN hy hyl hsw hi.pi ok (fun s H C cl fp => (hg s H C cl fp).pg) (fun s H C cl fp => (ht s H C cl fp).pt) (fun s H C cl fp => (he s H C cl fp).pe) hs, fun F O E σ H D' R s => hE.rd F O E σ H _ R (s.bnd.mono (fun d E1 k O1 v H1 R1 l1 r => ?_) (KXs.of))⟩
  cases eg : gN i d E1 with
  | none => rw [eg] at k; exact k.elim
  | some E2 =>
    rw [eg] at k
    unfold gN at eg
    split at eg
    · rename_i hi
      cases eg
      refine k O1 _ H1 .non (R1.set r hi) l1 fun j hj => ?_
      have hne : i ≠ j := fun z => hj (by rw [z]; exact List.mem_cons_self)
      rw [List.getElem?_set_ne hne]
    · cases eg
theorem chain_rd {r r' : R2} {f g : D → D → Option D} {ma mb mc : M Ag} (ha : SO X W a ta ma) (hb : SO X W b tb mb) (hc : SO X W c tc mc) (hr : ROk X.K r f) (hr' : ROk X.K r' g) :
    ∀ F O E σ H (Q : VK), Rel X.K F O E σ H → Sat (mChain f g ma mb mc E) (KD X.K F σ O H Q) (KX X.K X.mg F σ O H W) → tChain r r' ta tb tc σ H Q := by
  intro F O E σ H Q R s
  refine ha.rd F O E σ H _ R (s.bnd.mono (fun a1 E1 k O1 v H1 R1 l1 av => ?_) (fun _ _ k => k))
  refine hb.rd F O1 E1 σ H1 _ R1 (k.bnd.mono (fun b1 E2 k2 O2 u H2 R2 l2 bv => ?_) (KX.le l1))
  cases ea : rsv E2 a1 with
  | none => rw [ea] at k2; exact k2.elim
  | some x =>
    cases eb : rsv E2 b1 with
    | none => rw [ea, eb] at k2; exact k2.elim
    | some y =>
      rw [ea, eb] at k2
      dsimp only at k2
      cases ef : f x y with
      | none => rw [ef] at k2; exact k2.elim
      | some z =>
        rw [ef] at k2
        refine hr O2 H2 v u x y z _ R2.trk (R2.rsv (av.le l2) ea) (R2.rsv bv eb) ef fun w H3 gr r3 => ?_
        have R3 := R2.grow gr
        have l3 : Le O H O2 H3 := (l1.trans l2).trans gr.le
        cases z <;> first | exact k2.elim | skip
        rename_i bb
        cases r3
        refine ⟨bb, rfl, ?_⟩
        cases bb with
        | false => exact k2 O2 _ H3 R3 l3 (.bl _)
        | true =>
          show tc σ H3 _
          dsimp only at k2
          refine hc.rd F O2 E2 σ H3 _ R3 (k2.bnd.mono (fun c1 E3 k3 O3 w H4 R4 l4 cv => ?_) (KX.le l3))
          cases eb2 : rsv E3 b1 with
          | none => rw [eb2] at k3; exact k3.elim
          | some y2 =>
            cases ec : rsv E3 c1 with
            | none => rw [eb2, ec] at k3; exact k3.elim
            | some z2 =>
              rw [eb2, ec] at k3
              obtain ⟨q, hq, k4⟩ := Sat.lift k3
              refine hr' O3 H4 u w y2 z2 q Q R4.trk (R4.rsv ((bv.le gr.le).le l4) eb2) (R4.rsv cv ec) hq fun w2 H5 g5 r5 => ?_
              exact k4 O3 w2 H5 (R4.grow g5) ((l3.trans l4).trans g5.le) r5
theorem st_chain {op op' : CmpOp} {r r' : R2} {f g : D → D → Option D} {ma mb mc : M Ag} (ho : OpR X (compareOp op) r) (ho' : OpR X (compareOp op') r') (hr : ROk X.K r f) (hr' : ROk X.K r' g) (ha : SO X W a ta ma) (hb : SO X W b tb mb) (hc : SO X W c tc mc) (hm : lastMarks [op, op'] [b, c] = false := by with_unfolding_all rfl) :
    STt X W (.Compare a [op, op'] [b, c] pos) (tTest (tChain r r' ta tb tc)) (bnd (mChain f g ma mb mc) asB) := by
  refine ⟨pt_chain ho ho' ha.pe hb.pe hc.pe hm, fun F O E σ H Q R s => chain_rd ha hb hc hr hr' F O E σ H _ R (s.bnd.mono (fun d E1 k O1 v H1 R1 l1 r => ?_) (fun _ _ k => k))⟩
  cases d <;> first | (exact k.elim) | skip
  cases r
  exact ⟨_, rfl, k O1 H1 R1 l1⟩
end
section
variable {P : Program} {w : World} {K : PySem.W.Frag} {mg : Str → Option Value} {base : Heap}
theorem fn_okD {x qual : Str} {params : Arguments} {body : List Stmt} {scope : Scope} {dvs : List V} {kws : List (Str × V)} {f : Addr} {fd : FuncData} {N ps : List Str} {k : Nat} {asg : List Nat} {m : M Fl} (Fn : FunD K x qual params body scope dvs kws f fd) (S : FnScope N ps scope) (hN : ps.length ≤ N.length)
    (hbody : ∀ (cdv : Value) (A : Around) (outer : List Env) (s : Shared) (H : Hp) (E : XK), Room k (A.deeper (PyProof.Rows.envOfC qual scope s.heap.objs.size f cdv)) → ∃ t, SSs (cxOf (L2.CX P w) P w K mg base N qual scope f cdv A outer s H E) (fun c dd _ H' => E c dd H') asg body t m) :
    FnOk P w K mg base (L2.CX P w) (k + 1) f fd ps (spOf K mg ps.length (mFn asg (N.length - ps.length) m)) := by
  refine Fn.ok S (fun vs H Q E h => h.1) (fun cdv A outer s H vs Q E hr h => ?_)
  obtain ⟨t, hS⟩ := hbody cdv A outer s H E hr
  exact ⟨t, hS.ps, fn_rd hS hN (fun _ _ _ _ z => z) h⟩
end
section
variable {X : Cx} {W : WX} {e : Expr} {t : TE} {m : M D} {pos : Pos}
inductive Pk where
  | at (k : Nat)
  | no
  | bl (b : Bool)
def pkD (xs : List D) : Pk → D
  | .at k => xs.getD k .none
  | .no => .none
  | .bl b => .bool b
def mCallKO (Fm : M Sl) (pk : List Pk) (n1 n2 : Nat) (ms1 ms2 : M (List D)) : M Sl := bnd ms1 fun ds1 => bnd ms2 fun ds2 => fun E => if ds1.length = n1 ∧ ds2.length = n2 then match Fm ((pk.map (pkD (ds1 ++ ds2))).map .dat) with
  | .ok d _ => .ok d E
  | .ex x _ => .ex x E
  | .bad => .bad
  else .bad
def mCallK (Fm : M Sl) (pk : List Pk) (n1 n2 : Nat) (ms1 ms2 : M (List D)) : M D := bnd (mCallKO Fm pk n1 n2 ms1 ms2) thaw
end
end Bt
namespace Bt
open PySem L2
section
variable {X : Cx} {W : WX} (K : PySem.W.Frag)
theorem oK_add (eK : X.K = K) : OpR X (binaryOp .Add) (rAdd K) := eK ▸ op_Add
theorem oK_mul (eK : X.K = K) : OpR X (binaryOp .Mult) (rMul K) := eK ▸ op_Mul
theorem oK_eq (eK : X.K = K) (hu : X.A.units + 64 < cLine) : OpR X (compareOp .Eq) (rEqD K) := eK ▸ op_eqD hu
theorem oK_ne (eK : X.K = K) (hu : X.A.units + 64 < cLine) : OpR X (compareOp .NotEq) (rNeD K) := eK ▸ op_neD hu
theorem oK_in (eK : X.K = K) : OpR X (compareOp .In) (rInB K) := eK ▸ op_in_seq.or op_in_sign
theorem oK_nin (eK : X.K = K) : OpR X (compareOp .NotIn) (rNinB K) := eK ▸ op_notIn_seq.or op_notIn_sign
def rLen1 (K : PySem.W.Frag) : List V → Hp → VK → Prop := fun xs H Q => ∃ x n, xs = [x] ∧ LenV K x H n ∧ Q (.int n) H
theorem cK_len (eK : X.K = K) : CallR X (.builtin "len") (rLen1 K) := eK ▸ call_len
theorem cK_sum (eK : X.K = K) (hc : X.calm = true) : CallR X (.builtin "sum") (rSum K) := eK ▸ cr_sum hc
theorem cK_all (eK : X.K = K) (hc : X.calm = true) : CallR X (.builtin "all") (rAll K) := eK ▸ cr_all hc
theorem cK_min (eK : X.K = K) (hc : X.calm = true) : CallR X (.builtin "min") (rMinB K) := eK ▸ call_minB hc
theorem cK_max (eK : X.K = K) (hc : X.calm = true) : CallR X (.builtin "max") (rMaxB K) := eK ▸ call_maxB hc
theorem cK_tuple (eK : X.K = K) : CallR X (.type "tuple") (rTupP K) := eK ▸ call_tupP
theorem cK_sorted (eK : X.K = K) (hu : X.A.units + 64 < cLine) : CallR X (.builtin "sorted") (rSortB K) := eK ▸ cr_sortedI.or (cr_sort1.or (cr_sortT hu))
def rInt1 : List V → Hp → VK → Prop := fun xs H Q => (∃ i, xs = [.int i] ∧ Q (.int i) H) ∨ ∃ k, xs = [.bl k] ∧ Q (.int (if k then 1 else 0)) H
theorem cK_int (eK : X.K = K) : CallR X (.type "int") rInt1 := call_int1
variable {a b c e tg : Expr} {ta tb tc t : TE} {ma mb mc : M Ag} {m : M D} {pos : Pos}
theorem se_ixK (eK : X.K = K) (hs : PlainIx b) (ha : SO X W a ta ma) (hb : SO X W b tb mb) : SE X W (.Subscript a b pos) (tOp (rIxB K) ta tb) (mOp ixD ma mb) := by subst eK; exact se_ix hs ha hb
theorem se_slK {lo hi : Option Expr} {tl th : TO} {ml mh : M (Option Int)} {m : M Ag} {p2 : Pos} (eK : X.K = K) (h : SO X W e t m) (hl : SP X W lo tl ml) (hh : SP X W hi th mh) : SE X W (.Subscript e (.Slice lo hi none p2) pos) (tSl (rSlB K) t tl th) (mSl m ml mh) := by subst eK; exact se_sl h hl hh
theorem se_isiK {T : String} {x : Str} {m : M Ag} {p p2 : Pos} (eK : X.K = K) (hg : Gl X "isinstance") (hm : X.mg "isinstance" = none) (h : SO X W e t m) (hT : PE X (.Name x p2) (tC (.ty T))) (hk : tyAll.all (fun n => kitB n T == some (tyIs T n)) = true)
    (hst : starEach [e, .Name x p2] X.env = (false, eval e X.env) :: starEach [.Name x p2] X.env := by rfl) (hst2 : starEach [.Name x p2] X.env = (false, eval (.Name x p2) X.env) :: starEach [] X.env := by rfl) (hpl : (backTo pos (starEach [.Name x p2] X.env)).any (·.1) = false := by rfl) :
    SE X W (.Call (.Name "isinstance" p) [e, .Name x p2] [] pos) (tCB (rIsi K) (tCons t (tCons (tC (.ty T)) tNil))) (mIsi T m) := by subst eK; exact se_isi hg hm h hT hk hst hst2 hpl
theorem si_seqK (eK : X.K = K) (h : SE X W e t m) : SI X W false tg e (iSeq K t) (mIt m) := by subst eK; exact si_seq (fun h => pi_or (pi_list h) (pi_or (pi_tup h) (pi_str h))) h
theorem si_zipK {e e2 : Expr} {ts : TA} {ms : M (List D)} {p tpos : Pos} {elts : List Expr} {kk : Nat} (eK : X.K = K) (hg : Gl X "zip") (hm : X.mg "zip" = none) (h : SA X W [e, e2] ts ms)
    (hs : starEach [e, e2] X.env = (false, eval e X.env) :: starEach [e2] X.env := by rfl) (hpl : (backTo pos (starEach [e2] X.env)).any (·.1) = false := by rfl) : SI X W true (.Tuple elts kk tpos) (.Call (.Name "zip" p) [e, e2] [] pos) (RZ.iZipA K ts) (mZip ms) := by subst eK; exact si_zip (fun h => RZ.pi_zipA hg hm h hs hpl) h
theorem sg_tupK {b : Bool} {asg : List Nat} {tgs : List Expr} {gs : TGs} {ms : List D → En → Option En} {k n : Nat} (eK : X.K = K) (hc : X.calm = true) (hs : SGs X asg tgs gs ms) (hn : (assignEach tgs X.env).length = n := by rfl) (hst : (assignEach tgs X.env).findIdx? (·.1) = none := by rfl) : SG X b asg (.Tuple tgs k pos) (gTup K n gs) (gTupM n ms) := by
  subst eK; exact sg_tup (fun h => pg_tup hc h hn hst) hs
end
theorem hu1 {u : Nat} (h : u + 64 < cLine) : u + 1 < cLine := by omega
theorem ss_set {X : Cx} {W : WX} {e : Expr} {t : TE} {m : M D} {pos : Pos} {i : Nat} {x : Str} {pos' : Pos} (hN : X.N.Nodup) (hi : X.N[i]? = some x) (hx : Loc X.env.scope x) (h : SE X W e t m) (hs : swapsWith e (some (.Name x pos')) pos.line X.env = pure false := by rfl) (hf : X.fn x = true ∨ X.env.scope.names.lookup x = some .local := by first | exact .inl rfl | exact .inr rfl | assumption) :
    SS X W [i] (.Assign [.Name x pos'] e pos) (tAsg t (gName i)) (mSet (gN i) m) := by
  refine ⟨ps_set hN hi hx h.pe hs hf, fun F O E σ H D' R s => h.rd F O E σ H _ R (s.bnd.mono (fun d E1 k O1 v H1 R1 l1 r => ?_) (KXs.of))⟩
  cases eg : gN i d E1 with
  | none => rw [eg] at k; exact k.elim
  | some E2 =>
    rw [eg] at k
    unfold gN at eg
    split at eg
    · rename_i hi
      cases eg
      refine k O1 _ H1 .non (R1.set r hi) l1 fun j hj => ?_
      have hne : i ≠ j := fun z => hj (by rw [z]; exact List.mem_cons_self)
      rw [List.getElem?_set_ne hne]
    · cases eg
section
variable {X : Cx} {W : WX} {P : Program} {w : World} {K : PySem.W.Frag} {mg : Str → Option Value} {base : Heap} {e : Expr} {pos : Pos}
theorem sv_callC {k : Nat} {f : Addr} {fd : FuncData} {ps : List Str} {Fm : M Sl} {n : Nat} {x : Str} {p : Pos} {es : List Expr} {ts : TA} {ms : M (List Ag)} (Fo : FnOk P w K mg base (L2.CX P w) k f fd ps (spOf K mg n Fm)) (eP : X.prog = P) (ew : X.w = w) (eK : X.K = K) (eM : X.mg = mg) (eB : X.base = base) (hr : Room k X.A) (hg : Gl X x) (hm : mg x = some (.ref f)) (hk : PySem.W.keepIn K (.ref f) = true) (hb : Binds K fd ps []) (hn : ps.length = n) (tk : Takes X W)
    (h : SOs X W (e :: es) ts ms) (hlen : LenM ms n) (hdb : (x == ("__debug__" : Str)) = false := by decide) (he : starEach (e :: es) X.env = (false, eval e X.env) :: starEach es X.env := by rfl) (hpl : (backTo pos (starEach es X.env)).any (·.1) = false := by rfl) :
    SV X W (.Call (.Name x p) (e :: es) [] pos) (tCallSD (spOf K mg n Fm) [] (fun σ => WE W σ) ts) (mCallO Fm [] ms) := by
  subst eP ew eK eM eB hn
  exact sv_call Fo hr hg hm hk hb .nil (fun _ => .nil) tk h (fun E ags E' q => hlen E ags E' q) hdb he hpl
theorem se_callC {k : Nat} {f : Addr} {fd : FuncData} {ps : List Str} {Fm : M Sl} {n : Nat} {x : Str} {p : Pos} {es : List Expr} {ts : TA} {ms : M (List Ag)} (Fo : FnOk P w K mg base (L2.CX P w) k f fd ps (spOf K mg n Fm)) (eP : X.prog = P) (ew : X.w = w) (eK : X.K = K) (eM : X.mg = mg) (eB : X.base = base) (hr : Room k X.A) (hg : Gl X x) (hm : mg x = some (.ref f)) (hk : PySem.W.keepIn K (.ref f) = true) (hb : Binds K fd ps []) (hn : ps.length = n) (tk : Takes X W)
    (h : SOs X W (e :: es) ts ms) (hlen : LenM ms n) (hdb : (x == ("__debug__" : Str)) = false := by decide) (he : starEach (e :: es) X.env = (false, eval e X.env) :: starEach es X.env := by rfl) (hpl : (backTo pos (starEach es X.env)).any (·.1) = false := by rfl) :
    SE X W (.Call (.Name x p) (e :: es) [] pos) (tCallSD (spOf K mg n Fm) [] (fun σ => WE W σ) ts) (mCall Fm [] ms) :=  (sv_callC Fo eP ew eK eM eB hr hg hm hk hb hn tk h hlen hdb he hpl).se
end
end Bt
namespace Bt
open PySem L2
def rDict (K : PySem.W.Frag) : List V → Hp → VK → Prop := fun xs H Q => ∃ (a : Addr) (ps : List Addr) (kvs : List (Key × V)), xs = [.ref a] ∧ (SqL K H a (ps.map V.ref) ∨ SqP K H a (ps.map V.ref)) ∧ Paired (fun p kv => SqT K H p [kV kv.1, kv.2]) ps kvs ∧ ∀ p, H p = none → Q (.ref p) (upd H p (.dK (mergeK [] kvs)))
theorem plain_of {X : Cx} {pins : List (Addr × Obj)} {σ : L2.St} {H : Hp} {s : Shared} {a : Addr} {xs : List V} (I : Inv X pins σ H s) (h : SqP X.K H a xs) : ∃ its : List Value, Vals xs its ∧ PlainSeq "tuple" s.heap a its.toArray ∧ xs.length ≤ sizeLine := by
  rcases h with ⟨o, h, hd⟩ | ⟨o, its, n, h1, h2, hd, h3, h4, h5⟩
  · obtain ⟨e, z, its, r, o', e', hc, n, hs⟩ := (show ObjOk X.prog X.w H s.heap a (.frz o (.tup xs)) from I.hok a _ h)
    rw [e] at e'
    cases e'
    exact ⟨its, r, ⟨o, n, e, hc, hd, hs⟩, z⟩
  · refine ⟨its.toList, h5, ⟨o, n, I.kIn a o h1, h2, hd, by simpa using h3⟩, ?_⟩
    have e := h5.length
    simp only [Array.length_toList] at e
    omega
theorem call_dictA {X : Cx} (hcalm : X.calm = true) : CallR X (.type "dict") (rDict X.K) := by
  intro pins s σ H xs us Q I r q
  obtain ⟨a, ps, kvs, ex, hq, hp, q⟩ := q
  rcases hq with hq | hq
  · exact call_dictP hcalm pins s σ H xs us Q I r ⟨a, ps, kvs, ex, hq, hp, q⟩
  subst ex
  obtain ⟨u, eu, rx⟩ := vals1 r
  subst eu
  cases rx
  obtain ⟨its, rv, pl, hz⟩ := plain_of I hq
  have ei := refs_at rv
  subst ei
  rw [List.length_map] at hz
  obtain ⟨prs, rel, hl, hpr⟩ := pairs_of I hp
  -- the key of each pair as it stands
  have hk : ∀ j : Nat, ∃ u : Value, ∀ q', prs[j]? = some q' → ∃ b, ps[j]? = some b ∧ PyProof.Rows.IsTup s.heap b #[u, q'.2] ∧ keyIs q'.1 u = true := fun j => by
    cases e : prs[j]? with
    | none => exact ⟨.none, fun q' e' => by cases e'⟩
    | some q' =>
      obtain ⟨b, u, e1, e2, e3⟩ := hpr j q' e
      exact ⟨u, fun q2 e' => by cases e'; exact ⟨b, e1, e2, e3⟩⟩
  let U : Nat → Value := fun j => Classical.choose (hk j)
  have hU : ∀ j q', prs[j]? = some q' → ∃ b, ps[j]? = some b ∧ PyProof.Rows.IsTup s.heap b #[U j, q'.2] ∧ keyIs q'.1 (U j) = true := fun j => Classical.choose_spec (hk j)
  have hlen : prs.length = ps.length := hl
  refine call_dict_pairs (prog := X.prog) (w := X.w) (knd := mixKind X.prog X.w) (kvs := prs) (PairArg.tuple a (ps.map Value.ref).toArray (fun j => ps.getD j 0) (prs.mapIdx fun j q' => (U j, q'.2))) (I.ok.hd hcalm) ⟨pl, ?_, ?_⟩ ⟨?_, ?_⟩ ?_ fun h' tk hd' k => ?_
  · simp [hlen]
  · intro j k v e
    rw [List.getElem?_mapIdx] at e
    cases e2 : prs[j]? with
    | none => rw [e2] at e; cases e
    | some q' =>
      rw [e2] at e
      obtain ⟨b, b1, b2, b3⟩ := hU j q' e2
      simp only [Option.map_some, Option.some.injEq, Prod.mk.injEq] at e
      refine ⟨by simp [b1], .inl ?_⟩
      show s.heap.IsTuple (ps.getD j 0) #[k, v]
      rw [List.getD_eq_getElem?_getD, b1, ← e.1, ← e.2]
      exact b2
  · simp
  · intro i key v e
    have e' : (prs.mapIdx fun j q' => (U j, q'.2))[i]? = some (key, v) := e
    rw [List.getElem?_mapIdx] at e'
    cases e2 : prs[i]? with
    | none => rw [e2] at e'; cases e'
    | some q' =>
      rw [e2] at e'
      obtain ⟨b, b1, b2, b3⟩ := hU i q' e2
      simp only [Option.map_some, Option.some.injEq, Prod.mk.injEq] at e'
      exact ⟨q'.1, by rw [← e'.2], by rw [← e'.1]; exact b3⟩
  · simp [hlen, hz]
  · have hm : (s.heap.objs.size == sysModules) = false := beq_eq_false_iff_ne.mpr (Nat.ne_of_gt I.big)
    have hlen2 : (mergeK [] kvs).length ≤ sizeLine := by
      refine Nat.le_trans (length_mergeK kvs []) ?_
      rw [List.length_nil, Nat.zero_add, rel.length, hl]
      exact hz
    exact ⟨.ref s.heap.objs.size, upd H s.heap.objs.size (.dK (mergeK [] kvs)), I.laid (t' := tk) (fun b o e => k b o (by intro z; cases z) e) (Nat.le_refl _) (show ObjOk X.prog X.w _ _ _ (.dK (mergeK [] kvs)) from ⟨hlen2, hm, merged [] prs, KV.merge rel .nil, hd'⟩), rfl, q _ (I.hok.fresh (Nat.le_refl _))⟩
def keyOf : D → Option Key
  | .int i => some (.inl i)
  | .str z => some (.inr z)
  | _ => none
def pairOf : D → Option (Key × D)
  | .tuple [k, v] => (keyOf k).map fun k => (k, v)
  | _ => none
def pairsOf : List D → Option (List (Key × D))
  | [] => some []
  | d :: ds => match pairOf d, pairsOf ds with
    | some p, some ps => some (p :: ps)
    | _, _ => none
def valD (es : List (Key × D)) (k : Key) : Option D := (es.find? fun e => decide (e.1 = k)).map (·.2)
def putD (es : List (Key × D)) (k : Key) (v : D) : List (Key × D) :=
  if (es.any fun e => decide (e.1 = k)) = true then es.map (fun e => if e.1 = k then (e.1, v) else e) else es ++ [(k, v)]
def mergeD (es more : List (Key × D)) : List (Key × D) := more.foldl (fun acc e => putD acc e.1 e.2) es
section
variable {K : PySem.W.Frag} {G : Hp}
theorem RpKV.val : ∀ {xs : List (Key × V)} {es : List (Key × D)} (k : Key), RpKV K G xs es → (valV xs k = none ∧ valD es k = none) ∨ ∃ v d, valV xs k = some v ∧ valD es k = some d ∧ Rp K G v d
  | _, _, k, .nil => .inl ⟨rfl, rfl⟩
  | x :: xs, e :: es, k, .cons h r => by
    by_cases z : e.1 = k
    · refine .inr ⟨x.2, e.2, valV_pos (h.1.trans z), ?_, h.2⟩
      simp [valD, List.find?_cons, z]
    · have z2 : ¬ x.1 = k := fun q => z (h.1.symm.trans q)
      rw [valV_neg z2, show valD (e :: es) k = valD es k by simp [valD, List.find?_cons, z]]
      exact RpKV.val k r
theorem RpKV.length : ∀ {xs : List (Key × V)} {es : List (Key × D)}, RpKV K G xs es → xs.length = es.length
  | _, _, .nil => rfl
  | _, _, .cons _ r => by rw [List.length_cons, List.length_cons, RpKV.length r]
theorem RpKV.keys : ∀ {xs : List (Key × V)} {es : List (Key × D)}, RpKV K G xs es → xs.map (·.1) = es.map (·.1)
  | _, _, .nil => rfl
  | _, _, .cons h r => by rw [List.map_cons, List.map_cons, RpKV.keys r, h.1]
theorem RpKV.append : ∀ {xs ys : List (Key × V)} {es fs : List (Key × D)}, RpKV K G xs es → RpKV K G ys fs → RpKV K G (xs ++ ys) (es ++ fs)
  | _, _, _, _, .nil, s => s
  | _, _, _, _, .cons h r, s => .cons h (RpKV.append r s)
theorem RpKV.put {xs : List (Key × V)} {es : List (Key × D)} {k : Key} {v : V} {d : D} (r : RpKV K G xs es) (h : Rp K G v d) : RpKV K G (putK xs k v) (putD es k d) := by
  have hany : (xs.any fun kv => decide (kv.1 = k)) = (es.any fun e => decide (e.1 = k)) := by
    induction r with
    | nil => rfl
    | cons h r ih => rw [List.any_cons, List.any_cons, ih, h.1]
  unfold putK putD
  rw [hany]
  split
  · rename_i hc
    clear hc hany
    induction r with
    | nil => exact .nil
    | @cons a b l1 l2 h0 r ih =>
      rw [List.map_cons, List.map_cons]
      refine .cons ?_ ih
      by_cases z : b.1 = k
      · rw [if_pos (h0.1.trans z), if_pos z]; exact ⟨h0.1, h⟩
      · rw [if_neg (fun q => z (h0.1.symm.trans q)), if_neg z]; exact h0
  · exact r.append (.cons ⟨rfl, h⟩ .nil)
theorem RpKV.merge : ∀ {ys : List (Key × V)} {fs : List (Key × D)} {xs : List (Key × V)} {es : List (Key × D)}, RpKV K G ys fs → RpKV K G xs es → RpKV K G (mergeK xs ys) (mergeD es fs)
  | _, _, _, _, .nil, s => s
  | _, _, _, _, .cons h r, s => by
    unfold mergeK mergeD
    rw [List.foldl_cons, List.foldl_cons, h.1]
    exact RpKV.merge r (s.put h.2)
theorem Rp.key {v : V} {d : D} {k : Key} (h : Rp K G v d) (e : keyOf d = some k) : v = kV k := by
  cases h <;> first | (cases e; rfl) | cases e
theorem RpAll.pairs : ∀ {vs : List V} {ds : List D} {es : List (Key × D)}, RpAll K G vs ds → pairsOf ds = some es → ∃ (ps : List Addr) (kvs : List (Key × V)), vs = ps.map V.ref ∧ Paired (fun p kv => SqT K G p [kV kv.1, kv.2]) ps kvs ∧ RpKV K G kvs es
  | _, _, es, .nil, e => by cases e; exact ⟨[], [], rfl, .nil, .nil⟩
  | _, d :: ds, es, .cons h r, e => by
    unfold pairsOf at e
    cases e1 : pairOf d with
    | none => rw [e1] at e; cases e
    | some p =>
      cases e2 : pairsOf ds with
      | none => rw [e1, e2] at e; cases e
      | some es2 =>
        rw [e1, e2] at e
        cases e
        obtain ⟨ps, kvs, rfl, h1, h2⟩ := RpAll.pairs r e2
        unfold pairOf at e1
        split at e1
        · rename_i k0 v0
          cases h with
          | tup hp rr =>
            cases rr with
            | cons r1 rr =>
              cases rr with
              | cons r2 rr =>
                cases rr
                cases e3 : keyOf k0 with
                | none => rw [e3] at e1; cases e1
                | some k =>
                  rw [e3] at e1
                  cases e1
                  cases r1.key e3
                  exact ⟨_ :: ps, (k, _) :: kvs, rfl, .cons hp.t h1, .cons ⟨rfl, r2⟩ h2⟩
        · cases e1
end
section
variable {X : Cx} {W : WX} {e : Expr} {t : TE} {pos : Pos}
def mOwnO (i : Nat) (m : M Ob) : M Fl := bnd m fun ob => fun E => if i < E.length then .ok .nx (E.set i (.ow ob)) else .bad
theorem ss_ownO {i : Nat} {st : Stmt} {m : M Ob} (hp : PE X e t → PS X st (tAsg t (gName i))) (h : SFO X W e t m) : SS X W [i] st (tAsg t (gName i)) (mOwnO i m) := by
  refine ⟨hp h.pe, fun F O E σ H D' R s => h.rd F O E σ H _ R (s.bnd.mono (fun ds E1 k O1 p vs H1 R1 hF l1 r => ?_) (KXs.of))⟩
  split at k
  · rename_i hi
    refine k O1 (σ.set i (some (.ref p))) H1 .non (R1.toOwn r hF hi) l1 fun j hj => ?_
    have hne : i ≠ j := fun z => hj (by rw [z]; exact List.mem_cons_self)
    rw [List.getElem?_set_ne hne]
  · exact k.elim
def dictF : D → Option Ob
  | .list ds => (pairsOf ds).map fun es => .d (mergeD [] es)
  | .tuple ds => (pairsOf ds).map fun es => .d (mergeD [] es)
  | _ => none
def mDict (m : M Ag) : M Ob := bnd m fun a => fun E => match rsv E a with
  | some d => lift (dictF d) E
  | none => .bad
theorem Rq.plain {K : PySem.W.Frag} {O : List Addr} {H : Hp} {v : V} {ds : List D} (h : Rq K O H v (.tuple ds)) : ∃ p vs, v = .ref p ∧ SqP K H p vs ∧ RpAll K (Mask O H) vs ds := by
  rcases h with h | ⟨_, _, _, _, e, _⟩
  · cases h with
    | tup h r => exact ⟨_, _, rfl, h.mono (mask_le O H), r⟩
  · cases e
theorem paired_imp {α β : Type} {P Q : α → β → Prop} (h : ∀ a b, P a b → Q a b) : ∀ {xs : List α} {ys : List β}, Paired P xs ys → Paired Q xs ys
  | _, _, .nil => .nil
  | _, _, .cons p r => .cons (h _ _ p) (paired_imp h r)
theorem sfo_dict {K : PySem.W.Frag} {m : M Ag} (eK : X.K = K) {e0 : Expr} (pe : PE X e0 t → PE X e (tCB (rDict K) (tCons t tNil))) (h : SO X W e0 t m) : SFO X W e (tCB (rDict K) (tCons t tNil)) (mDict m) := by
  subst eK
  refine ⟨pe h.pe, fun F O E σ H Q R s => h.rd F O E σ H _ R (s.bnd.mono (fun a E1 k O1 v H1 R1 l1 av => ?_) (fun _ _ k => k))⟩
  cases ea : rsv E1 a with
  | none => rw [ea] at k; exact k.elim
  | some d =>
    rw [ea] at k
    obtain ⟨ob, ho, k2⟩ := Sat.lift k
    have rq := R1.rsv av ea
    have fin : ∀ (ps : List Addr) (kvs : List (Key × V)) (es : List (Key × D)), RpKV X.K (Mask O1 H1) kvs es → ob = .d (mergeD [] es) → ∀ p, H1 p = none → Q (.ref p) (upd H1 p (.dK (mergeK [] kvs))) := fun ps kvs es r eo p np => by
      have l2 := mask_cons_new (O := O1) (o := .dK (mergeK [] kvs)) np
      subst eo
      exact k2 (p :: O1) p (.dK (mergeK [] kvs)) _ (R1.newF np) (R1.newApart np) (l1.trans l2) (show RpKV _ _ _ _ from (RpKV.merge (r.mono l2) .nil))
    unfold dictF at ho
    split at ho
    · rename_i ds
      cases e3 : pairsOf ds with
      | none => rw [e3] at ho; cases ho
      | some es =>
        rw [e3] at ho
        cases ho
        obtain ⟨p, vs, rfl, hp, r1⟩ := rq.list
        obtain ⟨ps, kvs, rfl, h1, h2⟩ := r1.pairs e3
        exact ⟨p, ps, kvs, rfl, .inl (SqL.of hp), paired_imp (fun _ _ z => sqT_mono (mask_le _ _) z) h1, fin ps kvs es h2 rfl⟩
    · rename_i ds
      cases e3 : pairsOf ds with
      | none => rw [e3] at ho; cases ho
      | some es =>
        rw [e3] at ho
        cases ho
        obtain ⟨p, vs, rfl, hp, r1⟩ := rq.plain
        obtain ⟨ps, kvs, rfl, h1, h2⟩ := r1.pairs e3
        exact ⟨p, ps, kvs, rfl, .inr hp, paired_imp (fun _ _ z => sqT_mono (mask_le _ _) z) h1, fin ps kvs es h2 rfl⟩
    · cases ho
end
end Bt
namespace Bt
open PySem L2
theorem Rq.key {K : PySem.W.Frag} {O : List Addr} {H : Hp} {v : V} {d : D} {k : Key} (h : Rq K O H v d) (e : keyOf d = some k) : v = kV k := by
  rcases h with h | ⟨_, _, _, _, rfl, _⟩
  · exact h.key e
  · cases e
theorem RpKV.valS {K : PySem.W.Frag} {G : Hp} {xs : List (Key × V)} {es : List (Key × D)} {k : Key} {d : D} (r : RpKV K G xs es) (h : valD es k = some d) : ∃ v, valV xs k = some v ∧ Rp K G v d := by
  rcases RpKV.val k r with ⟨_, q⟩ | ⟨v, d', h1, h2, h3⟩
  · rw [h] at q; cases q
  · rw [h] at h2; cases h2; exact ⟨v, h1, h3⟩
def dkOf (E : En) (i : Nat) (a : Ag) : Option (List (Key × D) × Key) := match E[i]?, rsv E a with
  | some ((.ow (.d es))), some d => (keyOf d).map fun k => (es, k)
  | _, _ => none
theorem dkOf_some {E : En} {i : Nat} {a : Ag} {es : List (Key × D)} {k : Key} (h : dkOf E i a = some (es, k)) : E[i]? = some ((.ow (.d es))) ∧ ∃ d, rsv E a = some d ∧ keyOf d = some k := by
  unfold dkOf at h
  split at h
  · rename_i es' d h1 h2
    cases h3 : keyOf d with
    | none => rw [h3] at h; cases h
    | some k' => rw [h3] at h; cases h; exact ⟨h1, d, h2, h3⟩
  · cases h
def isDic (E : En) (i : Nat) : Bool := match E[i]? with
  | some ((.ow (.d _))) => true
  | _ => false
theorem isDic_some {E : En} {i : Nat} (h : isDic E i = true) : ∃ es, E[i]? = some ((.ow (.d es))) := by
  unfold isDic at h
  split at h
  · exact ⟨_, ‹_›⟩
  · cases h
section
variable {X : Cx} {W : WX} {e : Expr} {t : TE} {pos : Pos}
def mDGet (i : Nat) (mk : M Ag) : M D := fun E => if isDic E i = true then (bnd mk fun a => fun E => match dkOf E i a with
    | some (es, k) => lift (valD es k) E
    | none => .bad) E else .bad
theorem se_dget {i : Nat} {k : Expr} {tk : TE} {mk : M Ag} (hp : PE X k tk → PE X e (tDGet (tVar i) tk)) (hk : SO X W k tk mk) : SE X W e (tDGet (tVar i) tk) (mDGet i mk) := by
  refine ⟨hp hk.pe, fun F O E σ H Q R s => ?_⟩
  unfold mDGet at s
  split at s
  · rename_i h0
    obtain ⟨es0, h0⟩ := isDic_some h0
    obtain ⟨p, vs0, e0, _, _, _⟩ := R.ownD h0
    refine ⟨.ref p, e0, hk.rd F O E σ H _ R (s.bnd.mono (fun a E1 k O1 v H1 R1 l1 av => ?_) (fun _ _ k => k))⟩
    split at k
    · rename_i es kk h1
      obtain ⟨h1, d, h2, h3⟩ := dkOf_some h1
      obtain ⟨dv, h4, k⟩ := Sat.lift k
      obtain ⟨p', vs, e1, hp1, hh1, r1⟩ := R1.ownD h1
      rw [e0] at e1
      cases e1
      obtain ⟨w, h5, h6⟩ := r1.valS h4
      cases (R1.rsv av h2).key h3
      exact ⟨p, w, rfl, .inl ⟨vs, kk, .inl hh1, rfl, h5.symm⟩, k O1 w H1 R1 l1 h6⟩
    · exact k.elim
  · exact s.elim
def mDGet2 (i : Nat) (mk : M Ag) (mx : M D) : M D := fun E => if isDic E i = true then (bnd mk fun a => bnd mx fun z => fun E => match dkOf E i a with
    | some (es, k) => .ok ((valD es k).getD z) E
    | none => .bad) E else .bad
theorem se_dget2 {i : Nat} {k x : Expr} {tk tx : TE} {mk : M Ag} {mx : M D} (hp : PE X k tk → PE X x tx → PE X e (tDGet2 (tVar i) tk tx)) (hk : SO X W k tk mk) (hx : SE X W x tx mx) : SE X W e (tDGet2 (tVar i) tk tx) (mDGet2 i mk mx) := by
  refine ⟨hp hk.pe hx.pe, fun F O E σ H Q R s => ?_⟩
  unfold mDGet2 at s
  split at s
  · rename_i h0
    obtain ⟨es0, h0⟩ := isDic_some h0
    obtain ⟨p, vs0, e0, _, hh0, _⟩ := R.ownD h0
    refine ⟨.ref p, e0, p, rfl, .inl ⟨_, .inl hh0⟩, hk.rd F O E σ H _ R (s.bnd.mono (fun a E1 k O1 v H1 R1 l1 av => ?_) (fun _ _ k => k))⟩
    refine hx.rd F O1 E1 σ H1 _ R1 (k.bnd.mono (fun z E2 k O2 u H2 R2 l2 rz => ?_) (KX.le l1))
    split at k
    · rename_i es kk h1
      obtain ⟨h1, d, h2, h3⟩ := dkOf_some h1
      obtain ⟨p', vs, e1, hp1, hh1, r1⟩ := R2.ownD h1
      rw [e0] at e1
      cases e1
      cases (R2.rsv (av.le l2) h2).key h3
      refine ⟨_, .inl ⟨vs, kk, .inl hh1, rfl, rfl⟩, k O2 _ H2 R2 (l1.trans l2) ?_⟩
      rcases RpKV.val kk r1 with ⟨q1, q2⟩ | ⟨v, d', q1, q2, q3⟩
      · rw [q1, q2]; exact rz
      · rw [q1, q2]; exact q3
    · exact k.elim
  · exact s.elim
def mDIn (b : Bool) (i : Nat) (mk : M Ag) : M D := bnd mk fun a => fun E => match dkOf E i a with
    | some (es, k) => .ok (.bool ((valD es k).isSome == b)) E
    | none => .bad
def mDPut (i : Nat) (mk : M Ag) (m : M D) : M Fl := bnd m fun d => fun E => if isDic E i = true then (bnd mk fun a => fun E => match dkOf E i a with
    | some (es, k) => if es.length < LIM then .ok .nx (E.set i ((.ow (.d (putD es k d))))) else .bad
    | none => .bad) E else .bad
def mDAug (f : Int → Int → Int) (i : Nat) (mk : M Ag) (m : M D) : M Fl := fun E => if isDic E i = true then (bnd mk fun a => fun E => match dkOf E i a with
    | some (es, k) => match valD es k with
      | some (.int x) => (bnd m fun d => fun E => match d, E[i]? with
        | .int y, some ((.ow (.d es2))) => if es2.length < LIM then .ok .nx (E.set i ((.ow (.d (putD es2 k (.int (f x y))))))) else .bad
        | _, _ => .bad) E
      | _ => .bad
    | none => .bad) E else .bad
theorem ss_daug {f : Int → Int → Int} {i : Nat} {k : Expr} {tk : TE} {mk : M Ag} {m : M D} {st : Stmt} (hp : PE X k tk → PE X e t → PS X st (sDAug (tVar i) tk t (ipI f))) (hk : SO X W k tk mk) (h : SE X W e t m) : SS X W [] st (sDAug (tVar i) tk t (ipI f)) (mDAug f i mk m) := by
  refine ⟨hp hk.pe h.pe, fun F O E σ H D' R s => ?_⟩
  unfold mDAug at s
  split at s
  · rename_i h0
    obtain ⟨es0, h0⟩ := isDic_some h0
    obtain ⟨p, vs0, e0, hp0, hh0, r0⟩ := R.ownD h0
    refine ⟨.ref p, e0, hk.rd F O E σ H _ R (s.bnd.mono (fun a E1 k1 O1 u H1 R1 l1 av => ?_) (KXs.of))⟩
    split at k1
    · rename_i es kk h1
      obtain ⟨h1, dk, h2, h3⟩ := dkOf_some h1
      split at k1
      · rename_i x h4
        obtain ⟨p', vs, e1, hp1, hh1, r1⟩ := R1.ownD h1
        rw [e0] at e1
        cases e1
        cases (R1.rsv av h2).key h3
        obtain ⟨w, h5, h6⟩ := r1.valS h4
        cases h6
        refine ⟨p, _, rfl, .inl ⟨vs, kk, .inl hh1, rfl, h5.symm⟩, h.rd F O1 E1 σ H1 _ R1 (k1.bnd.mono (fun d E2 k2 O2 v H2 R2 l2 r => ?_) (fun x E2 k2 => KX.le l1 _ _ (KXs.of _ _ k2)))⟩
        split at k2
        · rename_i y es2 h7
          split at k2
          · rename_i hl
            cases r
            obtain ⟨p', vs2, e1, hp2, hh2, r2⟩ := R2.ownD h7
            rw [e0] at e1
            cases e1
            obtain ⟨R3, em⟩ := R2.updOwn (vs := .dK (putK vs2 kk (.int (f x y)))) (ds := .d (putD es2 kk (.int (f x y)))) h7 e0 (RpKV.put r2 (.int _))
            exact ⟨x, y, rfl, rfl, _, DPut.k hh2 (by rw [RpKV.length r2]; exact lim_lt hl), k2 O2 σ _ .non R3 (by unfold Le; rw [em]; exact l1.trans l2) Agr.refl⟩
          · exact k2.elim
        · exact k2.elim
      · exact k1.elim
    · exact k1.elim
  · exact s.elim
theorem in_subI {X : Cx} : InOp X .Sub (ipI fun i j => i - j) := in_sub
def mDNew : M Ob := ret (.d [])
end
def rSortD : List V → Hp → VK → Prop := fun xs H Q => ∃ (a : Addr) (kvs : List (Key × V)) (ks : List Int), xs = [.ref a] ∧ Rd H a (.dK kvs) ∧ kvs.map (·.1) = ks.map Sum.inl ∧ ks.length < 1000 ∧
    ∀ (ys : List Int) (p : Addr), ys.Perm ks → ys.Pairwise (· ≤ ·) → H p = none → Q (.ref p) (upd H p (.lst (ys.map V.int)))
theorem key_ints {es : List (Key × Value)} {ns : List Int} (ek : es.map (·.1) = ns.map Sum.inl) {l : List Value} (hl : l.length = es.length) (h : ∀ (j : Nat) (v : Value), l[j]? = some v → ∃ (k : Key) (x : Value), es[j]? = some (k, x) ∧ keyIs k v = true) : PyProof.Rows.IntsAre l ns := by
  refine ints_each (by rw [hl]; simpa using congrArg List.length ek) fun j v hv => ?_
  obtain ⟨k, x, h1, h2⟩ := h j v hv
  have h3 : (ns.map (Sum.inl : Int → Key))[j]? = some k := by rw [← ek, List.getElem?_map, h1]; rfl
  rw [List.getElem?_map] at h3
  cases h4 : ns[j]? with
  | none => rw [h4] at h3; cases h3
  | some y =>
    rw [h4] at h3
    cases h3
    rcases keyIs_shape h2 with ⟨i, t, e1, e2⟩ | ⟨z, t, e1, _⟩
    · cases e1; exact ⟨y, t, rfl, e2⟩
    · cases e1
theorem call_sortD {X : Cx} (hcalm : X.calm = true) : CallR X (.builtin "sorted") rSortD := by
  intro pn st sg H0 vals us QQ J rr hh
  obtain ⟨ad, kv, ns, rfl, hrd, hkeys, hlt, fin⟩ := hh
  obtain ⟨w, rfl, rw'⟩ := vals1 rr
  cases rw'
  obtain ⟨z, lo, es, rel, dd⟩ := dk_rd J.hok hrd
  obtain ⟨ep, hat⟩ := dd.dictAt
  have ek : es.map (·.1) = ns.map Sum.inl := by rw [← rel.keys]; exact hkeys
  have el : es.length = ns.length := by simpa using congrArg List.length ek
  have ez : es.length ≤ sizeLine := by rw [el, sizeLine_eq]; omega
  have nz : ns.length ≤ sizeLine := by rw [← el]; exact ez
  refine Calls.call_function_entry PyProof.Rows.kind_sorted PyProof.Rows.plain_sorted PyProof.Rows.entry_sorted (PyProof.Rows.args_sorted1 _) ?go
  unfold Builtin.«sorted»
  refine wpAny_bind (m := checkCount "sorted" 1 1 _) (wpAny_pure ?go2)
  refine wpAny_bind (PySem.W.kdu_collect (A := X.A.in1) (PySem.W.kdl_dict (knd := mixKind X.prog X.w) (kvs := es) (ep := ep) lo) (J.ok.hd hcalm) hat ez ?go3)
  intro h2 tk acc hk hacc
  have al : acc.toList.length = es.length := by rw [Array.length_toList, hacc.1]
  have hI : PyProof.Rows.IntsAre acc.toList ns := key_ints ek al fun j v e => hacc.2 j v (by rw [← Array.getElem?_toList]; exact e)
  have az : acc.toList.length ≤ sizeLine := by rw [al]; exact ez
  have J1 : Inv X pn sg H0 { st with heap := h2, toks := tk } := J.kept hk
  refine wpAny_bind (wpAny_newList ?go4 az)
  have hoL : (h2.push (PyProof.Rows.seqObj "list" acc.toList.toArray 0)).get? h2.objs.size = some (PyProof.Rows.seqObj "list" acc.toList.toArray 0) := Heap.get?_push_size _ rfl
  show wpAny _ _ _ _ _ { st with heap := h2.push (PyProof.Rows.seqObj "list" acc.toList.toArray 0), toks := tk }
  refine wpAny_bind (wpAny_holding (wpAny_call_entry PyProof.Rows.slot_list_sort ⟨_, hoL, rfl⟩ PyProof.Rows.entry_list_sort
    (SrtO.list_sort_ord (s := { st with heap := h2.push (PyProof.Rows.seqObj "list" acc.toList.toArray 0), toks := tk }) SrtO.swo_int hoL az (fun k => SrtO.ints_sortable hI k) fun out g1 g2 => ⟨_, rfl, ?_⟩) (PyProof.Rows.args_list_sort _)))
  obtain ⟨k1, k2, k3⟩ := SrtO.ints_out hI g1 g2
  obtain ⟨ep2, he2⟩ := PyProof.Rows.sortedHeap_at (vs := acc.toList) (out := out.toArray) hoL
  have hlen : ((out.map SrtO.iv).map V.int).length ≤ sizeLine := by rw [List.length_map, k2.length_eq]; exact nz
  refine wpAny_pure ⟨_, rfl, .ref h2.objs.size, upd H0 h2.objs.size (.lst ((out.map SrtO.iv).map V.int)), J1.laid (t' := tk) (fun b u e => ?_) (Nat.le_refl _)
    (show ObjOk X.prog X.w _ _ _ (.lst ((out.map SrtO.iv).map V.int)) from ⟨hlen, out, ep2, vals_of_ints k1, he2⟩), rfl, fin _ _ k2 k3 (J1.hok.fresh (Nat.le_refl _))⟩
  have hb : b < h2.objs.size := Heap.lt_size e
  rw [PyProof.Rows.sortedHeap_old (Nat.ne_of_lt hb) (by rw [PyProof.Rows.size_push']; exact Nat.lt_succ_of_lt hb)]
  exact Heap.get?_push_of_some _ e
def keyI : Key → Option Int
  | .inl i => some i
  | .inr _ => none
def keysI : List (Key × D) → Option (List Int)
  | [] => some []
  | e :: es => match keyI e.1, keysI es with
    | some i, some is => some (i :: is)
    | _, _ => none
theorem keysI_map : ∀ {es : List (Key × D)} {ks : List Int}, keysI es = some ks → es.map (·.1) = ks.map Sum.inl
  | [], _, h => by cases h; rfl
  | e :: es, ks, h => by
    unfold keysI at h
    cases h1 : keyI e.1 with
    | none => rw [h1] at h; cases h
    | some i =>
      cases h2 : keysI es with
      | none => rw [h1, h2] at h; cases h
      | some is =>
        rw [h1, h2] at h
        cases h
        rw [List.map_cons, List.map_cons, keysI_map h2]
        cases q : e.1 with
        | inl j => rw [q] at h1; cases h1; rfl
        | inr j => rw [q] at h1; cases h1

theorem RpKV.keysI {K : PySem.W.Frag} {G : Hp} {xs : List (Key × V)} {es : List (Key × D)} {ks : List Int} (r : RpKV K G xs es) (h : keysI es = some ks) : xs.map (·.1) = ks.map Sum.inl := (RpKV.keys r).trans (keysI_map h)
def mSortD (i : Nat) : M D := fun E => match E[i]? with
  | some ((.ow (.d es))) => match keysI es with
    | some ks => if ks.length < 1000 then .ok (.list ((sortI ks).map .int)) E else .bad
    | none => .bad
  | _ => .bad
section
variable {X : Cx} {W : WX} {e : Expr}
theorem se_sortD {i : Nat} (hp : PE X e (tCB rSortD (tCons (tVar i) tNil))) : SE X W e (tCB rSortD (tCons (tVar i) tNil)) (mSortD i) := by
  refine ⟨hp, fun F O E σ H Q R s => ?_⟩
  unfold mSortD at s
  split at s
  · rename_i es h0
    obtain ⟨p, vs, e0, hp0, hh0, r0⟩ := R.ownD h0
    split at s
    · rename_i ks h1
      split at s
      · rename_i hl
        refine ⟨.ref p, e0, p, vs, ks, rfl, .inl hh0, r0.keysI h1, hl, fun ys l h2 h3 nl => ?_⟩
        cases sortI_uniq h2 h3
        obtain ⟨g, r⟩ := new_lst R.trk (RpAll.of_ints (K := X.K) (Mask O H) (sortI ks)) nl
        exact s O _ _ (R.grow g) g.le r
      · exact s.elim
    · exact s.elim
  · exact s.elim
end
end Bt
namespace Bt
open PySem L2
section
open PySem.Spec PyProof.Rows HT
variable {prog : Program} {w : World} {A : Around} {E : Value → Shared → Prop} {s : Shared}
end
section
open PyProof.Rows
variable {X : Cx}
end
section
open PySem.W
variable {X : Cx}
def rMaxD (K : PySem.W.Frag) : List V → List V → Hp → VK → Prop := fun xs zs H Q => ∃ p ns z, xs = [.ref p] ∧ zs = [z] ∧ SqL K H p (ns.map V.int) ∧ (ns = [] → Q z H) ∧ (ns ≠ [] → Q (.int (maxL ns)) H)
theorem dpAll_ints {K : PySem.W.Frag} {H : Hp} : ∀ ns : List Int, DpAll K H (ns.map V.int) (ns.map .int)
  | [] => .nil
  | n :: ns => .cons (.int n) (dpAll_ints ns)
theorem depth_ints : ∀ ns : List Int, PyData.depthAll (ns.map .int) ≤ 1
  | [] => by simp [PyData.depthAll]
  | n :: ns => by
    have := depth_ints ns
    simp only [List.map_cons, PyData.depthAll, PyData.depth]
    omega
theorem alike_ints (ns : List Int) : AlikeAll (ns.map .int) := by
  refine ⟨fun x hx y hy => ?_, fun x hx e => ?_⟩
  · obtain ⟨i, _, rfl⟩ := List.mem_map.mp hx
    obtain ⟨j, _, rfl⟩ := List.mem_map.mp hy
    rfl
  · obtain ⟨i, _, rfl⟩ := List.mem_map.mp hx
    cases e
theorem fold_max (n : Int) : ∀ ns : List Int, ns.foldl max n = maxL (n :: ns)
  | [] => rfl
  | [m] => rfl
  | m :: k :: r => by
    rw [List.foldl_cons, fold_max (max n m) (k :: r)]
    show max (max n m) (maxL (k :: r)) = max n (max m (maxL (k :: r)))
    omega
theorem cr_maxD (hc : X.calm = true) (hu : X.A.units + 64 < cLine) : CallRK X (.builtin "max") [Str.ofString "default"] (rMaxD X.K) := by
  intro pins s σ H xs zs us ws Q I r rz h
  obtain ⟨p, ns, z, rfl, rfl, hs, q0, q1⟩ := h
  obtain rfl := Vals.ref1 r
  obtain ⟨u, rfl, ru⟩ := vals1 rz
  obtain ⟨its, r', pl, hz⟩ := I.list hs
  obtain ⟨as, ra⟩ := Dp.readsAll I (ns.map .int) (ns.map V.int) its (dpAll_ints ns) r'
  have hd := depth_ints ns
  refine max_list_default (I.ok.hd hc) pl.isList (by simpa using ra) (alike_ints ns) (by omega) (fun e h' tk kp => ?_) (fun y ys i v h' tk bs e hv hr kp => ?_)
  · have : ns = [] := by simpa using e
    exact ⟨z, H, I.kept (t' := tk) kp, ru, q0 this⟩
  · cases ns with
    | nil => cases e
    | cons n ns =>
      cases e
      rw [maxD_ints, fold_max] at hr
      cases hr
      exact ⟨.int _, H, I.kept (t' := tk) kp, ⟨_, rfl⟩, q1 (List.cons_ne_nil _ _)⟩
end
end Bt
namespace Bt
open PySem L2
section
variable {X : Cx} {W : WX} {a b c e : Expr} {ta tb tc t : TE} {pos : Pos}
def revD : D → Option D
  | .list ds => some (.list ds.reverse)
  | .tuple ds => some (.tuple ds.reverse)
  | _ => none
def mRev (m : M Ag) : M D := bnd m fun a => fun E => match rsv E a with
  | some d => lift (revD d) E
  | none => .bad
def maxDf (d z : D) : Option D := match d with
  | .list ds => match intsOf ds with
    | some [] => some z
    | some (n :: ns) => some (.int (maxL (n :: ns)))
    | none => none
  | _ => none
def mDfl (f : D → D → Option D) (m : M Ag) (mz : M D) : M D := bnd m fun a => bnd mz fun z => fun E => match rsv E a with
  | some d => lift (f d z) E
  | none => .bad
theorem dfl_rd {r : List V → List V → Hp → VK → Prop} {f : D → D → Option D} {m : M Ag} {mz : M D} {tz : TE} {z : Expr} (ha : SO X W e t m) (hz : SE X W z tz mz)
    (hr : ∀ O H x y d w o (Q : VK), Trk O H → Rq X.K O H x d → Rp X.K (Mask O H) y w → f d w = some o → (∀ v, Rp X.K (Mask O H) v o → Q v H) → r [x] [y] H Q) :
    ∀ F O E σ H (Q : VK), Rel X.K F O E σ H → Sat (mDfl f m mz E) (KD X.K F σ O H Q) (KX X.K X.mg F σ O H W) → tCKw r (tCons t tNil) (tCons tz tNil) σ H Q := by
  intro F O E σ H Q R s
  refine ha.rd F O E σ H _ R (s.bnd.mono (fun a1 E1 k O1 v H1 R1 l1 av => ?_) (fun _ _ k => k))
  refine hz.rd F O1 E1 σ H1 _ R1 (k.bnd.mono (fun z1 E2 k2 O2 u H2 R2 l2 ru => ?_) (KX.le l1))
  cases ea : rsv E2 a1 with
  | none => rw [ea] at k2; exact k2.elim
  | some x =>
    rw [ea] at k2
    obtain ⟨o, ho, k3⟩ := Sat.lift k2
    exact hr O2 H2 v u x z1 o Q R2.trk (R2.rsv (av.le l2) ea) ru ho fun w rw3 => k3 O2 w H2 R2 (l1.trans l2) rw3
theorem rok_maxD {K : PySem.W.Frag} : ∀ O H x y d w o (Q : VK), Trk O H → Rq K O H x d → Rp K (Mask O H) y w → maxDf d w = some o → (∀ v, Rp K (Mask O H) v o → Q v H) → rMaxD K [x] [y] H Q := by
  intro O H x y d w o Q t hx hy hf q
  unfold maxDf at hf
  split at hf
  · rename_i ds
    obtain ⟨p, vs, rfl, hp, r1⟩ := hx.list
    split at hf
    · rename_i e
      cases hf
      rw [intsOf_eq e] at r1
      cases r1
      exact ⟨p, [], y, rfl, rfl, SqL.of hp, fun _ => q y hy, fun n => absurd rfl n⟩
    · rename_i n ns e
      cases hf
      rw [intsOf_eq e] at r1
      exact ⟨p, n :: ns, y, rfl, rfl, by rw [← r1.ints]; exact SqL.of hp, (fun z => nomatch z), fun _ => q _ (.int _)⟩
    · cases hf
  · cases hf
theorem se_maxDK (K : PySem.W.Frag) {m : M Ag} {mz : M D} {tz : TE} {z : Expr} {p kp : Pos} (eK : X.K = K) (hc : X.calm = true) (hu : X.A.units + 64 < cLine) (hg : Gl X "max") (hm : X.mg "max" = none) (ha : SO X W e t m) (hz : SE X W z tz mz)
    (hst : starEach [e] X.env = (false, eval e X.env) :: starEach [] X.env := by rfl)
    (he : backTo pos (starEach [e] X.env) = (false, eval e X.env) :: backTo pos (starEach [] X.env) := by rfl) (hpl : (backTo pos (starEach [e] X.env)).any (·.1) = false := by rfl)
    (hall : (backToKw pos (keywordEach [⟨some "default", z, kp⟩] X.env)).all (·.1.isSome) = true := by rfl) (hnone : (backToKw pos (keywordEach [⟨some "default", z, kp⟩] X.env)).any (·.1.isNone) = false := by rfl) (hks : (backToKw pos (keywordEach [⟨some "default", z, kp⟩] X.env)).filterMap (·.1) = [Str.ofString "default"] := by rfl) :
    SE X W (.Call (.Name "max" p) [e] [⟨some "default", z, kp⟩] pos) (tCKw (rMaxD K) (tCons t tNil) (tCons tz tNil)) (mDfl maxDf m mz) := by
  subst eK
  exact ⟨pe_callBK (cr_maxD hc hu) hg hm (by decide +kernel) (pa_cons ha.pe pa_nil hst) (pk_cons hz.pe pk_nil) (by decide) (by decide) he hpl hall hnone hks, dfl_rd ha hz rok_maxD⟩
theorem fn_rec0 {P : Program} {w : World} {K : PySem.W.Frag} {mg : Str → Option Value} {base : Heap} {CX : CXT} {k : Nat} {f : Addr} {fd : FuncData} {ps : List Str} {n : Nat} (hn : n = ps.length) : FnOk P w K mg base CX k f fd ps (spOf K mg n stuck) := by
  subst hn
  refine ⟨fun vs H Q E h => h.1, fun A outer s H args us vs Q E _ _ _ _ h => ?_⟩
  obtain ⟨_, F, O, as, R, s⟩ := h
  exact s.elim
open Classical in
end
end Bt
namespace Bt
open PySem L2
section
open PyProof.Rows
variable {X : Cx}
end
section
variable {X : Cx} {W : WX} {e : Expr} {t : TE} {m : M D} {pos : Pos}
def mPutAug (f : Int → Int → Int) (i : Nat) (mk : M Ag) (m : M D) : M Fl := fun E => match E[i]? with
  | some ((.ow (.l _))) => (bnd mk fun a => fun E => match E[i]?, rsv E a with
    | some ((.ow (.l ds))), some (.int k) => match atI ds k with
      | some (.int x) => (bnd m fun d => fun E => match d, E[i]? with
        | .int y, some ((.ow (.l ds))) => match ixN ds.length k with
          | some j => .ok .nx (E.set i ((.ow (.l (ds.set j (.int (f x y)))))))
          | none => .bad
        | _, _ => .bad) E
      | _ => .bad
    | _, _ => .bad) E
  | _ => .bad
def mPop (i : Nat) (mk : M Ag) : M D := fun E => match E[i]? with
  | some ((.ow (.l _))) => (bnd mk fun a => fun E => match E[i]?, rsv E a with
    | some ((.ow (.l ds))), some (.int k) => match ixN ds.length k with
      | some j => match ds[j]? with
        | some d => if ds.length ≤ LIM then .ok d (E.set i ((.ow (.l (ds.eraseIdx j))))) else .bad
        | none => .bad
      | none => .bad
    | _, _ => .bad) E
  | _ => .bad
theorem RpAll.eraseIdx {K : PySem.W.Frag} {G : Hp} : ∀ {vs : List V} {ds : List D} (n : Nat), RpAll K G vs ds → RpAll K G (vs.eraseIdx n) (ds.eraseIdx n)
  | _, _, _, .nil => .nil
  | _, _, 0, .cons _ r => r
  | _, _, n + 1, .cons q r => .cons q (RpAll.eraseIdx n r)
theorem se_pop {i : Nat} {k : Expr} {tk : TE} {mk : M Ag} (hp : PE X k tk → PE X e (tBM X.K "list" rPopAt (tVar i) (tCons tk tNil))) (hk : SO X W k tk mk) : SE X W e (tBM X.K "list" rPopAt (tVar i) (tCons tk tNil)) (mPop i mk) := by
  refine ⟨hp hk.pe, fun F O E σ H Q R s => ?_⟩
  unfold mPop at s
  split at s
  · rename_i ds0 h0
    obtain ⟨p, vs0, e0, hp0, hh0, r0⟩ := R.ownL h0
    refine ⟨.ref p, e0, .inl ⟨rfl, _, SqL.of hh0⟩, hk.rd F O E σ H _ R (s.bnd.mono (fun a E1 k1 O1 v H1 R1 l1 av => ?_) (fun _ _ k => k))⟩
    split at k1
    · rename_i ds kk h1 q
      split at k1
      · rename_i j hj
        split at k1
        · rename_i d hd
          split at k1
          · rename_i hsz
            obtain ⟨p', vs, e1, hp1, hh1, r1⟩ := R1.ownL h1
            rw [e0] at e1
            cases e1
            cases (R1.rsv av q).int
            obtain ⟨w, hw, rw1⟩ := r1.get' hd
            obtain ⟨z1, z2, z3, z4⟩ := ixN_seq hj
            obtain ⟨R3, em⟩ := R1.updOwn (vs := .lst (vs.eraseIdx j)) (ds := .l (ds.eraseIdx j)) h1 e0 (r1.eraseIdx j)
            have hL : LIM = 100000 := rfl
            refine ⟨p, vs, kk, j, w, rfl, rfl, hh1, by omega, by omega, by rw [r1.length]; exact z1, hw, k1 O1 w _ R3 (by unfold Le; rw [em]; exact l1) (by rw [em]; exact rw1)⟩
          · exact k1.elim
        · exact k1.elim
      · exact k1.elim
    · exact k1.elim
  · exact s.elim
end
end Bt
namespace Bt
open PySem L2
section
variable {X : Cx} {W : WX}
def asL (d : D) : M (List D) := match d with
  | .list ds => ret ds
  | _ => stuck
def mAsL (m : M D) : M (List D) := bnd m asL
theorem sf_lc {b : Bool} {elt tg iter : Expr} {ifs : List Expr} {scope : Scope} {own : List (Str × Nat)} {asg : List Nat} {pos : Pos} {wi : TI} {g : TG} {tt : TT} {te : TE} {mi : M (List D)} {mg : MG} {mt : M Bool} {me : M D} (hc : X.calm = true) (hN : X.N.Nodup) (hi : SI X W b tg iter wi mi) (ok : BlkOk X.N X.env.scope scope own)
    (hg : ∀ (s : Shared) (H : Hp) (C : Addr) (cl : List (Str × Addr)) (fp : List Addr), SG (X.blk s H scope (compEnvC scope cl C X.env) fp) b asg tg g mg) (ha : ∀ i ∈ asg, i ∈ own.map (·.2)) (ht : ∀ (s : Shared) (H : Hp) (C : Addr) (cl : List (Str × Addr)) (fp : List Addr), STs (X.blk s H scope (compEnvC scope cl C X.env) fp) W0 ifs tt mt)
    (he : ∀ (s : Shared) (H : Hp) (C : Addr) (cl : List (Str × Addr)) (fp : List Addr), SE (X.blk s H scope (compEnvC scope cl C X.env) fp) W0 elt te me) (hs : ∀ x, foldedSetIterable iter X.env x = pure x := by intro _; rfl) :
    SF X W (.ListComp elt [⟨tg, iter, ifs, 0⟩] scope pos) (tLc wi g tt te (own.map (·.2))) (mAsL (mLc mi mg mt me (own.map (·.2)))) := by
  refine ⟨pe_lc hc hN hi.pi ok (fun s H C cl fp => (hg s H C cl fp).pg) (fun s H C cl fp => (ht s H C cl fp).pt) (fun s H C cl fp => (he s H C cl fp).pe) hs, fun F O E σ H Q R s => ?_⟩
  refine lc_rdF hi (fun O E σ H v d E' F Q R r e q => ?_) (fun F O E σ H Q R s => (ht X.s_0 X.H_0 0 [] []).rd F O E σ H Q R s) (fun F O E σ H Q R s => (he X.s_0 X.H_0 0 [] []).rd F O E σ H Q R s) F O E σ H Q R (s.bnd.mono (fun d E1 k O1 p ws ds H1 ed R1 hF l1 r1 => ?_) (fun _ _ k => k))
  · exact (hg X.s_0 X.H_0 0 [] []).rd F O E σ H v d E' Q R r e fun σ' R' l' p' => q σ' R' (wipe_agree l' p' ha)
  · subst ed
    exact k O1 p ws H1 R1 hF l1 r1
end
section
variable {X : Cx} {W : WX} {tg e : Expr}
def downD (hi lo : Int) : List D := (List.range (hi - lo).toNat).map fun k => .int (hi - (k : Nat))
noncomputable def mRng3 (ms : M (List Ag)) : M (List D) := bnd ms fun as => fun E => match rsvs E as with
  | some [.int i, .int j, .int k] => if rgOk i && rgOk j && decide (k = -1) then .ok (downD i j) E else .bad
  | _ => .bad
end
end Bt
namespace Bt
open PySem L2
def borSl (E : En) : List Ag → Option (List Sl)
  | [] => some []
  | .d d :: r => (borSl E r).map (.dat d :: ·)
  | .r i :: r => match E[i]? with
    | some (.dat d) => (borSl E r).map (.dat d :: ·)
    | some ((.ow (.l ds))) => (borSl E r).map (.dat (.list ds) :: ·)
    | some (.scr d) => (borSl E r).map (.scr d :: ·)
    | _ => none
section
variable {K : PySem.W.Frag} {F : Frm} {O : List Addr} {E : En} {σ : L2.St} {H : Hp} {vs : List V} {ags : List Ag} {as : List Sl}
end
def flatX (x : Exc) : Bool := match x.fld with
  | none => true
  | _ => false
def mCallB (Fm : M Sl) (ms : M (List Ag)) : M D := bnd ms fun ags => fun E => match borSl E ags with
  | none => .bad
  | some as => match Fm as with
    | .ok (.dat d) _ => if flatD d then .ok d E else .bad
    | .ex x _ => if flatX x then .ex x E else .bad
    | _ => .bad
section
variable {X : Cx} {W : WX} {P : Program} {w : World} {K : PySem.W.Frag} {mg : Str → Option Value} {base : Heap} {e : Expr} {pos : Pos}
end
end Bt
namespace Bt
open PySem L2

section
variable {X : Cx} {W : WX}
theorem se_gint {x : Str} {i : Int} {pos : Pos} (hg : Gl X x) (hm : ∃ t, X.mg x = some (.int i t)) (hd : (x == ("__debug__" : Str)) = false := by decide) : SE X W (.Name x pos) (tC (.int i)) (ret (.int i)) := by
  obtain ⟨t, hm⟩ := hm
  exact se_c (pe_glob hg hm ⟨t, rfl⟩ hd) fun _ => .int _
theorem se_gstr {x : Str} {i : Str} {pos : Pos} (hg : Gl X x) (hm : ∃ t, X.mg x = some (.str i t)) (hd : (x == ("__debug__" : Str)) = false := by decide) : SE X W (.Name x pos) (tC (.str i)) (ret (.str i)) := by
  obtain ⟨t, hm⟩ := hm
  exact se_c (pe_glob hg hm ⟨t, rfl⟩ hd) fun _ => .str _
def GTup (K : PySem.W.Frag) (mg : Str → Option Value) (x : Str) (a : Addr) (ds : List D) : Prop := mg x = some (.ref a) ∧ ∀ G, Rp K G (.ref a) (.tuple ds)
theorem se_gtup {x : Str} {a : Addr} {ds : List D} {pos : Pos} (hg : Gl X x) (hm : GTup X.K X.mg x a ds) (hd : (x == ("__debug__" : Str)) = false := by decide) : SE X W (.Name x pos) (tC (.ref a)) (ret (.tuple ds)) :=
  se_c (pe_glob hg hm.1 rfl hd) hm.2
end
end Bt
namespace Bt
open PySem PySem.Spec PySem.Calls PyProof.Rows PySem.W L2

section
variable {X : Cx} {pins : List (Addr × Obj)} {σ : L2.St} {H : Hp} {s : Shared} {E : Value → Shared → Prop}
theorem star_newL {xs : List V} {its : List Value} {u : Value} {h₂ : Heap} {tk : Nat} {Q : List Value → Shared → Prop} (I2 : Inv X pins σ H { s with heap := h₂, toks := tk }) (hxs : xs.length ≤ sizeLine) (rv : Vals xs its)
    (hQ : ∀ q s', Inv X pins σ (upd H q (.lst xs)) s' → H q = none → Q [u, .ref q] s') :
    wpAny (model X.prog X.w) X.A (newList its >>= fun d => pure ([u] ++ [d] ++ [])) Q E { s with heap := h₂, toks := tk } := by
  refine wpAny_bind (wpAny_newList ?_ (by rw [← rv.length]; exact hxs))
  refine wpAny_pure (hQ h₂.objs.size _ ?_ (I2.hok.fresh (Nat.le_refl _)))
  exact I2.laid (t' := tk) (fun b u e => Heap.get?_push_of_some _ e) (Nat.le_refl _) (show ObjOk X.prog X.w _ _ _ (.lst xs) from ⟨hxs, its, 0, rv, Heap.get?_push_size _ rfl⟩)
theorem star_unT {a : Addr} {x : V} {xs : List V} {Q : List Value → Shared → Prop} (I : Inv X pins σ H s) (hc : X.calm = true) (hq : SqT X.K H a (x :: xs)) (hz : xs.length ≤ 16000)
    (hQ : ∀ u q s', Inv X pins σ (upd H q (.lst xs)) s' → H q = none → RelV x u → Q [u, .ref q] s') : wpAny (model X.prog X.w) X.A (unpackItems (.ref a) 2 (some 1)) Q E s := by
  obtain ⟨its, rv, hl, hsz⟩ := I.tuple hq
  cases rv with
  | @cons _ u _ us r rs =>
  have hll := rs.length
  have hh := I.ok.hd hc
  have hlt : a ≠ s.heap.objs.size := by obtain ⟨o, ho, _⟩ := hl; exact Nat.ne_of_lt (Heap.lt_size ho)
  unfold unpackItems
  refine wpAny_bind ?_
  unfold notIterableAtAll
  refine wpAny_bind (wpAny_specialOf hl.typeIs slot_tuple_iter.lookup ?_)
  refine wpAny_pure ?_
  simp only [Bool.false_eq_true, if_false]
  refine wpAny_bind (wpAny_holding (iter_tuple hl ?_))
  refine wpAny_bind (wpAny_holding (draw_tuple hlt 1 0 _ _ ⟨_, Heap.get?_push_size _ rfl, rfl, rfl⟩ (hl.push _) (by simp) fun h₁ hit₁ hs₁ => ?_))
  have hl₁ : IsTup h₁ a (u :: us).toArray := (hl.push _).extBut hs₁.extBut hlt
  have hit₁' := hit₁
  obtain ⟨oi, hoi, _⟩ := hit₁'
  have hl₁' := hl₁
  obtain ⟨ol, hol, _⟩ := hl₁'
  refine wpAny_bind (wpAny_holding (kun_collect (s := { s with heap := h₁ }) (T := "tuple_iterator") (.inr (.inr (.inr rfl))) (Walks.tuple (A := X.A.in1) hh s.heap.objs.size a hlt (u :: us).toArray) (fun j u st => st.1.typeIs) (k := 1) (by simp) ⟨hit₁, hl₁⟩ (Heap.lt_size hoi) (Heap.lt_size hol) (fun h₂ tk hk => ?_) (by rw [sizeLine_eq]; simp; omega)))
  have I2 : Inv X pins σ H { s with heap := h₂, toks := tk } := I.kept fun b o e => hk b o (Nat.ne_of_lt (Heap.lt_size e)) (hs₁.extBut b o (Nat.ne_of_lt (Heap.lt_size e)) (Heap.get?_push_of_some _ e))
  have := star_newL (E := E) (u := u) I2 (by rw [sizeLine_eq]; omega) rs (fun q s' I3 hn => hQ u q s' I3 hn r)
  simpa using this
theorem star_unL {a : Addr} {x : V} {xs : List V} {Q : List Value → Shared → Prop} (I : Inv X pins σ H s) (hc : X.calm = true) (hq : SqL X.K H a (x :: xs)) (hz : xs.length ≤ 16000)
    (hQ : ∀ u q s', Inv X pins σ (upd H q (.lst xs)) s' → H q = none → RelV x u → Q [u, .ref q] s') : wpAny (model X.prog X.w) X.A (unpackItems (.ref a) 2 (some 1)) Q E s := by
  obtain ⟨its, rv, pl, hsz⟩ := I.list hq
  cases rv with
  | @cons _ u _ us r rs =>
  have hl : s.heap.IsList a (u :: us).toArray := pl.isList
  have hll := rs.length
  have hh := I.ok.hd hc
  have hlt : a ≠ s.heap.objs.size := by obtain ⟨o, ho, _⟩ := hl; exact Nat.ne_of_lt (Heap.lt_size ho)
  unfold unpackItems
  refine wpAny_bind ?_
  unfold notIterableAtAll
  refine wpAny_bind (wpAny_specialOf hl.typeIs slot_list_iter.lookup ?_)
  refine wpAny_pure ?_
  simp only [Bool.false_eq_true, if_false]
  refine wpAny_bind (wpAny_holding (wpAny_pyIter_list hl ?_))
  refine wpAny_bind (wpAny_holding (kun_draw hlt 1 0 _ _ ⟨_, Heap.get?_push_size _ rfl, rfl, rfl⟩ (hl.push _) (by simp) fun h₁ hit₁ hs₁ => ?_))
  have hl₁ : h₁.IsList a (u :: us).toArray := (hl.push _).extBut hs₁.extBut hlt
  have hit₁' := hit₁
  obtain ⟨oi, hoi, _⟩ := hit₁'
  have hl₁' := hl₁
  obtain ⟨ol, hol, _⟩ := hl₁'
  refine wpAny_bind (wpAny_holding (kun_collect (s := { s with heap := h₁ }) (T := "list_iterator") (.inr (.inr (.inl rfl))) (Walks.list (A := X.A.in1) hh s.heap.objs.size a hlt (u :: us).toArray) (fun j u st => st.1.typeIs) (k := 1) (by simp) ⟨hit₁, hl₁⟩ (Heap.lt_size hoi) (Heap.lt_size hol) (fun h₂ tk hk => ?_) (by rw [sizeLine_eq]; simp; omega)))
  have I2 : Inv X pins σ H { s with heap := h₂, toks := tk } := I.kept fun b o e => hk b o (Nat.ne_of_lt (Heap.lt_size e)) (hs₁.extBut b o (Nat.ne_of_lt (Heap.lt_size e)) (Heap.get?_push_of_some _ e))
  have := star_newL (E := E) (u := u) I2 (by rw [sizeLine_eq]; omega) rs (fun q s' I3 hn => hQ u q s' I3 hn r)
  simpa using this
end
def gStar (K : PySem.W.Frag) (g1 : TG) (i : Nat) : TG := fun v σ H Q => ∃ a x xs, v = .ref a ∧ (SqT K H a (x :: xs) ∨ SqL K H a (x :: xs)) ∧ xs.length ≤ 16000 ∧ ∀ q, H q = none → g1 x σ (upd H q (.lst xs)) fun σ' H' => Q (σ'.set i (some (.ref q))) H'
def gStarM (g1 : MG) (i : Nat) : MG
  | .tuple (d :: ds), E => if ds.length ≤ 16000 then (g1 d E).bind (gN i (.list ds)) else none
  | .list (d :: ds), E => if ds.length ≤ 16000 then (g1 d E).bind (gN i (.list ds)) else none
  | _, _ => none
section
variable {X : Cx} {W : WX} {e tg : Expr} {t : TE} {m : M D}
theorem pg_star {g1 : TG} {i k : Nat} {y : Str} {p1 p2 pos : Pos} (hc : X.calm = true) (h1 : PG X tg g1) (h2 : PG X (.Name y p1) (gName i))
    (hn : (assignEach [tg, .Starred (.Name y p1) p2] X.env).length = 2 := by rfl) (hst : (assignEach [tg, .Starred (.Name y p1) p2] X.env).findIdx? (·.1) = some 1 := by rfl) (hm : (assignEach [tg, .Starred (.Name y p1) p2] X.env).map (·.2) = [assign tg X.env, assign (.Name y p1) X.env] := by rfl) :
    PG X (.Tuple [tg, .Starred (.Name y p1) p2] k pos) (gStar X.K g1 i) := by
  refine ⟨fun pins s σ H v u Q I r hw => ?_⟩
  obtain ⟨a, x, xs, e1, hq, hz, hw⟩ := hw
  subst e1
  cases r
  have fin : ∀ u q s', Inv X pins σ (upd H q (.lst xs)) s' → H q = none → RelV x u → wpAny (model X.prog X.w) X.A (assignInOrder [assign tg X.env, assign (.Name y p1) X.env] [u, .ref q]) (fun _ s' => ∃ σ' H', Inv X pins σ' H' s' ∧ Q σ' H') X.xe s' := fun u q s' I1 hn r => by
    refine assignInOrder_cons (thn (h1.run pins s' σ _ x u _ I1 r (hw q hn)) fun _ s1 ⟨σ1, H1, I2, q1⟩ => ?_)
    refine assignInOrder_cons (thn (h2.run pins s1 σ1 H1 (.ref q) _ Q I2 rfl q1) fun _ s2 ⟨σ2, H2, I3, q2⟩ => ?_)
    exact assignInOrder_nil ⟨σ2, H2, I3, q2⟩
  rw [assign_Tuple]
  refine wpAny_bind (wpAny_standAt ?_)
  unfold unpack
  rw [hn, hst, hm]
  rcases hq with hq | hq
  · exact wpAny_bind (wpAny_holding (star_unT I hc hq hz fun u q s' I1 hn r => fin u q s' I1 hn r))
  · exact wpAny_bind (wpAny_holding (star_unL I hc hq hz fun u q s' I1 hn r => fin u q s' I1 hn r))
theorem ss_star {asg : List Nat} {g1 : TG} {mg : MG} {i k : Nat} {y : Str} {p1 p2 pos pos' : Pos} (hc : X.calm = true) (h : SE X W e t m) (h1 : SG X false asg tg g1 mg) (h2 : PG X (.Name y p1) (gName i))
    (hn : (assignEach [tg, .Starred (.Name y p1) p2] X.env).length = 2 := by rfl) (hst : (assignEach [tg, .Starred (.Name y p1) p2] X.env).findIdx? (·.1) = some 1 := by rfl) (hm : (assignEach [tg, .Starred (.Name y p1) p2] X.env).map (·.2) = [assign tg X.env, assign (.Name y p1) X.env] := by rfl)
    (hs : swapsWithSole [.Tuple [tg, .Starred (.Name y p1) p2] k pos] e pos'.line X.env = pure false := by rfl) (hw : swappedStores [.Tuple [tg, .Starred (.Name y p1) p2] k pos] e X.env = pure none := by rfl)
    (hm1 : (assignEach [.Tuple [tg, .Starred (.Name y p1) p2] k pos] X.env).map (·.2) = [assign (.Tuple [tg, .Starred (.Name y p1) p2] k pos) X.env] := by rfl) :
    SS X W (asg ++ [i]) (.Assign [.Tuple [tg, .Starred (.Name y p1) p2] k pos] e pos') (tAsg t (gStar X.K g1 i)) (mSet (gStarM mg i) m) := by
  refine ⟨ps_asg h.pe (pg_star hc h1.pg h2 hn hst hm) hs hw hm1, fun F O E σ H D' R s => h.rd F O E σ H _ R (s.bnd.mono (fun d E1 k O1 v H1 R1 l1 r => ?_) (KXs.of))⟩
  have key : ∀ a d0 ds E2, v = .ref a → (∃ x xs, (SqT X.K H1 a (x :: xs) ∨ SqL X.K H1 a (x :: xs)) ∧ RpAll X.K (Mask O1 H1) (x :: xs) (d0 :: ds)) → ds.length ≤ 16000 → (mg d0 E1).bind (gN i (.list ds)) = some E2 → Sat (.ok Fl.nx E2) (KS X.K F (asg ++ [i]) σ O H D') (KXs X.K X.mg F (asg ++ [i]) σ O H W) → gStar X.K g1 i v σ H1 D'.nx := by
    intro a d0 ds E2 ea hx hl eg k
    obtain ⟨x, xs, hx, rr⟩ := hx
    cases rr with
    | cons r0 rs =>
    refine ⟨a, x, xs, ea, hx, by rw [rs.length]; exact hl, fun q nq => ?_⟩
    cases e1 : mg d0 E1 with
    | none => rw [e1] at eg; cases eg
    | some E3 =>
      rw [e1] at eg
      obtain ⟨g, rl⟩ := new_lst R1.trk rs nq
      refine h1.rd F O1 E1 σ _ x d0 E3 _ (R1.grow g) (.inl (r0.mono g.le)) e1 fun σ2 R2 l2 a2 => ?_
      change gN i (.list ds) E3 = some E2 at eg
      unfold gN at eg
      split at eg
      · rename_i hi
        cases eg
        refine k O1 _ _ .non (R2.set rl hi) (l1.trans g.le) fun j hj => ?_
        have hne : i ≠ j := fun z => hj (by rw [z]; exact List.mem_append_right _ List.mem_cons_self)
        rw [List.getElem?_set_ne hne]
        exact a2 j fun z => hj (List.mem_append_left _ z)
      · cases eg
  cases eg : gStarM mg i d E1 with
  | none => rw [eg] at k; exact k.elim
  | some E2 =>
    rw [eg] at k
    unfold gStarM at eg
    split at eg
    · rename_i d0 ds
      split at eg
      · rename_i hl
        cases r with
        | tup h r => cases r with
          | cons r0 rs => exact key _ d0 ds E2 rfl ⟨_, _, .inl (sqT_mono (mask_le O1 H1) h.t), .cons r0 rs⟩ hl eg k
      · cases eg
    · rename_i d0 ds
      split at eg
      · rename_i hl
        cases r with
        | lst h r => cases r with
          | cons r0 rs => exact key _ d0 ds E2 rfl ⟨_, _, .inr (.inl (.inl (mask_le O1 H1 _ _ h))), .cons r0 rs⟩ hl eg k
      · cases eg
    · cases eg
end
end Bt
namespace Bt
open PySem L2
section
variable {X : Cx} {pins : List (Addr × Obj)} {σ : L2.St} {H : Hp} {sI s : Shared} {a : Addr} {o : HO}
end
section
variable {X : Cx} {x n : Str} {c : Value} {i : Nat} {body sts : List Stmt} {s0 : Stmt} {np pos hpos : Pos} {tb : WX → TS} {ts : TS} {Wout : WX}
end
def xOf (x : Exc) : D := match x.fld with
  | none => .dict [(.int x.cls, .none)]
  | some d => .dict [(.int x.cls, .none), (.none, d)]
def isSub (a b : Nat) : Bool := a == b || b == 0
def mTry (c : Nat) (i : Nat) (mb ms : M Fl) : M Fl := fun E => match mb E with
  | .ok f E' => .ok f E'
  | .ex x E' => if isSub x.cls c then (if i < E'.length then (match ms (E'.set i (.dat (xOf x))) with
      | .ok f E2 => .ok f (E2.set i .un)
      | _ => .bad) else .bad) else .ex x E'
  | .bad => .bad
def veT : List Value := [.type "ValueError", .type "Exception", .type "BaseException", .type "object"]
def oexB (K : PySem.W.Frag) (C : Addr) : Bool := match K.lookup C with
  | some ⟨.type "type", _, .cls cd, sl⟩ => (match cd.mro, sl.toList with
    | .ref C' :: bm, [_, _, _, _, some (.builtin n), _] => C' == C && n == "ValueError.__new__" && !cd.hasDel && cd.hasDict && PySem.HandSPX.refsVE bm
    | _, _ => false)
  | _ => false
theorem oexB_ok {K : PySem.W.Frag} {C : Addr} (h : oexB K C = true) : ∃ nm q N bs bm sn sub ab col dd k0 k1 k2 k3 k5, K.lookup C = some (excClassObj nm q C N bs bm true sn sub ab col dd k0 k1 k2 k3 k5 "ValueError.__new__") ∧ PySem.HandSPX.refsVE bm = true := by
  unfold oexB at h
  split at h
  · rename_i dd cd sl ho
    split at h
    · rename_i C' bm k0 k1 k2 k3 n k5 hm hs
      simp only [Bool.and_eq_true, beq_iff_eq, Bool.not_eq_true'] at h
      obtain ⟨⟨⟨⟨rfl, rfl⟩, hdel⟩, hdi⟩, hr⟩ := h
      obtain ⟨nm, bs, mro, ns, qn, hd, sn, sub, ab, col, del⟩ := cd
      dsimp only at hm hdel hdi
      subst hm hdel hdi
      have hsl : sl = #[k0, k1, k2, k3, some (.builtin "ValueError.__new__"), k5] := by
        obtain ⟨l⟩ := sl
        simp only at hs
        rw [hs]
      subst hsl
      exact ⟨nm, qn, ns, bs, bm, sn, sub, ab, col, dd, k0, k1, k2, k3, k5, ho, hr⟩
    · cases h
  · cases h
def xOneB (K : PySem.W.Frag) (c : Nat) (C : Addr) : Bool := xfB K C && ((PySem.W.clsIn K C).isSome && (decide (PySem.W.typeIn K (.ref C) = some (.type "type")) && (PySem.W.keepIn K (.ref C) && (decide (PySem.W.findIn K (.ref C) "__class__" = some (some (.builtin "object.__class__"))) && (decide (PySem.W.mroIn K C (.type "object") = some true) &&
  (decide (PySem.W.kitOne K (.ref C) (.type "ValueError") = some true) && (decide (PySem.W.kitOne K (.type "NoneType") (.ref C) = some false) &&
  ((if c < 12 then PySem.W.excIn K C veT "ValueError.__new__" else oexB K C && (decide (PySem.W.findIn K (.ref C) (xFld c) = some none) && decide (PySem.W.findIn K (.ref C) "__setattr__" = some (some (.builtin "object.__setattr__"))))) &&
  (List.range 17).all fun n => match PySem.W.nsIn K mainGlobals (xName n) with
    | some (some (.ref N)) => decide (PySem.W.subIn K (.ref C) (.ref N) = some (isSub c n)) && decide (PySem.W.kitOne K (.ref C) (.ref N) = some (isSub c n))
    | _ => true))))))))
def xAllB (K : PySem.W.Frag) : Bool := (decide (PySem.W.specialIn K (.builtin "object.__class__") "__get__" = some (some (.builtin "getset_descriptor.__get__"))) && decide (PySem.W.takesIn K (.builtin "object.__class__") = some true)) && ((match PySem.W.nsIn K mainGlobals "TillError" with
    | some (some (.ref T)) => decide (PySem.W.specialIn K (.ref T) "__getattribute__" = some (some (.builtin "type.__getattribute__"))) && (PySem.W.readsIn K T (.type "type") && decide ((match PySem.W.findCls K (.ref T) (.type "type") "__init__" with | some (.val v) => some v | _ => none) = some (.builtin "ValueError.__init__")))
    | _ => true) && (List.range 17).all fun c => match PySem.W.nsIn K mainGlobals (xName c) with
    | some (some (.ref C)) => xOneB K c C
    | _ => true)
structure XF (K : PySem.W.Frag) (c : Nat) (C : Addr) : Prop where
  fc : XfC K C
  cl : (PySem.W.clsIn K C).isSome = true
  ty : PySem.W.typeIn K (.ref C) = some (.type "type")
  kp : PySem.W.keepIn K (.ref C) = true
  ca : PySem.W.findIn K (.ref C) "__class__" = some (some (.builtin "object.__class__"))
  mo : PySem.W.mroIn K C (.type "object") = some true
  ve : PySem.W.kitOne K (.ref C) (.type "ValueError") = some true
  no : PySem.W.kitOne K (.type "NoneType") (.ref C) = some false
  in0 : c < 12 → PySem.W.excIn K C veT "ValueError.__new__" = true
  in1 : ¬ c < 12 → oexB K C = true ∧ PySem.W.findIn K (.ref C) (xFld c) = some none ∧ PySem.W.findIn K (.ref C) "__setattr__" = some (some (.builtin "object.__setattr__"))
  su : ∀ n N, n < 17 → PySem.W.nsIn K mainGlobals (xName n) = some (some (.ref N)) → PySem.W.subIn K (.ref C) (.ref N) = some (isSub c n) ∧ PySem.W.kitOne K (.ref C) (.ref N) = some (isSub c n)
  sg : PySem.W.specialIn K (.builtin "object.__class__") "__get__" = some (some (.builtin "getset_descriptor.__get__"))
  tk : PySem.W.takesIn K (.builtin "object.__class__") = some true
theorem xf_of {K : PySem.W.Frag} {c : Nat} {C : Addr} (h : xAllB K = true) (hc : c < 17) (e : PySem.W.nsIn K mainGlobals (xName c) = some (some (.ref C))) : XF K c C := by
  unfold xAllB at h
  rw [Bool.and_eq_true, Bool.and_eq_true, Bool.and_eq_true] at h
  obtain ⟨⟨h1, h2⟩, _, h3⟩ := h
  have q := List.all_eq_true.mp h3 c (List.mem_range.mpr hc)
  rw [e] at q
  dsimp only at q
  unfold xOneB at q
  simp only [Bool.and_eq_true, decide_eq_true_eq] at q
  obtain ⟨q1, q2, q3, q4, q5, q6, q7, q8, q9, q10⟩ := q
  refine ⟨xfB_ok q1, q2, q3, q4, q5, q6, q7, q8, fun l => ?_, fun l => ?_, fun n N hn en => ?_, of_decide_eq_true h1, of_decide_eq_true h2⟩
  · rw [if_pos l] at q9; exact q9
  · rw [if_neg l] at q9
    simp only [Bool.and_eq_true, decide_eq_true_eq] at q9
    exact q9
  · have z := List.all_eq_true.mp q10 n (List.mem_range.mpr hn)
    rw [en] at z
    simp only [Bool.and_eq_true, decide_eq_true_eq] at z
    exact z
theorem till_of {K : PySem.W.Frag} {T : Addr} (h : xAllB K = true) (e : PySem.W.nsIn K mainGlobals "TillError" = some (some (.ref T))) : PySem.W.specialIn K (.ref T) "__getattribute__" = some (some (.builtin "type.__getattribute__")) ∧ PySem.W.readsIn K T (.type "type") = true ∧ PySem.W.findCls K (.ref T) (.type "type") "__init__" = some (.val (.builtin "ValueError.__init__")) := by
  unfold xAllB at h
  rw [Bool.and_eq_true, Bool.and_eq_true, Bool.and_eq_true] at h
  obtain ⟨_, q, _⟩ := h
  rw [e] at q
  simp only [Bool.and_eq_true, decide_eq_true_eq] at q
  obtain ⟨q1, q2, q3⟩ := q
  refine ⟨q1, q2, ?_⟩
  split at q3
  · rename_i v ev
    cases q3
    exact ev
  · cases q3
theorem XF.raises {X : Cx} {c : Nat} {C : Addr} (F : XF X.K c C) : Raises X (.ref C) := raises_own F.fc.exC F.ty
theorem XF.oex {K : PySem.W.Frag} {c : Nat} {C : Addr} (F : XF K c C) (h : ¬ c < 12) : OexC K C := ⟨oexB_ok (F.in1 h).1, (F.in1 h).2.2, F.fc.exC, F.ty, F.kp⟩
theorem XF.exm {K : PySem.W.Frag} {c n : Nat} {C N : Addr} (F : XF K c C) (G : XF K n N) (hn : n < 17) (e : PySem.W.nsIn K mainGlobals (xName n) = some (some (.ref N))) : PySem.W.exmOne K (.ref C) (.ref N) = some (isSub c n) := PySem.W.exm_ref G.fc.exC G.fc.hdC G.ty (F.su n N hn e).1
def isCls (n : Nat) : D → Option Bool
  | .dict ((.int c, .none) :: _) => some (isSub c.toNat n || n == 17)
  | .none => if n < 17 then some false else none
  | _ => none
def mIsx (n : Nat) (m : M Ag) : M D := bnd m fun a => fun E => match rsv E a with
  | some d => (match isCls n d with
    | some b => .ok (.bool b) E
    | none => .bad)
  | none => .bad
section
variable {X : Cx} {W : WX} {e : Expr} {t : TE}
def mFld (cs : List Nat) (m : M Ag) : M D := bnd m fun a => fun E => match rsv E a with
  | some (.dict [(.int c, .none), (.none, d)]) => if c.toNat ∈ cs then .ok d E else .bad
  | _ => .bad
end
def XN (K : PySem.W.Frag) (mg : Str → Option Value) (x : Str) (C : Addr) : Prop := PySem.W.nsIn K mainGlobals x = some (some (.ref C)) ∧ mg x = some (.ref C)
def mRaise0 (c : Nat) : M Fl := fun E => .ex ⟨c, none⟩ E
def mRaise1 (c : Nat) (m : M D) : M Fl := bnd m fun d => fun E => .ex ⟨c, some d⟩ E
def spInit (K : PySem.W.Frag) (fl : Str) : Sp := fun vs H Q _ => ∃ (a C : Addr) (v : V), vs = [.ref a, v] ∧ H a = some (exo a C none) ∧ OexC K C ∧ PySem.W.findIn K (.ref C) fl = some none ∧ ∀ dx, H dx = none → dx ≠ a → Q .non (upd (upd H dx (exd dx [(fl, v)])) a (exo a C (some dx)))
section
variable {X : Cx} {W : WX} {e : Expr} {t : TE}
theorem ss_raise0 {c : Nat} {C : Addr} {x m : Str} {j : Nat} {p p2 p3 pos : Pos} (K : PySem.W.Frag) {mg : Str → Option Value} (eK : X.K = K) (eM : X.mg = mg) (hx : xAllB K = true) (N : XN K mg x C) (hcn : c < 12 ∧ xName c = x) (hc : X.calm = true) (tk : Takes X W) (hg : Gl X x) (hdb : (x == ("__debug__" : Str)) = false := by decide) :
    SS X W [] (.Raise (some (.Call (.Name x p) [.Constant (.str m) j p2] [] p3)) none pos) (fun _ σ H => W (.ref C) none σ H) (mRaise0 c) := by
  subst eK eM
  obtain ⟨hl, rfl⟩ := hcn
  have F := xf_of hx (by omega : c < 17) N.1
  refine ⟨ps_raise hc tk (pmk_own PySem.F.excBase_ValueError (F.in0 hl) N.2 F.kp F.raises hg hdb), fun G O E σ H D' R s => ?_⟩
  exact s O σ H (.ref C) none R (Le.refl O H) Agr.refl ⟨⟨C, rfl, N.1⟩, (show c < 17 by omega), rfl⟩
theorem ss_raise1 {P : Program} {w : World} {mg : Str → Option Value} {base : Heap} {c k : Nat} {C fI : Addr} {fd : FuncData} {x fl : Str} {m : M D} {p p3 pos : Pos} (K : PySem.W.Frag) (Fi : FnOk P w K mg base (L2.CX P w) k fI fd ["self", fl] (spInit K fl)) (eP : X.prog = P) (ew : X.w = w) (eK : X.K = K) (eM : X.mg = mg) (eB : X.base = base) (hx : xAllB K = true) (N : XN K mg x C) (hcn : ¬ c < 12 ∧ c < 17 ∧ xName c = x ∧ xFld c = fl)
    (iC : PySem.W.findIn K (.ref C) "__init__" = some (some (.ref fI))) (tI : PySem.W.typeIn K (.ref fI) = some (.type "function")) (hb : Binds K fd ["self", fl] []) (hr : Room (k + 1) X.A) (hc : X.calm = true) (tk : Takes X W) (hg : Gl X x) (h : SE X W e t m) (hdb : (x == ("__debug__" : Str)) = false := by decide)
    (he : starEach [e] X.env = (false, eval e X.env) :: starEach [] X.env := by rfl) (hpl : (backTo p3 (starEach [] X.env)).any (·.1) = false := by rfl) :
    SS X W [] (.Raise (some (.Call (.Name x p) [e] [] p3)) none pos) (fun _ σ H => tMkO C (spInit K fl) [] (tCons t tNil) σ H fun cls d H' => W cls d σ H') (mRaise1 c m) := by
  subst eP ew eK eM eB
  obtain ⟨hl, hl2, rfl, rfl⟩ := hcn
  have F := xf_of hx hl2 N.1
  refine ⟨ps_raise hc tk (pmk_oex (F.oex hl) iC tI Fi hr hb .nil (fun pins σ H s e s' I q => passL pins σ H s e s' I q) hg N.2 (pa_cons h.pe pa_nil he) hdb he hpl), fun G O E σ H D' R s => ?_⟩
  refine h.rd G O E σ H _ R (s.bnd.mono (fun d E1 q O1 v H1 R1 l1 rv => ?_) KXs.of)
  refine (show [v].length ≤ 1000 ∧ _ from ⟨Nat.le_of_lt_succ (Nat.lt_of_lt_of_le Nat.one_lt_two (by decide)), fun a ha => ?_⟩)
  refine ⟨a, C, v, rfl, upd_same, F.oex hl, (F.in1 hl).2.1, fun dx hdx hne => ⟨rfl, dx, [(xFld c, v)], upd_same, ?_, ?_, ?_⟩⟩
  · rw [upd_ne hne, upd_same]
  · rw [upd_ne hne] at hdx; exact hdx
  · have h1 : H1 dx = none := by rw [upd_ne hne] at hdx; exact hdx
    have eh : upd (del (upd (upd (upd H1 a (exo a C none)) dx (exd dx [(xFld c, v)])) a (exo a C (some dx))) a) dx (.xd [(xFld c, v)]) = upd H1 dx (.xd [(xFld c, v)]) := by
      funext b
      by_cases hb1 : b = dx
      · subst hb1; rw [upd_same, upd_same]
      · rw [upd_ne hb1, upd_ne hb1]
        by_cases hb2 : b = a
        · subst hb2; rw [del_same, ha]
        · rw [del_ne hb2, upd_ne hb2, upd_ne hb1, upd_ne hb2]
    rw [eh]
    have g := Grow.new (o := .xd [(xFld c, v)]) R1.trk h1
    refine q O1 σ _ (.ref C) (some dx) (R1.grow g) (l1.trans g.le) Agr.refl ⟨⟨C, rfl, N.1⟩, hl2, dx, v, rfl, ?_, rv.mono g.le⟩
    rw [mask_out (trk_fresh R1.trk h1), upd_same]
theorem pe_tinit {K : PySem.W.Frag} {mg : Str → Option Value} {es : List Expr} {ta : TA} {T : Addr} {p1 p2 pos : Pos} {pl : Sem Bool} (eK : X.K = K) (eM : X.mg = mg) (hx : xAllB K = true) (N : XN K mg "TillError" T) (hg : Gl X "TillError") (ha : PA X (e :: es) ta)
    (hc : eval (.Call (.Attribute (.Name "TillError" p1) "__init__" p2) (e :: es) [] pos) X.env = (do let ov ← eval (.Name "TillError" p1) X.env; standAt p2.atName; let (f, first) ← holding [ov] (getMethod ov "__init__" pl); callWith pos f first (backTo pos (starEach (e :: es) X.env)) (backToKw pos (keywordEach [] X.env))) := by rfl)
    (he : starEach (e :: es) X.env = (false, eval e X.env) :: starEach es X.env := by rfl) (hpl : (backTo pos (starEach es X.env)).any (·.1) = false := by rfl) :
    PE X (.Call (.Attribute (.Name "TillError" p1) "__init__" p2) (e :: es) [] pos) (tVeI K ta) := by
  subst eK eM
  obtain ⟨q1, q2, q3⟩ := till_of hx N.1
  refine ⟨fun pins s σ H Q I h => PySem.W.methodCall_KW (ld_glob I hg N.2 (PySem.W.method_cls I.kIn q1 (PySem.W.cls_value I.kIn q2 q3 (by decide +kernel) ?_)) (by decide)) hc⟩
  refine (show wpAny _ _ (callWith pos (Value.builtin "ValueError.__init__") [] (backTo pos (starEach (e :: es) X.env)) []) _ _ _ from PyProof.Rows.callWith_method1 (thn (ha.run pos pins _ σ H _ (I.tok _) h) fun us s1 hh => ?_) he hpl)
  obtain ⟨vs, H1, I1, r1, a, C, ws, rfl, hl, oC, ea, q⟩ := hh
  cases r1 with
  | @cons _ u0 _ ur ra rr =>
    obtain rfl : u0 = Value.ref a := ra
    exact oinit_ok oC I1 ea (by rw [← Paired.length rr, sizeLine_eq]; omega) fun s' J => ⟨.non, H1, J, rfl, q⟩
end
theorem ps_ostK {X : Cx} {o e : Expr} {to te : TE} {f : Str} {p' pos : Pos} (K : PySem.W.Frag) (eK : X.K = K) (ho : PE X o to) (he : PE X e te) (hs : swapsWith e (some (.Attribute o f p')) pos.line X.env = pure false := by rfl) : PS X (.Assign [.Attribute o f p'] e pos) (tOst K f to te) := by
  subst eK
  exact ps_ost ho he hs
theorem init_rd {K : PySem.W.Frag} {fl m : Str} {N : List Str} {vs : List V} {H : Hp} {Q : VK} {Ex : XK} (hN : N.length = 2) (h : spInit K fl vs H Q Ex) : tSeq (tDrop (tVeI K (tCons (tVar 0) (tCons (tC (.str m)) tNil)))) (tSeq (tOst K fl (tVar 0) (tVar 1)) tNext) { nx := fun _ H' => Q .non H', rt := Q } (L2.start N vs) H := by
  obtain ⟨a, C, v, rfl, ha, oC, hno, q⟩ := h
  exact ⟨.ref a, rfl, a, C, [.str m], rfl, Nat.le_of_lt_succ (Nat.lt_of_lt_of_le Nat.one_lt_two (by decide)), oC, ha, v, rfl, .ref a, rfl, a, C, rfl, oC, hno, .inl ⟨ha, q⟩⟩
section
variable {X : Cx} {W : WX}
end
end Bt
namespace Bt
open PySem L2
def mMeth (f : D → D → Option D) (ma mb : M Ag) : M D := bnd ma fun a => fun E0 => match rsv E0 a with
  | some (.list _) => (bnd mb fun b => fun E => match rsv E a, rsv E b with
    | some (.list ds), some y => lift (f (.list ds) y) E
    | _, _ => .bad) E0
  | _ => .bad
section
variable {X : Cx} {W : WX} {o e c : Expr} {to te : TE} {ma mb : M Ag}
theorem RpAll.cnt {K : PySem.W.Frag} {G : Hp} {x : V} {d : D} (hx : Rp K G x d) (fx : flatD d = true) : ∀ {vs : List V} {ds : List D}, RpAll K G vs ds → ds.all flatD = true → vs.countP (fun z => eqV z x) = ds.countP fun y => PyData.eqv y d
  | _, _, .nil, _ => rfl
  | _, _, .cons h r, f => by
    rw [List.all_cons, Bool.and_eq_true] at f
    rw [List.countP_cons, List.countP_cons, RpAll.cnt hx fx r f.2, h.eqv hx f.1 fx]
end
end Bt
namespace Bt
open PySem L2
section
variable {X : Cx} {CX : CXT} {k n : Nat} {f : Addr} {fd : FuncData} {ps ks : List Str} {sp : Sp} {Ex : L2.St → XK} {x : Str} {p pos : Pos} {e : Expr} {es : List Expr} {kws : List Keyword} {t tk : TA} {g : List Value → List Value → List Value} {gV : List V → List V → List V}
end
section
variable {X : Cx} {W : WX} {P : Program} {w : World} {K : PySem.W.Frag} {mg : Str → Option Value} {base : Heap} {e : Expr} {pos : Pos} {k : Nat} {f : Addr} {fd : FuncData} {ps ks : List Str} {Fm : M Sl} {n n1 : Nat} {x : Str} {p : Pos} {es : List Expr} {kws : List Keyword} {ts tk : TA} {ms1 ms2 : M (List D)}
end
end Bt
namespace Bt
open PySem L2
def mExt (i : Nat) (m : M D) : M Fl := fun E => match E[i]? with
  | some ((.ow (.l _))) => (bnd m fun d => fun E => match E[i]?, d with
    | some ((.ow (.l ds))), .list es => if ds.length + es.length ≤ LIM then .ok .nx (E.set i ((.ow (.l (ds ++ es))))) else .bad
    | _, _ => .bad) E
  | _ => .bad
section
variable {X : Cx} {W : WX} {e : Expr} {t : TE} {m : M D}
end
end Bt
namespace Bt
open PySem L2
section
open PySem.Spec PyProof.Rows
end
def mExtB (i : Nat) (m : M D) : M Fl := fun E => match E[i]? with
  | some ((.ow (.l _))) => (bnd m fun d => fun E => match E[i]?, d with
    | some ((.ow (.l ds))), .list es => if ds.length + es.length ≤ LIM then .ok .nx (E.set i ((.ow (.l (ds ++ es))))) else .bad
    | some ((.ow (.l ds))), .tuple es => if ds.length + es.length ≤ LIM then .ok .nx (E.set i ((.ow (.l (ds ++ es))))) else .bad
    | _, _ => .bad) E
  | _ => .bad
end Bt
namespace Bt
open PySem L2
section
variable {M : Model} {A : Around} {E : Value → Shared → Prop} {h : Heap} {g : Array GenState} {d : Drawn} {t : Nat} {os : OsState}
variable {nm q : Str} {C N : Addr} {bs bm bmB : List Value} {hdct : Bool} {sn : List Str} {sub : List Value} {ab : Bool} {col : Option Bool} {dd : Option Addr} {k0 k1 k2 k3 k5 : Option Value} {B newId initId : String}
end
section
variable {prog : Program} {w : World} {A : Around} {E : Value → Shared → Prop} {R : Result → Shared → Prop} {h : Heap} {g : Array GenState} {d : Drawn} {t : Nat} {os : OsState}
variable {nm q : Str} {C N : Addr} {bs bm bmB : List Value} {hdct : Bool} {sn : List Str} {sub : List Value} {ab : Bool} {col : Option Bool} {dd : Option Addr} {k0 k1 k2 k3 k5 : Option Value} {B newId initId : String}
end
end Bt
namespace Bt
open PySem L2
section
variable {X : Cx} {pins : List (Addr × Obj)} {σ : L2.St} {H : Hp} {sI s' : Shared}
end
def mNew0 (c : Nat) : M D := ret (.dict [(.int c, .none)])
def mNewN (c : Nat) : M D := ret (.dict [(.int c, .none), (.none, .none)])
def mNew1 (c : Nat) (m : M D) : M D := bnd m fun d => ret (.dict [(.int c, .none), (.none, d)])
section
variable {X : Cx} {W : WX} {e : Expr} {t : TE}
end
end Bt
namespace Bt
open PySem L2
def mIsxO (m : M Ag) : M D := bnd m fun a => fun E => match rsv E a with
  | some (.dict ((.int _, .none) :: _)) => .ok (.bool false) E
  | _ => .bad
section
variable {X : Cx} {W : WX} {e : Expr} {t : TE}
def mIsVE : M D := ret (.bool false)
end
end Bt
namespace Bt
open PySem L2
def mPar (i j : Nat) (ms : M (List D)) : M Fl := bnd ms fun ds => fun E => match ds with
  | [d1, d2] => if i < E.length ∧ j < E.length then .ok .nx ((E.set i (.dat d1)).set j (.dat d2)) else .bad
  | _ => .bad
end Bt
namespace Bt
open PySem L2 PySem.Spec PyProof.Rows
structure FnG (P : Program) (w : World) (K : PySem.W.Frag) (mg : Str → Option Value) (base : Heap) (CX : CXT) (k : Nat) (f : Addr) (fd : FuncData) (ps : List Str) (sp : Sp) : Prop where
  len : ∀ vs H Q E, sp vs H Q E → vs.length = ps.length
  run : ∀ (A : Around) (outer : List Env) (s : Shared) (H : Hp) (args : Args) (us : List Value) (vs : List V) (Q : VK) (E : XK), Room k A → A.guards = some [] → Env0 P w K mg base A outer s H → BindsTo s fd args (ps.zip us) → Vals vs us → sp vs H Q E →
    codeAny (model P w) A (.call (.ref f) args) (CR CX outer P w H s Q E) s
section
variable {P : Program} {w : World} {K : PySem.W.Frag} {mg : Str → Option Value} {base : Heap}
theorem FnG.imp {CX : CXT} {k : Nat} {f : Addr} {fd : FuncData} {ps : List Str} {sp sp' : Sp} (F : FnG P w K mg base CX k f fd ps sp) (h : ∀ vs H Q E, sp' vs H Q E → sp vs H Q E) : FnG P w K mg base CX k f fd ps sp' :=
  ⟨fun vs H Q E q => F.len vs H Q E (h _ _ _ _ q), fun A outer s H args us vs Q E hr gd he hb hv hs => F.run A outer s H args us vs Q E hr gd he hb hv (h _ _ _ _ hs)⟩
end
section
variable {X : Cx} {W : WX} {P : Program} {w : World} {K : PySem.W.Frag} {mg : Str → Option Value} {base : Heap} {e : Expr} {pos : Pos}
end
end Bt
namespace Bt
open PySem L2
section
variable (vs vs1 : List Nat) (g g1 : MG) (mt mt1 : M Bool) (mi1 : M (List D)) (me : M D) (E0 : En)
def lc2In : List D → En → List D → Res (List D)
  | [], E, acc => .ok acc E
  | d :: ds, E, acc => match g1 d (wipeE E vs1) with
    | none => .bad
    | some E1 => match mt1 E1 with
      | .ok true E2 => match me E2 with
        | .ok y E3 => if acc.length < LIM then lc2In ds E3 (acc ++ [y]) else .bad
        | _ => .bad
      | .ok false E2 => lc2In ds E2 acc
      | _ => .bad
def lc2Go : List D → En → List D → Res D
  | [], E, acc => .ok (.list acc) (backE E0 E vs)
  | d :: ds, E, acc => match g d (wipeE E vs) with
    | none => .bad
    | some E1 => match mt E1 with
      | .ok true E2 => match mi1 E2 with
        | .ok its E3 => match lc2In vs1 g1 mt1 me its E3 acc with
          | .ok acc' E4 => lc2Go ds E4 acc'
          | _ => .bad
        | _ => .bad
      | .ok false E2 => lc2Go ds E2 acc
      | _ => .bad
end
def mLc2 (mi : M (List D)) (g : MG) (mt : M Bool) (mi1 : M (List D)) (g1 : MG) (mt1 : M Bool) (me : M D) (vs vs1 : List Nat) : M D := bnd mi fun its => fun E => lc2Go vs vs1 g g1 mt mt1 mi1 me E its E []
theorem wipe_sub {σ σ' : L2.St} {vs vs1 : List Nat} (h : L2.wipe σ' vs1 = L2.wipe σ vs1) (hv : ∀ i ∈ vs1, i ∈ vs) : L2.wipe σ' vs = L2.wipe σ vs := by
  have hl : σ'.length = σ.length := by rw [← wipe_length σ' vs1, h, wipe_length]
  refine wipe_agree (asg := vs1) hl (fun i hi => ?_) hv
  rw [← get_wipe (σ := σ') hi, h, get_wipe hi]
theorem lcIn_it {J : It} {n : Nat} {G : Hp → Prop} {Y : Nat → Hp → V → Hp → Prop} (w : Walk J n G Y) {g : TG} {tt : TT} {te : TE} {vs : List Nat} {σ : L2.St} {H1 : Hp} {D : Addr} {Qd : Hp → Prop} (Pv : Nat → Hp → Prop) (h0 : Pv 0 H1) (hG : ∀ i H, i ≤ n → Pv i H → G H)
    (hs : ∀ i x H H', i < n → Pv i H → Y i H x H' → g x (L2.wipe σ vs) H' fun σ2 H2 => L2.wipe σ2 vs = L2.wipe σ vs ∧ tt σ2 H2 fun b H3 =>
      if b = true then te σ2 H3 fun y H4 => ∃ acc, H4 D = some (.lst acc) ∧ acc.length < sizeLine ∧ Pv (i + 1) (upd H4 D (.lst (acc ++ [y]))) else Pv (i + 1) H3) (hd : ∀ H, Pv n H → Qd H) :
    ∃ W : Nat → Nat → Hp → Prop, (∃ m, W 0 m H1) ∧ ∀ i m H, W i m H →
      (J.stop i H ∧ Qd H) ∨ (J.go i H ∧ ∃ Nx : Hp → Prop, (∀ H', Nx H' → ∃ m', m' < m ∧ W (i + 1) m' H') ∧ ∀ x H', J.yld i H x H' → g x (L2.wipe σ vs) H' fun σ2 H2 => L2.wipe σ2 vs = L2.wipe σ vs ∧ tt σ2 H2 fun b H3 =>
        if b = true then te σ2 H3 fun y H4 => ∃ acc, H4 D = some (.lst acc) ∧ acc.length < sizeLine ∧ Nx (upd H4 D (.lst (acc ++ [y]))) else Nx H3) := by
  refine ⟨fun i m H => m = n - i ∧ i ≤ n ∧ Pv i H, ⟨n, by simp, Nat.zero_le _, h0⟩, ?_⟩
  rintro i m H ⟨rfl, hi, p⟩
  have q := hG i H hi p
  by_cases hlt : i < n
  · refine .inr ⟨w.goes i H hlt q, Pv (i + 1), fun H' p' => ⟨n - (i + 1), by omega, rfl, hlt, p'⟩, fun x H' y => hs i x H H' hlt p (w.yields i H x H' hlt q y)⟩
  · have e : i = n := by omega
    subst e
    exact .inl ⟨w.stops H q, hd H p⟩
theorem lc2_rd {X : Cx} {W : WX} {tg : Expr} {wi wi1 : TI} {mi mi1 : M (List D)} {g g1 : TG} {mg mg1 : MG} {tt tt1 : TT} {mt mt1 : M Bool} {te : TE} {me : M D} {vs vs1 : List Nat} {iter : Expr} {b b1 : Bool} (hi : SI X W b tg iter wi mi) (hv : ∀ i ∈ vs1, i ∈ vs)
    (hg : ∀ O E σ H v d E' (F : Frm) (Q : L2.St → Hp → Prop), Rel X.K F O E σ H → RpB b X.K (Mask O H) v d → mg d E = some E' → (∀ σ', Rel X.K F O E' σ' H → L2.wipe σ' vs = L2.wipe σ vs → Q σ' H) → g v σ H Q)
    (ht : ∀ F O E σ H (Q : Bool → Hp → Prop), Rel X.K F O E σ H → Sat (mt E) (KB X.K F σ O H Q) (KX X.K X.mg F σ O H W0) → tt σ H Q)
    (hi1 : ∀ F O E σ H (R : It → Hp → Prop), Rel X.K F O E σ H → Sat (mi1 E) (fun its E' => ∀ O' H' J, Rel X.K F O' E' σ H' → Le O H O' H' → Wk b1 X.K O' H' J its → R J H') (KX X.K X.mg F σ O H W0) → wi1 σ H R)
    (hg1 : ∀ O E σ H v d E' (F : Frm) (Q : L2.St → Hp → Prop), Rel X.K F O E σ H → RpB b1 X.K (Mask O H) v d → mg1 d E = some E' → (∀ σ', Rel X.K F O E' σ' H → L2.wipe σ' vs1 = L2.wipe σ vs1 → Q σ' H) → g1 v σ H Q)
    (ht1 : ∀ F O E σ H (Q : Bool → Hp → Prop), Rel X.K F O E σ H → Sat (mt1 E) (KB X.K F σ O H Q) (KX X.K X.mg F σ O H W0) → tt1 σ H Q)
    (he : ∀ F O E σ H (Q : VK), Rel X.K F O E σ H → Sat (me E) (KD X.K F σ O H Q) (KX X.K X.mg F σ O H W0) → te σ H Q) :
    ∀ F O E σ H (Q : VK), Rel X.K F O E σ H → Sat (mLc2 mi mg mt mi1 mg1 mt1 me vs vs1 E) (KD X.K F σ O H Q) (KX X.K X.mg F σ O H W) → tLc2 wi g tt wi1 g1 tt1 te vs vs1 σ H Q := by
  intro F O E σ H Q R s
  refine hi.rd F O E σ H _ R (s.bnd.mono (fun its E1 k O1 H1 J R1 l1 wk => ?_) (fun _ _ k => k))
  intro D nD
  obtain ⟨G, Y, w, hG, hY⟩ := wk.ex
  have hFD : ∀ x ∈ F, x.1 ≠ D := fun x hx z => by
    have h2 := (R1.frm x hx).2
    rw [z, nD] at h2
    cases h2
  let Pv : Nat → Hp → Prop := fun i H2 => ∃ O2 E2 σ2 acc ws, Rel X.K ((D, .lst ws) :: F) O2 E2 σ2 H2 ∧ L2.wipe σ2 vs = L2.wipe σ vs ∧ Le O1 H1 O2 H2 ∧ RpAll X.K (Mask O2 H2) ws acc ∧ i ≤ its.length ∧ Sat (lc2Go vs vs1 mg mg1 mt mt1 mi1 me E1 (its.drop i) E2 acc) (KD X.K F σ O H Q) (KX X.K X.mg F σ O H W)
  refine ⟨fun i m H => m = its.length - i ∧ i ≤ its.length ∧ Pv i H, ⟨its.length, by simp, Nat.zero_le _, D :: O1, E1, σ, [], [], R1.newF nD, rfl, mask_cons_new nD, .nil, Nat.zero_le _, k⟩, ?_⟩
  rintro i m H2 ⟨rfl, hi0, p⟩
  have q0 : G H2 := by
    obtain ⟨O2, E2, σ2, acc, ws, R2, _, l2, _⟩ := p
    exact hG O2 H2 l2
  by_cases hlt : i < its.length
  · refine .inr ⟨w.goes i H2 hlt q0, Pv (i + 1), fun H' p' => ⟨its.length - (i + 1), by omega, rfl, hlt, p'⟩, fun x H3 y0 => ?_⟩
    have y := w.yields i H2 x H3 hlt q0 y0
    obtain ⟨O2, E2, σ2, acc, ws, R2, hw, l2, ra, _, s2⟩ := p
    have hd : its.drop i = its[i] :: its.drop (i + 1) := List.drop_eq_getElem_cons hlt
    rw [hd] at s2
    unfold lc2Go at s2
    obtain ⟨gr, rx⟩ := hY O2 H2 i x H3 its[i] R2.trk l2 (List.getElem?_eq_getElem hlt) y
    have R3 := (R2.grow gr).wipe vs
    rw [hw] at R3
    cases eg : mg its[i] (wipeE E2 vs) with
    | none => rw [eg] at s2; exact s2.elim
    | some E3 =>
      rw [eg] at s2
      refine hg O2 _ _ H3 x its[i] E3 _ _ R3 rx eg fun σ3 R4 hw3 => ⟨by rw [hw3]; exact wipe_wipe _ _, ?_⟩
      have hw3' : L2.wipe σ3 vs = L2.wipe σ vs := by rw [hw3]; exact wipe_wipe _ _
      dsimp only at s2
      refine ht _ O2 E3 σ3 H3 _ R4 ?_
      cases em : mt E3 with
      | bad => rw [em] at s2; exact s2.elim
      | ex _ _ => rw [em] at s2; exact s2.elim
      | ok bb E4 =>
        rw [em] at s2
        intro O4 H4 R5 l4
        have l5 : Le O1 H1 O4 H4 := (l2.trans gr.le).trans l4
        have ra4 : RpAll X.K (Mask O4 H4) ws acc := (ra.mono gr.le).mono l4
        cases bb with
        | false =>
          show Pv (i + 1) H4
          exact ⟨O4, E4, σ3, acc, ws, R5, hw3', l5, ra4, hlt, s2⟩
        | true =>
          show wi1 σ3 H4 _
          dsimp only at s2
          refine hi1 _ O4 E4 σ3 H4 _ R5 ?_
          cases ei : mi1 E4 with
          | bad => rw [ei] at s2; exact s2.elim
          | ex _ _ => rw [ei] at s2; exact s2.elim
          | ok its1 E5 =>
            rw [ei] at s2
            intro O5 H5 J1 R6 l6 wk1
            dsimp only at s2
            obtain ⟨G1, Y1, w1, hG1, hY1⟩ := wk1.ex
            have l7 : Le O1 H1 O5 H5 := l5.trans l6
            refine lcIn_it w1 (fun j H6 => ∃ O6 E6 σ6 acc6 ws6, Rel X.K ((D, .lst ws6) :: F) O6 E6 σ6 H6 ∧ L2.wipe σ6 vs1 = L2.wipe σ3 vs1 ∧ Le O5 H5 O6 H6 ∧ RpAll X.K (Mask O6 H6) ws6 acc6 ∧ j ≤ its1.length ∧
                Sat (match lc2In vs1 mg1 mt1 me (its1.drop j) E6 acc6 with | .ok acc' E4 => lc2Go vs vs1 mg mg1 mt mt1 mi1 me E1 (its.drop (i + 1)) E4 acc' | _ => .bad) (KD X.K F σ O H Q) (KX X.K X.mg F σ O H W)) ?_ ?_ ?_ ?_
            · exact ⟨O5, E5, σ3, acc, ws, R6, rfl, Le.refl _ _, ra4.mono l6, Nat.zero_le _, s2⟩
            · rintro j H6 hj ⟨O6, E6, σ6, acc6, ws6, R7, _, l8, _⟩
              exact hG1 O6 H6 l8
            · rintro j x1 H6 H7 hj ⟨O6, E6, σ6, acc6, ws6, R7, hw6, l8, ra6, _, s6⟩ y1
              have hd1 : its1.drop j = its1[j] :: its1.drop (j + 1) := List.drop_eq_getElem_cons hj
              rw [hd1] at s6
              unfold lc2In at s6
              obtain ⟨gr1, rx1⟩ := hY1 O6 H6 j x1 H7 its1[j] R7.trk l8 (List.getElem?_eq_getElem hj) y1
              have R8 := (R7.grow gr1).wipe vs1
              rw [hw6] at R8
              cases eg1 : mg1 its1[j] (wipeE E6 vs1) with
              | none => rw [eg1] at s6; exact s6.elim
              | some E7 =>
                rw [eg1] at s6
                refine hg1 O6 _ _ H7 x1 its1[j] E7 _ _ R8 rx1 eg1 fun σ7 R9 hw7 => ⟨by rw [hw7]; exact wipe_wipe _ _, ?_⟩
                have hw7' : L2.wipe σ7 vs1 = L2.wipe σ3 vs1 := by rw [hw7]; exact wipe_wipe _ _
                dsimp only at s6
                refine ht1 _ O6 E7 σ7 H7 _ R9 ?_
                cases em1 : mt1 E7 with
                | bad => rw [em1] at s6; exact s6.elim
                | ex _ _ => rw [em1] at s6; exact s6.elim
                | ok bb1 E8 =>
                  rw [em1] at s6
                  intro O8 H8 R10 l10
                  have l11 : Le O5 H5 O8 H8 := (l8.trans gr1.le).trans l10
                  have ra8 : RpAll X.K (Mask O8 H8) ws6 acc6 := (ra6.mono gr1.le).mono l10
                  cases bb1 with
                  | false =>
                    show ∃ _, _
                    exact ⟨O8, E8, σ7, acc6, ws6, R10, hw7', l11, ra8, hj, s6⟩
                  | true =>
                    show te σ7 H8 _
                    dsimp only at s6
                    refine he _ O8 E8 σ7 H8 _ R10 ?_
                    cases ee : me E8 with
                    | bad => rw [ee] at s6; exact s6.elim
                    | ex _ _ => rw [ee] at s6; exact s6.elim
                    | ok y E9 =>
                      rw [ee] at s6
                      intro O9 v9 H9 R11 l12 rv
                      dsimp only at s6
                      by_cases hlim : acc6.length < LIM
                      · rw [if_pos hlim] at s6
                        have l13 : Le O5 H5 O9 H9 := l11.trans l12
                        have ra9 : RpAll X.K (Mask O9 H9) ws6 acc6 := ra8.mono l12
                        obtain ⟨hDO, hDw⟩ := R11.frm _ List.mem_cons_self
                        refine ⟨ws6, hDw, by rw [ra9.length]; exact lim_lt hlim, ?_⟩
                        have em9 : Mask O9 (upd H9 D (.lst (ws6 ++ [v9]))) = Mask O9 H9 := mask_upd_in hDO
                        exact ⟨O9, E9, σ7, acc6 ++ [y], ws6 ++ [v9], R11.updF hFD, hw7', by unfold Le; rw [em9]; exact l13, by rw [em9]; exact ra9.append (.one rv), hj, s6⟩
                      · rw [if_neg hlim] at s6; exact s6.elim
            · rintro H6 ⟨O6, E6, σ6, acc6, ws6, R7, hw6, l8, ra6, _, s6⟩
              rw [List.drop_length] at s6
              exact ⟨O6, E6, σ6, acc6, ws6, R7, (wipe_sub hw6 hv).trans hw3', l7.trans l8, ra6, hlt, s6⟩
  · have e : i = its.length := by omega
    subst e
    refine .inl ⟨w.stops H2 q0, ?_⟩
    obtain ⟨O2, E2, σ2, acc, ws, R2, hw, l2, ra, _, s2⟩ := p
    rw [List.drop_length] at s2
    obtain ⟨hDO, hDw⟩ := R2.frm _ List.mem_cons_self
    have R3 := R2.freeF hFD
    have l3 : Same (Mask O2 H2) (Mask (rmA O2 D) H2) := mask_rm
    refine s2 (rmA O2 D) (.ref D) H2 (R1.back R3 (l2.trans l3) hw) ((l1.trans l2).trans l3) (.lst ?_ (ra.mono l3))
    rw [mask_out (fun z => (mem_rmA.mp z).2 rfl)]
    exact hDw
section
variable {X : Cx} {W : WX}
theorem se_lc2 {b b1 : Bool} {elt tg iter tg1 iter1 : Expr} {ifs ifs1 : List Expr} {scope : Scope} {own : List (Str × Nat)} {asg asg1 vs1 : List Nat} {pos : Pos} {wi wi1 : TI} {g g1 : TG} {tt tt1 : TT} {te : TE} {mi mi1 : M (List D)} {mg mg1 : MG} {mt mt1 : M Bool} {me : M D} (hc : X.calm = true) (hN : X.N.Nodup) (hi : SI X W b tg iter wi mi) (ok : BlkOk X.N X.env.scope scope own) (hv : ∀ i ∈ vs1, i ∈ own.map (·.2))
    (hg : ∀ (s : Shared) (H : Hp) (C : Addr) (cl : List (Str × Addr)) (fp : List Addr), SG (X.blk s H scope (compEnvC scope cl C X.env) fp) b asg tg g mg) (ha : ∀ i ∈ asg, i ∈ own.map (·.2)) (ht : ∀ (s : Shared) (H : Hp) (C : Addr) (cl : List (Str × Addr)) (fp : List Addr), STs (X.blk s H scope (compEnvC scope cl C X.env) fp) W0 ifs tt mt)
    (hi1 : ∀ (s : Shared) (H : Hp) (C : Addr) (cl : List (Str × Addr)) (fp : List Addr), SI (X.blk s H scope (compEnvC scope cl C X.env) fp) W0 b1 tg1 iter1 wi1 mi1)
    (hg1 : ∀ (s : Shared) (H : Hp) (C : Addr) (cl : List (Str × Addr)) (fp : List Addr), SG (X.blk s H scope (compEnvC scope cl C X.env) fp) b1 asg1 tg1 g1 mg1) (ha1 : ∀ i ∈ asg1, i ∈ vs1) (ht1 : ∀ (s : Shared) (H : Hp) (C : Addr) (cl : List (Str × Addr)) (fp : List Addr), STs (X.blk s H scope (compEnvC scope cl C X.env) fp) W0 ifs1 tt1 mt1)
    (he : ∀ (s : Shared) (H : Hp) (C : Addr) (cl : List (Str × Addr)) (fp : List Addr), SE (X.blk s H scope (compEnvC scope cl C X.env) fp) W0 elt te me) (hs : ∀ x, foldedSetIterable iter X.env x = pure x := by intro _; rfl) (hs1 : ∀ env x, foldedSetIterable iter1 env x = pure x := by intro _ _; rfl) :
    SE X W (.ListComp elt [⟨tg, iter, ifs, 0⟩, ⟨tg1, iter1, ifs1, 0⟩] scope pos) (tLc2 wi g tt wi1 g1 tt1 te (own.map (·.2)) vs1) (mLc2 mi mg mt mi1 mg1 mt1 me (own.map (·.2)) vs1) := by
  refine ⟨pe_lc2 hc hN hi.pi ok hv (fun s H C cl fp => (hg s H C cl fp).pg) (fun s H C cl fp => (ht s H C cl fp).pt) (fun s H C cl fp => (hi1 s H C cl fp).pi) (fun s H C cl fp => (hg1 s H C cl fp).pg) (fun s H C cl fp => (ht1 s H C cl fp).pt) (fun s H C cl fp => (he s H C cl fp).pe) hs hs1, ?_⟩
  refine lc2_rd hi hv (fun O E σ H v d E' F Q R r e q => ?_) (fun F O E σ H Q R s => (ht X.s_0 X.H_0 0 [] []).rd F O E σ H Q R s) (fun F O E σ H R0 R s => (hi1 X.s_0 X.H_0 0 [] []).rd F O E σ H R0 R s) (fun O E σ H v d E' F Q R r e q => ?_) (fun F O E σ H Q R s => (ht1 X.s_0 X.H_0 0 [] []).rd F O E σ H Q R s) (fun F O E σ H Q R s => (he X.s_0 X.H_0 0 [] []).rd F O E σ H Q R s)
  · exact (hg X.s_0 X.H_0 0 [] []).rd F O E σ H v d E' Q R r e fun σ' R' l' p' => q σ' R' (wipe_agree l' p' ha)
  · exact (hg1 X.s_0 X.H_0 0 [] []).rd F O E σ H v d E' Q R r e fun σ' R' l' p' => q σ' R' (wipe_agree l' p' ha1)
end
end Bt
namespace Bt
open PySem L2 PySem.Spec PyProof.Rows
def moreK (S : Key → Bool) (k : Key) : Key → Bool := fun j => S j || decide (j = k)
def moreN (S : Key → Bool) (n : Nat) (k : Key) : Nat := if S k = true then n else n + 1
abbrev noK : Key → Bool := fun _ => false
def tSk (P : Program) (w : World) (wi : TI) (g : TG) (tt : TT) (te : TE) (vs : List Nat) : TE := fun σ H Q =>
  wi σ H fun J H1 => ∀ D, H1 D = none → ∃ Z : Nat → Nat → Hp → Prop,
    (∃ m, Z 0 m (upd H1 D (SetK P w D noK 0))) ∧ ∀ i m G, Z i m G →
    (J.stop i G ∧ Q (.ref D) G) ∨
    (J.go i G ∧ ∃ Y : Hp → Prop, (∀ G', Y G' → ∃ m', m' < m ∧ Z (i + 1) m' G') ∧
      ∀ x G', J.yld i G x G' → g x (L2.wipe σ vs) G' fun σ2 H2 => L2.wipe σ2 vs = L2.wipe σ vs ∧
        tt σ2 H2 fun b H3 => if b = true
          then te σ2 H3 fun y H4 => ∃ k S n, y = kV k ∧ H4 D = some (SetK P w D S n) ∧ n + 1 < scanBound ∧ Y (upd H4 D (SetK P w D (moreK S k) (moreN S n k)))
          else Y H3)
section
variable {X : Cx}
abbrev newSetObj (w : World) : Obj := { cls := .type "set", dict := none, data := .set #[] 0 (.fresh 0 0 (!w.params.followText "set-order")) }
theorem freshK (P : Program) (w : World) (h : Heap) : (h.push (newSetObj w)).SetOf (mixKind P w) h.objs.size noK 0 :=
  ⟨_, #[], 0, _, Heap.get?_push_size _ rfl, ⟨rfl, rfl, rfl⟩, rfl,
    (fun e he => by simp at he), (fun k => by simp), (by decide), (by rfl), rfl⟩
theorem fp_free {Y : Cx} {σ : L2.St} {G : Hp} {s : Shared} (hp : Y.pn = []) (I : Inv Y [] σ G s) (hn : ∀ b ∈ Y.ex, G b = none) :
    ∀ b ∈ Y.ex, FpOk Y [] G b := fun b hb => by
  refine ⟨hn b hb, (I.ok.exf b hb).1, I.ok.exfs b hb, .inl hb, fun x c e => (I.ok.exf b hb).2 x c e, fun p hq => ?_⟩
  rw [hp] at hq
  exact absurd hq (by simp)
theorem pe_sk {elt tg iter : Expr} {ifs : List Expr} {scope : Scope} {own : List (PySem.Str × Nat)} {pos : Pos} {wi : TI} {g : TG} {tt : TT} {te : TE}
    (hc : X.calm = true) (hN : X.N.Nodup) (hi : PI X tg iter wi) (ok : BlkOk X.N X.env.scope scope own)
    (hg : ∀ s H C cl fp, PG (X.blk s H scope (compEnvC scope cl C X.env) fp) tg g)
    (ht : ∀ s H C cl fp, PTs (X.blk s H scope (compEnvC scope cl C X.env) fp) ifs tt)
    (he : ∀ s H C cl fp, PE (X.blk s H scope (compEnvC scope cl C X.env) fp) elt te)
    (hs : ∀ x, foldedSetIterable iter X.env x = pure x := by intro _; rfl) :
    PE X (.SetComp elt [⟨tg, iter, ifs, 0⟩] scope pos) (tSk X.prog X.w wi g tt te (own.map (·.2))) := by
  refine ⟨fun pins s σ H Q I h => ?_⟩
  rw [PpSet.eval_SetComp]
  have cl0 : closureFor scope X.env = pure (cloFrom X.env.cells scope.names []) :=
    closure_ok fun y hy e => I.ok.has _ ((ok.free y hy e).imp id id)
  refine wpAny_comprehension_free (use := none) rfl hs cl0 ok.kind (fun y hy e => (ok.uniq y hy).trans (by rw [e])) ?_
  refine thn (hi.run pins s σ H _ I h) fun xv s1 hx => thn hx fun itv s2 h2 => ?_
  obtain ⟨it, fp, tn, J, H2, rfl, I2, T, st2, f2, q⟩ := h2
  refine PpSet.newSet_ok (newEnv_comp ?_)
  have nD : H2 s2.heap.objs.size = none := I2.hok.fresh (Nat.le_refl _)
  obtain ⟨Z, ⟨m0, z0⟩, turn⟩ := q _ nD
  -- the state with the new set
  obtain ⟨s3, e3⟩ : ∃ z : Shared, z = { s2 with heap := s2.heap.push (newSetObj X.w) } := ⟨_, rfl⟩
  obtain ⟨H3, eH⟩ : ∃ z : Hp, z = upd H2 s2.heap.objs.size (SetK X.prog X.w s2.heap.objs.size noK 0) := ⟨_, rfl⟩
  have eh : s3.heap = s2.heap.push (newSetObj X.w) := by rw [e3]
  have I3 : Inv X pins σ H3 s3 := by
    rw [e3, eH]
    exact I2.laid (t' := s2.toks) (fun b o e => Heap.get?_push_of_some _ e) (Nat.le_refl _) (setK_new (freshK _ _ _))
  have lt2 : ∀ b ∈ fp, b < s2.heap.objs.size := fun b hb => by
    obtain ⟨o, e, _⟩ := T.obj _ _ st2 b hb
    exact Heap.lt_size e
  have f3 : ∀ b ∈ fp, FpOk X pins H3 b ∧ b < s3.heap.objs.size := fun b hb => by
    have l := lt2 b hb
    refine ⟨⟨?_, (f2 b hb).2⟩, ?_⟩
    · rw [eH, upd_ne (Nat.ne_of_lt l)]
      exact (f2 b hb).1
    · rw [eh, Heap.size_push]
      exact Nat.lt_succ_of_lt l
  have st3 : tn 0 s3.heap := T.keep _ _ _ st2 fun b _ o e => by rw [eh]; exact Heap.get?_push_of_some _ e
  rw [← eH] at z0
  generalize hD : s2.heap.objs.size = D at *
  -- the block
  have I4 := block_start I3 ok hN f3
  obtain ⟨C, eC⟩ : ∃ c, c = s3.heap.objs.size := ⟨_, rfl⟩
  obtain ⟨ce, ece⟩ : ∃ z, z = compEnvC scope (cellsFrom (s3.heap.objs.size + 1) scope.names (cloFrom X.env.cells scope.names [])) s3.heap.objs.size X.env := ⟨_, rfl⟩
  have pg : PG (X.blk s3 H3 scope ce fp) tg g := by rw [ece]; exact hg _ _ _ _ _
  have pt : PTs (X.blk s3 H3 scope ce fp) ifs tt := by rw [ece]; exact ht _ _ _ _ _
  have pe : PE (X.blk s3 H3 scope ce fp) elt te := by rw [ece]; exact he _ _ _ _ _
  rw [← ece] at I4
  have cL : ce.locals = s3.heap.objs.size := by rw [ece]; rfl
  obtain ⟨s4, e4⟩ : ∃ z : Shared, z = { s3 with heap := pushCells (s3.heap.push { cls := .type "dict", data := .dict #[] }) scope.names } := ⟨_, rfl⟩
  rw [← e4] at I4
  have st4 : tn 0 s4.heap := T.keep _ _ _ st3 fun b _ o e => by
    rw [e4]
    exact pushCells_keeps _ _ _ _ (Heap.get?_push_of_some _ e)
  let Inn : Nat → Shared → Prop := fun n s' => ∃ i G, Inv (X.blk s3 H3 scope ce fp) [] (L2.wipe σ (own.map (·.2))) G s' ∧ tn i s'.heap ∧ (∀ b ∈ fp, G b = none) ∧ Z i n G
  have start : Inn m0 s4 := ⟨0, H3, I4, st4, fun b hb => (f3 b hb).1.1, z0⟩
  have loop : codeAny (model X.prog X.w) X.A (.compLoop (.SetComp elt [⟨tg, iter, ifs, 0⟩] scope pos) 0 (.ref it) (.ref D) ce)
      (compPost (model X.prog X.w) X.A X.xe none (EP X pins σ Q) (.ref D) s3.heap.objs.size) s4 := by
    refine PpSet.compLoopS_any Inn (fun n s5 hI => ?_) m0 start
    obtain ⟨i, G5, I5, st5, n5, z5⟩ := hI
    have F5 := fp_free (Y := X.blk s3 H3 scope ce fp) rfl I5 n5
    rcases turn i n G5 z5 with ⟨stop, qq⟩ | ⟨go, Y, hY, step⟩
    · refine thnF (T.done (X.blk s3 H3 scope ce fp) rfl rfl rfl hc i [] s5 _ G5 (fun _ _ => False) I5 F5 st5 stop) fun r s6 hr => ?_
      obtain ⟨rfl, I6⟩ := hr
      have I7 : Inv X pins σ G5 s6 := I3.call' (ch := fp) I6.os I6.base I6.hok I6.bare fun b hb => by
        obtain ⟨⟨_, a1, _, a2, a3, a4⟩, _⟩ := f3 b hb
        exact ⟨a2, a1, a3, a4⟩
      have nC : G5 s3.heap.objs.size = none := cL ▸ (show G5 ce.locals = none from I6.free)
      obtain ⟨m, hn, _⟩ := I6.loc
      have hn' : s6.heap.Ns s3.heap.objs.size m := cL ▸ (show s6.heap.Ns ce.locals m from hn)
      obtain ⟨b0, b1, _, b2, b3, b4⟩ := I3.fpOk (Nat.le_refl _) nC
      exact ⟨m, hn', fun h'' sb => ⟨.ref D, G5, I7.turned (t' := s6.toks) (fun b o hb e => (sb.2 b hb).trans e) b0 b1 b2 b3 b4, rfl, qq⟩⟩
    · refine thnF (T.item (X.blk s3 H3 scope ce fp) rfl rfl rfl hc i [] s5 _ G5 (fun _ _ => False) I5 F5 st5 go) fun r s6 hr => ?_
      obtain ⟨u, rfl, h6⟩ := hr
      refine thnF h6 fun _ s7 h7 => ?_
      obtain ⟨x, G7, I7, r7, y7, st7, n7⟩ := h7
      have P7 := I7.pinned (fp_free (Y := X.blk s3 H3 scope ce fp) rfl I7 n7) (T.obj _ _ st7)
      refine thnF (pg.run _ s7 _ G7 x u _ P7 r7 (step x G7 y7)) fun _ s8 h8 => ?_
      obtain ⟨σ8, G8, I8, w8, q8⟩ := h8
      refine thnF (pt.run _ s8 σ8 G8 _ I8 q8) fun b s9 h9 => ?_
      obtain ⟨G9, I9, q9⟩ := h9
      have fin : ∀ {s' : Shared} {G' : Hp}, Inv (X.blk s3 H3 scope ce fp) ([] ++ pinsAt fp s7.heap) σ8 G' s' → Y G' → ∃ m, m < n ∧ Inn m s' := by
        intro s' G' I' ny
        obtain ⟨m', hm, z'⟩ := hY G' ny
        have keep : ∀ b ∈ fp, ∀ o, s7.heap.get? b = some o → s'.heap.get? b = some o ∧ G' b = none := fun b hb o e => by
          have z := I'.pin (b, o) (List.mem_append_right _ (List.mem_append_right _ (mem_pinsAt hb e)))
          exact ⟨z.1, z.2.1⟩
        have hl : (L2.wipe σ (own.map (·.2))).length = σ8.length := by rw [← w8, wipe_length]
        refine ⟨m', hm, i + 1, G', (I'.unpinned (pins := [])).weak hl (fun j v e => (wipe_some (w8 ▸ e)).1), ?_, fun b hb => ?_, z'⟩
        · exact T.keep _ _ _ st7 fun b hb o e => (keep b hb o e).1
        · obtain ⟨o, e, _⟩ := T.obj _ _ st7 b hb
          exact (keep b hb o e).2
      cases b with
      | false => exact fin I9 q9
      | true =>
        refine thnF (pe.run _ s9 σ8 G9 _ I9 q9) fun z s10 h10 => ?_
        obtain ⟨yv, G10, I10, r10, k, S0, n0, rfl, hD10, room, ny⟩ := h10
        refine thnF (mt_saddK (X := X.blk s3 H3 scope ce fp) _ s10 σ8 G10 (.ref D) [kV k] (.ref D) [z] (fun _ G => Y G) I10 rfl (.cons r10 .nil) ⟨D, k, S0, n0, rfl, rfl, hD10, room, ny⟩) fun _ s11 h11 => ?_
        obtain ⟨_, G11, I11, _, y11⟩ := h11
        exact fin I11 y11
  rw [e4] at loop st4
  have fin2 := PpSet.codeAny_compStart_set loop (T.self X.A 0 _ _ _ st4 loop)
  rw [ece] at fin2
  subst e3
  exact fin2
end
end Bt
namespace Bt
open PySem L2 PySem.Spec PyProof.Rows
abbrev ZipR (h : Heap) (z TI TO : Addr) (f0 : Value) (f1 b : Bool) : Prop :=
  h.get? z = some { cls := .type "zip", dict := none, data := .fields #[f0, .bool f1, .bool b, .ref TI, .ref TO], slots := #[] }
def drawZ (b : Bool) (it : Value) : Sem (Option Value) := if b then Builtin.SmallTypes.nextOrEnd it else do
  return some (← Builtin.SmallTypes.nextOf it)
section
variable {prog : Program} {w : World} {A : Around} {E : Value → Shared → Prop} {s : Shared}
theorem alive_any {a : Addr} {Q : Option Obj → Shared → Prop} (h : Q (s.heap.get? a) s) : wpAny (model prog w) A (loadIfAlive a) Q E s := fun _ _ _ => h
theorem drawZ_item {b : Bool} {it l : Addr} {i : Nat} {items : Array Value} {x : Value} {Q : Option Value → Shared → Prop} (hit : s.heap.IsListIter it l i) (hl : s.heap.IsList l items) (hx : items[i]? = some x)
    (hQ : ∀ h', h'.IsListIter it l (i + 1) → Heap.SameBut it s.heap h' → Q (some x) { s with heap := h' }) : wpAny (model prog w) A (drawZ b (.ref it)) Q E s := by
  unfold drawZ
  cases b with
  | true =>
    unfold Builtin.SmallTypes.nextOrEnd
    exact wpAny_bind (wpAny_attempt (wpAny_nextOf_list_item hit hl hx fun h' p q => wpAny_pure (hQ h' p q)))
  | false => exact wpAny_bind (wpAny_nextOf_list_item hit hl hx fun h' p q => wpAny_pure (hQ h' p q))
theorem nOE_end {it l : Addr} {i : Nat} {items : Array Value} {Q : Option Value → Shared → Prop} (hh : A.handled = none) (hit : s.heap.IsListIter it l i) (hl : s.heap.IsList l items) (hx : items[i]? = none)
    (hQ : ∀ h', Heap.ExtBut it s.heap h' → Q none { s with heap := h' }) : wpAny (model prog w) A (Builtin.SmallTypes.nextOrEnd (.ref it)) Q E s := by
  unfold Builtin.SmallTypes.nextOrEnd
  refine wpAny_bind (wpAny_attempt (wpAny_nextOf_list_end hh hit hl hx fun h' e he hc => ?_))
  obtain ⟨o, ho, hoc⟩ := hc
  exact wpAny_bind (wpAny_isInstance (T := "StopIteration") (b := true) ⟨o, ho, hoc⟩ isSubtype_stop (wpAny_pure (hQ h' he)))
theorem zfree {z TI TO : Addr} {f0 : Value} {f1 b : Bool} {Q : Bool → Shared → Prop} (hf : f0 = .none ∨ ∃ T : Addr, f0 = rawInt T) (hz : ZipR s.heap z TI TO f0 f1 b)
    (q1 : Q true s) (q2 : ∀ h', ZipR h' z TI TO f0 true b → Heap.SameBut z s.heap h' → Q false { s with heap := h' }) :
    wpAny (model prog w) A (Builtin.SmallTypes.ownedTupleIsFree (.ref z)) Q E s := by
  unfold Builtin.SmallTypes.ownedTupleIsFree
  rcases hf with rfl | ⟨T, rfl⟩
  · exact wpAny_bind (wpAny_field hz rfl (x := .none) rfl (wpAny_pure q1))
  · refine wpAny_bind (wpAny_field hz rfl (x := rawInt T) rfl (wpAny_bind (m := loadIfAlive ((T : Int).toNat)) ?_))
    refine alive_any ?_
    cases e : s.heap.get? ((T : Int).toNat) with
    | none => exact wpAny_pure q1
    | some o =>
      refine wpAny_bind (wpAny_field hz rfl (x := .bool f1) rfl ?_)
      cases f1 with
      | true => exact wpAny_pure (q2 s.heap hz (Heap.SameBut.refl _ _))
      | false => exact wpAny_bind (wpAny_setField_rec hz (by simp) fun h' k1 k2 => wpAny_pure (q2 h' k1 k2))
structure ZSt (b : Bool) (z TI TO i1 i2 l1 l2 : Addr) (k : Nat) (h : Heap) : Prop where
  rc : ∃ f0 f1, (f0 = Value.none ∨ ∃ T : Addr, f0 = rawInt T) ∧ ZipR h z TI TO f0 f1 b
  ti : IsPair h TI (.ref i1) (.ref i2)
  to : ∃ x y, IsPair h TO x y
  i1 : h.IsListIter i1 l1 k
  i2 : h.IsListIter i2 l2 k
abbrev KeepZ (z TO i1 i2 : Addr) (h h' : Heap) : Prop := ∀ c o, c ≠ z → c ≠ TO → c ≠ i1 → c ≠ i2 → h.get? c = some o → h'.get? c = some o
theorem zN_item {b : Bool} {z TI TO i1 i2 l1 l2 : Addr} {k : Nat} {xs ys : Array Value} {x y : Value} {Q : Value → Shared → Prop} (D : ZipApart z TI TO i1 i2 l1 l2) (st : ZSt b z TI TO i1 i2 l1 l2 k s.heap)
    (hl1 : s.heap.IsList l1 xs) (hl2 : s.heap.IsList l2 ys) (hx : xs[k]? = some x) (hy : ys[k]? = some y)
    (hQ : ∀ h', ZSt b z TI TO i1 i2 l1 l2 (k + 1) h' → IsPair h' s.heap.objs.size x y → h'.objs.size = s.heap.objs.size + 1 → KeepZ z TO i1 i2 s.heap h' → Q (.ref s.heap.objs.size) { s with heap := h' }) :
    wpAny (model prog w) A (Builtin.«zip.__next__» ⟨[.ref z], []⟩) (fun fin s' => ∃ v, fin = .done (.ret v) ∧ Q v s') E s := by
  obtain ⟨⟨f0, f1, hf, hz⟩, hTI, ⟨p, q, hTO⟩, h1, h2⟩ := st
  show wpAny _ _ (field (.ref z) 2 >>= _) _ _ _
  refine wpAny_bind (wpAny_field hz rfl (x := .bool b) rfl ?_)
  show wpAny _ _ (field (.ref z) 3 >>= _) _ _ _
  refine wpAny_bind (wpAny_field hz rfl (x := .ref TI) rfl (wpAny_bind (wpAny_seqItems hTI rfl ?_)))
  show wpAny _ _ (Builtin.SmallTypes.ownedTupleIsFree (.ref z) >>= _) _ _ _
  refine wpAny_bind (zfree hf hz ?_ fun h₁ hz₁ k₁ => ?_)
  · -- the owned tuple anew
    refine wpAny_bind (wpAny_rule (wpAny_bind (wpAny_field hz rfl (x := .ref TO) rfl (wpAny_bind (wpAny_setField_rec hz (by simp) fun h₁ hz₁ k₁ => ?_)))))
    replace hz₁ : ZipR h₁ z TI TO .ellipsis f1 b := hz₁
    refine wpAny_bind ?_
    simp only [List.zipIdx_cons, List.zipIdx_nil, List.forIn_cons, List.forIn_nil]
    refine wpAny_bind (wpAny_bind (wpAny_onRaise (m := drawZ (Value.bool b == Value.bool true) (.ref i1)) ?_))
    refine drawZ_item (s := { s with heap := h₁ }) (h1.extBut k₁.extBut D.i1z) (hl1.extBut k₁.extBut D.l1z) hx fun h₂ j₂ k₂ => ?_
    have t₂ : IsPair h₂ TO p q := k₂.extBut _ _ D.TOi1 (k₁.extBut _ _ D.TOz hTO)
    refine wpAny_bind (wpAny_seqItems t₂ rfl (wpAny_bind (wpAny_updateSeq_pair t₂ fun h₃ t₃ k₃ => wpAny_bind (wpAny_letGo (wpAny_pure ?_)))))
    replace t₃ : IsPair h₃ TO x q := t₃
    refine wpAny_bind (wpAny_bind (wpAny_onRaise (m := drawZ (Value.bool b == Value.bool true) (.ref i2)) ?_))
    refine drawZ_item (s := { s with heap := h₃ }) (((h2.extBut k₁.extBut D.i2z).extBut k₂.extBut D.i12.symm).extBut k₃.extBut D.TOi2.symm) (((hl2.extBut k₁.extBut D.l2z).extBut k₂.extBut D.l2i1).extBut k₃.extBut D.l2TO) hy fun h₄ j₄ k₄ => ?_
    have t₄ : IsPair h₄ TO x q := k₄.extBut _ _ D.TOi2 t₃
    refine wpAny_bind (wpAny_seqItems t₄ rfl (wpAny_bind (wpAny_updateSeq_pair t₄ fun h₅ t₅ k₅ => wpAny_bind (wpAny_letGo (wpAny_pure (wpAny_pure ?_))))))
    replace t₅ : IsPair h₅ TO x y := t₅
    refine wpAny_bind (wpAny_seqItems t₅ rfl (wpAny_bind (wpAny_newTuple ?_)))
    have hsz : h₅.objs.size = s.heap.objs.size := by rw [k₅.1, k₄.1, k₃.1, k₂.1, k₁.1]
    have hz₅ : ZipR h₅ z TI TO .ellipsis f1 b := k₅.extBut _ _ D.TOz.symm (k₄.extBut _ _ D.i2z.symm (k₃.extBut _ _ D.TOz.symm (k₂.extBut _ _ D.i1z.symm hz₁)))
    have kp : KeepZ z TO i1 i2 s.heap h₅ := fun c o c1 c2 c3 c4 e => k₅.extBut _ _ c2 (k₄.extBut _ _ c4 (k₃.extBut _ _ c2 (k₂.extBut _ _ c3 (k₁.extBut _ _ c1 e))))
    have j1 : h₅.IsListIter i1 l1 (k + 1) := ((j₂.extBut k₃.extBut D.TOi1.symm).extBut k₄.extBut D.i12).extBut k₅.extBut D.TOi1.symm
    have j2 : h₅.IsListIter i2 l2 (k + 1) := j₄.extBut k₅.extBut D.TOi2.symm
    have zl : z < h₅.objs.size := Heap.lt_size hz₅
    show wpAny _ _ (Builtin.SmallTypes.ownedTupleHandOut (.ref z) (.ref h₅.objs.size) >>= _) _ _ _
    unfold Builtin.SmallTypes.ownedTupleHandOut
    have hz₆ : ZipR (h₅.push { cls := .type "tuple", data := .seq #[x, y] }) z TI TO .ellipsis f1 b := Heap.get?_push_of_some _ hz₅
    refine wpAny_bind (wpAny_bind (wpAny_setField_rec hz₆ (by simp) fun h₇ hz₇ k₇ => ?_))
    replace hz₇ : ZipR h₇ z TI TO (rawInt h₅.objs.size) f1 b := hz₇
    refine wpAny_setField_rec hz₇ (by simp) fun h₈ hz₈ k₈ => ?_
    replace hz₈ : ZipR h₈ z TI TO (rawInt h₅.objs.size) false b := hz₈
    have up : ∀ c o, c ≠ z → h₅.get? c = some o → h₈.get? c = some o := fun c o c1 e => k₈.extBut _ _ c1 (k₇.extBut _ _ c1 (Heap.get?_push_of_some _ e))
    have pr : IsPair h₈ h₅.objs.size x y := k₈.extBut _ _ (Nat.ne_of_gt zl) (k₇.extBut _ _ (Nat.ne_of_gt zl) (Heap.get?_push_size _ rfl))
    have sz8 : h₈.objs.size = h₅.objs.size + 1 := by rw [k₈.1, k₇.1, Heap.size_push]
    refine wpAny_pure ⟨_, rfl, ?_⟩
    show Q (.ref h₅.objs.size) _
    rw [hsz] at pr sz8 ⊢
    refine hQ h₈ ⟨⟨_, _, .inr ⟨_, rfl⟩, hz₈⟩, up _ _ D.TIz (kp _ _ D.TIz D.TITO D.TIi1 D.TIi2 hTI), ⟨x, y, up _ _ D.TOz t₅⟩, j1.at fun o e => up _ o D.i1z e, j2.at fun o e => up _ o D.i2z e⟩ pr sz8 fun c o c1 c2 c3 c4 e => up c o c1 (kp c o c1 c2 c3 c4 e)
  · -- the owned tuple is held elsewhere: a new one
    refine wpAny_bind ?_
    rw [← Array.forIn_toList]
    simp only [List.forIn_cons, List.forIn_nil]
    refine wpAny_bind (wpAny_bind (wpAny_holding (m := drawZ (Value.bool b == Value.bool true) (.ref i1)) ?_))
    refine drawZ_item (s := { s with heap := h₁ }) (h1.extBut k₁.extBut D.i1z) (hl1.extBut k₁.extBut D.l1z) hx fun h₂ j₂ k₂ => wpAny_pure ?_
    refine wpAny_bind (wpAny_bind (wpAny_holding (m := drawZ (Value.bool b == Value.bool true) (.ref i2)) ?_))
    refine drawZ_item (s := { s with heap := h₂ }) ((h2.extBut k₁.extBut D.i2z).extBut k₂.extBut D.i12.symm) ((hl2.extBut k₁.extBut D.l2z).extBut k₂.extBut D.l2i1) hy fun h₃ j₃ k₃ => wpAny_pure (wpAny_pure ?_)
    show wpAny _ _ (newTuple [x, y] >>= _) _ _ _
    refine wpAny_bind (wpAny_newTuple (wpAny_pure ⟨_, rfl, ?_⟩))
    show Q (.ref h₃.objs.size) _
    have hsz : h₃.objs.size = s.heap.objs.size := by rw [k₃.1, k₂.1, k₁.1]
    have hz₃ : ZipR h₃ z TI TO f0 true b := k₃.extBut _ _ D.i2z.symm (k₂.extBut _ _ D.i1z.symm hz₁)
    have kp : KeepZ z TO i1 i2 s.heap h₃ := fun c o c1 _ c3 c4 e => k₃.extBut _ _ c4 (k₂.extBut _ _ c3 (k₁.extBut _ _ c1 e))
    have j1 : h₃.IsListIter i1 l1 (k + 1) := j₂.extBut k₃.extBut D.i12
    have pr : IsPair (h₃.push { cls := .type "tuple", data := .seq #[x, y] }) h₃.objs.size x y := Heap.get?_push_size _ rfl
    have sz4 : (h₃.push { cls := .type "tuple", data := .seq #[x, y] }).objs.size = h₃.objs.size + 1 := Heap.size_push ..
    have tO : IsPair h₃ TO p q := k₃.extBut _ _ D.TOi2 (k₂.extBut _ _ D.TOi1 (k₁.extBut _ _ D.TOz hTO))
    rw [hsz] at pr sz4 ⊢
    refine hQ _ ⟨⟨f0, true, hf, Heap.get?_push_of_some _ hz₃⟩, Heap.get?_push_of_some _ (kp _ _ D.TIz D.TITO D.TIi1 D.TIi2 hTI), ⟨p, q, Heap.get?_push_of_some _ tO⟩, j1.at fun o e => Heap.get?_push_of_some _ e, j₃.at fun o e => Heap.get?_push_of_some _ e⟩ pr sz4 fun c o c1 c2 c3 c4 e => Heap.get?_push_of_some _ (kp c o c1 c2 c3 c4 e)

theorem stop_ok {α : Type} {Q : α → Shared → Prop} (hh : A.handled = none)
    (hE : ∀ h' e, (∀ c o, s.heap.get? c = some o → h'.get? c = some o) → (∃ o, h'.get? e = some o ∧ o.cls = .type "StopIteration") → E (.ref e) { s with heap := h' }) :
    wpAny (model prog w) A (Builtin.SmallTypes.stopIteration : Sem α) Q E s := by
  unfold Builtin.SmallTypes.stopIteration
  refine wpAny_bind ?_
  unfold newExc newTuple
  refine wpAny_bind (wpAny_newObj_type (wpAny_bind (m := firstArgMember _ _) (wpAny_of_eq (a := Value.none) (by first | rfl | (simp only [firstArgMember]; rfl)) (wpAny_newObj_type (wpAny_raiseNew_none hh (hE _ _ (fun c o e => Heap.get?_push_of_some _ (Heap.get?_push_of_some _ e)) ⟨_, Heap.get?_push_size _ rfl, rfl⟩)) (by size_fits)))) (by size_fits))
theorem zN_end {b : Bool} {z TI TO i1 i2 l1 l2 : Addr} {k : Nat} {xs ys : Array Value} {Q : Fin → Shared → Prop} (hh : A.handled = none) (D : ZipApart z TI TO i1 i2 l1 l2) (st : ZSt b z TI TO i1 i2 l1 l2 k s.heap)
    (hl1 : s.heap.IsList l1 xs) (hl2 : s.heap.IsList l2 ys) (hx : xs[k]? = none) (hy : ys[k]? = none)
    (hE : ∀ h' e, KeepZ z TO i1 i2 s.heap h' → (∃ o, h'.get? e = some o ∧ o.cls = .type "StopIteration") → E (.ref e) { s with heap := h' }) :
    wpAny (model prog w) A (Builtin.«zip.__next__» ⟨[.ref z], []⟩) Q E s := by
  obtain ⟨⟨f0, f1, hf, hz⟩, hTI, ⟨p, q, hTO⟩, h1, h2⟩ := st
  show wpAny _ _ (field (.ref z) 2 >>= _) _ _ _
  refine wpAny_bind (wpAny_field hz rfl (x := .bool b) rfl ?_)
  show wpAny _ _ (field (.ref z) 3 >>= _) _ _ _
  refine wpAny_bind (wpAny_field hz rfl (x := .ref TI) rfl (wpAny_bind (wpAny_seqItems hTI rfl ?_)))
  show wpAny _ _ (Builtin.SmallTypes.ownedTupleIsFree (.ref z) >>= _) _ _ _
  refine wpAny_bind (zfree hf hz ?_ fun h₁ hz₁ k₁ => ?_)
  · refine wpAny_bind (wpAny_rule (wpAny_bind (wpAny_field hz rfl (x := .ref TO) rfl (wpAny_bind (wpAny_setField_rec hz (by simp) fun h₁ hz₁ k₁ => ?_)))))
    replace hz₁ : ZipR h₁ z TI TO .ellipsis f1 b := hz₁
    refine wpAny_bind ?_
    simp only [List.zipIdx_cons, List.zipIdx_nil, List.forIn_cons, List.forIn_nil]
    refine wpAny_bind (wpAny_bind (wpAny_onRaise (m := drawZ (Value.bool b == Value.bool true) (.ref i1)) ?_))
    cases b with
    | false =>
      refine wpAny_bind (wpAny_nextOf_list_end (s := { s with heap := h₁ }) hh (h1.extBut k₁.extBut D.i1z) (hl1.extBut k₁.extBut D.l1z) hx fun h₂ e k₂ he => ?_)
      obtain ⟨oe, ho, hc⟩ := he
      have z₂ : ZipR h₂ z TI TO .ellipsis f1 false := k₂ _ _ D.i1z.symm hz₁
      have ez : e ≠ z := fun u => by subst u; rw [z₂] at ho; cases ho; simp at hc
      exact wpAny_setField_rec z₂ (by simp) fun h₃ _ k₃ => hE h₃ e (fun c o c1 _ c3 _ u => k₃.extBut _ _ c1 (k₂ _ _ c3 (k₁.extBut _ _ c1 u))) ⟨oe, k₃.extBut _ _ ez ho, hc⟩
    | true =>
      refine nOE_end (s := { s with heap := h₁ }) hh (h1.extBut k₁.extBut D.i1z) (hl1.extBut k₁.extBut D.l1z) hx fun h₂ k₂ => ?_
      have z₂ : ZipR h₂ z TI TO .ellipsis f1 true := k₂ _ _ D.i1z.symm hz₁
      refine wpAny_bind (wpAny_setField_rec z₂ (by simp) fun h₃ _ k₃ => wpAny_bind ?_)
      wp_delta
      refine wpAny_ite_false rfl (wpAny_bind ?_)
      simp only [List.drop_succ_cons, List.drop_zero, List.zipIdx_cons, List.zipIdx_nil, List.forIn_cons, List.forIn_nil]
      refine wpAny_bind (wpAny_bind (nOE_end (s := { s with heap := h₃ }) hh (((h2.extBut k₁.extBut D.i2z).extBut k₂ D.i12.symm).extBut k₃.extBut D.i2z) (((hl2.extBut k₁.extBut D.l2z).extBut k₂ D.l2i1).extBut k₃.extBut D.l2z) hy fun h₄ k₄ => wpAny_pure (wpAny_pure ?_)))
      refine wpAny_bind (wpAny_rule (stop_ok hh fun h₅ e k₅ he => ?_))
      exact hE h₅ e (fun c o c1 _ c3 c4 u => k₅ c o (k₄ _ _ c4 (k₃.extBut _ _ c1 (k₂ _ _ c3 (k₁.extBut _ _ c1 u))))) he
  · refine wpAny_bind ?_
    rw [← Array.forIn_toList]
    simp only [List.forIn_cons, List.forIn_nil]
    refine wpAny_bind (wpAny_bind (wpAny_holding (m := drawZ (Value.bool b == Value.bool true) (.ref i1)) ?_))
    cases b with
    | false =>
      refine wpAny_bind (wpAny_nextOf_list_end (s := { s with heap := h₁ }) hh (h1.extBut k₁.extBut D.i1z) (hl1.extBut k₁.extBut D.l1z) hx fun h₂ e k₂ he => ?_)
      exact hE h₂ e (fun c o c1 _ c3 _ u => k₂ _ _ c3 (k₁.extBut _ _ c1 u)) he
    | true =>
      refine nOE_end (s := { s with heap := h₁ }) hh (h1.extBut k₁.extBut D.i1z) (hl1.extBut k₁.extBut D.l1z) hx fun h₂ k₂ => wpAny_bind ?_
      wp_delta
      refine wpAny_ite_false rfl (wpAny_bind ?_)
      simp only [List.drop_succ_cons, List.drop_zero, List.zipIdx_cons, List.zipIdx_nil, List.forIn_cons, List.forIn_nil]
      refine wpAny_bind (wpAny_bind (nOE_end (s := { s with heap := h₂ }) hh ((h2.extBut k₁.extBut D.i2z).extBut k₂ D.i12.symm) ((hl2.extBut k₁.extBut D.l2z).extBut k₂ D.l2i1) hy fun h₄ k₄ => wpAny_pure (wpAny_pure ?_)))
      refine wpAny_bind (wpAny_rule (stop_ok hh fun h₅ e k₅ he => ?_))
      exact hE h₅ e (fun c o c1 _ c3 c4 u => k₅ c o (k₄ _ _ c4 (k₂ _ _ c3 (k₁.extBut _ _ c1 u)))) he
theorem zN_next {b : Bool} {z TI TO i1 i2 l1 l2 : Addr} {k : Nat} {xs ys : Array Value} {x y : Value} {Q : Option Value → Shared → Prop} (D : ZipApart z TI TO i1 i2 l1 l2) (st : ZSt b z TI TO i1 i2 l1 l2 k s.heap)
    (hl1 : s.heap.IsList l1 xs) (hl2 : s.heap.IsList l2 ys) (hx : xs[k]? = some x) (hy : ys[k]? = some y)
    (hQ : ∀ h', ZSt b z TI TO i1 i2 l1 l2 (k + 1) h' → IsPair h' s.heap.objs.size x y → h'.objs.size = s.heap.objs.size + 1 → KeepZ z TO i1 i2 s.heap h' → Q (some (.ref s.heap.objs.size)) { s with heap := h' }) :
    wpAny (model prog w) A (pyNext (.ref z)) Q E s := by
  have ty : s.TypeIs (.ref z) "zip" := by obtain ⟨_, _, _, h⟩ := st.rc; exact ⟨_, h, rfl⟩
  unfold pyNext
  exact wpAny_bind (wpAny_attempt (wpAny_callSpecial?_slot (name := Str.ofString "__next__") ty F.slot_zip_next (wpAny_call_entry F.slot_zip_next ty F.entry_zip_next (zN_item D st hl1 hl2 hx hy fun h' a1 a2 a3 a4 => wpAny_pure (hQ h' a1 a2 a3 a4)) (F.args_zip_next_1 _))))
theorem zN_over {b : Bool} {z TI TO i1 i2 l1 l2 : Addr} {k : Nat} {xs ys : Array Value} {Q : Option Value → Shared → Prop} (hh : A.handled = none) (D : ZipApart z TI TO i1 i2 l1 l2) (st : ZSt b z TI TO i1 i2 l1 l2 k s.heap)
    (hl1 : s.heap.IsList l1 xs) (hl2 : s.heap.IsList l2 ys) (hx : xs[k]? = none) (hy : ys[k]? = none) (hQ : ∀ h', KeepZ z TO i1 i2 s.heap h' → Q none { s with heap := h' }) :
    wpAny (model prog w) A (pyNext (.ref z)) Q E s := by
  have ty : s.TypeIs (.ref z) "zip" := by obtain ⟨_, _, _, h⟩ := st.rc; exact ⟨_, h, rfl⟩
  unfold pyNext
  refine wpAny_bind (wpAny_attempt (wpAny_callSpecial?_slot (name := Str.ofString "__next__") ty F.slot_zip_next (wpAny_call_entry F.slot_zip_next ty F.entry_zip_next (zN_end hh D st hl1 hl2 hx hy fun h' e hk he => ?_) (F.args_zip_next_1 _))))
  obtain ⟨o, ho, hc⟩ := he
  exact wpAny_bind (wpAny_isInstance (T := "StopIteration") (b := true) ⟨o, ho, hc⟩ isSubtype_stop (wpAny_pure (hQ h' hk)))
end
end Bt
namespace Bt
open PySem L2 PySem.Spec PyProof.Rows
section
variable {prog : Program} {w : World} {A : Around} {E : Value → Shared → Prop} {s : Shared}
theorem ZSt.at {b : Bool} {z TI TO i1 i2 l1 l2 : Addr} {k : Nat} {h h' : Heap} (st : ZSt b z TI TO i1 i2 l1 l2 k h) (kz : ∃ f0 f1, (f0 = Value.none ∨ ∃ T : Addr, f0 = rawInt T) ∧ ZipR h' z TI TO f0 f1 b) (kp : ∀ c o, c = TI ∨ c = TO ∨ c = i1 ∨ c = i2 → h.get? c = some o → h'.get? c = some o) : ZSt b z TI TO i1 i2 l1 l2 k h' := by
  obtain ⟨_, t, ⟨x, y, u⟩, a, c⟩ := st
  exact ⟨kz, kp _ _ (.inl rfl) t, ⟨x, y, kp _ _ (.inr (.inl rfl)) u⟩, a.at fun o e => kp _ o (.inr (.inr (.inl rfl))) e, c.at fun o e => kp _ o (.inr (.inr (.inr rfl))) e⟩
theorem zgo {b : Bool} {z TI TO i1 i2 l1 l2 : Addr} {k : Nat} {tg : Expr} {u : Value} {Q : Unit → Shared → Prop} (D : ZipApart z TI TO i1 i2 l1 l2) (st : ZSt b z TI TO i1 i2 l1 l2 k s.heap)
    (hQ : ∀ h', ZSt b z TI TO i1 i2 l1 l2 k h' → Heap.SameBut z s.heap h' → Q () { s with heap := h' }) : wpAny (model prog w) A (letOwnedTupleGo tg (.ref z) u) Q E s := by
  have stay : Q () s := hQ s.heap st (Heap.SameBut.refl _ _)
  obtain ⟨f0, f1, hf, hz⟩ := st.rc
  have put : wpAny (model prog w) A (setField (.ref z) 0 .none) Q E s := by
    refine wpAny_setField_rec hz (by simp) fun h' z' sb => hQ h' (st.at ⟨_, _, .inl rfl, z'⟩ fun c o hc e => ?_) sb
    refine (sb.2 c ?_).trans e
    rcases hc with rfl | rfl | rfl | rfl
    · exact D.TIz
    · exact D.TOz
    · exact D.i1z
    · exact D.i2z
  unfold letOwnedTupleGo
  cases tg <;> first
    | exact wpAny_pure stay
    | (cases u <;> first
        | exact wpAny_pure stay
        | (refine wpAny_bind (wpAny_load hz ?_); dsimp only; split
           · exact wpAny_bind (wpAny_rule put)
           · exact wpAny_pure stay))
end
def ItzE (K : PySem.W.Frag) (a b : Addr) : It :=
  ⟨fun i H => ∃ (xs ys : List V) (x y : V), SqL K H a xs ∧ SqL K H b ys ∧ xs[i]? = some x ∧ ys[i]? = some y,
   fun i H v H' => ∃ T o x y, v = .ref T ∧ H T = none ∧ o.dict = none ∧ H' = upd H T (.frz o (.tup [x, y])) ∧
     (∀ xs, SqL K H a xs → xs[i]? = some x) ∧ ∀ ys, SqL K H b ys → ys[i]? = some y,
   fun i H => ∃ xs ys : List V, SqL K H a xs ∧ SqL K H b ys ∧ xs.length ≤ i ∧ ys.length ≤ i⟩
theorem zmem {z TI TO i1 i2 c : Addr} (h : c ∈ [z, TI, TO, i1, i2]) : c = z ∨ c = TI ∨ c = TO ∨ c = i1 ∨ c = i2 := by simpa using h
theorem znot {z TI TO i1 i2 c : Addr} (h : c ∉ [z, TI, TO, i1, i2]) : c ≠ z ∧ c ≠ TO ∧ c ≠ i1 ∧ c ≠ i2 := by
  simp only [List.mem_cons, not_or] at h
  exact ⟨h.1, h.2.2.1, h.2.2.2.1, h.2.2.2.2.1⟩
theorem turn_zN {P : Program} {w : World} {K : PySem.W.Frag} {bb : Bool} {tg : Expr} {a b z TI TO i1 i2 : Addr} (D : ZipApart z TI TO i1 i2 a b) :
    Turn P w K tg (ItzE K a b) [z, TI, TO, i1, i2] z (ZSt bb z TI TO i1 i2 a b) where
  mem := List.mem_cons_self
  obj := fun i h st c hc => by
    obtain ⟨⟨f0, f1, _, hz⟩, t, ⟨x, y, u⟩, ⟨o1, e1, _, d1⟩, ⟨o2, e2, _, d2⟩⟩ := st
    rcases zmem hc with rfl | rfl | rfl | rfl | rfl
    · exact ⟨_, hz, fun v => nofun⟩
    · exact ⟨_, t, fun v => nofun⟩
    · exact ⟨_, u, fun v => nofun⟩
    · exact ⟨o1, e1, fun v q => by rw [d1] at q; cases q⟩
    · exact ⟨o2, e2, fun v q => by rw [d2] at q; cases q⟩
  keep := fun i h h' st k => by
    obtain ⟨f0, f1, hf, hz⟩ := st.rc
    refine st.at ⟨f0, f1, hf, k z List.mem_cons_self _ hz⟩ fun c o hc e => k c ?_ o e
    rcases hc with rfl | rfl | rfl | rfl <;> simp
  item := by
    intro X hP hw hK hc i pins s σ H E I hf st hg
    subst hP hw hK
    obtain ⟨xs, ys, x, y, qx, qy, hx, hy⟩ := hg
    obtain ⟨its, rv, p, _⟩ := I.list qx
    obtain ⟨its2, rv2, p2, _⟩ := I.list qy
    obtain ⟨u, hu, ru⟩ := rv.get hx
    obtain ⟨u2, hu2, ru2⟩ := rv2.get hy
    have lt : ∀ c ∈ [z, TI, TO, i1, i2], c < s.heap.objs.size := fun c hm => by
      obtain ⟨⟨f0, f1, _, hz⟩, t, ⟨_, _, v⟩, ⟨o1, e1, _⟩, ⟨o2, e2, _⟩⟩ := st
      rcases zmem hm with rfl | rfl | rfl | rfl | rfl
      · exact Heap.lt_size hz
      · exact Heap.lt_size t
      · exact Heap.lt_size v
      · exact Heap.lt_size e1
      · exact Heap.lt_size e2
    refine zN_next D st p.isList p2.isList (x := u) (y := u2) (by simpa using hu) (by simpa using hu2) fun h' st' pr sz kp => ?_
    refine ⟨_, rfl, zgo (s := { s with heap := h' }) D st' fun h'' st'' sb => ?_⟩
    have nz : s.heap.objs.size ≠ z := Nat.ne_of_gt (lt z List.mem_cons_self)
    have pr2 : IsPair h'' s.heap.objs.size u u2 := (sb.2 _ nz).trans pr
    have new : ObjOk X.prog X.w (upd H s.heap.objs.size (.frz { cls := .type "tuple", data := .seq #[u, u2] } (.tup [x, y]))) h'' s.heap.objs.size (.frz { cls := .type "tuple", data := .seq #[u, u2] } (.tup [x, y])) :=
      ⟨pr2, by show 2 ≤ sizeLine; decide, [u, u2], .cons ru (.cons ru2 .nil), ⟨_, pr2, rfl, _, rfl⟩⟩
    have I1 := I.turnedNew (t' := s.toks) (ch := [z, TI, TO, i1, i2]) (fun c o hb q => by
      obtain ⟨n1, n2, n3, n4⟩ := znot hb
      exact (sb.2 c n1).trans (kp c o n1 n2 n3 n4 q)) hf (Nat.le_refl _) new
    refine ⟨.ref s.heap.objs.size, _, I1, rfl, ⟨_, _, x, y, rfl, I.hok.fresh (Nat.le_refl _), rfl, rfl, fun l hl => by rw [I.list_inj hl qx]; exact hx, fun l hl => by rw [I.list_inj hl qy]; exact hy⟩, st'', fun c hm => ?_⟩
    rw [upd_ne (Nat.ne_of_lt (lt c hm))]
    exact (hf c hm).1
  done := by
    intro X hP hw hK hc i pins s σ H E I hf st hg
    subst hP hw hK
    obtain ⟨xs, ys, qx, qy, e1, e2⟩ := hg
    obtain ⟨its, rv, p, _⟩ := I.list qx
    obtain ⟨its2, rv2, p2, _⟩ := I.list qy
    have l1 := rv.length
    have l2 := rv2.length
    refine zN_over (I.ok.hd hc) D st p.isList p2.isList (by simp; omega) (by simp; omega) fun h' kp => ⟨rfl, I.turnedL (t' := s.toks) (ch := [z, TI, TO, i1, i2]) (fun c o hb q => ?_) hf⟩
    obtain ⟨n1, n2, n3, n4⟩ := znot hb
    exact kp c o n1 n2 n3 n4 q
  self := fun A i s Q E st h => by
    obtain ⟨f0, f1, _, hz⟩ := st.rc
    have ty : s.TypeIs (.ref z) "zip" := ⟨_, hz, rfl⟩
    exact wpAny_pyIter_slot ty F.slot_zip_iter (wpAny_call_entry F.slot_zip_iter ty F.entry_zip_iter (show wpAny _ _ (PySem.ret (.ref z)) _ _ s from wpAny_pure ⟨_, rfl, "zip", _, ty, F.slot_zip_next.lookup, h⟩) (F.args_zip_iter_1 _))
theorem tc_zipS (a b c : Value) : checkTypeCall "zip" ⟨[a, b], [("strict", c)]⟩ = pure () := by kernel_rfl
theorem nc_zipS (a b c : Value) : checkBuiltinCall "zip.__new__" ⟨[.type "zip", a, b], [("strict", c)]⟩ = pure () := by kernel_rfl
theorem ao_zipS (o a b c : Value) : argsOk "object.__init__" ⟨[o, a, b], [("strict", c)]⟩ := by
  unfold argsOk
  kernel_rfl
abbrev zS (h : Heap) (l1 l2 : Addr) (b : Bool) : Heap := (zipH4 h l1 l2).push { cls := .type "zip", data := .fields #[.none, .bool false, .bool b, .ref (zipH2 h l1 l2).objs.size, .ref (zipH3 h l1 l2).objs.size] }
theorem new_zipS (l1 l2 : Addr) (xs ys : Array Value) :
    Meets (Builtin.«zip.__new__» ⟨[.type "zip", .ref l1, .ref l2], [("strict", .bool true)]⟩) (fun _ R s => s.heap.IsList l1 xs ∧ s.heap.IsList l2 ys ∧
      R (.ok (.ret (.ref (zipH4 s.heap l1 l2).objs.size))) { s with heap := zS s.heap l1 l2 true }) :=
  .of_wp fun prog w A R s h => by
    obtain ⟨ho, ge, dr, tk, os⟩ := s
    obtain ⟨k1, k2, h⟩ := h
    have hsub := sub_zip
    have m1 : Heap.IsList (Shared.heap ⟨ho, ge, dr, tk, os⟩) l1 xs := k1
    have m2 : Heap.IsList (Shared.heap ⟨ho.push { cls := .type "list_iterator", data := .fields #[.ref l1, .int 0 0] }, ge, dr, tk, os⟩) l2 ys := Heap.IsList.push k2 _
    have e2 : (("strict" : Str) != ("strict" : Str)) = false := by decide +kernel
    wp_walk using wpAny_truthy_bool, wpAny_pyIter_list m1, wpAny_pyIter_list m2
    exact ⟨_, rfl, h⟩
end Bt
namespace Bt
open PySem L2 PySem.Spec PyProof.Rows
section
variable {prog : Program} {w : World} {A : Around} {E : Value → Shared → Prop} {s : Shared}
theorem call_zipS {l1 l2 : Addr} {xs ys : Array Value} {Q : Value → Shared → Prop} (k1 : s.heap.IsList l1 xs) (k2 : s.heap.IsList l2 ys)
    (h : ∀ h', ZSt true (s.heap.objs.size + 4) (s.heap.objs.size + 2) (s.heap.objs.size + 3) s.heap.objs.size (s.heap.objs.size + 1) l1 l2 0 h' → (∀ c o, s.heap.get? c = some o → h'.get? c = some o) → Q (.ref (s.heap.objs.size + 4)) { s with heap := h' }) :
    wpAny (model prog w) A (call (.type "zip") [.ref l1, .ref l2] [("strict", .bool true)]) Q E s := by
  refine callType_newKw F.called_zip (by decide) (tc_zipS _ _ _) (nc_zipS _ _ _) (fun obj => ao_zipS obj _ _ _) F.entry_zip_new (new_zipS l1 l2 xs ys) ⟨k1, k2, ?_⟩
  have n1 : (zipH1 s.heap l1).objs.size = s.heap.objs.size + 1 := Heap.size_push ..
  have n2 : (zipH2 s.heap l1 l2).objs.size = s.heap.objs.size + 2 := (Heap.size_push ..).trans (congrArg (· + 1) n1)
  have n3 : (zipH3 s.heap l1 l2).objs.size = s.heap.objs.size + 3 := (Heap.size_push ..).trans (congrArg (· + 1) n2)
  have n4 : (zipH4 s.heap l1 l2).objs.size = s.heap.objs.size + 4 := (Heap.size_push ..).trans (congrArg (· + 1) n3)
  have u : ∀ {h : Heap} {o : Obj} {c : Addr} {x : Obj}, h.get? c = some x → (h.push o).get? c = some x := fun e => Heap.get?_push_of_some _ e
  have g5 : (zS s.heap l1 l2 true).get? (zipH4 s.heap l1 l2).objs.size = some _ := Heap.get?_push_size _ rfl
  have g4 : (zS s.heap l1 l2 true).get? (zipH3 s.heap l1 l2).objs.size = some _ := u (Heap.get?_push_size _ rfl)
  have g3 : (zS s.heap l1 l2 true).get? (zipH2 s.heap l1 l2).objs.size = some _ := u (u (Heap.get?_push_size _ rfl))
  have g2 : (zS s.heap l1 l2 true).get? (zipH1 s.heap l1).objs.size = some _ := u (u (u (Heap.get?_push_size _ rfl)))
  have g1 : (zS s.heap l1 l2 true).get? s.heap.objs.size = some _ := u (u (u (u (Heap.get?_push_size _ rfl))))
  show _ ∧ _
  rw [n2, n3, n4] at g5
  rw [n1, n2] at g3
  rw [n3] at g4
  rw [n1] at g2
  rw [n4]
  exact ⟨⟨_, g5, rfl⟩, h _ ⟨⟨.none, false, .inl rfl, g5⟩, g3, ⟨_, _, g4⟩, ⟨_, g1, rfl, rfl⟩, ⟨_, g2, rfl, rfl⟩⟩ fun c o e => u (u (u (u (u e))))⟩
theorem cw_typeKw {M : Model} {pos : Pos} {T : String} {args : List (Bool × Sem Value)} {kws : List (Option PySem.Str × Sem Value)} {Q : Value → Shared → Prop} (hp : args.any (·.1) = false) (hk : kws.any (·.1.isNone) = false)
    (h : wpAny M A (evalArgs (.type T) true args kws) (fun a s1 => wpAny M A (call (.type T) a.pos a.kw) Q E s1) E s) : wpAny M A (callWith pos (.type T) [] args kws) Q E s := by
  unfold callWith
  refine wpAny_bind (wpAny_holding (wpAny_mono h (fun a s1 h1 => wpAny_bind (wpAny_standAt ?_)) fun _ _ e => e))
  simp only [hp, hk, Bool.or_false]; refine wpAny_bind (wpAny_pure (wpAny_bind (wpAny_mono h1 (fun r s2 hr => wpAny_bind (wpAny_holding (wpAny_point (wpAny_pure hr)))) fun _ _ e => e)))
end
def iZipE (K : PySem.W.Frag) (ta : TA) : TI := fun σ H R => ta σ H fun vs H1 => ∃ a b xs ys, vs = [.ref a, .ref b] ∧ SqL K H1 a xs ∧ SqL K H1 b ys ∧ R (ItzE K a b) H1
section
variable {X : Cx}
theorem pie_zip {pins : List (Addr × Obj)} {σ : L2.St} {H : Hp} {s : Shared} {tg : Expr} {R : It → Hp → Prop} {bb : Bool} {a b : Addr} {h' : Heap} {E : Value → Shared → Prop} (I : Inv X pins σ H s) (la : a < s.heap.objs.size) (lb : b < s.heap.objs.size)
    (st : ZSt bb (s.heap.objs.size + 4) (s.heap.objs.size + 2) (s.heap.objs.size + 3) s.heap.objs.size (s.heap.objs.size + 1) a b 0 h') (k : ∀ c o, s.heap.get? c = some o → h'.get? c = some o) (q : R (ItzE X.K a b) H) :
    wpAny (model X.prog X.w) X.A (pyIter (.ref (s.heap.objs.size + 4))) (PIE X pins σ tg R) E { s with heap := h' } := by
  have D := PySem.W.ktu_apart s.heap.objs.size a b la lb
  have T := turn_zN (P := X.prog) (w := X.w) (K := X.K) (bb := bb) (tg := tg) D
  refine T.self X.A 0 { s with heap := h' } _ _ st ?_
  refine ⟨_, _, _, _, H, rfl, I.kept (t' := s.toks) k, T, st, fun c hc => ?_, q⟩
  have le : s.heap.objs.size ≤ c := by
    rcases zmem hc with rfl | rfl | rfl | rfl | rfl
    · exact Nat.le_add_right _ _
    · exact Nat.le_add_right _ _
    · exact Nat.le_add_right _ _
    · exact Nat.le_refl _
    · exact Nat.le_add_right _ _
  exact I.fpOk le (I.hok.fresh le)
theorem pi_zipS {tg e e2 : Expr} {ta : TA} {p kp kc pos : Pos} {j : Nat} (hg : Gl X "zip") (hm : X.mg "zip" = none) (ha : PA X [e, e2] ta)
    (he : backTo pos (starEach [e, e2] X.env) = (false, eval e X.env) :: backTo pos (starEach [e2] X.env) := by rfl) (hpl : (backTo pos (starEach [e, e2] X.env)).any (·.1) = false := by rfl)
    (hall : (backToKw pos (keywordEach [⟨some "strict", .Constant (.bool true) j kc, kp⟩] X.env)).all (·.1.isSome) = true := by rfl) (hnone : (backToKw pos (keywordEach [⟨some "strict", .Constant (.bool true) j kc, kp⟩] X.env)).any (·.1.isNone) = false := by rfl)
    (hks : (backToKw pos (keywordEach [⟨some "strict", .Constant (.bool true) j kc, kp⟩] X.env)).filterMap (·.1) = [PySem.Str.ofString "strict"] := by rfl) :
    PI X tg (.Call (.Name "zip" p) [e, e2] [⟨some "strict", .Constant (.bool true) j kc, kp⟩] pos) (iZipE X.K ta) := by
  refine ⟨fun pins s σ H R I h => wpAny_Call_Name_kw (ld_blt I hg hm PyProof.Rows.boot_zip (cw_typeKw hpl hnone ?_))⟩
  have hr := ha.run pos pins s σ H _ I h
  rw [he] at hr ⊢
  refine evalArgs_kwB hall (thn hr fun us s1 h1 => ?_)
  obtain ⟨vs, H1, I1, r1, a, b, xs, ys, rfl, qx, qy, q⟩ := h1
  refine thn ((pk_cons (X := X) pe_bl pk_nil : PK X [⟨some "strict", .Constant (.bool true) j kc, kp⟩] _).run pos pins s1 σ H1 (fun zs H2 => zs = [.bl true] ∧ H2 = H1) I1 ⟨rfl, rfl⟩) fun ws s2 h2 => ?_
  obtain ⟨zs, H2, I2, r2, rfl, rfl⟩ := h2
  cases r1 with
  | cons ra rr =>
    cases rr with
    | cons rb rr =>
      cases rr
      cases ra
      cases rb
      cases r2 with
      | cons rc rr =>
        cases rr
        cases rc
        obtain ⟨its, rv, p1, _⟩ := I2.list qx
        obtain ⟨its2, rv2, p2, _⟩ := I2.list qy
        rw [hks]
        exact call_zipS p1.isList p2.isList fun h' st k => pie_zip I2 p1.lt p2.lt st k q
theorem pi_zipN {tg e e2 : Expr} {ta : TA} {p pos : Pos} (hg : Gl X "zip") (hm : X.mg "zip" = none) (ha : PA X [e, e2] ta)
    (hs : starEach [e, e2] X.env = (false, eval e X.env) :: starEach [e2] X.env := by rfl) (hpl : (backTo pos (starEach [e2] X.env)).any (·.1) = false := by rfl) :
    PI X tg (.Call (.Name "zip" p) [e, e2] [] pos) (iZipE X.K ta) := by
  refine ⟨fun pins s σ H R I h => Call_ (ld_blt I hg hm PyProof.Rows.boot_zip (PyProof.Rows.callWith_type1 (thn (ha.run pos pins s σ H _ I h) fun us s1 h1 => ?_) hs hpl))⟩
  obtain ⟨vs, H1, I1, r1, a, b, xs, ys, rfl, qx, qy, q⟩ := h1
  cases r1 with
  | cons ra rr =>
    cases rr with
    | cons rb rr =>
      cases rr
      cases ra
      cases rb
      obtain ⟨its, rv, p1, _⟩ := I1.list qx
      obtain ⟨its2, rv2, p2, _⟩ := I1.list qy
      exact call_zip_2 p1.isList p2.isList fun h' hz hTI hTO h1 h2 hsz hk => pie_zip I1 p1.lt p2.lt (bb := false) ⟨⟨.none, false, .inl rfl, hz⟩, hTI, ⟨_, _, hTO⟩, h1, h2⟩ hk q
def mZipE (ms : M (List D)) : M (List D) := bnd ms fun ds => match ds with
  | [.list xs, .list ys] => fun E => if xs.length = ys.length then .ok (zipD xs ys) E else .bad
  | _ => stuck
variable {W : WX}
theorem wk_zipE {K : PySem.W.Frag} {O : List Addr} {H : Hp} {a b : Addr} {vs ws : List V} {ds es : List D} (h1 : Mask O H a = some (.lst vs)) (h2 : Mask O H b = some (.lst ws)) (r1 : RpAll K (Mask O H) vs ds) (r2 : RpAll K (Mask O H) ws es) (hl : ds.length = es.length) : Wk false K O H (ItzE K a b) (zipD ds es) := by
  have e1 := r1.length
  have e2 := r2.length
  have el : (zipD ds es).length = vs.length := by
    unfold zipD
    rw [List.length_zipWith]
    omega
  refine ⟨fun G => SqL K G a vs ∧ SqL K G b ws, fun i G v G' => ∃ T o x y, v = .ref T ∧ G T = none ∧ o.dict = none ∧ G' = upd G T (.frz o (.tup [x, y])) ∧ vs[i]? = some x ∧ ws[i]? = some y, ⟨fun i G hi q => ?_, fun G q => ?_, fun i G v G' hi q y => ?_⟩, fun O2 H2 l => ⟨SqL.of (mask_le _ _ _ _ (l _ _ h1)), SqL.of (mask_le _ _ _ _ (l _ _ h2))⟩, fun O2 H2 i x H3 d t l e y => ?_⟩
  · rw [el] at hi
    exact ⟨vs, ws, vs[i], ws[i]'(by omega), q.1, q.2, List.getElem?_eq_getElem hi, List.getElem?_eq_getElem (by omega)⟩
  · exact ⟨vs, ws, q.1, q.2, by omega, by omega⟩
  · obtain ⟨T, o, x, z, u1, u2, u3, u4, u5, u6⟩ := y
    exact ⟨T, o, x, z, u1, u2, u3, u4, u5 vs q.1, u6 ws q.2⟩
  · obtain ⟨T, o, x1, x2, rfl, nT, od, rfl, g1, g2⟩ := y
    obtain ⟨d1, q1, s1⟩ := r1.get g1
    obtain ⟨d2, q2, s2⟩ := r2.get g2
    unfold zipD at e
    rw [List.getElem?_zipWith, q1, q2] at e
    cases e
    obtain ⟨g, r⟩ := new_tup t (.cons (s1.mono l) (.cons (s2.mono l) .nil)) nT od
    exact ⟨g, .inl r⟩
theorem si_zipE {tg e : Expr} {es : List Expr} {ts : TA} {ms : M (List D)} (hp : PA X es ts → PI X tg e (iZipE X.K ts)) (h : SA X W es ts ms) : SI X W false tg e (iZipE X.K ts) (mZipE ms) := by
  refine ⟨hp h.pa, fun F O E σ H R Re s => h.rd F O E σ H _ Re (s.bnd.mono (fun ds E1 k O1 vs H1 R1 l1 rr => ?_) (fun _ _ k => k))⟩
  split at k
  · cases rr with
    | cons r1 rr =>
      cases rr with
      | cons r2 rr =>
        cases rr
        cases r1 with
        | lst h1 s1 =>
          cases r2 with
          | lst h2 s2 =>
            split at k
            · rename_i hl
              exact ⟨_, _, _, _, rfl, SqL.of (mask_le _ _ _ _ h1), SqL.of (mask_le _ _ _ _ h2), k O1 H1 _ R1 l1 (wk_zipE h1 h2 s1 s2 hl)⟩
            · exact k.elim
  · exact k.elim
end
end Bt
namespace Bt
open PySem L2 PySem.Spec PyProof.Rows
def rMaxT (K : PySem.W.Frag) : List V → Hp → VK → Prop := fun xs H Q => ∃ p ns, xs = [.ref p] ∧ SqT K H p (ns.map V.int) ∧ ns ≠ [] ∧ Q (.int (maxL ns)) H
section
variable {X : Cx} {W : WX}
theorem cr_maxT (hc : X.calm = true) (hu : X.A.units + 64 < cLine) : CallR X (.builtin "max") (rMaxT X.K) := by
  intro pins s σ H xs us Q I r h
  obtain ⟨p, ns, rfl, hs, hne, q⟩ := h
  obtain rfl := Vals.ref1 r
  obtain ⟨its, r', pl, hz⟩ := I.tuple hs
  obtain ⟨as, ra⟩ := Dp.readsAll I (ns.map .int) (ns.map V.int) its (dpAll_ints ns) r'
  have hd := depth_ints ns
  cases ns with
  | nil => exact absurd rfl hne
  | cons n ns =>
    refine PySem.W.max_tuple_data (I.ok.hd hc) pl (by simpa using ra) (alike_ints (n :: ns)) (by simp only [List.map_cons] at hd; omega) fun i v h' tk bs hv hr kp => ?_
    rw [PySem.W.maxD_ints, fold_max] at hr
    cases hr
    exact ⟨.int _, H, I.kept (t' := tk) kp, ⟨_, rfl⟩, q⟩
theorem cK_maxT (K : PySem.W.Frag) (eK : X.K = K) (hc : X.calm = true) (hu : X.A.units + 64 < cLine) : CallR X (.builtin "max") (rMaxT K) := eK ▸ cr_maxT hc hu
end
def maxTF : List D → Option D
  | [.tuple ds] => match intsOf ds with
    | some (n :: ns) => some (.int (maxL (n :: ns)))
    | _ => none
  | _ => none
theorem ok_maxT {K : PySem.W.Frag} : COk K (rMaxT K) maxTF := by
  intro O H vs ds z Q t hp hf q
  unfold maxTF at hf
  split at hf
  · rename_i ds
    obtain ⟨v, rfl, rq⟩ := paired1 hp
    obtain ⟨p, vs, rfl, h1, r1, _⟩ := rq.tuple
    split at hf
    · rename_i n ns e
      cases hf
      rw [intsOf_eq e] at r1
      exact ⟨p, n :: ns, rfl, by rw [← r1.ints]; exact h1, List.cons_ne_nil _ _, q _ H (Grow.refl O H) (.int _)⟩
    · cases hf
  · cases hf
section
variable {X : Cx} {W : WX} {a b : Expr} {ta tb : TE}
noncomputable def mLrg2 (ma mb : M Ag) : M D := bnd ma fun x => bnd mb fun y => fun E => match rsv E x, rsv E y with
  | some (.int i), some (.int j) => if rgOk i && rgOk j then .ok (.list (rangeD i j)) E else .bad
  | _, _ => .bad
noncomputable def mLrg1 (ma : M Ag) : M D := bnd ma fun x => fun E => match rsv E x with
  | some (.int j) => if rgOk j then .ok (.list (rangeD 0 j)) E else .bad
  | _ => .bad
end
section
variable {X : Cx}
def rLenK (P : Program) (w : World) : List V → Hp → VK → Prop := fun xs H Q => ∃ a S n, xs = [.ref a] ∧ H a = some (SetK P w a S n) ∧ Q (.int (n : Nat)) H
theorem cr_lenK : CallR X (.builtin "len") (rLenK X.prog X.w) := by
  intro pins s σ H xs us Q I r h
  obtain ⟨a, S, n, rfl, ha, q⟩ := h
  obtain rfl := Vals.ref1 r
  obtain ⟨o, es, ep, t, ho, hex, hd, _, _, hb, hf, hn⟩ := setK_get I ha
  refine call_len_set ho hex hd hf (by unfold scanBound at hb; omega) ⟨.int (n : Nat), H, I.tok _, ⟨_, by rw [hn]⟩, q⟩
def memK (k : Key) (r : List Key) : Bool := r.any fun j => decide (j = k)
theorem memK_iff {k : Key} {r : List Key} : memK k r = true ↔ k ∈ r := by
  unfold memK
  rw [List.any_eq_true]
  constructor
  · rintro ⟨j, hj, e⟩
    rw [← of_decide_eq_true e]
    exact hj
  · exact fun h => ⟨k, h, decide_eq_true rfl⟩
def cntK : List Key → Nat
  | [] => 0
  | k :: r => if memK k r = true then cntK r else cntK r + 1
section
variable (vs : List Nat) (g : MG) (mt : M Bool) (me : M D) (E0 : En)
def skGo : List D → En → List Key → Res D
  | [], E, acc => .ok (.int (cntK acc)) (backE E0 E vs)
  | d :: ds, E, acc => match g d (wipeE E vs) with
    | none => .bad
    | some E1 => match mt E1 with
      | .ok true E2 => match me E2 with
        | .ok y E3 => match keyOf y with
          | some k => if acc.length < 2000 then skGo ds E3 (k :: acc) else .bad
          | none => .bad
        | _ => .bad
      | .ok false E2 => skGo ds E2 acc
      | _ => .bad
end
def mLenK (mi : M (List D)) (g : MG) (mt : M Bool) (me : M D) (vs : List Nat) : M D := bnd mi fun its => fun E => skGo vs g mt me E its E []
theorem cntK_le : ∀ l : List Key, cntK l ≤ l.length
  | [] => Nat.le_refl _
  | k :: r => by
    have := cntK_le r
    unfold cntK
    split <;> simp <;> omega
def sOf (acc : List Key) : Key → Bool := fun j => memK j acc
theorem sOf_more (acc : List Key) (k : Key) : moreK (sOf acc) k = sOf (k :: acc) := by
  funext j
  unfold moreK sOf
  rw [Bool.eq_iff_iff, Bool.or_eq_true, decide_eq_true_eq, memK_iff, memK_iff, List.mem_cons]
  exact Or.comm
theorem cnt_more (acc : List Key) (k : Key) : moreN (sOf acc) (cntK acc) k = cntK (k :: acc) := by
  rfl
theorem sk_rd {W : WX} {tg : Expr} {wi : TI} {mi : M (List D)} {g : TG} {mg : MG} {tt : TT} {mt : M Bool} {te : TE} {me : M D} {vs : List Nat} {iter : Expr} {b : Bool} {P : Program} {w : World} (hi : SI X W b tg iter wi mi)
    (hg : ∀ O E σ H v d E' (F : Frm) (Q : L2.St → Hp → Prop), Rel X.K F O E σ H → RpB b X.K (Mask O H) v d → mg d E = some E' → (∀ σ', Rel X.K F O E' σ' H → L2.wipe σ' vs = L2.wipe σ vs → Q σ' H) → g v σ H Q)
    (ht : ∀ F O E σ H (Q : Bool → Hp → Prop), Rel X.K F O E σ H → Sat (mt E) (KB X.K F σ O H Q) (KX X.K X.mg F σ O H W0) → tt σ H Q)
    (he : ∀ F O E σ H (Q : VK), Rel X.K F O E σ H → Sat (me E) (KD X.K F σ O H Q) (KX X.K X.mg F σ O H W0) → te σ H Q) :
    ∀ F O E σ H (Q : VK), Rel X.K F O E σ H → Sat (mLenK mi mg mt me vs E) (KD X.K F σ O H Q) (KX X.K X.mg F σ O H W) → tCB (rLenK P w) (tCons (tSk P w wi g tt te vs) tNil) σ H Q := by
  intro F O E σ H Q R s
  refine hi.rd F O E σ H _ R (s.bnd.mono (fun its E1 k O1 H1 J R1 l1 wk => ?_) (fun _ _ k => k))
  intro D nD
  obtain ⟨G, Y, wlk, hG, hY⟩ := wk.ex
  have hFD : ∀ x ∈ F, x.1 ≠ D := fun x hx z => by
    have h2 := (R1.frm x hx).2
    rw [z, nD] at h2
    cases h2
  let Pv : Nat → Hp → Prop := fun i H2 => ∃ O2 E2 σ2 acc, Rel X.K ((D, SetK P w D (sOf acc) (cntK acc)) :: F) O2 E2 σ2 H2 ∧ L2.wipe σ2 vs = L2.wipe σ vs ∧ Le O1 H1 O2 H2 ∧ acc.length ≤ 2000 ∧ i ≤ its.length ∧ Sat (skGo vs mg mt me E1 (its.drop i) E2 acc) (KD X.K F σ O H Q) (KX X.K X.mg F σ O H W)
  have e0 : SetK P w D noK 0 = SetK P w D (sOf []) (cntK []) := by
    rfl
  refine ⟨fun i m H => m = its.length - i ∧ i ≤ its.length ∧ Pv i H, ⟨its.length, by simp, Nat.zero_le _, D :: O1, E1, σ, [], e0 ▸ R1.newF nD, rfl, mask_cons_new nD, Nat.zero_le _, Nat.zero_le _, k⟩, ?_⟩
  rintro i m H2 ⟨rfl, hi0, p⟩
  have q0 : G H2 := by
    obtain ⟨O2, E2, σ2, acc, R2, _, l2, _⟩ := p
    exact hG O2 H2 l2
  by_cases hlt : i < its.length
  · refine .inr ⟨wlk.goes i H2 hlt q0, Pv (i + 1), fun H' p' => ⟨its.length - (i + 1), by omega, rfl, hlt, p'⟩, fun x H3 y0 => ?_⟩
    have y := wlk.yields i H2 x H3 hlt q0 y0
    obtain ⟨O2, E2, σ2, acc, R2, hw, l2, hacc, _, s2⟩ := p
    have hd : its.drop i = its[i] :: its.drop (i + 1) := List.drop_eq_getElem_cons hlt
    rw [hd] at s2
    unfold skGo at s2
    obtain ⟨gr, rx⟩ := hY O2 H2 i x H3 its[i] R2.trk l2 (List.getElem?_eq_getElem hlt) y
    have R3 := (R2.grow gr).wipe vs
    rw [hw] at R3
    cases eg : mg its[i] (wipeE E2 vs) with
    | none => rw [eg] at s2; exact s2.elim
    | some E3 =>
      rw [eg] at s2
      refine hg O2 _ _ H3 x its[i] E3 _ _ R3 rx eg fun σ3 R4 hw3 => ⟨by rw [hw3]; exact wipe_wipe _ _, ?_⟩
      have hw3' : L2.wipe σ3 vs = L2.wipe σ vs := by rw [hw3]; exact wipe_wipe _ _
      dsimp only at s2
      refine ht _ O2 E3 σ3 H3 _ R4 ?_
      cases em : mt E3 with
      | bad => rw [em] at s2; exact s2.elim
      | ex _ _ => rw [em] at s2; exact s2.elim
      | ok bb E4 =>
        rw [em] at s2
        intro O4 H4 R5 l4
        have l5 : Le O1 H1 O4 H4 := (l2.trans gr.le).trans l4
        cases bb with
        | false =>
          show Pv (i + 1) H4
          exact ⟨O4, E4, σ3, acc, R5, hw3', l5, hacc, hlt, s2⟩
        | true =>
          show te σ3 H4 _
          dsimp only at s2
          refine he _ O4 E4 σ3 H4 _ R5 ?_
          cases ee : me E4 with
          | bad => rw [ee] at s2; exact s2.elim
          | ex _ _ => rw [ee] at s2; exact s2.elim
          | ok yy E5 =>
            rw [ee] at s2
            intro O5 v5 H5 R6 l6 rv
            dsimp only at s2
            cases ek : keyOf yy with
            | none => rw [ek] at s2; exact s2.elim
            | some kk =>
              rw [ek] at s2
              dsimp only at s2
              by_cases hlim : acc.length < 2000
              · rw [if_pos hlim] at s2
                obtain ⟨hDO, hDw⟩ := R6.frm _ List.mem_cons_self
                have := cntK_le acc
                refine ⟨kk, sOf acc, cntK acc, rv.key ek, hDw, by unfold scanBound; omega, ?_⟩
                rw [sOf_more, cnt_more]
                have em5 : Mask O5 (upd H5 D (SetK P w D (sOf (kk :: acc)) (cntK (kk :: acc)))) = Mask O5 H5 := mask_upd_in hDO
                exact ⟨O5, E5, σ3, kk :: acc, R6.updF hFD, hw3', by unfold Le; rw [em5]; exact l5.trans l6, hlim, hlt, s2⟩
              · rw [if_neg hlim] at s2; exact s2.elim
  · have e : i = its.length := by omega
    subst e
    refine .inl ⟨wlk.stops H2 q0, ?_⟩
    obtain ⟨O2, E2, σ2, acc, R2, hw, l2, _, _, s2⟩ := p
    rw [List.drop_length] at s2
    obtain ⟨hDO, hDw⟩ := R2.frm _ List.mem_cons_self
    have R3 := R2.freeF hFD
    have l3 : Same (Mask O2 H2) (Mask (rmA O2 D) H2) := mask_rm
    show rLenK P w [.ref D] H2 Q
    exact ⟨D, _, _, rfl, hDw, s2 (rmA O2 D) (.int _) H2 (R1.back R3 (l2.trans l3) hw) ((l1.trans l2).trans l3) (.int _)⟩
variable {W : WX}
theorem se_lenK {b : Bool} {elt tg iter : Expr} {ifs : List Expr} {scope : Scope} {own : List (Str × Nat)} {asg : List Nat} {p pos pos2 : Pos} {wi : TI} {g : TG} {tt : TT} {te : TE} {mi : M (List D)} {mg : MG} {mt : M Bool} {me : M D} (hg0 : Gl X "len") (hm : X.mg "len" = none) (hc : X.calm = true) (hN : X.N.Nodup) (hi : SI X W b tg iter wi mi) (ok : BlkOk X.N X.env.scope scope own)
    (hg : ∀ (s : Shared) (H : Hp) (C : Addr) (cl : List (Str × Addr)) (fp : List Addr), SG (X.blk s H scope (compEnvC scope cl C X.env) fp) b asg tg g mg) (ha : ∀ i ∈ asg, i ∈ own.map (·.2)) (ht : ∀ (s : Shared) (H : Hp) (C : Addr) (cl : List (Str × Addr)) (fp : List Addr), STs (X.blk s H scope (compEnvC scope cl C X.env) fp) W0 ifs tt mt)
    (he : ∀ (s : Shared) (H : Hp) (C : Addr) (cl : List (Str × Addr)) (fp : List Addr), SE (X.blk s H scope (compEnvC scope cl C X.env) fp) W0 elt te me) (hs : ∀ x, foldedSetIterable iter X.env x = pure x := by intro _; rfl)
    (hst : starEach [.SetComp elt [⟨tg, iter, ifs, 0⟩] scope pos] X.env = (false, eval (.SetComp elt [⟨tg, iter, ifs, 0⟩] scope pos) X.env) :: starEach [] X.env := by rfl) (hpl : (backTo pos2 (starEach [] X.env)).any (·.1) = false := by rfl) :
    SE X W (.Call (.Name "len" p) [.SetComp elt [⟨tg, iter, ifs, 0⟩] scope pos] [] pos2) (tCB (rLenK X.prog X.w) (tCons (tSk X.prog X.w wi g tt te (own.map (·.2))) tNil)) (mLenK mi mg mt me (own.map (·.2))) := by
  refine ⟨pe_callB cr_lenK hg0 hm PySem.boot_len (pa_cons (pe_sk hc hN hi.pi ok (fun s H C cl fp => (hg s H C cl fp).pg) (fun s H C cl fp => (ht s H C cl fp).pt) (fun s H C cl fp => (he s H C cl fp).pe) hs) pa_nil hst) (by decide) (by decide) hst hpl, ?_⟩
  refine sk_rd hi (fun O E σ H v d E' F Q R r e q => ?_) (fun F O E σ H Q R s => (ht X.s_0 X.H_0 0 [] []).rd F O E σ H Q R s) (fun F O E σ H Q R s => (he X.s_0 X.H_0 0 [] []).rd F O E σ H Q R s)
  exact (hg X.s_0 X.H_0 0 [] []).rd F O E σ H v d E' Q R r e fun σ' R' l' p' => q σ' R' (wipe_agree l' p' ha)
end
end Bt
namespace Bt
open PySem L2
section
variable {X : Cx} {W : WX}
def mRaiseN (c : Nat) : M Fl := fun E => .ex ⟨c, some .none⟩ E
def mTry0 (c : Nat) (mb ms : M Fl) : M Fl := fun E => match mb E with
  | .ok f E1 => .ok f E1
  | .ex z E1 => if isSub z.cls c = true then match ms E1 with
    | .ok f E2 => .ok f E2
    | _ => .bad
    else .ex z E1
  | .bad => .bad
theorem ss_try0 {c : Nat} {C : Addr} {x : Str} {a1 a2 : List Nat} {body sts : List Stmt} {s0 : Stmt} {tb : WX → TS} {ts : TS} {mb ms : M Fl} {np hpos pos : Pos} (K : PySem.W.Frag) {mg : Str → Option Value} (eK : X.K = K) (eM : X.mg = mg) (hx : xAllB K = true) (N : XN K mg x C) (hcn : c < 17 ∧ xName c = x)
    (hstk : X.stack = X.env :: X.outer) (hfrm : X.env.frame = some X.env.locals) (hex : X.ex = []) (hg : Gl X x) (tk : Takes X W)
    (hb : ∀ (W' : WX) (pn : List (Addr × Obj)) (xe : Value → Shared → Prop), Takes (X.tr pn xe) W' → PassesOwn (model X.prog X.w) X.A X.env xe → SSs (X.tr pn xe) W' a1 body (tb W') mb) (hsu : ∀ (a : Addr) (pn : List (Addr × Obj)), SSs (X.suite a pn) W0 a2 (s0 :: sts) ts ms) (hdb : (x == ("__debug__" : Str)) = false := by decide) :
    SS X W (a1 ++ a2) (.Try body [.ExceptHandler (some (.Name x np)) none (s0 :: sts) hpos] [] [] pos) (fun D σ H => tb (wOnly K (.ref C) (fun _ _ _ => ts) W D) D σ H) (mTry0 c mb ms) := by
  subst eK eM
  obtain ⟨hl, rfl⟩ := hcn
  have FC := xf_of hx hl N.1
  refine ⟨ps_try_only hstk hfrm ⟨hg, hdb, .inl N.2⟩ tk (fun W' pn xe t1 t2 => (hb W' pn xe t1 t2).ps) (fun a oe cls d pn _ _ => (hsu a ((a, oe) :: pn)).ps), fun F O E σ H D' R s => ?_⟩
  have h0 := hb (wOnly X.K (.ref C) (fun _ _ _ => ts) W D') [] (fun e s' => wpAny (model X.prog X.w) X.A (leaving X.env e) (fun _ s'' => L2.CX X.prog X.w X.outer X.H_0 X.s_0 (fun _ _ _ => True) e s'') (fun _ _ => True) s') (fun u s' q => XE.leave (X := X.tr [] _) hstk hfrm hex (fun _ _ _ _ _ => trivial) q) PassesOwn.leaving
  refine h0.rd F O E σ H D' R ?_
  unfold mTry0 at s
  cases em : mb E with
  | bad => rw [em] at s; exact s
  | ok f E1 =>
    rw [em] at s
    exact fun O1 σ1 H1 v R1 l1 g1 => s O1 σ1 H1 v R1 l1 g1.left
  | ex z E1 =>
    rw [em] at s
    dsimp only at s
    intro O1 τ H1 cv dd R1 l1 g1 hex
    have hex0 := hex
    obtain ⟨⟨Cz, rfl, hz⟩, hzl, hfl⟩ := hex
    have FZ := xf_of hx hzl hz
    refine ⟨isSub z.cls c, FZ.exm FC hl N.1, fun hs a ha => ?_, fun hs => ?_⟩
    · rw [if_pos hs] at s
      refine (hsu a []).rd F O1 _ _ _ _ R1 ?_
      cases e2 : ms E1 with
      | bad => rw [e2] at s; exact s
      | ex y E3 => rw [e2] at s; exact s.elim
      | ok f E2 =>
        rw [e2] at s
        exact fun O2 τ2 H2 v R3 l3 g3 => s O2 τ2 H2 v R3 (l1.trans l3) (g1.trans g3)
    · rw [if_neg (by rw [hs]; exact Bool.false_ne_true)] at s
      exact s O1 τ H1 _ dd R1 l1 g1.left hex0
end
section
variable {X : Cx} {W : WX} (K : PySem.W.Frag)
theorem si_zipEK {tg e : Expr} {es : List Expr} {ts : TA} {ms : M (List D)} (eK : X.K = K) (hp : PA X es ts → PI X tg e (iZipE X.K ts)) (h : SA X W es ts ms) : SI X W false tg e (iZipE K ts) (mZipE ms) := by
  subst eK
  exact si_zipE hp h
end
end Bt
namespace Bt
open PySem L2
def kLstT (x : V) (H : Hp) (Q : VK) : Prop := ∃ z : Str, x = .str z ∧ z.cps.size ≤ sizeLine ∧ ∀ q, H q = none → Q (.ref q) (upd H q (.lst (z.cps.toList.map fun c => V.str ⟨#[c]⟩)))
theorem rl_listT {X : Cx} (hc : X.calm = true) (pins : List (Addr × Obj)) (s : Shared) (σ : St) (H : Hp) (x : V) (v : Value) (Q : VK) (I : Inv X pins σ H s) (r : RelV x v) (h : kLstT x H Q) :
    wpAny (model X.prog X.w) X.A (call (.type "list") [v]) (EP X pins σ Q) X.xe s := by
  obtain ⟨z, rfl, hz, q⟩ := h
  obtain ⟨t, rfl⟩ := r
  refine call_list_str (I.ok.hd hc) z t (fun h' tk acc c' hk e hi => ?_) hz
  refine ⟨.ref s.heap.objs.size, upd H s.heap.objs.size (.lst (z.cps.toList.map fun c => V.str ⟨#[c]⟩)), I.laid hk (Nat.le_refl _) ⟨by rw [List.length_map, Array.length_toList]; exact hz, acc.toList, c', ?_, by rw [Array.toArray_toList]; exact e⟩, rfl, q _ (I.hok.fresh (Nat.le_refl _))⟩
  refine vals_of_idx _ _ (by rw [List.length_map, Array.length_toList, Array.length_toList]; exact hi.1) fun j u hj => ?_
  obtain ⟨c, t', hc, rfl⟩ := hi.2 j u (by rw [← Array.getElem?_toList]; exact hj)
  exact ⟨.str ⟨#[c]⟩, by rw [List.getElem?_map, Array.getElem?_toList, hc]; rfl, ⟨_, rfl⟩⟩
noncomputable def lstT : List D → Option (List D)
  | [.str z] => if z.cps.size ≤ LIM then some (signsD z) else none
  | _ => none
theorem rp_signs {K : PySem.W.Frag} {G : Hp} (cs : List Nat) : RpAll K G (cs.map fun c => V.str ⟨#[c]⟩) (cs.map fun c => PyData.str ⟨#[c]⟩) := by
  induction cs with
  | nil => exact .nil
  | cons c cs ih => exact .cons (.str _) ih
theorem okF_lstT {K : PySem.W.Frag} : COkF K (r1 kLstT) lstT := by
  intro O H vs ds z Q t hp hf q
  unfold lstT at hf
  split at hf
  · rename_i x
    split at hf
    · rename_i hl
      cases hf
      obtain ⟨v, rfl, rq⟩ := paired1 hp
      obtain rfl := rq.str
      exact ⟨x, rfl, lim_le hl, fun p np => q p _ np (rp_signs _)⟩
    · cases hf
  · cases hf
theorem call_listT {X : Cx} (hc : X.calm = true) : CallR X (.type "list") (r1 kLstT) := call_r1 (rl_listT hc)

section
variable {K : PySem.W.Frag} {F : Frm} {O : List Addr} {E : En} {σ : L2.St} {H : Hp}
theorem get_push {α : Type} {xs : List α} {x y : α} {i : Nat} (h : (xs ++ [x])[i]? = some y) : (i < xs.length ∧ xs[i]? = some y) ∨ (i = xs.length ∧ x = y) := by
  by_cases c : i < xs.length
  · rw [List.getElem?_append_left c] at h; exact .inl ⟨c, h⟩
  · rw [List.getElem?_append_right (by omega)] at h
    by_cases z : i - xs.length = 0
    · rw [z] at h; cases h; exact .inr ⟨by omega, rfl⟩
    · obtain ⟨n, hn⟩ : ∃ n, i - xs.length = n + 1 := ⟨i - xs.length - 1, by omega⟩
      rw [hn] at h; cases h
theorem Rel.push {p : Addr} {vs : HO} {ob : Ob} (R : Rel K ((p, vs) :: F) O E σ H) (r : RpO K (Mask O H) vs ob) (hF : ∀ x ∈ F, x.1 ≠ p) : Rel K F O (E ++ [.ow ob]) (σ ++ [some (.ref p)]) H := by
  obtain ⟨hp, hh⟩ := R.frm _ List.mem_cons_self
  have hl := R.len
  have lf : ∀ i, i < E.length → (σ ++ [some (V.ref p)])[i]? = σ[i]? := fun i h => List.getElem?_append_left (by omega)
  have lr : (σ ++ [some (V.ref p)])[E.length]? = some (some (V.ref p)) := by rw [hl, List.getElem?_append_right (Nat.le_refl _), Nat.sub_self]; rfl
  refine ⟨by rw [List.length_append, List.length_append, hl]; rfl, R.trk, fun j s e => ?_, fun j k ds es q e1 e2 e3 e4 => ?_, fun x hx => R.frm x (List.mem_cons_of_mem _ hx), fun j ds q e1 e2 x hx => ?_⟩
  · rcases get_push e with ⟨c, e⟩ | ⟨rfl, rfl⟩
    · rw [lf j c]; exact R.slot j s e
    · rw [lr]; exact ⟨p, vs, rfl, hp, hh, r⟩
  · rcases get_push e1 with ⟨c1, e1⟩ | ⟨rfl, z1⟩
    · rw [lf j c1] at e3
      rcases get_push e2 with ⟨c2, e2⟩ | ⟨rfl, z2⟩
      · rw [lf k c2] at e4
        exact R.apart j k ds es q e1 e2 e3 e4
      · rw [lr] at e4; cases e4
        exact absurd rfl (R.fap j ds p e1 e3 _ List.mem_cons_self)
    · rw [lr] at e3; cases e3
      rcases get_push e2 with ⟨c2, e2⟩ | ⟨rfl, z2⟩
      · rw [lf k c2] at e4
        exact absurd rfl (R.fap k es p e2 e4 _ List.mem_cons_self)
      · rfl
  · rcases get_push e1 with ⟨c1, e1⟩ | ⟨rfl, z1⟩
    · rw [lf j c1] at e2
      exact R.fap j ds q e1 e2 x (List.mem_cons_of_mem _ hx)
    · rw [lr] at e2; cases e2
      exact hF x hx
theorem Rel.pop {x : Option V} (R : Rel K F O E (σ ++ [x]) H) : Rel K F O E.dropLast σ H := by
  have hl : E.length = σ.length + 1 := by have := R.len; rw [List.length_append] at this; exact this
  have ge : ∀ (i : Nat) (s : Sl), E.dropLast[i]? = some s → i < σ.length ∧ E[i]? = some s := fun i s e => by
    have hi := (List.getElem?_eq_some_iff.mp e).1
    rw [List.length_dropLast] at hi
    refine ⟨by omega, ?_⟩
    rw [List.getElem?_dropLast, if_pos (by omega)] at e
    exact e
  have lf : ∀ i, i < σ.length → (σ ++ [x])[i]? = σ[i]? := fun i h => List.getElem?_append_left h
  refine ⟨by rw [List.length_dropLast, hl]; rfl, R.trk, fun j s e => ?_, fun j k ds es q e1 e2 e3 e4 => ?_, R.frm, fun j ds q e1 e2 y hy => ?_⟩
  · obtain ⟨h1, h2⟩ := ge j s e
    rw [← lf j h1]; exact R.slot j s h2
  · obtain ⟨h1, h2⟩ := ge j _ e1
    obtain ⟨h3, h4⟩ := ge k _ e2
    rw [← lf j h1] at e3
    rw [← lf k h3] at e4
    exact R.apart j k ds es q h2 h4 e3 e4
  · obtain ⟨h1, h2⟩ := ge j _ e1
    rw [← lf j h1] at e2
    exact R.fap j ds q h2 e2 y hy
theorem Rel.unF {x : Addr × HO} (R : Rel K (x :: F) O E σ H) : Rel K F O E σ H :=
  ⟨R.len, R.trk, R.slot, R.apart, fun y hy => R.frm y (List.mem_cons_of_mem _ hy), fun i ds p e1 e2 y hy => R.fap i ds p e1 e2 y (List.mem_cons_of_mem _ hy)⟩
theorem RelE.pop {x : Option V} {v : V} {z : Sl} (R : RelE K F O E (σ ++ [x]) H v (.rt z)) : RelE K F O E.dropLast σ H v (.rt z) := by
  cases z with
  | un => exact R.elim
  | scr _ => exact R.elim
  | dat d => exact ⟨R.1.pop, R.2⟩
  | ow ob =>
    obtain ⟨p, ho, rfl, R1, hF, r⟩ := R
    exact ⟨p, ho, rfl, R1.pop, hF, r⟩
theorem AgV.push {v : V} {x : Option V} {a : Ag} (h : AgV K σ O H v a) : AgV K (σ ++ [x]) O H v a := by
  cases a with
  | d d => exact h
  | r i =>
    have h' : σ[i]? = some (some v) := h
    show (σ ++ [x])[i]? = some (some v)
    rw [List.getElem?_append_left (List.getElem?_eq_some_iff.mp h').1]
    exact h'
theorem Paired.agpush {x : Option V} : ∀ {vs : List V} {as : List Ag}, Paired (AgV K σ O H) vs as → Paired (AgV K (σ ++ [x]) O H) vs as
  | _, _, .nil => .nil
  | _, _, .cons h r => .cons h.push (Paired.agpush r)
end
structure SOsN (X : Cx) (W : WX) (es : List Expr) (t : TA) (m : M (List Ag)) : Prop where
  pa : PA X es t
  rd : ∀ F O E σ H (Q : List V → Hp → Prop), Rel X.K F O E σ H → Sat (m E) (fun as E' => ∀ O' vs H' x, Rel X.K F O' E' (σ ++ [x]) H' → Le O H O' H' → Paired (AgV X.K (σ ++ [x]) O' H') vs as → Q vs H') (KX X.K X.mg F σ O H W) → t σ H Q
def mNewA (mf : M (List D)) (ms : M (List Ag)) : M (List Ag) := bnd mf fun ds => bnd ms fun as => fun E => .ok (.r E.length :: as) (E ++ [.ow (.l ds)])
section
variable {X : Cx} {W : WX} {e : Expr} {es : List Expr} {t : TE} {ts : TA}
theorem sosN_new {mf : M (List D)} {ms : M (List Ag)} (pa : PE X e t → PA X es ts → PA X (e :: es) (tCons t ts)) (h : SF X W e t mf) (hs : SOs X W es ts ms) : SOsN X W (e :: es) (tCons t ts) (mNewA mf ms) := by
  refine ⟨pa h.pe hs.pa, fun F O E σ H Q R s => h.rd F O E σ H _ R (s.bnd.mono (fun ds E1 k O1 p vs H1 R1 hF l1 r1 => ?_) (fun _ _ k => k))⟩
  refine hs.rd _ O1 E1 σ H1 _ R1 (k.bnd.mono (fun as E2 k2 O2 us H2 R2 l2 avs => ?_) (fun x E k O' H' c dd R' l' e => k O' H' c dd R'.unF (l1.trans l') e))
  refine k2 O2 (.ref p :: us) H2 (some (.ref p)) (R2.push (show RpAll X.K (Mask O2 H2) vs ds from r1.mono l2) hF) (l1.trans l2) (.cons ?_ (Bt.Paired.agpush avs))
  show (σ ++ [some (V.ref p)])[E2.length]? = some (some (V.ref p))
  rw [R2.len, List.getElem?_append_right (Nat.le_refl _), Nat.sub_self]
  rfl
theorem sosN_cons {m : M Ag} {ms : M (List Ag)} (pa : PE X e t → PA X es ts → PA X (e :: es) (tCons t ts)) (h : SO X W e t m) (hs : SOsN X W es ts ms) : SOsN X W (e :: es) (tCons t ts) (mCons m ms) := by
  refine ⟨pa h.pe hs.pa, fun F O E σ H Q R s => h.rd F O E σ H _ R (s.bnd.mono (fun a E1 k O1 v H1 R1 l1 av => ?_) (fun _ _ k => k))⟩
  refine hs.rd F O1 E1 σ H1 _ R1 (k.bnd.mono (fun as E2 k2 O2 vs H2 x R2 l2 avs => ?_) (KX.le l1))
  exact k2 O2 (v :: vs) H2 x R2 (l1.trans l2) (.cons (av.le l2).push avs)
end
def mCallNO (Fm : M Sl) (dds : List D) (ms : M (List Ag)) : M Sl := bnd ms fun ags => fun E => match mCallO Fm dds (ret ags) E with
  | .ok z E' => .ok z E'.dropLast
  | .ex x E' => .ex x E'.dropLast
  | .bad => .bad
def mCallN (Fm : M Sl) (dds : List D) (ms : M (List Ag)) : M D := bnd (mCallNO Fm dds ms) thaw
section
variable {X : Cx} {W : WX} {k : Nat} {f : Addr} {fd : FuncData} {ps : List Str} {Fm : M Sl} {dds : List D} {dvs : List V} {x : Str} {p pos : Pos} {e : Expr} {es : List Expr} {ts : TA} {ms : M (List Ag)}
theorem callN_rd (hd : ∀ G, RpAll X.K G dvs dds) (h : SOsN X W es ts ms) (hlen : ∀ E ags E', ms E = .ok ags E' → ags.length + dvs.length = ps.length) : ∀ F O E σ H (Q : VK), Rel X.K F O E σ H → Sat (mCallNO Fm dds ms E) (fun z E' => ∀ O' v H', RelE X.K F O' E' σ H' v (.rt z) → Le O H O' H' → Q v H') (KX X.K X.mg F σ O H W) → tCallSD (spOf X.K X.mg ps.length Fm) dvs (fun σ => WE W σ) ts σ H Q := by
  intro F O E σ H Q R s
  have s' := s.bnd
  refine h.rd F O E σ H _ R ?_
  cases em : ms E with
  | bad => rw [em] at s'; exact s'.elim
  | ex z E1 => rw [em] at s'; exact s'
  | ok ags E1 =>
    rw [em] at s'
    intro O1 vs H1 y R1 l1 av
    have hl := hlen E ags E1 em
    refine ⟨by rw [List.length_append, av.length]; exact hl, ?_⟩
    have em2 : mCallO Fm dds (ret ags) E1 = (if apartA E1 ags then (match argSl E1 ags with
      | none => .bad
      | some as => match Fm (as ++ dds.map .dat) with
        | .ok d as' => match putB E1 ags (as'.take ags.length) with
          | some E' => .ok d E'
          | none => .bad
        | .ex x as' => match putB E1 ags (as'.take ags.length) with
          | some E' => .ex x E'
          | none => .bad
        | .bad => .bad) else .bad) := rfl
    change Sat (match mCallO Fm dds (ret ags) E1 with | .ok z E' => Res.ok z E'.dropLast | .ex x E' => .ex x E'.dropLast | .bad => .bad) _ _ at s'
    rw [em2] at s'
    by_cases ap : apartA E1 ags = true
    · rw [if_pos ap] at s'
      cases ha : argSl E1 ags with
      | none => rw [ha] at s'; exact s'.elim
      | some as =>
        rw [ha] at s'
        dsimp only at s'
        refine ⟨F ++ othF E1 (σ ++ [y]) H1 ags, O1, as ++ dds.map .dat, call_in R1 av (hd _) ap ha, ?_⟩
        cases ef : Fm (as ++ dds.map .dat) with
        | bad => rw [ef] at s'; exact s'.elim
        | ok d as' =>
          rw [ef] at s'
          dsimp only at s'
          intro O2 v H2 R2 l2
          cases hb2 : putB E1 ags (as'.take ags.length) with
          | none => rw [hb2] at s'; exact s'.elim
          | some E2 =>
            rw [hb2] at s'
            exact s' O2 v H2 (call_outE R1 av ap R2 l2 hb2).pop (l1.trans l2)
        | ex z as' =>
          rw [ef] at s'
          dsimp only at s'
          intro O2 H2 c dd R2 l2 r2
          cases hb2 : putB E1 ags (as'.take ags.length) with
          | none => rw [hb2] at s'; exact s'.elim
          | some E2 =>
            rw [hb2] at s'
            exact s' O2 H2 c dd (call_out R1 av ap R2 l2 hb2 fun i ds p e1 _ e2 => R1.fap i ds p e1 e2).pop (l1.trans l2) r2
    · rw [if_neg ap] at s'
      exact s'.elim
theorem sv_callN (Fo : FnOk X.prog X.w X.K X.mg X.base (L2.CX X.prog X.w) k f fd ps (spOf X.K X.mg ps.length Fm)) (hr : Room k X.A) (hg : Gl X x) (hm : X.mg x = some (.ref f)) (hk : PySem.W.keepIn X.K (.ref f) = true) {dvals : List Value} (hb : Binds X.K fd ps dvals) (hdv : Vals dvs dvals) (hd : ∀ G, RpAll X.K G dvs dds) (tk : Takes X W)
    (h : SOsN X W (e :: es) ts ms) (hlen : ∀ E ags E', ms E = .ok ags E' → ags.length + dvs.length = ps.length) (hdb : (x == ("__debug__" : Str)) = false := by decide) (he : starEach (e :: es) X.env = (false, eval e X.env) :: starEach es X.env := by rfl) (hpl : (backTo pos (starEach es X.env)).any (·.1) = false := by rfl) :
    SV X W (.Call (.Name x p) (e :: es) [] pos) (tCallSD (spOf X.K X.mg ps.length Fm) dvs (fun σ => WE W σ) ts) (mCallNO Fm dds ms) := by
  exact ⟨pe_callSD Fo hr hg hm hk hb hdv (fun σ => passAt tk σ) h.pa hdb he hpl, callN_rd hd h hlen⟩
end
theorem lm_new {mf : M (List D)} {ms : M (List Ag)} {n : Nat} (h : LenM ms n) : LenM (mNewA mf ms) (n + 1) := by
  intro E as E' e
  unfold mNewA bnd at e
  cases e1 : mf E with
  | bad => rw [e1] at e; cases e
  | ex _ _ => rw [e1] at e; cases e
  | ok a E1 =>
    rw [e1] at e
    dsimp only at e
    cases e2 : ms E1 with
    | bad => rw [e2] at e; cases e
    | ex _ _ => rw [e2] at e; cases e
    | ok bs E2 =>
      rw [e2] at e
      dsimp only at e
      cases e
      rw [List.length_cons, h _ _ _ e2]
section
variable {X : Cx} {W : WX} {e : Expr} {t : TE} {es : List Expr} {ts : TA} {pos : Pos} {P : Program} {w : World} {K : PySem.W.Frag} {mg : Str → Option Value} {base : Heap}
theorem so_consN {m : M Ag} {ms : M (List Ag)} (h : SO X W e t m) (hs : SOsN X W es ts ms) (hst : starEach (e :: es) X.env = (false, eval e X.env) :: starEach es X.env := by rfl) : SOsN X W (e :: es) (tCons t ts) (mCons m ms) := sosN_cons (fun h hs => pa_cons h hs hst) h hs
theorem so_new {mf : M (List D)} {ms : M (List Ag)} (h : SF X W e t mf) (hs : SOs X W es ts ms) (hst : starEach (e :: es) X.env = (false, eval e X.env) :: starEach es X.env := by rfl) : SOsN X W (e :: es) (tCons t ts) (mNewA mf ms) := sosN_new (fun h hs => pa_cons h hs hst) h hs
theorem sv_callNC {k : Nat} {f : Addr} {fd : FuncData} {ps : List Str} {Fm : M Sl} {n : Nat} {x : Str} {p : Pos} {ms : M (List Ag)} (Fo : FnOk P w K mg base (L2.CX P w) k f fd ps (spOf K mg n Fm)) (eP : X.prog = P) (ew : X.w = w) (eK : X.K = K) (eM : X.mg = mg) (eB : X.base = base) (hr : Room k X.A) (hg : Gl X x) (hm : mg x = some (.ref f)) (hk : PySem.W.keepIn K (.ref f) = true) (hb : Binds K fd ps []) (hn : ps.length = n) (tk : Takes X W)
    (h : SOsN X W (e :: es) ts ms) (hlen : LenM ms n) (hdb : (x == ("__debug__" : Str)) = false := by decide) (he : starEach (e :: es) X.env = (false, eval e X.env) :: starEach es X.env := by rfl) (hpl : (backTo pos (starEach es X.env)).any (·.1) = false := by rfl) :
    SV X W (.Call (.Name x p) (e :: es) [] pos) (tCallSD (spOf K mg n Fm) [] (fun σ => WE W σ) ts) (mCallNO Fm [] ms) := by
  subst eP ew eK eM eB hn
  exact sv_callN Fo hr hg hm hk hb .nil (fun _ => .nil) tk h (fun E ags E' q => hlen E ags E' q) hdb he hpl
theorem se_callNC {k : Nat} {f : Addr} {fd : FuncData} {ps : List Str} {Fm : M Sl} {n : Nat} {x : Str} {p : Pos} {ms : M (List Ag)} (Fo : FnOk P w K mg base (L2.CX P w) k f fd ps (spOf K mg n Fm)) (eP : X.prog = P) (ew : X.w = w) (eK : X.K = K) (eM : X.mg = mg) (eB : X.base = base) (hr : Room k X.A) (hg : Gl X x) (hm : mg x = some (.ref f)) (hk : PySem.W.keepIn K (.ref f) = true) (hb : Binds K fd ps []) (hn : ps.length = n) (tk : Takes X W)
    (h : SOsN X W (e :: es) ts ms) (hlen : LenM ms n) (hdb : (x == ("__debug__" : Str)) = false := by decide) (he : starEach (e :: es) X.env = (false, eval e X.env) :: starEach es X.env := by rfl) (hpl : (backTo pos (starEach es X.env)).any (·.1) = false := by rfl) :
    SE X W (.Call (.Name x p) (e :: es) [] pos) (tCallSD (spOf K mg n Fm) [] (fun σ => WE W σ) ts) (mCallN Fm [] ms) := (sv_callNC Fo eP ew eK eM eB hr hg hm hk hb hn tk h hlen hdb he hpl).se
end
section
variable {E : En}
theorem a_mNewA (mf : M (List D)) (ms : M (List Ag)) : mNewA mf ms E = bnd mf (fun ds => bnd ms fun as => fun E => .ok (.r E.length :: as) (E ++ [.ow (.l ds)])) E := rfl
theorem a_mCallNO (Fm : M Sl) (dds : List D) (ms : M (List Ag)) : mCallNO Fm dds ms E = bnd ms (fun ags => fun E => match mCallO Fm dds (ret ags) E with
  | .ok z E' => .ok z E'.dropLast
  | .ex x E' => .ex x E'.dropLast
  | .bad => .bad) E := rfl
theorem a_mCallN (Fm : M Sl) (dds : List D) (ms : M (List Ag)) : mCallN Fm dds ms E = bnd (mCallNO Fm dds ms) thaw E := rfl
end
end Bt
namespace Bt
open PySem L2
structure Gh where
  a : Int
  b : Int
  ws : List D
abbrev MH (α : Type) := En → Gh → Option (α × En × Gh)
section
variable {α β : Type}
def hL (m : M α) : MH α := fun E g => match m E with
  | .ok a E' => some (a, E', g)
  | _ => none
def hB (m : MH α) (f : α → MH β) : MH β := fun E g => match m E g with
  | some (a, E', g') => f a E' g'
  | none => none
def hR (a : α) : MH α := fun E g => some (a, E, g)
theorem hL_ok {m : M α} {E E' : En} {g g' : Gh} {a : α} (h : hL m E g = some (a, E', g')) : m E = .ok a E' ∧ g' = g := by
  unfold hL at h
  cases e : m E with
  | ok b E1 => rw [e] at h; cases h; exact ⟨rfl, rfl⟩
  | ex _ _ => rw [e] at h; cases h
  | bad => rw [e] at h; cases h
theorem hB_ok {m : MH α} {f : α → MH β} {E E' : En} {g g' : Gh} {b : β} (h : hB m f E g = some (b, E', g')) : ∃ a E1 g1, m E g = some (a, E1, g1) ∧ f a E1 g1 = some (b, E', g') := by
  unfold hB at h
  cases e : m E g with
  | none => rw [e] at h; cases h
  | some z => obtain ⟨a, E1, g1⟩ := z; rw [e] at h; exact ⟨a, E1, g1, rfl, h⟩
end
abbrev HoG (g : Gh) (q : Addr) : HO := .lst [.int g.a, .int g.b, .ref q]
def RelG (K : PySem.W.Frag) (i : Nat) (F : Frm) (O : List Addr) (E : En) (g : Gh) (σ : L2.St) (H : Hp) : Prop :=
  ∃ p q vs, σ[i]? = some (some (.ref p)) ∧ Rel K ((p, HoG g q) :: (q, .lst vs) :: F) O E σ H ∧ p ≠ q ∧ (∀ x ∈ F, x.1 ≠ p ∧ x.1 ≠ q) ∧ RpAll K (Mask O H) vs g.ws
section
variable {K : PySem.W.Frag} {F F' : Frm} {O O' : List Addr} {E E' : En} {σ σ' : L2.St} {H H' : Hp} {g : Gh} {i : Nat}
theorem Rel.subF (R : Rel K F O E σ H) (h : ∀ x ∈ F', x ∈ F) : Rel K F' O E σ H :=
  ⟨R.len, R.trk, R.slot, R.apart, fun y hy => R.frm y (h y hy), fun i ds p e1 e2 y hy => R.fap i ds p e1 e2 y (h y hy)⟩
theorem RelG.use (R : RelG K i F O E g σ H) : ∃ P : Frm, Rel K (P ++ F) O E σ H ∧ ∀ (F' : Frm) O' E' σ' H', Rel K (P ++ F') O' E' σ' H' → (∀ x ∈ F', x ∈ F ∨ ∀ y ∈ P, x.1 ≠ y.1) → Le O H O' H' → σ'[i]? = σ[i]? → RelG K i F' O' E' g σ' H' := by
  obtain ⟨p, q, vs, hi, R1, hpq, hF, r⟩ := R
  refine ⟨[(p, HoG g q), (q, .lst vs)], R1, fun F' O' E' σ' H' R' hF' l hs => ⟨p, q, vs, hs.trans hi, R', hpq, fun x hx => ?_, r.mono l⟩⟩
  rcases hF' x hx with hx | hx
  · exact hF x hx
  · exact ⟨hx _ List.mem_cons_self, hx _ (List.mem_cons_of_mem _ List.mem_cons_self)⟩
end
structure GE (X : Cx) (i : Nat) (e : Expr) (t : TE) (m : MH D) : Prop where
  pe : PE X e t
  rd : ∀ F O E g σ H (Q : VK) d E' g', RelG X.K i F O E g σ H → m E g = some (d, E', g') → (∀ O' v H', RelG X.K i F O' E' g' σ H' → Le O H O' H' → Rp X.K (Mask O' H') v d → Q v H') → t σ H Q
structure GT (X : Cx) (i : Nat) (e : Expr) (t : TT) (m : MH Bool) : Prop where
  pt : PT X e t
  rd : ∀ F O E g σ H (Q : Bool → Hp → Prop) b E' g', RelG X.K i F O E g σ H → m E g = some (b, E', g') → (∀ O' H', RelG X.K i F O' E' g' σ H' → Le O H O' H' → Q b H') → t σ H Q
structure GW (X : Cx) (i : Nat) (e : Expr) (t : TT) (m : MH Bool) : Prop where
  pw : PW X e t
  rd : ∀ F O E g σ H (Q : Bool → Hp → Prop) b E' g', RelG X.K i F O E g σ H → m E g = some (b, E', g') → (∀ O' H', RelG X.K i F O' E' g' σ H' → Le O H O' H' → Q b H') → t σ H Q
section
variable {X : Cx} {W : WX} {i : Nat} {e a b : Expr} {t ta tb : TE} {K : PySem.W.Frag} {pos : Pos}
theorem SE.ge {m : M D} (h : SE X W e t m) : GE X i e t (hL m) := by
  refine ⟨h.pe, fun F O E g σ H Q d E' g' R em k => ?_⟩
  obtain ⟨em2, rfl⟩ := hL_ok em
  obtain ⟨P, R1, bk⟩ := R.use
  refine h.rd _ O E σ H Q R1 ?_
  rw [em2]
  exact fun O' v H' R' l r => k O' v H' (bk F O' E' σ H' R' (fun x hx => .inl hx) l rfl) l r
theorem STt.gt {m : M Bool} {tt : TT} (h : STt X W e tt m) : GT X i e tt (hL m) := by
  refine ⟨h.pt, fun F O E g σ H Q d E' g' R em k => ?_⟩
  obtain ⟨em2, rfl⟩ := hL_ok em
  obtain ⟨P, R1, bk⟩ := R.use
  refine h.rd _ O E σ H Q R1 ?_
  rw [em2]
  exact fun O' H' R' l => k O' H' (bk F O' E' σ H' R' (fun x hx => .inl hx) l rfl) l
theorem se_popK {k : Expr} {tk : TE} {mk : M Ag} (eK : X.K = K) (hp : PE X k tk → PE X e (tBM K "list" rPopAt (tVar i) (tCons tk tNil))) (hk : SO X W k tk mk) : SE X W e (tBM K "list" rPopAt (tVar i) (tCons tk tNil)) (mPop i mk) := by
  subst eK
  exact se_pop hp hk
theorem GW.gt {tt : TT} {mt : MH Bool} (h : GW X i e tt mt) : GT X i e tt mt := ⟨h.pw.pt, h.rd⟩
end
section
variable {X : Cx} {W : WX} {i j : Nat} {e : Expr} {es : List Expr} {ts : TA} {K : PySem.W.Frag} {pos p : Pos} {x : Str} {P : Program} {w : World} {mg : Str → Option Value} {base : Heap}
end
end Bt
namespace Bt
open PySem L2
section
variable {K : PySem.W.Frag} {F F' : Frm} {O O' : List Addr} {E E' : En} {σ σ' : L2.St} {H H' : Hp} {g : Gh} {i : Nat}
theorem RelG.at {D : Addr} {ws : List V} (R : RelG K i ((D, .lst ws) :: F) O E g σ H) : D ∈ O ∧ H D = some (.lst ws) := by
  obtain ⟨p, q, vs, hi, R1, hpq, hF, r⟩ := R
  exact R1.frm _ (List.mem_cons_of_mem _ (List.mem_cons_of_mem _ List.mem_cons_self))
theorem RelG.trk (R : RelG K i F O E g σ H) : Trk O H := by
  obtain ⟨p, q, vs, hi, R1, _⟩ := R
  exact R1.trk
theorem RelG.frm (R : RelG K i F O E g σ H) : ∀ x ∈ F, x.1 ∈ O ∧ H x.1 = some x.2 := by
  obtain ⟨p, q, vs, hi, R1, _⟩ := R
  exact fun x hx => R1.frm x (List.mem_cons_of_mem _ (List.mem_cons_of_mem _ hx))
end
section
variable (vs : List Nat) (g : MG) (me : MH D) (E0 : En)
end
section
variable {X : Cx} {W : WX} {i : Nat}
end
end Bt
namespace Bt
open PySem L2
def RelGE (K : PySem.W.Frag) (i : Nat) (F : Frm) (O' : List Addr) (E' : En) (g' : Gh) (σ' : L2.St) (H' : Hp) (v : V) : Fl → Prop
  | .nx => RelG K i F O' E' g' σ' H'
  | .bk => RelG K i F O' E' g' σ' H'
  | .ct => RelG K i F O' E' g' σ' H'
  | .rt s => match s with
    | .dat d => RelG K i F O' E' g' σ' H' ∧ Rp K (Mask O' H') v d
    | _ => False
abbrev KGS (K : PySem.W.Frag) (i : Nat) (F : Frm) (asg : List Nat) (σ : L2.St) (O : List Addr) (H : Hp) (D' : Ends) (f : Fl) (E' : En) (g' : Gh) : Prop := ∀ O' σ' H' v, RelGE K i F O' E' g' σ' H' v f → Le O H O' H' → Agr asg σ σ' → EndV σ' H' D' v f
structure GS (X : Cx) (i : Nat) (asg : List Nat) (st : Stmt) (t : TS) (m : MH Fl) : Prop where
  ps : PS X st t
  rd : ∀ F O E g σ H (D' : Ends) f E' g', RelG X.K i F O E g σ H → m E g = some (f, E', g') → KGS X.K i F asg σ O H D' f E' g' → t D' σ H
structure GSs (X : Cx) (i : Nat) (asg : List Nat) (st : List Stmt) (t : TS) (m : MH Fl) : Prop where
  ps : PSs X st t
  rd : ∀ F O E g σ H (D' : Ends) f E' g', RelG X.K i F O E g σ H → m E g = some (f, E', g') → KGS X.K i F asg σ O H D' f E' g' → t D' σ H
def okFl : Fl → Bool
  | .rt (.dat _) => true
  | .rt _ => false
  | _ => true
def hLS (m : M Fl) : MH Fl := hB (hL m) fun f => if okFl f then hR f else fun _ _ => none
section
variable {X : Cx} {W : WX} {i : Nat} {e : Expr} {t : TE} {pos : Pos} {K : PySem.W.Frag}
theorem SS.gs {asg : List Nat} {st : Stmt} {t : TS} {m : M Fl} (h : SS X W asg st t m) (hia : i ∉ asg) : GS X i asg st t (hLS m) := by
  refine ⟨h.ps, fun F O E g σ H D' f E' g' R em k => ?_⟩
  obtain ⟨f1, E1, g1, e0, em1⟩ := hB_ok em
  obtain ⟨e1, rfl⟩ := hL_ok e0
  split at em1
  · rename_i hf
    cases em1
    obtain ⟨P, R1, bk⟩ := R.use
    refine h.rd _ O E σ H D' R1 ?_
    rw [e1]
    refine fun O' σ' H' v R' l ag => k O' σ' H' v ?_ l ag
    have lnk := ag i hia
    cases f with
    | nx => exact bk F O' E' σ' H' R' (fun x hx => .inl hx) l lnk
    | bk => exact bk F O' E' σ' H' R' (fun x hx => .inl hx) l lnk
    | ct => exact bk F O' E' σ' H' R' (fun x hx => .inl hx) l lnk
    | rt s =>
      cases s with
      | dat d => exact ⟨bk F O' E' σ' H' R'.1 (fun x hx => .inl hx) l lnk, R'.2⟩
      | un => cases hf
      | ow _ => cases hf
      | scr _ => cases hf
  · cases em1
theorem RelG.out {K : PySem.W.Frag} {F : Frm} {O : List Addr} {E : En} {g : Gh} {σ : L2.St} {H : Hp} (R : RelG K i F O E g σ H) : Rel K F O E σ H := by
  obtain ⟨p, q, vs, hi, R1, _⟩ := R
  exact R1.subF fun x hx => List.mem_cons_of_mem _ (List.mem_cons_of_mem _ hx)
end
section
variable {P : Program} {w : World} {K : PySem.W.Frag} {mg : Str → Option Value} {base : Heap}
theorem GSs.ex {X : Cx} {i : Nat} {asg asg' : List Nat} {st : List Stmt} {t : TS} {m : MH Fl} (h : GSs X i asg st t m) (hs : ∀ j ∈ asg, j ∈ asg') : ∃ t, GSs X i asg' st t m := ⟨t, h.ps, fun F O E g σ H D' f E' g' R em k => h.rd F O E g σ H D' f E' g' R em fun O' σ' H' v R' l ag => k O' σ' H' v R' l fun j hj => ag j fun z => hj (hs j z)⟩
end
theorem relS (x : Str) (t) : RelV (.str x) (Value.str x t) := ⟨t, rfl⟩
theorem gtup_mk {K : PySem.W.Frag} {mg : Str → Option Value} {x : Str} {n : Addr} {o : Obj} {m : Nat} {us : List Value} (vs : List V) {ds : List D} (hm : mg x = some (.ref n)) (h : K.lookup n = some o) (u1 : o.cls = .type "tuple") (u2 : o.dict = none) (u3 : o.data = .seq us.toArray m) (hl : us.length ≤ LIM) (hv : Vals vs us) (r : ∀ G, RpAll K G vs ds) : GTup K mg x n ds :=
  ⟨hm, fun G => .tup (.inr ⟨o, us.toArray, m, h, u1, u2, u3, by rw [List.size_toArray]; exact lim_le hl, by rw [List.toList_toArray]; exact hv⟩) (r G)⟩
end Bt
namespace Bt
open PySem L2
end Bt
namespace Bt
open PySem L2
end Bt
namespace Bt
open PySem L2 PySem.Spec PyProof.Rows
section
variable {P : Program} {w : World} {K : PySem.W.Frag} {mg : Str → Option Value} {base : Heap}
end
section
variable {X : Cx} {P : Program} {w : World} {K : PySem.W.Frag} {mg : Str → Option Value} {base : Heap} {e : Expr} {pos : Pos}
end
end Bt
namespace Bt
open PySem L2
section
variable {X : Cx} {W : WX} {e : Expr} {t : TE}
end
end Bt
namespace Bt
open PySem L2
section
variable {K : PySem.W.Frag} {F : Frm} {O : List Addr} {E : En} {σ : L2.St} {H : Hp}
end
section
variable {X : Cx} {W : WX} {e e1 e2 e3 : Expr} {es : List Expr} {t t1 t2 t3 : TE} {ts : TA} {K : PySem.W.Frag} {pos p pl : Pos} {x : Str} {P : Program} {w : World} {mg : Str → Option Value} {base : Heap}
end
end Bt
namespace Bt
open PySem L2
section
variable {X : Cx} {W : WX} {pos : Pos} {keys : List (Option Expr)} {values : List Expr} {trs : List (TE × TE)} {ms : M (List (Key × D))}
end
section
variable {X : Cx} {W : WX} {e : Expr} {es : List Expr} {t : TE} {ts : TA}
end
section
variable {E : En}
end
end Bt
namespace Bt
open PySem PySem.Spec PyProof.Rows L2
section
variable {prog : Program} {w : World} {A : Around} {E : Value → Shared → Prop} {s : Shared}
end
section
variable {X : Cx} {W : WX} {e tg : Expr}
end
section
variable {E : En}
end
end Bt
namespace Bt
open PySem PySem.Spec PyProof.Rows L2
structure ZlG (xs ys : Array Value) (lo : Addr) (h : Heap) (as : List Addr) : Prop where
  rise : as.Pairwise (· < ·)
  above : ∀ a ∈ as, lo ≤ a
  pairs : ∀ (j : Nat) (a : Addr), as[j]? = some a → ∃ x y, xs[j]? = some x ∧ ys[j]? = some y ∧ IsPair h a x y
theorem ZlG.there {xs ys : Array Value} {lo : Addr} {h : Heap} {as : List Addr} (g : ZlG xs ys lo h as) {a : Addr} (ha : a ∈ as) : a < h.objs.size := by
  obtain ⟨j, hj⟩ := List.mem_iff_getElem?.mp ha
  obtain ⟨_, _, _, _, e⟩ := g.pairs j a hj
  exact Heap.lt_size e
theorem ZlG.keep {xs ys : Array Value} {lo : Addr} {h h' : Heap} {as : List Addr} (g : ZlG xs ys lo h as) (k : ∀ b o, lo ≤ b → h.get? b = some o → h'.get? b = some o) : ZlG xs ys lo h' as := ⟨g.rise, g.above, fun j a hj => by
  obtain ⟨x, y, e1, e2, e3⟩ := g.pairs j a hj
  exact ⟨x, y, e1, e2, k a _ (g.above a (List.mem_of_getElem? hj)) e3⟩⟩
section
variable {prog : Program} {w : World} {A : Around} {s : Shared} {R : Result → Shared → Prop}
end
section
variable {prog : Program} {w : World} {A : Around} {E : Value → Shared → Prop} {s : Shared}
end
section
variable {X : Cx} {W : WX}
end
section
variable {E : En}
end
end Bt
namespace Bt
open PySem PySem.Spec PyProof.Rows L2
section
variable {X : Cx}
end
end Bt
namespace Bt
open PySem PySem.Spec PyProof.Rows L2
section
variable {X : Cx} {W : WX}
theorem ss_setLc2 {b b1 : Bool} {i : Nat} {y : PySem.Str} {py : Pos} {elt tg iter tg1 iter1 : Expr} {ifs ifs1 : List Expr} {scope : Scope} {own : List (PySem.Str × Nat)} {asg asg1 vs1 : List Nat} {pos spos : Pos} {wi wi1 : TI} {g g1 : TG} {tt tt1 : TT} {te : TE} {mi mi1 : M (List D)} {mg mg1 : MG} {mt mt1 : M Bool} {me : M D} (hc : X.calm = true) (hN : X.N.Nodup) (hy : X.N[i]? = some y) (hyl : X.env.scope.names.lookup y = some .local)
    (hsw : swapsWith (.ListComp elt [⟨tg, iter, ifs, 0⟩, ⟨tg1, iter1, ifs1, 0⟩] scope pos) (some (.Name y py)) spos.line X.env = pure true) (hi : SI X W b tg iter wi mi) (ok : BlkOk X.N X.env.scope scope own) (hv : ∀ i ∈ vs1, i ∈ own.map (·.2))
    (hg : ∀ (s : Shared) (H : Hp) (C : Addr) (cl : List (PySem.Str × Addr)) (fp : List Addr), SG (X.blk s H scope (compEnvC scope cl C X.env) fp) b asg tg g mg) (ha : ∀ i ∈ asg, i ∈ own.map (·.2)) (ht : ∀ (s : Shared) (H : Hp) (C : Addr) (cl : List (PySem.Str × Addr)) (fp : List Addr), STs (X.blk s H scope (compEnvC scope cl C X.env) fp) W0 ifs tt mt)
    (hi1 : ∀ (s : Shared) (H : Hp) (C : Addr) (cl : List (PySem.Str × Addr)) (fp : List Addr), SI (X.blk s H scope (compEnvC scope cl C X.env) fp) W0 b1 tg1 iter1 wi1 mi1)
    (hg1 : ∀ (s : Shared) (H : Hp) (C : Addr) (cl : List (PySem.Str × Addr)) (fp : List Addr), SG (X.blk s H scope (compEnvC scope cl C X.env) fp) b1 asg1 tg1 g1 mg1) (ha1 : ∀ i ∈ asg1, i ∈ vs1) (ht1 : ∀ (s : Shared) (H : Hp) (C : Addr) (cl : List (PySem.Str × Addr)) (fp : List Addr), STs (X.blk s H scope (compEnvC scope cl C X.env) fp) W0 ifs1 tt1 mt1)
    (he : ∀ (s : Shared) (H : Hp) (C : Addr) (cl : List (PySem.Str × Addr)) (fp : List Addr), SE (X.blk s H scope (compEnvC scope cl C X.env) fp) W0 elt te me) (hs : ∀ x, foldedSetIterable iter X.env x = pure x := by intro _; rfl) (hs1 : ∀ env x, foldedSetIterable iter1 env x = pure x := by intro _ _; rfl) :
    SS X W [i] (.Assign [.Name y py] (.ListComp elt [⟨tg, iter, ifs, 0⟩, ⟨tg1, iter1, ifs1, 0⟩] scope pos) spos) (tAsg (tLc2 wi g tt wi1 g1 tt1 te (own.map (·.2)) vs1) (gName i)) (mSet (gN i) (mLc2 mi mg mt mi1 mg1 mt1 me (own.map (·.2)) vs1)) := by
  have hE := se_lc2 (pos := pos) hc hN hi ok hv hg ha ht hi1 hg1 ha1 ht1 he hs hs1
  refine ⟨ps_setLc2 hc hN hy hyl hsw hi.pi ok hv (fun s H C cl fp => (hg s H C cl fp).pg) (fun s H C cl fp => (ht s H C cl fp).pt) (fun s H C cl fp => (hi1 s H C cl fp).pi) (fun s H C cl fp => (hg1 s H C cl fp).pg) (fun s H C cl fp => (ht1 s H C cl fp).pt) (fun s H C cl fp => (he s H C cl fp).pe) hs hs1, fun F O E σ H D' R s => hE.rd F O E σ H _ R (s.bnd.mono (fun d E1 k O1 v H1 R1 l1 r => ?_) (KXs.of))⟩
  cases eg : gN i d E1 with
  | none => rw [eg] at k; exact k.elim
  | some E2 =>
    rw [eg] at k
    unfold gN at eg
    split at eg
    · rename_i hi
      cases eg
      refine k O1 _ H1 .non (R1.set r hi) l1 fun j hj => ?_
      have hne : i ≠ j := fun z => hj (by rw [z]; exact List.mem_cons_self)
      rw [List.getElem?_set_ne hne]
    · cases eg
def ipM : TIp := fun x y H Q => ∃ i j, x = .int i ∧ y = .int j ∧ CMulW i j ∧ Q (.int (i * j)) H
theorem ip_mul : PIp X .Mult ipM := by
  intro pins s σ H x y v u Q I r1 r2 h
  obtain ⟨i, j, e1, e2, hc, q⟩ := h
  subst e1; subst e2
  obtain ⟨t, rfl⟩ := r1
  obtain ⟨t', rfl⟩ := r2
  exact imul_int ⟨.int _, H, I.tok _, ⟨_, rfl⟩, q⟩ hc.ok
def mAugM (i : Nat) (m : M D) : M Fl := fun E => match E[i]? with
  | some (.dat (.int x)) => (bnd m fun d => fun E => match d with
    | .int y => if i < E.length then (if okI x && okI y then .ok .nx (E.set i (.dat (.int (x * y)))) else .bad) else .bad
    | _ => .bad) E
  | _ => .bad
theorem ss_augM {i : Nat} {st : Stmt} {e : Expr} {t : TE} {m : M D} (hp : PE X e t → PS X st (tAug i t ipM)) (h : SE X W e t m) : SS X W [i] st (tAug i t ipM) (mAugM i m) := by
  refine ⟨hp h.pe, fun F O E σ H D' R s => ?_⟩
  unfold mAugM at s
  split at s
  · rename_i x h0
    obtain ⟨v, e0, r0⟩ := R.slot i _ h0
    cases r0
    refine ⟨_, e0, h.rd F O E σ H _ R (s.bnd.mono (fun d E1 k O1 v H1 R1 l1 r => ?_) (KXs.of))⟩
    cases d with
    | int y =>
      dsimp only at k
      split at k
      · rename_i hi
        split at k
        · rename_i hl
          rw [Bool.and_eq_true] at hl
          cases r
          refine ⟨x, y, rfl, rfl, ?_, k O1 _ H1 .non (R1.set (.int _) hi) l1 fun j hj => ?_⟩
          · have h1 := of_decide_eq_true hl.1
            have h2 := of_decide_eq_true hl.2
            unfold CMulW
            omega
          · have hne : i ≠ j := fun z => hj (by rw [z]; exact List.mem_cons_self)
            rw [List.getElem?_set_ne hne]
        · exact k.elim
      · exact k.elim
    | _ => exact k.elim
  · exact s.elim
end
section
variable {E : En}
theorem a_mAugM (i : Nat) (m : M D) : mAugM i m E = (match E[i]? with
  | some (.dat (.int x)) => (bnd m fun d => fun E => match d with
    | .int y => if i < E.length then (if okI x && okI y then .ok .nx (E.set i (.dat (.int (x * y)))) else .bad) else .bad
    | _ => .bad) E
  | _ => .bad) := rfl
end
end Bt
namespace Bt
open PySem PySem.Spec PyProof.Rows SS
section
variable {prog : Program} {w : World} {A : Around} {R : Result → Shared → Prop} {I : Addr} {fp wr : List Addr} {G : Array GenState → Array GenState → Prop} {n : Nat} {P : Nat → Value → Prop} {St : Nat → Shared → Prop}
end

section
variable {prog : Program} {w : World} {A : Around} {E : Value → Shared → Prop} {s : Shared}
set_option maxHeartbeats 3200000 in
end
end Bt
namespace Bt
open PySem L2 PySem.Spec PyProof.Rows
section
variable {X : Cx} {W : WX}
end
end Bt
namespace Lw
open PySem L2 Bt
noncomputable def m_is_from : M Fl := (mSeq (mRet (mAndV (mIsi "int" (mR 0)) (mAndV (mNotV (mIsi "bool" (mR 0))) (mOp geD (mR 0) (mR 1))))) mNil)
noncomputable def s_is_from : M Sl := mFn [] 0 m_is_from
noncomputable def m_is_lot : M Fl := (mSeq (mRet (mAndV (mIsi "tuple" (mR 0)) (mAndV (mOp eqD (mD (mB lenF (mCons (mR 0) (ret [])))) (mD (ret (.int 2)))) (mAndV (mCall s_is_from [] (mCons (mD (mOp ixD (mR 0) (mD (ret (.int 0))))) (mCons (mD (ret (.int 1))) (ret [])))) (mCall s_is_from [] (mCons (mD (mOp ixD (mR 0) (mD (ret (.int 1))))) (mCons (mD (ret (.int 1))) (ret [])))))))) mNil)
noncomputable def s_is_lot : M Sl := mFn [] 0 m_is_lot
noncomputable def lc_is_pile_1 : M D := (mLc (mIt (mV 0)) (gN 3) (ret true) (mCall s_is_lot [] (mCons (mR 3) (ret []))) [3])
noncomputable def lc_is_pile_2 : M D := (mLc (mZip (mConsD (mV 0) (mConsD (mSl (mR 0) (mPart (some (ret (.int 1)))) (mPart none)) (ret [])))) (gTupM 2 (gConsM (gN 1) (gConsM (gN 2) gNilM))) (ret true) (mOp ltD (mD (mOp ixD (mR 1) (mD (ret (.int 0))))) (mD (mOp ixD (mR 2) (mD (ret (.int 0)))))) [1, 2])
noncomputable def m_is_pile : M Fl := (mSeq (mIfS (mOr (mNot (bnd (mIsi "tuple" (mR 0)) asB)) (mNot (bnd (mB allF (mCons (mD lc_is_pile_1) (ret []))) asB))) (mSeq (mRet (ret (.bool false))) mNil) mNil) (mSeq (mRet (mB allF (mCons (mD lc_is_pile_2) (ret [])))) mNil))
noncomputable def s_is_pile : M Sl := mFn [] 3 m_is_pile
noncomputable def m_look_at_pile : M Fl := (mSeq (mIfS (mNot (bnd (mCall s_is_pile [] (mCons (mR 0) (ret []))) asB)) (mSeq (mRaise0 1) mNil) mNil) mNil)
noncomputable def s_look_at_pile : M Sl := mFn [] 0 m_look_at_pile
noncomputable def lc_sum_of_1 : M D := (mLc (mIt (mV 0)) (gTupM 2 (gConsM (gN 1) (gConsM (gN 2) gNilM))) (ret true) (mOp mulD (mR 1) (mR 2)) [1, 2])
noncomputable def m_sum_of : M Fl := (mSeq (mRet (mB sumF (mCons (mD lc_sum_of_1) (ret [])))) mNil)
noncomputable def s_sum_of : M Sl := mFn [] 2 m_sum_of
noncomputable def lc_less_of_1 : M D := (mLc (mIt (mV 0)) (gTupM 2 (gConsM (gN 2) (gConsM (gN 3) gNilM))) (bnd (mOp ltD (mR 2) (mR 1)) asB) (mOp mulD (mR 2) (mR 3)) [2, 3])
noncomputable def m_less_of : M Fl := (mSeq (mRet (mB sumF (mCons (mD lc_less_of_1) (ret [])))) mNil)
noncomputable def s_less_of : M Sl := mFn [] 2 m_less_of
end Lw
namespace Lw
open PySem L2 Bt
noncomputable def lc_from_counts_1 : M D := (mLc (mIt (mSortD 0)) (gN 1) (bnd (mOp gtD (mD (mDGet 0 (mR 1))) (mD (ret (.int 0)))) asB) (mTup (mConsD (mV 1) (mConsD (mDGet 0 (mR 1)) (ret [])))) [1])
noncomputable def m_from_counts : M Fl := (mSeq (mRet (mB tupleF (mCons (mD lc_from_counts_1) (ret [])))) mNil)
noncomputable def s_from_counts : M Sl := mFn [] 1 m_from_counts
noncomputable def lp_take_by_1 : M Fl := (mSeq (mIfS (bnd (mOp ltD (mD (mDGet2 2 (mR 3) (ret (.int 0)))) (mR 4)) asB) (mSeq (mRaise1 13 (mV 3)) mNil) mNil) (mSeq (mDAug (· - ·) 2 (mR 3) (mV 4)) mNil))
noncomputable def fr_take_by_1 : M Fl := (mFor [3, 4] (mIt (mV 1)) (gTupM 2 (gConsM (gN 3) (gConsM (gN 4) gNilM))) lp_take_by_1)
noncomputable def m_take_by : M Fl := (mSeq (mOwnO 2 (mDict (mR 0))) (mSeq fr_take_by_1 (mSeq (mRetS (mCallO s_from_counts [] (mCons (mR 2) (ret [])))) mNil)))
noncomputable def s_take_by : M Sl := mFn [2, 3, 4] 3 m_take_by
end Lw
namespace Lw
open PySem L2 Bt
end Lw
namespace Lw
open PySem L2 Bt
noncomputable def m_look_at_small : M Fl := (mSeq (mIfS (bnd (mOp gtD (mD (mCall s_sum_of [] (mCons (mR 0) (ret [])))) (mD (ret (.int 200)))) asB) (mSeq (mRaise0 7) mNil) mNil) mNil)
noncomputable def s_look_at_small : M Sl := mFn [] 0 m_look_at_small
end Lw
namespace Lw
open PySem L2 Bt
end Lw
namespace Lw
open PySem L2 Bt
noncomputable def lc_is_name_1 : M D := (mLc (mIt (mV 0)) (gN 1) (ret true) (mOp inD (mR 1) (mD (ret (.str (Str.ofString "abcdefghijklmnopqrstuvwxyz"))))) [1])
noncomputable def m_is_name : M Fl := (mSeq (mIfS (mOr (mNot (bnd (mIsi "str" (mR 0)) asB)) (mNot (bnd (mChain leD leD (mD (ret (.int 1))) (mD (mB lenF (mCons (mR 0) (ret [])))) (mD (ret (.int 8)))) asB))) (mSeq (mRet (ret (.bool false))) mNil) mNil) (mSeq (mRet (mB allF (mCons (mD lc_is_name_1) (ret [])))) mNil))
noncomputable def s_is_name : M Sl := mFn [] 1 m_is_name
noncomputable def m_parts_in : M Fl := (mSeq (mIfS (bnd (mOp inD (mD (mOp ixD (mR 0) (mD (ret (.int 0))))) (mD (ret (.tuple [.str (Str.ofString "all"), .str (Str.ofString "one")])))) asB) (mSeq (mRet (mOp ixD (mR 0) (mD (ret (.int 1))))) mNil) mNil) (mSeq (mRet (mIf (bnd (mOp inD (mD (mOp ixD (mR 0) (mD (ret (.int 0))))) (mD (ret (.tuple [.str (Str.ofString "within"), .str (Str.ofString "calls")])))) asB) (mTup (mConsD (mOp ixD (mR 0) (mD (ret (.int 2)))) (ret []))) (mTup (ret [])))) mNil))
noncomputable def s_parts_in : M Sl := mFn [] 0 m_parts_in
noncomputable def lc_is_form_1 (ih : M Sl) : M D := (mLc (mIt (mOp ixD (mR 3) (mD (ret (.int 0))))) (gN 4) (ret true) (mCall ih [] (mCons (mR 4) (mCons (mD (mOp subD (mR 1) (mD (ret (.int 1))))) (ret [])))) [4])
noncomputable def m_is_form (ih : M Sl) : M Fl := (mSeq (mIfS (mOr (mNot (bnd (mIsi "tuple" (mR 0)) asB)) (mOr (bnd (mOp eqD (mD (mB lenF (mCons (mR 0) (ret [])))) (mD (ret (.int 0)))) asB) (mOr (mNot (bnd (mIsi "str" (mD (mOp ixD (mR 0) (mD (ret (.int 0)))))) asB)) (bnd (mOp ltD (mR 1) (mD (ret (.int 1)))) asB)))) (mSeq (mRet (ret (.bool false))) mNil) mNil) (mSeq (mSet (gStarM (gN 2) 3) (mV 0)) (mSeq (mIfS (bnd (mOp eqD (mR 2) (mD (ret (.str (Str.ofString "none"))))) asB) (mSeq (mRet (mOp eqD (mD (mB lenF (mCons (mR 3) (ret [])))) (mD (ret (.int 0))))) mNil) mNil) (mSeq (mIfS (bnd (mOp eqD (mR 2) (mD (ret (.str (Str.ofString "call"))))) asB) (mSeq (mRet (mAndV (mOp eqD (mD (mB lenF (mCons (mR 3) (ret [])))) (mD (ret (.int 3)))) (mAndV (mCall s_is_name [] (mCons (mD (mOp ixD (mR 3) (mD (ret (.int 0))))) (ret []))) (mAndV (mCall s_is_from [] (mCons (mD (mOp ixD (mR 3) (mD (ret (.int 1))))) (mCons (mD (ret (.int 1))) (ret [])))) (mCall s_is_from [] (mCons (mD (mOp ixD (mR 3) (mD (ret (.int 2))))) (mCons (mD (ret (.int 1))) (ret [])))))))) mNil) mNil) (mSeq (mIfS (bnd (mOp inD (mR 2) (mD (ret (.tuple [.str (Str.ofString "within"), .str (Str.ofString "calls")])))) asB) (mSeq (mRet (mAndV (mOp eqD (mD (mB lenF (mCons (mR 3) (ret [])))) (mD (ret (.int 2)))) (mAndV (mCall s_is_from [] (mCons (mD (mOp ixD (mR 3) (mD (ret (.int 0))))) (mCons (mD (ret (.int 1))) (ret [])))) (mCall ih [] (mCons (mD (mOp ixD (mR 3) (mD (ret (.int 1))))) (mCons (mD (mOp subD (mR 1) (mD (ret (.int 1))))) (ret []))))))) mNil) mNil) (mSeq (mIfS (mOr (bnd (mOp ninD (mR 2) (mD (ret (.tuple [.str (Str.ofString "all"), .str (Str.ofString "one")])))) asB) (mOr (bnd (mOp neD (mD (mB lenF (mCons (mR 3) (ret [])))) (mD (ret (.int 1)))) asB) (mNot (bnd (mIsi "tuple" (mD (mOp ixD (mR 3) (mD (ret (.int 0)))))) asB)))) (mSeq (mRet (ret (.bool false))) mNil) mNil) (mSeq (mRet (mB allF (mCons (mD (lc_is_form_1 ih)) (ret [])))) mNil)))))))
noncomputable def s_is_form : Nat → M Sl
  | 0 => stuck
  | n + 1 => mFn [2, 3] 3 (m_is_form (s_is_form n))
theorem r_is_form (n : Nat) : s_is_form (n + 1) = mFn [2, 3] 3 (m_is_form (s_is_form n)) := rfl
noncomputable def lc_calls_in_1 (ih : M Sl) : M D := (mLc2 (mIt (mCall s_parts_in [] (mCons (mR 0) (ret [])))) (gN 1) (ret true) (mIt (mCall ih [] (mCons (mR 1) (ret [])))) (gN 2) (ret true) (mV 2) [1, 2] [2])
noncomputable def m_calls_in (ih : M Sl) : M Fl := (mSeq (mIfS (bnd (mOp eqD (mD (mOp ixD (mR 0) (mD (ret (.int 0))))) (mD (ret (.str (Str.ofString "call"))))) asB) (mSeq (mRet (mLst (mConsD (mV 0) (ret [])))) mNil) mNil) (mSeq (mRet (lc_calls_in_1 ih)) mNil))
noncomputable def s_calls_in : Nat → M Sl
  | 0 => stuck
  | n + 1 => mFn [] 2 (m_calls_in (s_calls_in n))
theorem r_calls_in (n : Nat) : s_calls_in (n + 1) = mFn [] 2 (m_calls_in (s_calls_in n)) := rfl
noncomputable def lc_names_in_1 : M D := (mLc (mIt (mCall (s_calls_in 30) [] (mCons (mR 0) (ret [])))) (gTupM 4 (gConsM (gN 1) (gConsM (gN 2) (gConsM (gN 3) (gConsM (gN 4) gNilM))))) (ret true) (mV 2) [1, 2, 3, 4])
noncomputable def m_names_in : M Fl := (mSeq (mRetS (mObj (mLstO (mAsL lc_names_in_1)))) mNil)
noncomputable def s_names_in : M Sl := mFn [] 4 m_names_in
noncomputable def lc_is_right_1 : M D := (mLenK (mIt (mV 1)) (gN 2) (ret true) (mV 2) [2])
noncomputable def m_is_right : M Fl := (mSeq (mIfS (mNot (bnd (mCall (s_is_form 30) [] (mCons (mR 0) (mCons (mD (ret (.int 6))) (ret [])))) asB)) (mSeq (mRet (ret (.bool false))) mNil) mNil) (mSeq (mSet (gN 1) (mCall s_names_in [] (mCons (mR 0) (ret [])))) (mSeq (mRet (mOp eqD (mD lc_is_right_1) (mD (mB lenF (mCons (mR 1) (ret [])))))) mNil)))
noncomputable def s_is_right : M Sl := mFn [1] 2 m_is_right
noncomputable def m_look_at_right : M Fl := (mSeq (mIfS (mNot (bnd (mCall s_is_right [] (mCons (mR 0) (ret []))) asB)) (mSeq (mRaise0 2) mNil) mNil) mNil)
noncomputable def s_look_at_right : M Sl := mFn [] 0 m_look_at_right
end Lw
namespace Lw
open PySem L2 Bt
noncomputable def m_cut_at : M Fl := (mSeq (mRet (mIf (bnd (mOp isD (mR 1) (mD (ret .none))) asB) (mV 0) (mB minF (mCons (mR 0) (mCons (mD (mOp subD (mR 1) (mD (ret (.int 1))))) (ret [])))))) mNil)
noncomputable def s_cut_at : M Sl := mFn [] 0 m_cut_at
noncomputable def lc_longest_of_1 (ih : M Sl) : M D := (mLc (mIt (mOp ixD (mR 3) (mD (ret (.int 0))))) (gN 4) (ret true) (mCall ih [] (mCons (mR 4) (ret []))) [4])
noncomputable def m_longest_of (ih : M Sl) : M Fl := (mSeq (mSet (gStarM (gN 2) 3) (mV 0)) (mSeq (mIfS (bnd (mOp eqD (mR 2) (mD (ret (.str (Str.ofString "none"))))) asB) (mSeq (mRet (ret (.int 0))) mNil) mNil) (mSeq (mIfS (bnd (mOp eqD (mR 2) (mD (ret (.str (Str.ofString "call"))))) asB) (mSeq (mRet (mOp ixD (mR 3) (mD (ret (.int 2))))) mNil) mNil) (mSeq (mIfS (bnd (mOp inD (mR 2) (mD (mTup (mConsD (ret (.str (Str.ofString "within"))) (mConsD (ret (.str (Str.ofString "calls"))) (ret [])))))) asB) (mSeq (mRet (mB minF (mCons (mD (mOp ixD (mR 3) (mD (ret (.int 0))))) (mCons (mD (mCall ih [] (mCons (mD (mOp ixD (mR 3) (mD (ret (.int 1))))) (ret [])))) (ret []))))) mNil) mNil) (mSeq (mSet (gN 1) (lc_longest_of_1 ih)) (mSeq (mRet (mIf (bnd (mOp eqD (mR 2) (mD (ret (.str (Str.ofString "all"))))) asB) (mB sumF (mCons (mR 1) (ret []))) (mDfl maxDf (mR 1) (ret (.int 0))))) mNil))))))
noncomputable def s_longest_of : Nat → M Sl
  | 0 => stuck
  | n + 1 => mFn [1, 2, 3] 4 (m_longest_of (s_longest_of n))
theorem r_longest_of (n : Nat) : s_longest_of (n + 1) = mFn [1, 2, 3] 4 (m_longest_of (s_longest_of n)) := rfl
noncomputable def lc_shared_out_1 : M D := (mLc (mRng1 (mCons (mD (mOp addD (mR 3) (mD (ret (.int 1))))) (ret []))) (gN 4) (ret true) (mOp addD (mD (mOp ixD (mR 0) (mR 4))) (mD (mOp ixD (mR 1) (mD (mOp subD (mR 3) (mR 4)))))) [4])
noncomputable def lc_shared_out_2 : M D := (mLc (mRng1 (mCons (mD (mOp addD (mR 2) (mD (ret (.int 1))))) (ret []))) (gN 3) (ret true) (mB maxF (mCons (mD lc_shared_out_1) (ret []))) [3])
noncomputable def m_shared_out : M Fl := (mSeq (mRetS (mObj (mLstO (mAsL lc_shared_out_2)))) mNil)
noncomputable def s_shared_out : M Sl := mFn [] 2 m_shared_out
noncomputable def lc_row_of_1 (ih : M Sl) : M D := (mLc (mRng1 (mCons (mD (mOp addD (mR 2) (mD (ret (.int 1))))) (ret []))) (gN 8) (ret true) (mOp mulD (mD (mB minF (mCons (mD (mOp ixD (mR 7) (mD (ret (.int 2))))) (mCons (mR 8) (ret []))))) (mD (mCall s_cut_at [] (mCons (mD (mOp ixD (mR 7) (mD (ret (.int 1))))) (mCons (mR 1) (ret [])))))) [8])
noncomputable def lc_row_of_2 (ih : M Sl) : M D := (mLc (mIt (mCall ih [] (mCons (mD (mOp ixD (mR 7) (mD (ret (.int 1))))) (mCons (mR 1) (mCons (mR 2) (ret [])))))) (gN 3) (ret true) (mB minF (mCons (mD (mOp ixD (mR 7) (mD (ret (.int 0))))) (mCons (mR 3) (ret [])))) [3])
noncomputable def lc_row_of_3 (ih : M Sl) : M D := (mLc (mRng1 (mCons (mD (mOp addD (mR 2) (mD (ret (.int 1))))) (ret []))) (gN 8) (ret true) (mOp ixD (mR 3) (mD (mB minF (mCons (mR 8) (mCons (mD (mOp ixD (mR 7) (mD (ret (.int 0))))) (ret [])))))) [8])
noncomputable def lc_row_of_4 (ih : M Sl) : M D := (mLc (mZipE (mConsD (mV 3) (mConsD (mV 6) (ret [])))) (gN 9) (ret true) (mB maxTF (mCons (mR 9) (ret []))) [9])
noncomputable def lp_row_of_1 (ih : M Sl) : M Fl := (mSeq (mSet (gN 6) (mCall ih [] (mCons (mR 4) (mCons (mR 1) (mCons (mR 2) (ret [])))))) (mSeq (mIfS (bnd (mOp eqD (mR 5) (mD (ret (.str (Str.ofString "one"))))) asB) (mSeq (mSet (gN 3) (lc_row_of_4 ih)) mNil) (mSeq (mSet (gN 3) (mCall s_shared_out [] (mCons (mR 3) (mCons (mR 6) (mCons (mR 2) (ret [])))))) mNil)) mNil))
noncomputable def fr_row_of_1 (ih : M Sl) : M Fl := (mFor [4, 6] (mIt (mOp ixD (mR 7) (mD (ret (.int 0))))) (gN 4) (lp_row_of_1 ih))
noncomputable def m_row_of (ih : M Sl) : M Fl := (mSeq (mSet (gStarM (gN 5) 7) (mV 0)) (mSeq (mIfS (bnd (mOp eqD (mR 5) (mD (ret (.str (Str.ofString "none"))))) asB) (mSeq (mRet (mOp mulD (mD (mLst (mConsD (ret (.int 0)) (ret [])))) (mD (mOp addD (mR 2) (mD (ret (.int 1))))))) mNil) mNil) (mSeq (mIfS (bnd (mOp eqD (mR 5) (mD (ret (.str (Str.ofString "call"))))) asB) (mSeq (mRetS (mObj (mLstO (mAsL (lc_row_of_1 ih))))) mNil) mNil) (mSeq (mIfS (bnd (mOp eqD (mR 5) (mD (ret (.str (Str.ofString "within"))))) asB) (mSeq (mRetS (mObj (mLstO (mAsL (lc_row_of_2 ih))))) mNil) mNil) (mSeq (mIfS (bnd (mOp eqD (mR 5) (mD (ret (.str (Str.ofString "calls"))))) asB) (mSeq (mSet (gN 3) (mCall ih [] (mCons (mD (mOp ixD (mR 7) (mD (ret (.int 1))))) (mCons (mR 1) (mCons (mD (mB minF (mCons (mR 2) (mCons (mD (mOp ixD (mR 7) (mD (ret (.int 0))))) (ret []))))) (ret [])))))) (mSeq (mRetS (mObj (mLstO (mAsL (lc_row_of_3 ih))))) mNil)) mNil) (mSeq (mSet (gN 3) (mOp mulD (mD (mLst (mConsD (ret (.int 0)) (ret [])))) (mD (mOp addD (mR 2) (mD (ret (.int 1))))))) (mSeq (fr_row_of_1 ih) (mSeq (mRet (mV 3)) mNil))))))))
noncomputable def s_row_of : Nat → M Sl
  | 0 => stuck
  | n + 1 => mFn [3, 4, 5, 6, 7] 7 (m_row_of (s_row_of n))
theorem r_row_of (n : Nat) : s_row_of (n + 1) = mFn [3, 4, 5, 6, 7] 7 (m_row_of (s_row_of n)) := rfl
noncomputable def lc_most_of_1 (ih : M Sl) : M D := (mLc (mIt (mOp ixD (mR 4) (mD (ret (.int 0))))) (gN 5) (ret true) (mCall ih [] (mCons (mR 5) (mCons (mR 1) (ret [])))) [5])
noncomputable def m_most_of (ih : M Sl) : M Fl := (mSeq (mSet (gStarM (gN 3) 4) (mV 0)) (mSeq (mIfS (bnd (mOp eqD (mR 3) (mD (ret (.str (Str.ofString "none"))))) asB) (mSeq (mRet (ret (.int 0))) mNil) mNil) (mSeq (mIfS (bnd (mOp eqD (mR 3) (mD (ret (.str (Str.ofString "call"))))) asB) (mSeq (mRet (mOp mulD (mD (mOp ixD (mR 4) (mD (ret (.int 2))))) (mD (mCall s_cut_at [] (mCons (mD (mOp ixD (mR 4) (mD (ret (.int 1))))) (mCons (mR 1) (ret []))))))) mNil) mNil) (mSeq (mIfS (bnd (mOp eqD (mR 3) (mD (ret (.str (Str.ofString "within"))))) asB) (mSeq (mRet (mB minF (mCons (mD (mOp ixD (mR 4) (mD (ret (.int 0))))) (mCons (mD (mCall ih [] (mCons (mD (mOp ixD (mR 4) (mD (ret (.int 1))))) (mCons (mR 1) (ret []))))) (ret []))))) mNil) mNil) (mSeq (mIfS (bnd (mOp eqD (mR 3) (mD (ret (.str (Str.ofString "calls"))))) asB) (mSeq (mRet (mOp ixD (mD (mCall (s_row_of 30) [] (mCons (mD (mOp ixD (mR 4) (mD (ret (.int 1))))) (mCons (mR 1) (mCons (mD (mB minF (mCons (mD (mOp ixD (mR 4) (mD (ret (.int 0))))) (mCons (mD (mCall (s_longest_of 30) [] (mCons (mD (mOp ixD (mR 4) (mD (ret (.int 1))))) (ret [])))) (ret []))))) (ret [])))))) (mD (mNeg (mD (ret (.int 1))))))) mNil) mNil) (mSeq (mSet (gN 2) (lc_most_of_1 ih)) (mSeq (mRet (mIf (bnd (mOp eqD (mR 3) (mD (ret (.str (Str.ofString "all"))))) asB) (mB sumF (mCons (mR 2) (ret []))) (mDfl maxDf (mR 2) (ret (.int 0))))) mNil)))))))
noncomputable def s_most_of : Nat → M Sl
  | 0 => stuck
  | n + 1 => mFn [2, 3, 4] 4 (m_most_of (s_most_of n))
theorem r_most_of (n : Nat) : s_most_of (n + 1) = mFn [2, 3, 4] 4 (m_most_of (s_most_of n)) := rfl
end Lw
namespace Lw
open PySem L2 Bt
noncomputable def lc_bounds_of_1 : M D := (mLc (mIt (mV 0)) (gTupM 2 (gConsM (gN 2) (gConsM (gN 3) gNilM))) (bnd (mOp gtD (mR 2) (mD (ret (.int 1)))) asB) (mTup (mConsD (mV 2) (mConsD (mCall s_less_of [] (mCons (mR 0) (mCons (mR 2) (ret [])))) (ret [])))) [2, 3])
noncomputable def m_bounds_of : M Fl := (mSeq (mSet (gN 1) lc_bounds_of_1) (mSeq (mRet (mOp addD (mR 1) (mD (mLst (mConsD (mTup (mConsD (ret .none) (mConsD (mCall s_sum_of [] (mCons (mR 0) (ret []))) (ret [])))) (ret [])))))) mNil))
noncomputable def s_bounds_of : M Sl := mFn [1] 3 m_bounds_of
noncomputable def lc_failing_1 : M D := (mLc (mIt (mCall s_bounds_of [] (mCons (mR 0) (ret [])))) (gTupM 2 (gConsM (gN 2) (gConsM (gN 3) gNilM))) (bnd (mOp gtD (mD (mCall (s_most_of 30) [] (mCons (mR 1) (mCons (mR 2) (ret []))))) (mR 3)) asB) (mTup (mConsD (mV 2) (mConsD (mV 3) (ret [])))) [2, 3])
noncomputable def m_failing : M Fl := (mSeq (mRetS (mObj (mLstO (mAsL lc_failing_1)))) mNil)
noncomputable def s_failing : M Sl := mFn [] 2 m_failing
noncomputable def m_is_served : M Fl := (mSeq (mRet (mOp eqD (mD (mB lenF (mCons (mD (mCall s_failing [] (mCons (mR 0) (mCons (mR 1) (ret []))))) (ret [])))) (mD (ret (.int 0))))) mNil)
noncomputable def s_is_served : M Sl := mFn [] 0 m_is_served
end Lw
namespace Lw
open PySem L2 Bt
noncomputable def m__law_mixed : M Fl := (mSeq (mSet (gN 2) (mOp modD (mD (mOp addD (mD (mOp addD (mD (mOp mulD (mD (mOp modD (mR 0) (mD (ret (.int 2147483647))))) (mD (ret (.int 48271))))) (mD (mOp mulD (mR 1) (mD (ret (.int 69621))))))) (mD (ret (.int 1048583))))) (mD (ret (.int 2147483629))))) (mSeq (mSet (gN 2) (mOp modD (mD (mOp mulD (mR 2) (mR 2))) (mD (ret (.int 2147483587))))) (mSeq (mRet (mOp modD (mD (mOp mulD (mR 2) (mD (mOp addD (mR 2) (mD (ret (.int 2))))))) (mD (ret (.int 2147483579))))) mNil)))
noncomputable def s__law_mixed : M Sl := mFn [2] 1 m__law_mixed
noncomputable def lp__law_cell_1 : M Fl := (mSeq (mSet (gN 3) (mOp addD (mD (mOp mulD (mR 3) (mD (ret (.int 2147483579))))) (mD (mCall s__law_mixed [] (mCons (mR 2) (mCons (mD (mOp addD (mD (mOp addD (mD (mOp mulD (mD (ret (.int 7))) (mR 1))) (mD (mOp mulD (mD (ret (.int 100))) (mR 4))))) (mD (mOp mulD (mR 4) (mR 4))))) (ret []))))))) mNil)
noncomputable def fr__law_cell_1 : M Fl := (mFor [4] (mRng1 (mCons (mD (ret (.int 24))) (ret []))) (gN 4) lp__law_cell_1)
noncomputable def m__law_cell : M Fl := (mSeq (mSet (gN 2) (ret (.int 0))) (mSeq (mIfS (bnd (mOp ltD (mR 1) (mD (mLenScr 0))) asB) (mSeq (mSet (gN 2) (mIxScr 0 (mR 1))) mNil) mNil) (mSeq (mIfS (bnd (mOp geD (mR 2) (mD (mOp powD (mD (ret (.int 10))) (mD (ret (.int 18)))))) asB) (mSeq (mRet (mOp modD (mD (mOp subD (mR 2) (mD (mOp powD (mD (ret (.int 10))) (mD (ret (.int 18))))))) (mD (mOp mulD (mD (mOp mulD (mD (mOp mulD (mD (mOp powD (mD (ret (.int 10))) (mD (ret (.int 60))))) (mD (mOp powD (mD (ret (.int 10))) (mD (ret (.int 60))))))) (mD (mOp powD (mD (ret (.int 10))) (mD (ret (.int 60))))))) (mD (mOp powD (mD (ret (.int 10))) (mD (ret (.int 60))))))))) mNil) mNil) (mSeq (mSet (gN 3) (ret (.int 0))) (mSeq fr__law_cell_1 (mSeq (mRet (mV 3)) mNil))))))
noncomputable def s__law_cell : M Sl := mFn [2, 3, 4] 3 m__law_cell
noncomputable def m__law_take : M Fl := (mSeq (mSet (gN 2) (mOp modD (mD (mOp ixD (mR 0) (mD (ret (.int 0))))) (mR 1))) (mSeq (mPut 0 (mD (ret (.int 0))) (mOp fdivD (mD (mOp ixD (mR 0) (mD (ret (.int 0))))) (mR 1))) (mSeq (mRet (mV 2)) mNil)))
noncomputable def s__law_take : M Sl := mFn [2] 1 m__law_take
end Lw
namespace Lw
open PySem L2 Bt
noncomputable def lc__law_under_1 : M D := (mLc (mIt (mV 0)) (gTupM 2 (gConsM (gN 2) (gConsM (gN 3) gNilM))) (mOr (bnd (mOp isD (mR 1) (mD (ret .none))) asB) (bnd (mOp ltD (mR 2) (mR 1)) asB)) (mOp mulD (mR 2) (mR 3)) [2, 3])
noncomputable def m__law_under : M Fl := (mSeq (mRet (mB sumF (mCons (mD lc__law_under_1) (ret [])))) mNil)
noncomputable def s__law_under : M Sl := mFn [] 2 m__law_under
noncomputable def lp__law_heap_1 : M Fl := (mSeq (mIfS (mAnd (bnd (mOp neD (mR 1) (mD (mLst (ret [])))) asB) (bnd (mOp eqD (mD (mOp ixD (mD (mOp ixD (mR 1) (mD (mNeg (mD (ret (.int 1))))))) (mD (ret (.int 0))))) (mR 2)) asB)) (mSeq (mPut 1 (mD (mNeg (mD (ret (.int 1))))) (mTup (mConsD (mV 2) (mConsD (mOp addD (mD (mOp ixD (mD (mOp ixD (mR 1) (mD (mNeg (mD (ret (.int 1))))))) (mD (ret (.int 1))))) (mD (ret (.int 1)))) (ret []))))) mNil) (mSeq (mApp 1 (mTup (mConsD (mV 2) (mConsD (ret (.int 1)) (ret []))))) mNil)) mNil)
noncomputable def fr__law_heap_1 : M Fl := (mFor [2] (mIt (mB sortedF (mCons (mR 0) (ret [])))) (gN 2) lp__law_heap_1)
noncomputable def m__law_heap : M Fl := (mSeq (mOwn 1 (mLstF (ret []))) (mSeq fr__law_heap_1 (mSeq (mRet (mB tupleF (mCons (mR 1) (ret [])))) mNil)))
noncomputable def s__law_heap : M Sl := mFn [1, 2] 2 m__law_heap
end Lw
namespace Lw
open PySem L2 Bt
noncomputable def lc__law_length_1 (ih : M Sl) : M D := (mLc (mIt (mOp ixD (mR 0) (mD (ret (.int 1))))) (gN 3) (ret true) (mCall ih [] (mCons (mR 3) (ret []))) [3])
noncomputable def m__law_length (ih : M Sl) : M Fl := (mSeq (mSet (gN 1) (mOp ixD (mR 0) (mD (ret (.int 0))))) (mSeq (mIfS (bnd (mOp eqD (mR 1) (mD (ret (.str (Str.ofString "call"))))) asB) (mSeq (mRet (mOp ixD (mR 0) (mD (ret (.int 3))))) mNil) mNil) (mSeq (mIfS (bnd (mOp inD (mR 1) (mD (mTup (mConsD (ret (.str (Str.ofString "within"))) (mConsD (ret (.str (Str.ofString "calls"))) (ret [])))))) asB) (mSeq (mRet (mB minF (mCons (mD (mOp ixD (mR 0) (mD (ret (.int 1))))) (mCons (mD (mCall ih [] (mCons (mD (mOp ixD (mR 0) (mD (ret (.int 2))))) (ret [])))) (ret []))))) mNil) mNil) (mSeq (mIfS (bnd (mOp eqD (mR 1) (mD (ret (.str (Str.ofString "none"))))) asB) (mSeq (mRet (ret (.int 0))) mNil) mNil) (mSeq (mSet (gN 2) (lc__law_length_1 ih)) (mSeq (mRet (mIf (bnd (mOp eqD (mR 1) (mD (ret (.str (Str.ofString "all"))))) asB) (mB sumF (mCons (mR 2) (ret []))) (mB maxF (mCons (mD (mOp addD (mR 2) (mD (mLst (mConsD (ret (.int 0)) (ret [])))))) (ret []))))) mNil))))))
noncomputable def s__law_length : Nat → M Sl
  | 0 => stuck
  | n + 1 => mFn [1, 2] 3 (m__law_length (s__law_length n))
theorem r__law_length (n : Nat) : s__law_length (n + 1) = mFn [1, 2] 3 (m__law_length (s__law_length n)) := rfl
noncomputable def lc__law_row_1 (ih : M Sl) : M D := (mLc (mRng1 (mCons (mD (mOp addD (mR 2) (mD (ret (.int 1))))) (ret []))) (gN 8) (ret true) (mOp mulD (mD (mB minF (mCons (mD (mOp ixD (mR 0) (mD (ret (.int 3))))) (mCons (mR 8) (ret []))))) (mR 6)) [8])
noncomputable def lc__law_row_2 (ih : M Sl) : M D := (mLc (mIt (mCall ih [] (mCons (mD (mOp ixD (mR 0) (mD (ret (.int 2))))) (mCons (mR 1) (mCons (mR 2) (ret [])))))) (gN 9) (ret true) (mB minF (mCons (mD (mOp ixD (mR 0) (mD (ret (.int 1))))) (mCons (mR 9) (ret [])))) [9])
noncomputable def lc__law_row_3 (ih : M Sl) : M D := (mLc (mRng1 (mCons (mD (mOp addD (mR 2) (mD (ret (.int 1))))) (ret []))) (gN 8) (ret true) (mOp ixD (mR 4) (mD (mB minF (mCons (mR 8) (mCons (mD (mOp ixD (mR 0) (mD (ret (.int 1))))) (ret [])))))) [8])
noncomputable def lc__law_row_4 (ih : M Sl) : M D := (mLc (mZipE (mConsD (mV 4) (mConsD (mV 7) (ret [])))) (gN 10) (ret true) (mB maxTF (mCons (mR 10) (ret []))) [10])
noncomputable def lc__law_row_5 (ih : M Sl) : M D := (mLc (mRng1 (mCons (mD (mOp addD (mR 8) (mD (ret (.int 1))))) (ret []))) (gN 11) (ret true) (mOp addD (mD (mOp ixD (mR 4) (mR 11))) (mD (mOp ixD (mR 7) (mD (mOp subD (mR 8) (mR 11)))))) [11])
noncomputable def lc__law_row_6 (ih : M Sl) : M D := (mLc (mRng1 (mCons (mD (mOp addD (mR 2) (mD (ret (.int 1))))) (ret []))) (gN 8) (ret true) (mB maxF (mCons (mD (lc__law_row_5 ih)) (ret []))) [8])
noncomputable def lp__law_row_1 (ih : M Sl) : M Fl := (mSeq (mSet (gN 7) (mCall ih [] (mCons (mR 5) (mCons (mR 1) (mCons (mR 2) (ret [])))))) (mSeq (mIfS (bnd (mOp eqD (mR 3) (mD (ret (.str (Str.ofString "one"))))) asB) (mSeq (mSet (gN 4) (lc__law_row_4 ih)) mNil) (mSeq (mSet (gN 4) (lc__law_row_6 ih)) mNil)) mNil))
noncomputable def fr__law_row_1 (ih : M Sl) : M Fl := (mFor [5, 7] (mIt (mOp ixD (mR 0) (mD (ret (.int 1))))) (gN 5) (lp__law_row_1 ih))
noncomputable def m__law_row (ih : M Sl) : M Fl := (mSeq (mSet (gN 3) (mOp ixD (mR 0) (mD (ret (.int 0))))) (mSeq (mIfS (bnd (mOp eqD (mR 3) (mD (ret (.str (Str.ofString "call"))))) asB) (mSeq (mSet (gN 6) (mIf (bnd (mOp isD (mR 1) (mD (ret .none))) asB) (mOp ixD (mR 0) (mD (ret (.int 2)))) (mB minF (mCons (mD (mOp ixD (mR 0) (mD (ret (.int 2))))) (mCons (mD (mOp subD (mR 1) (mD (ret (.int 1))))) (ret [])))))) (mSeq (mRetS (mObj (mLstO (mAsL (lc__law_row_1 ih))))) mNil)) mNil) (mSeq (mIfS (bnd (mOp eqD (mR 3) (mD (ret (.str (Str.ofString "within"))))) asB) (mSeq (mRetS (mObj (mLstO (mAsL (lc__law_row_2 ih))))) mNil) mNil) (mSeq (mIfS (bnd (mOp eqD (mR 3) (mD (ret (.str (Str.ofString "calls"))))) asB) (mSeq (mSet (gN 4) (mCall ih [] (mCons (mD (mOp ixD (mR 0) (mD (ret (.int 2))))) (mCons (mR 1) (mCons (mR 2) (ret [])))))) (mSeq (mRetS (mObj (mLstO (mAsL (lc__law_row_3 ih))))) mNil)) mNil) (mSeq (mSet (gN 4) (mOp mulD (mD (mLst (mConsD (ret (.int 0)) (ret [])))) (mD (mOp addD (mR 2) (mD (ret (.int 1))))))) (mSeq (mIfS (bnd (mOp eqD (mR 3) (mD (ret (.str (Str.ofString "none"))))) asB) (mSeq (mRet (mV 4)) mNil) mNil) (mSeq (fr__law_row_1 ih) (mSeq (mRet (mV 4)) mNil))))))))
noncomputable def s__law_row : Nat → M Sl
  | 0 => stuck
  | n + 1 => mFn [3, 4, 5, 6, 7] 9 (m__law_row (s__law_row n))
theorem r__law_row (n : Nat) : s__law_row (n + 1) = mFn [3, 4, 5, 6, 7] 9 (m__law_row (s__law_row n)) := rfl
noncomputable def lc__law_top_1 (ih : M Sl) : M D := (mLc (mIt (mOp ixD (mR 0) (mD (ret (.int 1))))) (gN 4) (ret true) (mCall ih [] (mCons (mR 4) (mCons (mR 1) (ret [])))) [4])
noncomputable def m__law_top (ih : M Sl) : M Fl := (mSeq (mSet (gN 2) (mOp ixD (mR 0) (mD (ret (.int 0))))) (mSeq (mIfS (bnd (mOp eqD (mR 2) (mD (ret (.str (Str.ofString "call"))))) asB) (mSeq (mRet (mOp mulD (mD (mOp ixD (mR 0) (mD (ret (.int 3))))) (mD (mIf (bnd (mOp isD (mR 1) (mD (ret .none))) asB) (mOp ixD (mR 0) (mD (ret (.int 2)))) (mB minF (mCons (mD (mOp ixD (mR 0) (mD (ret (.int 2))))) (mCons (mD (mOp subD (mR 1) (mD (ret (.int 1))))) (ret [])))))))) mNil) mNil) (mSeq (mIfS (bnd (mOp eqD (mR 2) (mD (ret (.str (Str.ofString "within"))))) asB) (mSeq (mRet (mB minF (mCons (mD (mOp ixD (mR 0) (mD (ret (.int 1))))) (mCons (mD (mCall ih [] (mCons (mD (mOp ixD (mR 0) (mD (ret (.int 2))))) (mCons (mR 1) (ret []))))) (ret []))))) mNil) mNil) (mSeq (mIfS (bnd (mOp eqD (mR 2) (mD (ret (.str (Str.ofString "calls"))))) asB) (mSeq (mRet (mOp ixD (mD (mCall (s__law_row 30) [] (mCons (mD (mOp ixD (mR 0) (mD (ret (.int 2))))) (mCons (mR 1) (mCons (mD (mB minF (mCons (mD (mOp ixD (mR 0) (mD (ret (.int 1))))) (mCons (mD (mCall (s__law_length 30) [] (mCons (mD (mOp ixD (mR 0) (mD (ret (.int 2))))) (ret [])))) (ret []))))) (ret [])))))) (mD (mNeg (mD (ret (.int 1))))))) mNil) mNil) (mSeq (mIfS (bnd (mOp eqD (mR 2) (mD (ret (.str (Str.ofString "none"))))) asB) (mSeq (mRet (ret (.int 0))) mNil) mNil) (mSeq (mSet (gN 3) (lc__law_top_1 ih)) (mSeq (mRet (mIf (bnd (mOp eqD (mR 2) (mD (ret (.str (Str.ofString "all"))))) asB) (mB sumF (mCons (mR 3) (ret []))) (mB maxF (mCons (mD (mOp addD (mR 3) (mD (mLst (mConsD (ret (.int 0)) (ret [])))))) (ret []))))) mNil)))))))
noncomputable def s__law_top : Nat → M Sl
  | 0 => stuck
  | n + 1 => mFn [2, 3] 3 (m__law_top (s__law_top n))
theorem r__law_top (n : Nat) : s__law_top (n + 1) = mFn [2, 3] 3 (m__law_top (s__law_top n)) := rfl
noncomputable def lp__law_holds_1 : M Fl := (mSeq (mIfS (mAnd (bnd (mOp gtD (mR 2) (mD (ret (.int 1)))) asB) (bnd (mOp gtD (mD (mCall (s__law_top 30) [] (mCons (mR 1) (mCons (mR 2) (ret []))))) (mD (mCall s__law_under [] (mCons (mR 0) (mCons (mR 2) (ret [])))))) asB)) (mSeq (mRet (ret (.bool false))) mNil) mNil) mNil)
noncomputable def fr__law_holds_1 : M Fl := (mFor [2, 3] (mIt (mV 0)) (gTupM 2 (gConsM (gN 2) (gConsM (gN 3) gNilM))) lp__law_holds_1)
noncomputable def m__law_holds : M Fl := (mSeq fr__law_holds_1 (mSeq (mRet (mOp leD (mD (mCall (s__law_top 30) [] (mCons (mR 1) (mCons (mD (ret .none)) (ret []))))) (mD (mCall s_sum_of [] (mCons (mR 0) (ret [])))))) mNil))
noncomputable def s__law_holds : M Sl := mFn [2, 3] 2 m__law_holds
noncomputable def lc__law_right_1 (ih : M Sl) : M D := (mLc (mRng1 (mCons (mD (mOp addD (mD (ret (.int 1))) (mD (mCall s__law_take [] (mCons (mR 0) (mCons (mD (ret (.int 3))) (ret []))))))) (ret []))) (gN 6) (ret true) (mCall ih [] (mCons (mR 0) (mCons (mD (mOp subD (mR 1) (mD (ret (.int 1))))) (mCons (mR 2) (mCons (mR 3) (ret [])))))) [6])
noncomputable def m__law_right (ih : M Sl) : M Fl := (mSeq (mSet (gN 4) (mCall s__law_take [] (mCons (mR 0) (mCons (mD (ret (.int 7))) (ret []))))) (mSeq (mIfS (bnd (mOp eqD (mR 2) (mD (mLst (ret [])))) asB) (mSeq (mRet (mTup (mConsD (ret (.str (Str.ofString "none"))) (ret [])))) mNil) mNil) (mSeq (mIfS (mOr (bnd (mOp ltD (mR 1) (mD (ret (.int 1)))) asB) (bnd (mOp ltD (mR 4) (mD (ret (.int 2)))) asB)) (mSeq (mRet (mTup (mConsD (ret (.str (Str.ofString "call"))) (mConsD (mPop 2 (mD (ret (.int 0)))) (mConsD (mOp addD (mD (ret (.int 1))) (mD (mCall s__law_take [] (mCons (mR 0) (mCons (mR 3) (ret [])))))) (mConsD (mOp addD (mD (ret (.int 1))) (mD (mOp mulD (mD (mCall s__law_take [] (mCons (mR 0) (mCons (mD (ret (.int 2))) (ret []))))) (mD (mB intF (mCons (mD (mOp eqD (mR 4) (mD (ret (.int 1))))) (ret []))))))) (ret []))))))) mNil) mNil) (mSeq (mIfS (bnd (mOp eqD (mR 4) (mD (ret (.int 2)))) asB) (mSeq (mRet (mTup (mConsD (ret (.str (Str.ofString "within"))) (mConsD (mOp addD (mD (ret (.int 1))) (mD (mCall s__law_take [] (mCons (mR 0) (mCons (mD (mOp mulD (mD (ret (.int 2))) (mR 3))) (ret [])))))) (mConsD (mCall ih [] (mCons (mR 0) (mCons (mD (mOp subD (mR 1) (mD (ret (.int 1))))) (mCons (mR 2) (mCons (mR 3) (ret [])))))) (ret [])))))) mNil) mNil) (mSeq (mIfS (bnd (mOp eqD (mR 4) (mD (ret (.int 3)))) asB) (mSeq (mRet (mTup (mConsD (ret (.str (Str.ofString "calls"))) (mConsD (mOp addD (mD (ret (.int 1))) (mD (mCall s__law_take [] (mCons (mR 0) (mCons (mD (ret (.int 3))) (ret [])))))) (mConsD (mCall ih [] (mCons (mR 0) (mCons (mD (mOp subD (mR 1) (mD (ret (.int 1))))) (mCons (mR 2) (mCons (mR 3) (ret [])))))) (ret [])))))) mNil) mNil) (mSeq (mSet (gN 5) (lc__law_right_1 ih)) (mSeq (mRet (mTup (mConsD (mOp ixD (mD (mLst (mConsD (ret (.str (Str.ofString "all"))) (mConsD (ret (.str (Str.ofString "one"))) (mConsD (ret (.str (Str.ofString "all"))) (ret [])))))) (mD (mOp subD (mR 4) (mD (ret (.int 4)))))) (mConsD (mB tupleF (mCons (mR 5) (ret []))) (ret []))))) mNil)))))))
noncomputable def s__law_right : Nat → M Sl
  | 0 => stuck
  | n + 1 => mFn [4, 5] 3 (m__law_right (s__law_right n))
theorem r__law_right (n : Nat) : s__law_right (n + 1) = mFn [4, 5] 3 (m__law_right (s__law_right n)) := rfl
end Lw
namespace Lw
open PySem L2 Bt
noncomputable def lc_k64_within_by_1 : M D := (mLc2 (mIt (mV 1)) (gN 4) (ret true) (mRng1 (mCons (mD (mOp addD (mR 3) (mD (ret (.int 1))))) (ret []))) (gN 5) (ret true) (mOp addD (mR 4) (mD (mOp mulD (mD (mTup (mConsD (mTup (mConsD (mV 2) (mConsD (mV 5) (ret [])))) (ret [])))) (mD (mB intF (mCons (mD (mOp gtD (mR 5) (mD (ret (.int 0))))) (ret []))))))) [4, 5] [5])
noncomputable def lp_k64_within_by_1 : M Fl := (mSeq (mSet (gN 1) lc_k64_within_by_1) mNil)
noncomputable def fr_k64_within_by_1 : M Fl := (mFor [2, 3] (mIt (mV 0)) (gTupM 2 (gConsM (gN 2) (gConsM (gN 3) gNilM))) lp_k64_within_by_1)
noncomputable def m_k64_within_by : M Fl := (mSeq (mSet (gN 1) (mLst (mConsD (mTup (ret [])) (ret [])))) (mSeq fr_k64_within_by_1 (mSeq (mRet (mB sortedF (mCons (mR 1) (ret [])))) mNil)))
noncomputable def s_k64_within_by : M Sl := mFn [1, 2, 3] 5 m_k64_within_by
noncomputable def lp_k64_can_part_1 : M Fl := (mSeq (mAugM 3 (mOp addD (mR 6) (mD (ret (.int 1))))) mNil)
noncomputable def fr_k64_can_part_1 : M Fl := (mFor [5, 6] (mIt (mV 0)) (gTupM 2 (gConsM (gN 5) (gConsM (gN 6) gNilM))) lp_k64_can_part_1)
noncomputable def lp_k64_can_part_2 : M Fl := (mSeq (mSet (gN 7) (mCall s_take_by [] (mCons (mR 0) (mCons (mR 4) (ret []))))) (mSeq (mIfS (mAnd (bnd (mCall s_is_served [] (mCons (mR 4) (mCons (mR 2) (ret [])))) asB) (bnd (mCall s_is_served [] (mCons (mR 7) (mCons (mR 1) (ret [])))) asB)) (mSeq (mRet (mTup (mConsD (mV 7) (mConsD (mV 4) (ret []))))) mNil) mNil) mNil))
noncomputable def fr_k64_can_part_2 : M Fl := (mFor [4, 7] (mIt (mCall s_k64_within_by [] (mCons (mR 0) (ret [])))) (gN 4) lp_k64_can_part_2)
noncomputable def m_k64_can_part : M Fl := (mSeq (mExpr (mCall s_look_at_pile [] (mCons (mR 0) (ret [])))) (mSeq (mExpr (mCall s_look_at_right [] (mCons (mR 1) (ret [])))) (mSeq (mExpr (mCall s_look_at_right [] (mCons (mR 2) (ret [])))) (mSeq (mExpr (mCall s_look_at_small [] (mCons (mR 0) (ret [])))) (mSeq (mSet (gN 3) (ret (.int 1))) (mSeq fr_k64_can_part_1 (mSeq (mIfS (bnd (mOp gtD (mR 3) (mD (ret (.int 2000)))) asB) (mSeq (mRaise0 7) mNil) mNil) (mSeq fr_k64_can_part_2 (mSeq (mRet (ret .none)) mNil)))))))))
noncomputable def s_k64_can_part : M Sl := mFn [3, 4, 5, 6, 7] 5 m_k64_can_part
noncomputable def lc_k64__law_left_1 : M D := (mLc (mIt (mV 0)) (gTupM 2 (gConsM (gN 4) (gConsM (gN 5) gNilM))) (ret true) (mTup (mConsD (mV 4) (mConsD (mOp subD (mR 5) (mD (mDGet2 2 (mR 4) (ret (.int 0))))) (ret [])))) [4, 5])
noncomputable def lc_k64__law_left_2 : M D := (mLc (mIt (mV 3)) (gN 6) (bnd (mOp gtD (mD (mOp ixD (mR 6) (mD (ret (.int 1))))) (mD (ret (.int 0)))) asB) (mV 6) [6])
noncomputable def m_k64__law_left : M Fl := (mSeq (mOwnO 2 (mDict (mR 1))) (mSeq (mSet (gN 3) lc_k64__law_left_1) (mSeq (mRet (mB tupleF (mCons (mD lc_k64__law_left_2) (ret [])))) mNil)))
noncomputable def s_k64__law_left : M Sl := mFn [2, 3] 5 m_k64__law_left
noncomputable def lp_k64__law_within_1 : M Fl := (mSeq (mApp 4 (mOp addD (mR 5) (mD (mOp mulD (mD (mTup (mConsD (mTup (mConsD (mV 2) (mConsD (mV 6) (ret [])))) (ret [])))) (mD (mB intF (mCons (mD (mOp gtD (mR 6) (mD (ret (.int 0))))) (ret [])))))))) mNil)
noncomputable def fr_k64__law_within_1 : M Fl := (mFor [6] (mRng1 (mCons (mD (mOp addD (mR 3) (mD (ret (.int 1))))) (ret []))) (gN 6) lp_k64__law_within_1)
noncomputable def lp_k64__law_within_2 : M Fl := (mSeq fr_k64__law_within_1 mNil)
noncomputable def fr_k64__law_within_2 : M Fl := (mFor [5, 6] (mIt (mV 1)) (gN 5) lp_k64__law_within_2)
noncomputable def lp_k64__law_within_3 : M Fl := (mSeq (mOwn 4 (mLstF (ret []))) (mSeq fr_k64__law_within_2 (mSeq (mSet (gN 1) (mFrz 4)) mNil)))
noncomputable def fr_k64__law_within_3 : M Fl := (mFor [2, 3, 4, 5, 6] (mIt (mV 0)) (gTupM 2 (gConsM (gN 2) (gConsM (gN 3) gNilM))) lp_k64__law_within_3)
noncomputable def m_k64__law_within : M Fl := (mSeq (mSet (gN 1) (mLst (mConsD (mTup (ret [])) (ret [])))) (mSeq fr_k64__law_within_3 (mSeq (mRet (mB sortedF (mCons (mR 1) (ret [])))) mNil)))
noncomputable def s_k64__law_within : M Sl := mFn [1, 2, 3, 4, 5, 6] 6 m_k64__law_within
noncomputable def lp_k64__law_due_1 : M Fl := (mSeq (mSet (gN 4) (mCall s_k64__law_left [] (mCons (mR 0) (mCons (mR 3) (ret []))))) (mSeq (mIfS (mAnd (bnd (mCall s__law_holds [] (mCons (mR 3) (mCons (mR 2) (ret [])))) asB) (bnd (mCall s__law_holds [] (mCons (mR 4) (mCons (mR 1) (ret [])))) asB)) (mSeq (mRet (mTup (mConsD (mV 4) (mConsD (mV 3) (ret []))))) mNil) mNil) mNil))
noncomputable def fr_k64__law_due_1 : M Fl := (mFor [3, 4] (mIt (mCall s_k64__law_within [] (mCons (mR 0) (ret [])))) (gN 3) lp_k64__law_due_1)
noncomputable def m_k64__law_due : M Fl := (mSeq fr_k64__law_due_1 (mSeq (mRet (ret .none)) mNil))
noncomputable def s_k64__law_due : M Sl := mFn [3, 4] 2 m_k64__law_due
noncomputable def tb_k64__law_refused_1 : M Fl := (mSeq (mExpr (mCall s_k64_can_part [] (mCons (mR 0) (mCons (mR 1) (mCons (mD (mTup (mConsD (ret (.str (Str.ofString "none"))) (ret [])))) (ret [])))))) mNil)
noncomputable def m_k64__law_refused : M Fl := (mSeq (mTry0 7 tb_k64__law_refused_1 (mSeq (mRet (ret (.bool true))) mNil)) (mSeq (mRet (ret (.bool false))) mNil))
noncomputable def s_k64__law_refused : M Sl := mFn [] 0 m_k64__law_refused
noncomputable def m_k64__law_great : M Fl := (mSeq (mRet (mAndV (mCall s_k64__law_refused [] (mCons (mR 0) (mCons (mD (mTup (mConsD (ret (.str (Str.ofString "none"))) (ret [])))) (ret [])))) (mCall s_k64__law_refused [] (mCons (mR 0) (mCons (mD (mTup (mConsD (ret (.str (Str.ofString "call"))) (mConsD (ret (.str (Str.ofString "a"))) (mConsD (mOp powD (mD (ret (.int 10))) (mD (ret (.int 9)))) (mConsD (ret (.int 1)) (ret []))))))) (ret [])))))) mNil)
noncomputable def s_k64__law_great : M Sl := mFn [] 0 m_k64__law_great
noncomputable def lc_k64_law_1 : M D := (mLc (mRng1 (mCons (mD (mCall s__law_take [] (mCons (mR 6) (mCons (mD (ret (.int 6))) (ret []))))) (ret []))) (gN 14) (ret true) (mOp addD (mD (ret (.int 1))) (mD (mCall s__law_take [] (mCons (mR 6) (mCons (mD (ret (.int 5))) (ret [])))))) [14])
noncomputable def lp_k64_law_1 : M Fl := (mSeq (mSet (gN 8) (mCallN (s__law_right 30) [] (mCons (mR 6) (mCons (mD (ret (.int 2))) (mNewA (mBF lstT (mCons (mD (ret (.str (Str.ofString "ab")))) (ret []))) (mCons (mD (mOp ixD (mD (mLst (mConsD (ret (.int 2)) (mConsD (ret (.int 4)) (ret []))))) (mD (mCall s__law_take [] (mCons (mR 6) (mCons (mD (ret (.int 2))) (ret []))))))) (ret []))))))) (mSeq (mSet (gN 9) (mCallN (s__law_right 30) [] (mCons (mR 6) (mCons (mD (ret (.int 2))) (mNewA (mBF lstT (mCons (mD (ret (.str (Str.ofString "cd")))) (ret []))) (mCons (mD (mOp ixD (mD (mLst (mConsD (ret (.int 2)) (mConsD (ret (.int 4)) (ret []))))) (mD (mCall s__law_take [] (mCons (mR 6) (mCons (mD (ret (.int 2))) (ret []))))))) (ret []))))))) (mSeq (mSet (gN 10) (mOp addD (mD (mOp mulD (mD (mLst (mConsD (ret (.int 1)) (ret [])))) (mD (mCall s__law_take [] (mCons (mR 6) (mCons (mD (ret (.int 5))) (ret []))))))) (mD lc_k64_law_1))) (mSeq (mSet (gN 11) (mCall s__law_heap [] (mCons (mR 10) (ret [])))) (mSeq (mSet (gN 12) (mCall s__law_take [] (mCons (mR 6) (mCons (mD (ret (.int 5))) (ret []))))) (mSeq (mIfS (bnd (mOp eqD (mR 12) (mD (ret (.int 0)))) asB) (mSeq (mSet (gN 9) (mOp ixD (mD (mLst (mConsD (mTup (mConsD (ret (.str (Str.ofString "none"))) (ret []))) (mConsD (mTup (mConsD (ret (.str (Str.ofString "all"))) (mConsD (mTup (ret [])) (ret [])))) (mConsD (mTup (mConsD (ret (.str (Str.ofString "within"))) (mConsD (ret (.int 3)) (mConsD (mTup (mConsD (ret (.str (Str.ofString "none"))) (ret []))) (ret []))))) (ret [])))))) (mD (mCall s__law_take [] (mCons (mR 6) (mCons (mD (ret (.int 3))) (ret []))))))) mNil) mNil) (mSeq (mIfS (bnd (mOp eqD (mR 12) (mD (ret (.int 1)))) asB) (mSeq (mSet (gN 8) (mTup (mConsD (ret (.str (Str.ofString "within"))) (mConsD (mOp powD (mD (ret (.int 10))) (mD (ret (.int 9)))) (mConsD (mV 8) (ret [])))))) mNil) mNil) (mSeq (mIfS (bnd (mOp neD (mD (mCall s_k64_can_part [] (mCons (mR 11) (mCons (mR 8) (mCons (mR 9) (ret [])))))) (mD (mCall s_k64__law_due [] (mCons (mR 11) (mCons (mR 8) (mCons (mR 9) (ret []))))))) asB) (mSeq (mRet (ret (.bool false))) mNil) mNil) mNil))))))))
noncomputable def fr_k64_law_1 : M Fl := (mFor [7, 8, 9, 10, 11, 12] (mRng1 (mCons (mD (ret (.int 3))) (ret []))) (gN 7) lp_k64_law_1)
noncomputable def lp_k64_law_2 : M Fl := (mSeq (mOwn 6 (mLstF (mConsD (mCall s__law_cell [] (mCons (mR 0) (mCons (mR 1) (ret [])))) (ret [])))) (mSeq fr_k64_law_1 mNil))
noncomputable def fr_k64_law_2 : M Fl := (mFor [1, 6, 7, 8, 9, 10, 11, 12] (mRng1 (mCons (mD (mB maxF (mCons (mD (mB minF (mCons (mD (mLenScr 0)) (mCons (mD (ret (.int 5))) (ret []))))) (mCons (mD (ret (.int 1))) (ret []))))) (ret []))) (gN 1) lp_k64_law_2)
noncomputable def lc_k64_law_2 : M D := (mLc (mRng2 (mCons (mD (ret (.int 1))) (mCons (mD (ret (.int 12))) (ret [])))) (gN 13) (ret true) (mTup (mConsD (mV 13) (mConsD (ret (.int 1)) (ret [])))) [13])
noncomputable def lc_k64_law_3 : M D := (mLc (mIt (mV 3)) (gN 11) (ret true) (mCall s_k64__law_great [] (mCons (mR 11) (ret []))) [11])
noncomputable def m_k64_law : M Fl := (mSeq fr_k64_law_2 (mSeq (mSet (gN 2) (mTup (mConsD (ret (.str (Str.ofString "call"))) (mConsD (ret (.str (Str.ofString "a"))) (mConsD (ret (.int 2)) (mConsD (ret (.int 1)) (ret []))))))) (mSeq (mIfS (bnd (mOp isntD (mD (mCall s_k64_can_part [] (mCons (mD (mTup (mConsD (mTup (mConsD (ret (.int 1)) (mConsD (ret (.int 2)) (ret [])))) (mConsD (mTup (mConsD (ret (.int 2)) (mConsD (ret (.int 1)) (ret [])))) (ret []))))) (mCons (mR 2) (mCons (mD (mTup (mConsD (ret (.str (Str.ofString "call"))) (mConsD (ret (.str (Str.ofString "b"))) (mConsD (ret (.int 2)) (mConsD (ret (.int 1)) (ret []))))))) (ret [])))))) (mD (ret .none))) asB) (mSeq (mRet (ret (.bool false))) mNil) mNil) (mSeq (mIfS (mOr (mNot (bnd (mCall s__law_holds [] (mCons (mD (mTup (mConsD (mTup (mConsD (ret (.int 1)) (mConsD (ret (.int 2)) (ret [])))) (mConsD (mTup (mConsD (ret (.int 2)) (mConsD (ret (.int 1)) (ret [])))) (ret []))))) (mCons (mD (mTup (mConsD (ret (.str (Str.ofString "all"))) (mConsD (mTup (mConsD (mV 2) (mConsD (mTup (mConsD (ret (.str (Str.ofString "call"))) (mConsD (ret (.str (Str.ofString "b"))) (mConsD (ret (.int 2)) (mConsD (ret (.int 1)) (ret [])))))) (ret [])))) (ret []))))) (ret [])))) asB)) (bnd (mOp isntD (mD (mCall s_k64_can_part [] (mCons (mD (mTup (ret []))) (mCons (mR 2) (mCons (mR 2) (ret [])))))) (mD (ret .none))) asB)) (mSeq (mRet (ret (.bool false))) mNil) mNil) (mSeq (mSet (gN 3) (mLst (mConsD (mB tupleF (mCons (mD lc_k64_law_2) (ret []))) (mConsD (mTup (mConsD (mTup (mConsD (ret (.int 1)) (mConsD (ret (.int 201)) (ret [])))) (ret []))) (ret []))))) (mSeq (mSet (gN 4) (mTup (mConsD (mTup (mConsD (ret (.int 1)) (mConsD (ret (.int 22)) (ret [])))) (mConsD (mTup (mConsD (ret (.int 2)) (mConsD (ret (.int 11)) (ret [])))) (mConsD (mTup (mConsD (ret (.int 3)) (mConsD (ret (.int 7)) (ret [])))) (mConsD (mTup (mConsD (ret (.int 4)) (mConsD (ret (.int 5)) (ret [])))) (mConsD (mTup (mConsD (ret (.int 5)) (mConsD (ret (.int 4)) (ret [])))) (mConsD (mTup (mConsD (ret (.int 6)) (mConsD (ret (.int 3)) (ret [])))) (mConsD (mTup (mConsD (ret (.int 7)) (mConsD (ret (.int 2)) (ret [])))) (mConsD (mTup (mConsD (ret (.int 8)) (mConsD (ret (.int 2)) (ret [])))) (mConsD (mTup (mConsD (ret (.int 9)) (mConsD (ret (.int 2)) (ret [])))) (mConsD (mTup (mConsD (ret (.int 10)) (mConsD (ret (.int 1)) (ret [])))) (mConsD (mTup (mConsD (ret (.int 11)) (mConsD (ret (.int 1)) (ret [])))) (ret [])))))))))))))) (mSeq (mIfS (mOr (mNot (bnd (mCall s_k64__law_great [] (mCons (mR 4) (ret []))) asB)) (bnd (mOp isntD (mD (mCall s_k64_can_part [] (mCons (mD (mTup (mConsD (mTup (mConsD (ret (.int 1)) (mConsD (ret (.int 2)) (ret [])))) (mConsD (mTup (mConsD (ret (.int 2)) (mConsD (ret (.int 1)) (ret [])))) (ret []))))) (mCons (mD (mTup (mConsD (ret (.str (Str.ofString "call"))) (mConsD (ret (.str (Str.ofString "a"))) (mConsD (ret (.int 201)) (mConsD (ret (.int 1)) (ret []))))))) (mCons (mR 2) (ret [])))))) (mD (ret .none))) asB)) (mSeq (mRet (ret (.bool false))) mNil) mNil) (mSeq (mIfS (bnd (mOp neD (mD (mCall s_k64_can_part [] (mCons (mD (mTup (mConsD (mTup (mConsD (ret (.int 1)) (mConsD (ret (.int 1)) (ret [])))) (ret [])))) (mCons (mD (mTup (mConsD (ret (.str (Str.ofString "call"))) (mConsD (ret (.str (Str.ofString "a"))) (mConsD (ret (.int 1)) (mConsD (ret (.int 1)) (ret []))))))) (mCons (mD (mTup (mConsD (ret (.str (Str.ofString "none"))) (ret [])))) (ret [])))))) (mD (mTup (mConsD (mTup (mConsD (mTup (mConsD (ret (.int 1)) (mConsD (ret (.int 1)) (ret [])))) (ret []))) (mConsD (mTup (ret [])) (ret [])))))) asB) (mSeq (mRet (ret (.bool false))) mNil) mNil) (mSeq (mIfS (mOr (bnd (mOp neD (mD (mCall s_k64_can_part [] (mCons (mD (mTup (ret []))) (mCons (mD (mTup (mConsD (ret (.str (Str.ofString "none"))) (ret [])))) (mCons (mD (mTup (mConsD (ret (.str (Str.ofString "none"))) (ret [])))) (ret [])))))) (mD (mTup (mConsD (mTup (ret [])) (mConsD (mTup (ret [])) (ret [])))))) asB) (bnd (mCall s_k64__law_refused [] (mCons (mD (mTup (mConsD (mTup (mConsD (ret (.int 1)) (mConsD (ret (.int 200)) (ret [])))) (ret [])))) (mCons (mD (mTup (mConsD (ret (.str (Str.ofString "none"))) (ret [])))) (ret [])))) asB)) (mSeq (mRet (ret (.bool false))) mNil) mNil) (mSeq (mSet (gN 5) (mTup (mConsD (mTup (mConsD (ret (.int 1)) (mConsD (ret (.int 4)) (ret [])))) (mConsD (mTup (mConsD (ret (.int 2)) (mConsD (ret (.int 4)) (ret [])))) (mConsD (mTup (mConsD (ret (.int 3)) (mConsD (ret (.int 4)) (ret [])))) (mConsD (mTup (mConsD (ret (.int 4)) (mConsD (ret (.int 1)) (ret [])))) (mConsD (mTup (mConsD (ret (.int 5)) (mConsD (ret (.int 1)) (ret [])))) (mConsD (mTup (mConsD (ret (.int 6)) (mConsD (ret (.int 1)) (ret [])))) (mConsD (mTup (mConsD (ret (.int 7)) (mConsD (ret (.int 1)) (ret [])))) (ret [])))))))))) (mSeq (mRet (mAndV (mB allF (mCons (mD lc_k64_law_3) (ret []))) (mNotV (mCall s_k64__law_refused [] (mCons (mR 5) (mCons (mD (mTup (mConsD (ret (.str (Str.ofString "none"))) (ret [])))) (ret []))))))) mNil)))))))))))
noncomputable def s_k64_law : M Sl := mFn [1, 2, 3, 4, 5, 6, 7, 8, 9, 10, 11, 12] 14 m_k64_law
end Lw
namespace Lw
open PySem L2 Bt
def topS (i : Nat) : Stmt := PySem.Challenge.pw_blindtill_k64_what_can_be_parted.main.body.getD i (.Pass ⟨0, 0, 0, 0⟩)
def clsS (i : Nat) : Stmt := match topS i with
  | .ClassDef _ _ _ b _ _ _ _ _ _ _ => b.getD 0 (.Pass ⟨0, 0, 0, 0⟩)
  | _ => .Pass ⟨0, 0, 0, 0⟩
abbrev tx_NoCoins : Stmt := clsS 5
theorem scx_NoCoins : FnScope ["self", "worth"] ["self", "worth"] (defScope tx_NoCoins) := ⟨rfl, rfl, rfl, by decide +kernel, rfl, by decide +kernel, by decide +kernel⟩
abbrev t_is_from : Stmt := topS 8
abbrev N_is_from : List Str := ["thing", "least"]
theorem sc_is_from : FnScope N_is_from ["thing", "least"] (defScope t_is_from) := ⟨rfl, rfl, rfl, by decide +kernel, rfl, by decide +kernel, by decide +kernel⟩
abbrev t_is_lot : Stmt := topS 9
abbrev N_is_lot : List Str := ["thing"]
theorem sc_is_lot : FnScope N_is_lot ["thing"] (defScope t_is_lot) := ⟨rfl, rfl, rfl, by decide +kernel, rfl, by decide +kernel, by decide +kernel⟩
abbrev t_is_pile : Stmt := topS 10
abbrev N_is_pile : List Str := ["thing", "one", "other", "lot"]
theorem sc_is_pile : FnScope N_is_pile ["thing"] (defScope t_is_pile) := ⟨rfl, rfl, rfl, by decide +kernel, rfl, by decide +kernel, by decide +kernel⟩
abbrev t_look_at_pile : Stmt := topS 11
abbrev N_look_at_pile : List Str := ["thing"]
theorem sc_look_at_pile : FnScope N_look_at_pile ["thing"] (defScope t_look_at_pile) := ⟨rfl, rfl, rfl, by decide +kernel, rfl, by decide +kernel, by decide +kernel⟩
abbrev t_sum_of : Stmt := topS 12
abbrev N_sum_of : List Str := ["pile", "worth", "many"]
theorem sc_sum_of : FnScope N_sum_of ["pile"] (defScope t_sum_of) := ⟨rfl, rfl, rfl, by decide +kernel, rfl, by decide +kernel, by decide +kernel⟩
abbrev t_less_of : Stmt := topS 13
abbrev N_less_of : List Str := ["pile", "worth", "one", "many"]
theorem sc_less_of : FnScope N_less_of ["pile", "worth"] (defScope t_less_of) := ⟨rfl, rfl, rfl, by decide +kernel, rfl, by decide +kernel, by decide +kernel⟩
abbrev t_look_at_small : Stmt := topS 14
abbrev N_look_at_small : List Str := ["pile"]
theorem sc_look_at_small : FnScope N_look_at_small ["pile"] (defScope t_look_at_small) := ⟨rfl, rfl, rfl, by decide +kernel, rfl, by decide +kernel, by decide +kernel⟩
abbrev t_from_counts : Stmt := topS 15
abbrev N_from_counts : List Str := ["counts", "worth"]
theorem sc_from_counts : FnScope N_from_counts ["counts"] (defScope t_from_counts) := ⟨rfl, rfl, rfl, by decide +kernel, rfl, by decide +kernel, by decide +kernel⟩
abbrev t_take_by : Stmt := topS 16
abbrev N_take_by : List Str := ["pile", "other", "counts", "worth", "many"]
theorem sc_take_by : FnScope N_take_by ["pile", "other"] (defScope t_take_by) := ⟨rfl, rfl, rfl, by decide +kernel, rfl, by decide +kernel, by decide +kernel⟩
abbrev t_is_name : Stmt := topS 23
abbrev N_is_name : List Str := ["thing", "letter"]
theorem sc_is_name : FnScope N_is_name ["thing"] (defScope t_is_name) := ⟨rfl, rfl, rfl, by decide +kernel, rfl, by decide +kernel, by decide +kernel⟩
abbrev t_parts_in : Stmt := topS 24
abbrev N_parts_in : List Str := ["right"]
theorem sc_parts_in : FnScope N_parts_in ["right"] (defScope t_parts_in) := ⟨rfl, rfl, rfl, by decide +kernel, rfl, by decide +kernel, by decide +kernel⟩
abbrev t_is_form : Stmt := topS 25
abbrev N_is_form : List Str := ["thing", "deep", "word", "rest", "right"]
theorem sc_is_form : FnScope N_is_form ["thing", "deep"] (defScope t_is_form) := ⟨rfl, rfl, rfl, by decide +kernel, rfl, by decide +kernel, by decide +kernel⟩
abbrev t_calls_in : Stmt := topS 26
abbrev N_calls_in : List Str := ["right", "part", "call"]
theorem sc_calls_in : FnScope N_calls_in ["right"] (defScope t_calls_in) := ⟨rfl, rfl, rfl, by decide +kernel, rfl, by decide +kernel, by decide +kernel⟩
abbrev t_names_in : Stmt := topS 27
abbrev N_names_in : List Str := ["right", "word", "name", "most", "times"]
theorem sc_names_in : FnScope N_names_in ["right"] (defScope t_names_in) := ⟨rfl, rfl, rfl, by decide +kernel, rfl, by decide +kernel, by decide +kernel⟩
abbrev t_is_right : Stmt := topS 28
abbrev N_is_right : List Str := ["thing", "known", "name"]
theorem sc_is_right : FnScope N_is_right ["thing"] (defScope t_is_right) := ⟨rfl, rfl, rfl, by decide +kernel, rfl, by decide +kernel, by decide +kernel⟩
abbrev t_look_at_right : Stmt := topS 29
abbrev N_look_at_right : List Str := ["thing"]
theorem sc_look_at_right : FnScope N_look_at_right ["thing"] (defScope t_look_at_right) := ⟨rfl, rfl, rfl, by decide +kernel, rfl, by decide +kernel, by decide +kernel⟩
abbrev t_cut_at : Stmt := topS 31
abbrev N_cut_at : List Str := ["most", "below"]
theorem sc_cut_at : FnScope N_cut_at ["most", "below"] (defScope t_cut_at) := ⟨rfl, rfl, rfl, by decide +kernel, rfl, by decide +kernel, by decide +kernel⟩
abbrev t_longest_of : Stmt := topS 32
abbrev N_longest_of : List Str := ["right", "counts", "word", "rest", "part"]
theorem sc_longest_of : FnScope N_longest_of ["right"] (defScope t_longest_of) := ⟨rfl, rfl, rfl, by decide +kernel, rfl, by decide +kernel, by decide +kernel⟩
abbrev t_shared_out : Stmt := topS 33
abbrev N_shared_out : List Str := ["one", "other", "calls", "j", "i"]
theorem sc_shared_out : FnScope N_shared_out ["one", "other", "calls"] (defScope t_shared_out) := ⟨rfl, rfl, rfl, by decide +kernel, rfl, by decide +kernel, by decide +kernel⟩
abbrev t_row_of : Stmt := topS 34
abbrev N_row_of : List Str := ["right", "below", "calls", "found", "part", "word", "row", "rest", "j", "pair"]
theorem sc_row_of : FnScope N_row_of ["right", "below", "calls"] (defScope t_row_of) := ⟨rfl, rfl, rfl, by decide +kernel, rfl, by decide +kernel, by decide +kernel⟩
abbrev t_most_of : Stmt := topS 35
abbrev N_most_of : List Str := ["right", "below", "sums", "word", "rest", "part"]
theorem sc_most_of : FnScope N_most_of ["right", "below"] (defScope t_most_of) := ⟨rfl, rfl, rfl, by decide +kernel, rfl, by decide +kernel, by decide +kernel⟩
abbrev t_bounds_of : Stmt := topS 37
abbrev N_bounds_of : List Str := ["pile", "found", "worth", "many"]
theorem sc_bounds_of : FnScope N_bounds_of ["pile"] (defScope t_bounds_of) := ⟨rfl, rfl, rfl, by decide +kernel, rfl, by decide +kernel, by decide +kernel⟩
abbrev t_failing : Stmt := topS 38
abbrev N_failing : List Str := ["pile", "right", "below", "there"]
theorem sc_failing : FnScope N_failing ["pile", "right"] (defScope t_failing) := ⟨rfl, rfl, rfl, by decide +kernel, rfl, by decide +kernel, by decide +kernel⟩
abbrev t_is_served : Stmt := topS 39
abbrev N_is_served : List Str := ["pile", "right"]
theorem sc_is_served : FnScope N_is_served ["pile", "right"] (defScope t_is_served) := ⟨rfl, rfl, rfl, by decide +kernel, rfl, by decide +kernel, by decide +kernel⟩
abbrev t_within_by : Stmt := topS 42
abbrev N_within_by : List Str := ["pile", "found", "worth", "many", "one", "often"]
theorem sc_within_by : FnScope N_within_by ["pile"] (defScope t_within_by) := ⟨rfl, rfl, rfl, by decide +kernel, rfl, by decide +kernel, by decide +kernel⟩
abbrev t_can_part : Stmt := topS 43
abbrev N_can_part : List Str := ["pile", "one", "other", "ways", "second", "worth", "many", "first"]
theorem sc_can_part : FnScope N_can_part ["pile", "one", "other"] (defScope t_can_part) := ⟨rfl, rfl, rfl, by decide +kernel, rfl, by decide +kernel, by decide +kernel⟩
abbrev t__law_mixed : Stmt := topS 45
abbrev N__law_mixed : List Str := ["_law_cell_here", "_law_k", "_law_mix"]
theorem sc__law_mixed : FnScope N__law_mixed ["_law_cell_here", "_law_k"] (defScope t__law_mixed) := ⟨rfl, rfl, rfl, by decide +kernel, rfl, by decide +kernel, by decide +kernel⟩
abbrev t__law_cell : Stmt := topS 46
abbrev N__law_cell : List Str := ["_law_script", "_law_k", "_law_cell_here", "_law_found", "_law_j"]
theorem sc__law_cell : FnScope N__law_cell ["_law_script", "_law_k"] (defScope t__law_cell) := ⟨rfl, rfl, rfl, by decide +kernel, rfl, by decide +kernel, by decide +kernel⟩
abbrev t__law_take : Stmt := topS 47
abbrev N__law_take : List Str := ["_law_pile", "_law_size", "_law_digit"]
theorem sc__law_take : FnScope N__law_take ["_law_pile", "_law_size"] (defScope t__law_take) := ⟨rfl, rfl, rfl, by decide +kernel, rfl, by decide +kernel, by decide +kernel⟩
abbrev t__law_sum : Stmt := topS 48
abbrev N__law_sum : List Str := ["_law_pile", "_law_worth", "_law_many"]
theorem sc__law_sum : FnScope N__law_sum ["_law_pile"] (defScope t__law_sum) := ⟨rfl, rfl, rfl, by decide +kernel, rfl, by decide +kernel, by decide +kernel⟩
abbrev t__law_under : Stmt := topS 49
abbrev N__law_under : List Str := ["_law_pile", "_law_bound", "_law_worth", "_law_many"]
theorem sc__law_under : FnScope N__law_under ["_law_pile", "_law_bound"] (defScope t__law_under) := ⟨rfl, rfl, rfl, by decide +kernel, rfl, by decide +kernel, by decide +kernel⟩
abbrev t__law_heap : Stmt := topS 50
abbrev N__law_heap : List Str := ["_law_coins_here", "_law_found", "_law_coin"]
theorem sc__law_heap : FnScope N__law_heap ["_law_coins_here"] (defScope t__law_heap) := ⟨rfl, rfl, rfl, by decide +kernel, rfl, by decide +kernel, by decide +kernel⟩
abbrev t__law_length : Stmt := topS 52
abbrev N__law_length : List Str := ["_law_right_here", "_law_word", "_law_counts", "_law_part"]
theorem sc__law_length : FnScope N__law_length ["_law_right_here"] (defScope t__law_length) := ⟨rfl, rfl, rfl, by decide +kernel, rfl, by decide +kernel, by decide +kernel⟩
abbrev t__law_row : Stmt := topS 53
abbrev N__law_row : List Str := ["_law_right_here", "_law_bound", "_law_many", "_law_word", "_law_found", "_law_part", "_law_cut", "_law_row_here", "_law_j", "_law_one", "_law_pair", "_law_i"]
theorem sc__law_row : FnScope N__law_row ["_law_right_here", "_law_bound", "_law_many"] (defScope t__law_row) := ⟨rfl, rfl, rfl, by decide +kernel, rfl, by decide +kernel, by decide +kernel⟩
abbrev t__law_top : Stmt := topS 54
abbrev N__law_top : List Str := ["_law_right_here", "_law_bound", "_law_word", "_law_tops", "_law_part"]
theorem sc__law_top : FnScope N__law_top ["_law_right_here", "_law_bound"] (defScope t__law_top) := ⟨rfl, rfl, rfl, by decide +kernel, rfl, by decide +kernel, by decide +kernel⟩
abbrev t__law_holds : Stmt := topS 55
abbrev N__law_holds : List Str := ["_law_pile", "_law_right_here", "_law_worth", "_law_many"]
theorem sc__law_holds : FnScope N__law_holds ["_law_pile", "_law_right_here"] (defScope t__law_holds) := ⟨rfl, rfl, rfl, by decide +kernel, rfl, by decide +kernel, by decide +kernel⟩
abbrev t__law_right : Stmt := topS 56
abbrev N__law_right : List Str := ["_law_digits", "_law_deep", "_law_spare", "_law_size", "_law_way", "_law_parts", "_law_k"]
theorem sc__law_right : FnScope N__law_right ["_law_digits", "_law_deep", "_law_spare", "_law_size"] (defScope t__law_right) := ⟨rfl, rfl, rfl, by decide +kernel, rfl, by decide +kernel, by decide +kernel⟩
abbrev t__law_left : Stmt := topS 57
abbrev N__law_left : List Str := ["_law_pile", "_law_paying", "_law_gone", "_law_found", "_law_worth", "_law_many", "_law_lot"]
theorem sc__law_left : FnScope N__law_left ["_law_pile", "_law_paying"] (defScope t__law_left) := ⟨rfl, rfl, rfl, by decide +kernel, rfl, by decide +kernel, by decide +kernel⟩
abbrev t__law_within : Stmt := topS 58
abbrev N__law_within : List Str := ["_law_pile", "_law_found", "_law_worth", "_law_many", "_law_longer", "_law_one", "_law_often"]
theorem sc__law_within : FnScope N__law_within ["_law_pile"] (defScope t__law_within) := ⟨rfl, rfl, rfl, by decide +kernel, rfl, by decide +kernel, by decide +kernel⟩
abbrev t__law_due : Stmt := topS 59
abbrev N__law_due : List Str := ["_law_pile", "_law_one", "_law_other", "_law_second", "_law_first"]
theorem sc__law_due : FnScope N__law_due ["_law_pile", "_law_one", "_law_other"] (defScope t__law_due) := ⟨rfl, rfl, rfl, by decide +kernel, rfl, by decide +kernel, by decide +kernel⟩
abbrev t__law_refused : Stmt := topS 60
abbrev N__law_refused : List Str := ["_law_pile", "_law_one"]
theorem sc__law_refused : FnScope N__law_refused ["_law_pile", "_law_one"] (defScope t__law_refused) := ⟨rfl, rfl, rfl, by decide +kernel, rfl, by decide +kernel, by decide +kernel⟩
abbrev t__law_great : Stmt := topS 61
abbrev N__law_great : List Str := ["_law_pile"]
theorem sc__law_great : FnScope N__law_great ["_law_pile"] (defScope t__law_great) := ⟨rfl, rfl, rfl, by decide +kernel, rfl, by decide +kernel, by decide +kernel⟩
abbrev t_law : Stmt := topS 62
abbrev N_law : List Str := ["_law_script", "_law_turn", "_law_two", "_law_some", "_law_wide", "_law_just", "_law_digits", "_law_k", "_law_one", "_law_other", "_law_coins_here", "_law_pile", "_law_way", "_law_worth", "_law_j"]
theorem sc_law : FnScope N_law ["_law_script"] (defScope t_law) := ⟨rfl, rfl, rfl, by decide +kernel, rfl, by decide +kernel, by decide +kernel⟩
structure Adr where
  f_is_from : Addr
  d_is_from : FuncData
  f_is_lot : Addr
  d_is_lot : FuncData
  f_is_pile : Addr
  d_is_pile : FuncData
  f_look_at_pile : Addr
  d_look_at_pile : FuncData
  f_sum_of : Addr
  d_sum_of : FuncData
  f_less_of : Addr
  d_less_of : FuncData
  f_look_at_small : Addr
  d_look_at_small : FuncData
  f_from_counts : Addr
  d_from_counts : FuncData
  f_take_by : Addr
  d_take_by : FuncData
  f_is_name : Addr
  d_is_name : FuncData
  f_parts_in : Addr
  d_parts_in : FuncData
  f_is_form : Addr
  d_is_form : FuncData
  f_calls_in : Addr
  d_calls_in : FuncData
  f_names_in : Addr
  d_names_in : FuncData
  f_is_right : Addr
  d_is_right : FuncData
  f_look_at_right : Addr
  d_look_at_right : FuncData
  f_cut_at : Addr
  d_cut_at : FuncData
  f_longest_of : Addr
  d_longest_of : FuncData
  f_shared_out : Addr
  d_shared_out : FuncData
  f_row_of : Addr
  d_row_of : FuncData
  f_most_of : Addr
  d_most_of : FuncData
  f_bounds_of : Addr
  d_bounds_of : FuncData
  f_failing : Addr
  d_failing : FuncData
  f_is_served : Addr
  d_is_served : FuncData
  f_within_by : Addr
  d_within_by : FuncData
  f_can_part : Addr
  d_can_part : FuncData
  f__law_mixed : Addr
  d__law_mixed : FuncData
  f__law_cell : Addr
  d__law_cell : FuncData
  f__law_take : Addr
  d__law_take : FuncData
  f__law_sum : Addr
  d__law_sum : FuncData
  f__law_under : Addr
  d__law_under : FuncData
  f__law_heap : Addr
  d__law_heap : FuncData
  f__law_length : Addr
  d__law_length : FuncData
  f__law_row : Addr
  d__law_row : FuncData
  f__law_top : Addr
  d__law_top : FuncData
  f__law_holds : Addr
  d__law_holds : FuncData
  f__law_right : Addr
  d__law_right : FuncData
  f__law_left : Addr
  d__law_left : FuncData
  f__law_within : Addr
  d__law_within : FuncData
  f__law_due : Addr
  d__law_due : FuncData
  f__law_refused : Addr
  d__law_refused : FuncData
  f__law_great : Addr
  d__law_great : FuncData
  f_law : Addr
  d_law : FuncData
  n_FRAMES : Addr
  n_SETS : Addr
  x_NoCoins : Addr
  x_NoPile : Addr
  x_NoRight : Addr
  x_TillError : Addr
  x_TooGreat : Addr
  fx_NoCoins : Addr
  dx_NoCoins : FuncData
structure Fx (K : PySem.W.Frag) (mg : Str → Option Value) (a : Adr) : Prop where
  b_all : mg "all" = none
  b_bool : mg "bool" = none
  b_dict : mg "dict" = none
  b_int : mg "int" = none
  b_isinstance : mg "isinstance" = none
  b_len : mg "len" = none
  b_list : mg "list" = none
  b_max : mg "max" = none
  b_min : mg "min" = none
  b_range : mg "range" = none
  b_sorted : mg "sorted" = none
  b_str : mg "str" = none
  b_sum : mg "sum" = none
  b_tuple : mg "tuple" = none
  b_zip : mg "zip" = none
  c_DEEPEST : ∃ t, mg "DEEPEST" = some (.int 6 t)
  c_FRAMES : GTup K mg "FRAMES" a.n_FRAMES [.str (Str.ofString "within"), .str (Str.ofString "calls")]
  c_LETTERS : ∃ t, mg "LETTERS" = some (.str (Str.ofString "abcdefghijklmnopqrstuvwxyz") t)
  c_LONGEST_NAME : ∃ t, mg "LONGEST_NAME" = some (.int 8 t)
  c_MOST_WITHIN : ∃ t, mg "MOST_WITHIN" = some (.int 2000 t)
  c_SETS : GTup K mg "SETS" a.n_SETS [.str (Str.ofString "all"), .str (Str.ofString "one")]
  c_SMALL : ∃ t, mg "SMALL" = some (.int 200 t)
  x_ok : xAllB K = true
  x_NoCoins : XN K mg "NoCoins" a.x_NoCoins
  x_NoPile : XN K mg "NoPile" a.x_NoPile
  x_NoRight : XN K mg "NoRight" a.x_NoRight
  x_TillError : XN K mg "TillError" a.x_TillError
  x_TooGreat : XN K mg "TooGreat" a.x_TooGreat
  xf_NoCoins : Fun K "__init__" "NoCoins.__init__" tx_NoCoins a.fx_NoCoins a.dx_NoCoins
  xi_NoCoins : PySem.W.findIn K (.ref a.x_NoCoins) "__init__" = some (some (.ref a.fx_NoCoins))
  xt_NoCoins : PySem.W.typeIn K (.ref a.fx_NoCoins) = some (.type "function")
  xb_NoCoins : Binds K a.dx_NoCoins ["self", "worth"] []
  F_is_from : Fun K "is_from" "is_from" t_is_from a.f_is_from a.d_is_from
  g_is_from : mg "is_from" = some (.ref a.f_is_from)
  k_is_from : PySem.W.keepIn K (.ref a.f_is_from) = true
  B_is_from : Binds K a.d_is_from ["thing", "least"] []
  F_is_lot : Fun K "is_lot" "is_lot" t_is_lot a.f_is_lot a.d_is_lot
  g_is_lot : mg "is_lot" = some (.ref a.f_is_lot)
  k_is_lot : PySem.W.keepIn K (.ref a.f_is_lot) = true
  B_is_lot : Binds K a.d_is_lot ["thing"] []
  F_is_pile : Fun K "is_pile" "is_pile" t_is_pile a.f_is_pile a.d_is_pile
  g_is_pile : mg "is_pile" = some (.ref a.f_is_pile)
  k_is_pile : PySem.W.keepIn K (.ref a.f_is_pile) = true
  B_is_pile : Binds K a.d_is_pile ["thing"] []
  F_look_at_pile : Fun K "look_at_pile" "look_at_pile" t_look_at_pile a.f_look_at_pile a.d_look_at_pile
  g_look_at_pile : mg "look_at_pile" = some (.ref a.f_look_at_pile)
  k_look_at_pile : PySem.W.keepIn K (.ref a.f_look_at_pile) = true
  B_look_at_pile : Binds K a.d_look_at_pile ["thing"] []
  F_sum_of : Fun K "sum_of" "sum_of" t_sum_of a.f_sum_of a.d_sum_of
  g_sum_of : mg "sum_of" = some (.ref a.f_sum_of)
  k_sum_of : PySem.W.keepIn K (.ref a.f_sum_of) = true
  B_sum_of : Binds K a.d_sum_of ["pile"] []
  F_less_of : Fun K "less_of" "less_of" t_less_of a.f_less_of a.d_less_of
  g_less_of : mg "less_of" = some (.ref a.f_less_of)
  k_less_of : PySem.W.keepIn K (.ref a.f_less_of) = true
  B_less_of : Binds K a.d_less_of ["pile", "worth"] []
  F_look_at_small : Fun K "look_at_small" "look_at_small" t_look_at_small a.f_look_at_small a.d_look_at_small
  g_look_at_small : mg "look_at_small" = some (.ref a.f_look_at_small)
  k_look_at_small : PySem.W.keepIn K (.ref a.f_look_at_small) = true
  B_look_at_small : Binds K a.d_look_at_small ["pile"] []
  F_from_counts : Fun K "from_counts" "from_counts" t_from_counts a.f_from_counts a.d_from_counts
  g_from_counts : mg "from_counts" = some (.ref a.f_from_counts)
  k_from_counts : PySem.W.keepIn K (.ref a.f_from_counts) = true
  B_from_counts : Binds K a.d_from_counts ["counts"] []
  F_take_by : Fun K "take_by" "take_by" t_take_by a.f_take_by a.d_take_by
  g_take_by : mg "take_by" = some (.ref a.f_take_by)
  k_take_by : PySem.W.keepIn K (.ref a.f_take_by) = true
  B_take_by : Binds K a.d_take_by ["pile", "other"] []
  F_is_name : Fun K "is_name" "is_name" t_is_name a.f_is_name a.d_is_name
  g_is_name : mg "is_name" = some (.ref a.f_is_name)
  k_is_name : PySem.W.keepIn K (.ref a.f_is_name) = true
  B_is_name : Binds K a.d_is_name ["thing"] []
  F_parts_in : Fun K "parts_in" "parts_in" t_parts_in a.f_parts_in a.d_parts_in
  g_parts_in : mg "parts_in" = some (.ref a.f_parts_in)
  k_parts_in : PySem.W.keepIn K (.ref a.f_parts_in) = true
  B_parts_in : Binds K a.d_parts_in ["right"] []
  F_is_form : Fun K "is_form" "is_form" t_is_form a.f_is_form a.d_is_form
  g_is_form : mg "is_form" = some (.ref a.f_is_form)
  k_is_form : PySem.W.keepIn K (.ref a.f_is_form) = true
  B_is_form : Binds K a.d_is_form ["thing", "deep"] []
  F_calls_in : Fun K "calls_in" "calls_in" t_calls_in a.f_calls_in a.d_calls_in
  g_calls_in : mg "calls_in" = some (.ref a.f_calls_in)
  k_calls_in : PySem.W.keepIn K (.ref a.f_calls_in) = true
  B_calls_in : Binds K a.d_calls_in ["right"] []
  F_names_in : Fun K "names_in" "names_in" t_names_in a.f_names_in a.d_names_in
  g_names_in : mg "names_in" = some (.ref a.f_names_in)
  k_names_in : PySem.W.keepIn K (.ref a.f_names_in) = true
  B_names_in : Binds K a.d_names_in ["right"] []
  F_is_right : Fun K "is_right" "is_right" t_is_right a.f_is_right a.d_is_right
  g_is_right : mg "is_right" = some (.ref a.f_is_right)
  k_is_right : PySem.W.keepIn K (.ref a.f_is_right) = true
  B_is_right : Binds K a.d_is_right ["thing"] []
  F_look_at_right : Fun K "look_at_right" "look_at_right" t_look_at_right a.f_look_at_right a.d_look_at_right
  g_look_at_right : mg "look_at_right" = some (.ref a.f_look_at_right)
  k_look_at_right : PySem.W.keepIn K (.ref a.f_look_at_right) = true
  B_look_at_right : Binds K a.d_look_at_right ["thing"] []
  F_cut_at : Fun K "cut_at" "cut_at" t_cut_at a.f_cut_at a.d_cut_at
  g_cut_at : mg "cut_at" = some (.ref a.f_cut_at)
  k_cut_at : PySem.W.keepIn K (.ref a.f_cut_at) = true
  B_cut_at : Binds K a.d_cut_at ["most", "below"] []
  F_longest_of : Fun K "longest_of" "longest_of" t_longest_of a.f_longest_of a.d_longest_of
  g_longest_of : mg "longest_of" = some (.ref a.f_longest_of)
  k_longest_of : PySem.W.keepIn K (.ref a.f_longest_of) = true
  B_longest_of : Binds K a.d_longest_of ["right"] []
  F_shared_out : Fun K "shared_out" "shared_out" t_shared_out a.f_shared_out a.d_shared_out
  g_shared_out : mg "shared_out" = some (.ref a.f_shared_out)
  k_shared_out : PySem.W.keepIn K (.ref a.f_shared_out) = true
  B_shared_out : Binds K a.d_shared_out ["one", "other", "calls"] []
  F_row_of : Fun K "row_of" "row_of" t_row_of a.f_row_of a.d_row_of
  g_row_of : mg "row_of" = some (.ref a.f_row_of)
  k_row_of : PySem.W.keepIn K (.ref a.f_row_of) = true
  B_row_of : Binds K a.d_row_of ["right", "below", "calls"] []
  F_most_of : FunD K "most_of" "most_of" (defArgs t_most_of) (defBody t_most_of) (defScope t_most_of) [.non] [] a.f_most_of a.d_most_of
  g_most_of : mg "most_of" = some (.ref a.f_most_of)
  k_most_of : PySem.W.keepIn K (.ref a.f_most_of) = true
  B_most_of : Binds K a.d_most_of ["right", "below"] []
  F_bounds_of : Fun K "bounds_of" "bounds_of" t_bounds_of a.f_bounds_of a.d_bounds_of
  g_bounds_of : mg "bounds_of" = some (.ref a.f_bounds_of)
  k_bounds_of : PySem.W.keepIn K (.ref a.f_bounds_of) = true
  B_bounds_of : Binds K a.d_bounds_of ["pile"] []
  F_failing : Fun K "failing" "failing" t_failing a.f_failing a.d_failing
  g_failing : mg "failing" = some (.ref a.f_failing)
  k_failing : PySem.W.keepIn K (.ref a.f_failing) = true
  B_failing : Binds K a.d_failing ["pile", "right"] []
  F_is_served : Fun K "is_served" "is_served" t_is_served a.f_is_served a.d_is_served
  g_is_served : mg "is_served" = some (.ref a.f_is_served)
  k_is_served : PySem.W.keepIn K (.ref a.f_is_served) = true
  B_is_served : Binds K a.d_is_served ["pile", "right"] []
  F_within_by : Fun K "within_by" "within_by" t_within_by a.f_within_by a.d_within_by
  g_within_by : mg "within_by" = some (.ref a.f_within_by)
  k_within_by : PySem.W.keepIn K (.ref a.f_within_by) = true
  B_within_by : Binds K a.d_within_by ["pile"] []
  F_can_part : Fun K "can_part" "can_part" t_can_part a.f_can_part a.d_can_part
  g_can_part : mg "can_part" = some (.ref a.f_can_part)
  k_can_part : PySem.W.keepIn K (.ref a.f_can_part) = true
  B_can_part : Binds K a.d_can_part ["pile", "one", "other"] []
  F__law_mixed : Fun K "_law_mixed" "_law_mixed" t__law_mixed a.f__law_mixed a.d__law_mixed
  g__law_mixed : mg "_law_mixed" = some (.ref a.f__law_mixed)
  k__law_mixed : PySem.W.keepIn K (.ref a.f__law_mixed) = true
  B__law_mixed : Binds K a.d__law_mixed ["_law_cell_here", "_law_k"] []
  F__law_cell : Fun K "_law_cell" "_law_cell" t__law_cell a.f__law_cell a.d__law_cell
  g__law_cell : mg "_law_cell" = some (.ref a.f__law_cell)
  k__law_cell : PySem.W.keepIn K (.ref a.f__law_cell) = true
  B__law_cell : Binds K a.d__law_cell ["_law_script", "_law_k"] []
  F__law_take : Fun K "_law_take" "_law_take" t__law_take a.f__law_take a.d__law_take
  g__law_take : mg "_law_take" = some (.ref a.f__law_take)
  k__law_take : PySem.W.keepIn K (.ref a.f__law_take) = true
  B__law_take : Binds K a.d__law_take ["_law_pile", "_law_size"] []
  F__law_sum : Fun K "_law_sum" "_law_sum" t__law_sum a.f__law_sum a.d__law_sum
  g__law_sum : mg "_law_sum" = some (.ref a.f__law_sum)
  k__law_sum : PySem.W.keepIn K (.ref a.f__law_sum) = true
  B__law_sum : Binds K a.d__law_sum ["_law_pile"] []
  F__law_under : Fun K "_law_under" "_law_under" t__law_under a.f__law_under a.d__law_under
  g__law_under : mg "_law_under" = some (.ref a.f__law_under)
  k__law_under : PySem.W.keepIn K (.ref a.f__law_under) = true
  B__law_under : Binds K a.d__law_under ["_law_pile", "_law_bound"] []
  F__law_heap : Fun K "_law_heap" "_law_heap" t__law_heap a.f__law_heap a.d__law_heap
  g__law_heap : mg "_law_heap" = some (.ref a.f__law_heap)
  k__law_heap : PySem.W.keepIn K (.ref a.f__law_heap) = true
  B__law_heap : Binds K a.d__law_heap ["_law_coins_here"] []
  F__law_length : Fun K "_law_length" "_law_length" t__law_length a.f__law_length a.d__law_length
  g__law_length : mg "_law_length" = some (.ref a.f__law_length)
  k__law_length : PySem.W.keepIn K (.ref a.f__law_length) = true
  B__law_length : Binds K a.d__law_length ["_law_right_here"] []
  F__law_row : Fun K "_law_row" "_law_row" t__law_row a.f__law_row a.d__law_row
  g__law_row : mg "_law_row" = some (.ref a.f__law_row)
  k__law_row : PySem.W.keepIn K (.ref a.f__law_row) = true
  B__law_row : Binds K a.d__law_row ["_law_right_here", "_law_bound", "_law_many"] []
  F__law_top : Fun K "_law_top" "_law_top" t__law_top a.f__law_top a.d__law_top
  g__law_top : mg "_law_top" = some (.ref a.f__law_top)
  k__law_top : PySem.W.keepIn K (.ref a.f__law_top) = true
  B__law_top : Binds K a.d__law_top ["_law_right_here", "_law_bound"] []
  F__law_holds : Fun K "_law_holds" "_law_holds" t__law_holds a.f__law_holds a.d__law_holds
  g__law_holds : mg "_law_holds" = some (.ref a.f__law_holds)
  k__law_holds : PySem.W.keepIn K (.ref a.f__law_holds) = true
  B__law_holds : Binds K a.d__law_holds ["_law_pile", "_law_right_here"] []
  F__law_right : Fun K "_law_right" "_law_right" t__law_right a.f__law_right a.d__law_right
  g__law_right : mg "_law_right" = some (.ref a.f__law_right)
  k__law_right : PySem.W.keepIn K (.ref a.f__law_right) = true
  B__law_right : Binds K a.d__law_right ["_law_digits", "_law_deep", "_law_spare", "_law_size"] []
  F__law_left : Fun K "_law_left" "_law_left" t__law_left a.f__law_left a.d__law_left
  g__law_left : mg "_law_left" = some (.ref a.f__law_left)
  k__law_left : PySem.W.keepIn K (.ref a.f__law_left) = true
  B__law_left : Binds K a.d__law_left ["_law_pile", "_law_paying"] []
  F__law_within : Fun K "_law_within" "_law_within" t__law_within a.f__law_within a.d__law_within
  g__law_within : mg "_law_within" = some (.ref a.f__law_within)
  k__law_within : PySem.W.keepIn K (.ref a.f__law_within) = true
  B__law_within : Binds K a.d__law_within ["_law_pile"] []
  F__law_due : Fun K "_law_due" "_law_due" t__law_due a.f__law_due a.d__law_due
  g__law_due : mg "_law_due" = some (.ref a.f__law_due)
  k__law_due : PySem.W.keepIn K (.ref a.f__law_due) = true
  B__law_due : Binds K a.d__law_due ["_law_pile", "_law_one", "_law_other"] []
  F__law_refused : Fun K "_law_refused" "_law_refused" t__law_refused a.f__law_refused a.d__law_refused
  g__law_refused : mg "_law_refused" = some (.ref a.f__law_refused)
  k__law_refused : PySem.W.keepIn K (.ref a.f__law_refused) = true
  B__law_refused : Binds K a.d__law_refused ["_law_pile", "_law_one"] []
  F__law_great : Fun K "_law_great" "_law_great" t__law_great a.f__law_great a.d__law_great
  g__law_great : mg "_law_great" = some (.ref a.f__law_great)
  k__law_great : PySem.W.keepIn K (.ref a.f__law_great) = true
  B__law_great : Binds K a.d__law_great ["_law_pile"] []
  F_law : Fun K "law" "law" t_law a.f_law a.d_law
  g_law : mg "law" = some (.ref a.f_law)
  k_law : PySem.W.keepIn K (.ref a.f_law) = true
section
variable {P : Program} {w : World} {K : PySem.W.Frag} {mg : Str → Option Value} {base : Heap} {a : Adr}
theorem oki_NoCoins (C : Fx K mg a) : FnOk P w K mg base (L2.CX P w) 1 a.fx_NoCoins a.dx_NoCoins ["self", "worth"] (spInit K "worth") := by
  refine Fun.okX (k := 0) C.xf_NoCoins scx_NoCoins (fun vs H Q E h => by obtain ⟨_, _, _, rfl, _⟩ := h; rfl) (fun cdv A outer s H vs Q E hr hsp => ⟨_, pss_cons (ps_expr (pe_tinit rfl rfl C.x_ok C.x_TillError (by rfl) (pa_cons (pv 0) (pa_cons pe_str pa_nil)))) (pss_cons (ps_ostK K rfl (pv 0) (pv 1)) pss_nil), init_rd rfl hsp⟩)
theorem ok_is_from (C : Fx K mg a) : FnOk P w K mg base (L2.CX P w) 1 a.f_is_from a.d_is_from ["thing", "least"] (spOf K mg 2 s_is_from) := by
  refine fn_okX (k := 0) C.F_is_from sc_is_from (by decide) (fun cdv A outer s H E hr => ?_)
  have po : PassesOwn (model P w) (cxOf (L2.CX P w) P w K mg base N_is_from "is_from" (defScope t_is_from) a.f_is_from cdv A outer s H E).A (cxOf (L2.CX P w) P w K mg base N_is_from "is_from" (defScope t_is_from) a.f_is_from cdv A outer s H E).env (cxOf (L2.CX P w) P w K mg base N_is_from "is_from" (defScope t_is_from) a.f_is_from cdv A outer s H E).xe := passes_of rfl
  have tk : Takes (cxOf (L2.CX P w) P w K mg base N_is_from "is_from" (defScope t_is_from) a.f_is_from cdv A outer s H E) (fun c dd _ H' => E c dd H') := takes_of rfl rfl rfl rfl
  unfold m_is_from
  exact SSs.ex (sss_cons (ss_ret (se_and (se_isiK K rfl (by rfl) C.b_isinstance (so_var (pv 0)) (pe_bltn (v := .ty "int") (by rfl) C.b_int (by decide +kernel) rfl) (by decide +kernel)) (se_and (se_not (se_isiK K rfl (by rfl) C.b_isinstance (so_var (pv 0)) (pe_bltn (v := .ty "bool") (by rfl) C.b_bool (by decide +kernel) rfl) (by decide +kernel))) (se_one (se_cmp op_ge ok_ge (nomark _) (so_var (pv 0)) (so_var (pv 1))))))) sss_nil) (by decide)
theorem ok_is_lot (C : Fx K mg a) : FnOk P w K mg base (L2.CX P w) 2 a.f_is_lot a.d_is_lot ["thing"] (spOf K mg 1 s_is_lot) := by
  refine fn_okX (k := 1) C.F_is_lot sc_is_lot (by decide) (fun cdv A outer s H E hr => ?_)
  have po : PassesOwn (model P w) (cxOf (L2.CX P w) P w K mg base N_is_lot "is_lot" (defScope t_is_lot) a.f_is_lot cdv A outer s H E).A (cxOf (L2.CX P w) P w K mg base N_is_lot "is_lot" (defScope t_is_lot) a.f_is_lot cdv A outer s H E).env (cxOf (L2.CX P w) P w K mg base N_is_lot "is_lot" (defScope t_is_lot) a.f_is_lot cdv A outer s H E).xe := passes_of rfl
  have tk : Takes (cxOf (L2.CX P w) P w K mg base N_is_lot "is_lot" (defScope t_is_lot) a.f_is_lot cdv A outer s H E) (fun c dd _ H' => E c dd H') := takes_of rfl rfl rfl rfl
  unfold m_is_lot
  exact SSs.ex (sss_cons (ss_ret (se_and (se_isiK K rfl (by rfl) C.b_isinstance (so_var (pv 0)) (pe_bltn (v := .ty "tuple") (by rfl) C.b_tuple (by decide +kernel) rfl) (by decide +kernel)) (se_and (se_cmp (oK_eq K rfl hr.units) ok_eq (nomark _) (SE.so (se_callB (cK_len K rfl) ok_len (by rfl) C.b_len (by decide +kernel) (so_cons (so_var (pv 0)) sos_nil))) (SE.so se_int)) (se_and (se_callC (ok_is_from C) rfl rfl rfl rfl rfl (hr.mono (by first | decide | omega)) (by rfl) C.g_is_from C.k_is_from C.B_is_from rfl tk (so_cons (SE.so (se_ixK K rfl (fun _ _ => rfl) (so_var (pv 0)) (SE.so se_int))) (so_cons (SE.so se_int) sos_nil)) (lm_cons (lm_cons lm_nil))) (se_one (se_callC (ok_is_from C) rfl rfl rfl rfl rfl (hr.mono (by first | decide | omega)) (by rfl) C.g_is_from C.k_is_from C.B_is_from rfl tk (so_cons (SE.so (se_ixK K rfl (fun _ _ => rfl) (so_var (pv 0)) (SE.so se_int))) (so_cons (SE.so se_int) sos_nil)) (lm_cons (lm_cons lm_nil)))))))) sss_nil) (by decide)
theorem ok_is_pile (C : Fx K mg a) : FnOk P w K mg base (L2.CX P w) 3 a.f_is_pile a.d_is_pile ["thing"] (spOf K mg 1 s_is_pile) := by
  refine fn_okX (k := 2) C.F_is_pile sc_is_pile (by decide) (fun cdv A outer s H E hr => ?_)
  have po : PassesOwn (model P w) (cxOf (L2.CX P w) P w K mg base N_is_pile "is_pile" (defScope t_is_pile) a.f_is_pile cdv A outer s H E).A (cxOf (L2.CX P w) P w K mg base N_is_pile "is_pile" (defScope t_is_pile) a.f_is_pile cdv A outer s H E).env (cxOf (L2.CX P w) P w K mg base N_is_pile "is_pile" (defScope t_is_pile) a.f_is_pile cdv A outer s H E).xe := passes_of rfl
  have tk : Takes (cxOf (L2.CX P w) P w K mg base N_is_pile "is_pile" (defScope t_is_pile) a.f_is_pile cdv A outer s H E) (fun c dd _ H' => E c dd H') := takes_of rfl rfl rfl rfl
  unfold m_is_pile lc_is_pile_2 lc_is_pile_1
  exact SSs.ex (sss_cons (ss_if (SW.st (sw_or (st_not (st_val (se_isiK K rfl (by rfl) C.b_isinstance (so_var (pv 0)) (pe_bltn (v := .ty "tuple") (by rfl) C.b_tuple (by decide +kernel) rfl) (by decide +kernel)))) (sw_or1 (st_not (st_val (se_callB (cK_all K rfl rfl) ok_all (by rfl) C.b_all (by decide +kernel) (so_cons (SE.so (se_lc (own := [("lot", 3)]) rfl sc_is_pile.nd (si_seqK K rfl (se_var (pv 0))) (blkOk_by (own := [("lot", 3)]) (N := N_is_pile) (sc := defScope t_is_pile) (by decide +kernel)) (fun _ _ _ _ _ => (sg_name (pg_name (i := 3) sc_is_pile.nd rfl (by first | exact Or.inl rfl | exact Or.inr rfl)))) (by decide) (fun _ _ _ _ _ => sts_nil) (fun _ _ _ _ _ => (se_callC (ok_is_lot C) rfl rfl rfl rfl rfl (hr.mono (by first | decide | omega)) (by rfl) C.g_is_lot C.k_is_lot C.B_is_lot rfl takes0 (so_cons (so_var (pv 3)) sos_nil) (lm_cons lm_nil))))) sos_nil))))))) (sss_cons (ss_ret se_bl) sss_nil) sss_nil) (sss_cons (ss_ret (se_callB (cK_all K rfl rfl) ok_all (by rfl) C.b_all (by decide +kernel) (so_cons (SE.so (se_lc (own := [("one", 1), ("other", 2)]) rfl sc_is_pile.nd (si_zipK K rfl (by rfl) C.b_zip (sa_cons (se_var (pv 0)) (sa_cons (se_slK K rfl (so_var (pv 0)) (sp_some se_int) sp_none) sa_nil))) (blkOk_by (own := [("one", 1), ("other", 2)]) (N := N_is_pile) (sc := defScope t_is_pile) (by decide +kernel)) (fun _ _ _ _ _ => (sg_tupK K rfl rfl (sgs_cons (sg_name (pg_name (i := 1) sc_is_pile.nd rfl (by first | exact Or.inl rfl | exact Or.inr rfl))) (sgs_cons (sg_name (pg_name (i := 2) sc_is_pile.nd rfl (by first | exact Or.inl rfl | exact Or.inr rfl))) sgs_nil)))) (by decide) (fun _ _ _ _ _ => sts_nil) (fun _ _ _ _ _ => (se_cmp op_lt ok_lt (nomark _) (SE.so (se_ixK K rfl (fun _ _ => rfl) (so_var (pv 1)) (SE.so se_int))) (SE.so (se_ixK K rfl (fun _ _ => rfl) (so_var (pv 2)) (SE.so se_int))))))) sos_nil))) sss_nil)) (by decide)
theorem ok_look_at_pile (C : Fx K mg a) : FnOk P w K mg base (L2.CX P w) 4 a.f_look_at_pile a.d_look_at_pile ["thing"] (spOf K mg 1 s_look_at_pile) := by
  refine fn_okX (k := 3) C.F_look_at_pile sc_look_at_pile (by decide) (fun cdv A outer s H E hr => ?_)
  have po : PassesOwn (model P w) (cxOf (L2.CX P w) P w K mg base N_look_at_pile "look_at_pile" (defScope t_look_at_pile) a.f_look_at_pile cdv A outer s H E).A (cxOf (L2.CX P w) P w K mg base N_look_at_pile "look_at_pile" (defScope t_look_at_pile) a.f_look_at_pile cdv A outer s H E).env (cxOf (L2.CX P w) P w K mg base N_look_at_pile "look_at_pile" (defScope t_look_at_pile) a.f_look_at_pile cdv A outer s H E).xe := passes_of rfl
  have tk : Takes (cxOf (L2.CX P w) P w K mg base N_look_at_pile "look_at_pile" (defScope t_look_at_pile) a.f_look_at_pile cdv A outer s H E) (fun c dd _ H' => E c dd H') := takes_of rfl rfl rfl rfl
  unfold m_look_at_pile
  exact SSs.ex (sss_cons (ss_if (st_not (st_val (se_callC (ok_is_pile C) rfl rfl rfl rfl rfl (hr.mono (by first | decide | omega)) (by rfl) C.g_is_pile C.k_is_pile C.B_is_pile rfl tk (so_cons (so_var (pv 0)) sos_nil) (lm_cons lm_nil)))) (sss_cons (ss_raise0 K rfl rfl C.x_ok C.x_NoPile ⟨by decide, rfl⟩ rfl tk (by rfl)) sss_nil) sss_nil) sss_nil) (by decide)
theorem ok_sum_of (C : Fx K mg a) : FnOk P w K mg base (L2.CX P w) 1 a.f_sum_of a.d_sum_of ["pile"] (spOf K mg 1 s_sum_of) := by
  refine fn_okX (k := 0) C.F_sum_of sc_sum_of (by decide) (fun cdv A outer s H E hr => ?_)
  have po : PassesOwn (model P w) (cxOf (L2.CX P w) P w K mg base N_sum_of "sum_of" (defScope t_sum_of) a.f_sum_of cdv A outer s H E).A (cxOf (L2.CX P w) P w K mg base N_sum_of "sum_of" (defScope t_sum_of) a.f_sum_of cdv A outer s H E).env (cxOf (L2.CX P w) P w K mg base N_sum_of "sum_of" (defScope t_sum_of) a.f_sum_of cdv A outer s H E).xe := passes_of rfl
  have tk : Takes (cxOf (L2.CX P w) P w K mg base N_sum_of "sum_of" (defScope t_sum_of) a.f_sum_of cdv A outer s H E) (fun c dd _ H' => E c dd H') := takes_of rfl rfl rfl rfl
  unfold m_sum_of lc_sum_of_1
  exact SSs.ex (sss_cons (ss_ret (se_callB (cK_sum K rfl rfl) ok_sum (by rfl) C.b_sum (by decide +kernel) (so_cons (SE.so (se_lc (own := [("worth", 1), ("many", 2)]) rfl sc_sum_of.nd (si_seqK K rfl (se_var (pv 0))) (blkOk_by (own := [("worth", 1), ("many", 2)]) (N := N_sum_of) (sc := defScope t_sum_of) (by decide +kernel)) (fun _ _ _ _ _ => (sg_tupK K rfl rfl (sgs_cons (sg_name (pg_name (i := 1) sc_sum_of.nd rfl (by first | exact Or.inl rfl | exact Or.inr rfl))) (sgs_cons (sg_name (pg_name (i := 2) sc_sum_of.nd rfl (by first | exact Or.inl rfl | exact Or.inr rfl))) sgs_nil)))) (by decide) (fun _ _ _ _ _ => sts_nil) (fun _ _ _ _ _ => (se_op (oK_mul K rfl) ok_mul (so_var (pv 1)) (so_var (pv 2)))))) sos_nil))) sss_nil) (by decide)
theorem ok_less_of (C : Fx K mg a) : FnOk P w K mg base (L2.CX P w) 1 a.f_less_of a.d_less_of ["pile", "worth"] (spOf K mg 2 s_less_of) := by
  refine fn_okX (k := 0) C.F_less_of sc_less_of (by decide) (fun cdv A outer s H E hr => ?_)
  have po : PassesOwn (model P w) (cxOf (L2.CX P w) P w K mg base N_less_of "less_of" (defScope t_less_of) a.f_less_of cdv A outer s H E).A (cxOf (L2.CX P w) P w K mg base N_less_of "less_of" (defScope t_less_of) a.f_less_of cdv A outer s H E).env (cxOf (L2.CX P w) P w K mg base N_less_of "less_of" (defScope t_less_of) a.f_less_of cdv A outer s H E).xe := passes_of rfl
  have tk : Takes (cxOf (L2.CX P w) P w K mg base N_less_of "less_of" (defScope t_less_of) a.f_less_of cdv A outer s H E) (fun c dd _ H' => E c dd H') := takes_of rfl rfl rfl rfl
  unfold m_less_of lc_less_of_1
  exact SSs.ex (sss_cons (ss_ret (se_callB (cK_sum K rfl rfl) ok_sum (by rfl) C.b_sum (by decide +kernel) (so_cons (SE.so (se_lc (own := [("one", 2), ("many", 3)]) rfl sc_less_of.nd (si_seqK K rfl (se_var (pv 0))) (blkOk_by (own := [("one", 2), ("many", 3)]) (N := N_less_of) (sc := defScope t_less_of) (by decide +kernel)) (fun _ _ _ _ _ => (sg_tupK K rfl rfl (sgs_cons (sg_name (pg_name (i := 2) sc_less_of.nd rfl (by first | exact Or.inl rfl | exact Or.inr rfl))) (sgs_cons (sg_name (pg_name (i := 3) sc_less_of.nd rfl (by first | exact Or.inl rfl | exact Or.inr rfl))) sgs_nil)))) (by decide) (fun _ _ _ _ _ => (sts_one (st_cmp op_lt ok_lt (nomark _) (so_var (pv 2)) (so_var (pv 1))))) (fun _ _ _ _ _ => (se_op (oK_mul K rfl) ok_mul (so_var (pv 2)) (so_var (pv 3)))))) sos_nil))) sss_nil) (by decide)
theorem ok_look_at_small (C : Fx K mg a) : FnOk P w K mg base (L2.CX P w) 2 a.f_look_at_small a.d_look_at_small ["pile"] (spOf K mg 1 s_look_at_small) := by
  refine fn_okX (k := 1) C.F_look_at_small sc_look_at_small (by decide) (fun cdv A outer s H E hr => ?_)
  have po : PassesOwn (model P w) (cxOf (L2.CX P w) P w K mg base N_look_at_small "look_at_small" (defScope t_look_at_small) a.f_look_at_small cdv A outer s H E).A (cxOf (L2.CX P w) P w K mg base N_look_at_small "look_at_small" (defScope t_look_at_small) a.f_look_at_small cdv A outer s H E).env (cxOf (L2.CX P w) P w K mg base N_look_at_small "look_at_small" (defScope t_look_at_small) a.f_look_at_small cdv A outer s H E).xe := passes_of rfl
  have tk : Takes (cxOf (L2.CX P w) P w K mg base N_look_at_small "look_at_small" (defScope t_look_at_small) a.f_look_at_small cdv A outer s H E) (fun c dd _ H' => E c dd H') := takes_of rfl rfl rfl rfl
  unfold m_look_at_small
  exact SSs.ex (sss_cons (ss_if (st_cmp op_gt ok_gt (nomark _) (SE.so (se_callC (ok_sum_of C) rfl rfl rfl rfl rfl (hr.mono (by first | decide | omega)) (by rfl) C.g_sum_of C.k_sum_of C.B_sum_of rfl tk (so_cons (so_var (pv 0)) sos_nil) (lm_cons lm_nil))) (SE.so (se_gint (by rfl) C.c_SMALL))) (sss_cons (ss_raise0 K rfl rfl C.x_ok C.x_TooGreat ⟨by decide, rfl⟩ rfl tk (by rfl)) sss_nil) sss_nil) sss_nil) (by decide)
theorem ok_from_counts (C : Fx K mg a) : FnOk P w K mg base (L2.CX P w) 1 a.f_from_counts a.d_from_counts ["counts"] (spOf K mg 1 s_from_counts) := by
  refine fn_okX (k := 0) C.F_from_counts sc_from_counts (by decide) (fun cdv A outer s H E hr => ?_)
  have po : PassesOwn (model P w) (cxOf (L2.CX P w) P w K mg base N_from_counts "from_counts" (defScope t_from_counts) a.f_from_counts cdv A outer s H E).A (cxOf (L2.CX P w) P w K mg base N_from_counts "from_counts" (defScope t_from_counts) a.f_from_counts cdv A outer s H E).env (cxOf (L2.CX P w) P w K mg base N_from_counts "from_counts" (defScope t_from_counts) a.f_from_counts cdv A outer s H E).xe := passes_of rfl
  have tk : Takes (cxOf (L2.CX P w) P w K mg base N_from_counts "from_counts" (defScope t_from_counts) a.f_from_counts cdv A outer s H E) (fun c dd _ H' => E c dd H') := takes_of rfl rfl rfl rfl
  unfold m_from_counts lc_from_counts_1
  exact SSs.ex (sss_cons (ss_ret (se_callTy (cK_tuple K rfl) ok_tuple (by rfl) C.b_tuple (by decide +kernel) (so_cons (SE.so (se_lc (own := [("worth", 1)]) rfl sc_from_counts.nd (si_seqK K rfl (se_sortD (pe_callB (call_sortD rfl) (by rfl) C.b_sorted (by decide +kernel) (pa_cons (pv 0) pa_nil)))) (blkOk_by (own := [("worth", 1)]) (N := N_from_counts) (sc := defScope t_from_counts) (by decide +kernel)) (fun _ _ _ _ _ => (sg_name (pg_name (i := 1) sc_from_counts.nd rfl (by first | exact Or.inl rfl | exact Or.inr rfl)))) (by decide) (fun _ _ _ _ _ => (sts_one (st_cmp op_gt ok_gt (nomark _) (SE.so (se_dget (fun h => pe_dget (hu1 hr.units) (pv 0) h (fun _ _ => rfl)) (so_var (pv 1)))) (SE.so se_int)))) (fun _ _ _ _ _ => (se_tup (sa_cons (se_var (pv 1)) (sa_cons (se_dget (fun h => pe_dget (hu1 hr.units) (pv 0) h (fun _ _ => rfl)) (so_var (pv 1))) sa_nil)))))) sos_nil))) sss_nil) (by decide)
theorem ok_take_by (C : Fx K mg a) : FnOk P w K mg base (L2.CX P w) 3 a.f_take_by a.d_take_by ["pile", "other"] (spOf K mg 2 s_take_by) := by
  refine fn_okX (k := 2) C.F_take_by sc_take_by (by decide) (fun cdv A outer s H E hr => ?_)
  have po : PassesOwn (model P w) (cxOf (L2.CX P w) P w K mg base N_take_by "take_by" (defScope t_take_by) a.f_take_by cdv A outer s H E).A (cxOf (L2.CX P w) P w K mg base N_take_by "take_by" (defScope t_take_by) a.f_take_by cdv A outer s H E).env (cxOf (L2.CX P w) P w K mg base N_take_by "take_by" (defScope t_take_by) a.f_take_by cdv A outer s H E).xe := passes_of rfl
  have tk : Takes (cxOf (L2.CX P w) P w K mg base N_take_by "take_by" (defScope t_take_by) a.f_take_by cdv A outer s H E) (fun c dd _ H' => E c dd H') := takes_of rfl rfl rfl rfl
  unfold m_take_by fr_take_by_1 lp_take_by_1
  exact SSs.ex (sss_cons (ss_ownO (fun h => ps_set (i := 2) sc_take_by.nd rfl (by first | exact Or.inl rfl | exact Or.inr rfl) h) (sfo_dict (K := K) rfl (fun h => pe_callTy (call_dictA rfl) (by rfl) C.b_dict (by decide +kernel) (pa_cons h pa_nil)) (so_var (pv 0)))) (sss_cons (ss_for [3, 4] po rfl (si_seqK K rfl (se_var (pv 1))) (sg_tupK K rfl rfl (sgs_cons (sg_name (pg_name (i := 3) sc_take_by.nd rfl (by first | exact Or.inl rfl | exact Or.inr rfl))) (sgs_cons (sg_name (pg_name (i := 4) sc_take_by.nd rfl (by first | exact Or.inl rfl | exact Or.inr rfl))) sgs_nil))) (sss_cons (ss_if (st_cmp op_lt ok_lt (nomark _) (SE.so (se_dget2 (fun h1 h2 => pe_dget2 (hu1 hr.units) (pv 2) h1 h2 ⟨rfl, rfl, rfl, rfl⟩) (so_var (pv 3)) se_int)) (so_var (pv 4))) (sss_cons (ss_raise1 K (oki_NoCoins C) rfl rfl rfl rfl rfl C.x_ok C.x_NoCoins ⟨by decide, by decide, rfl, rfl⟩ C.xi_NoCoins C.xt_NoCoins C.xb_NoCoins (hr.mono (by first | decide | omega)) rfl tk (by rfl) (se_var (pv 3))) sss_nil) sss_nil) (sss_cons (ss_daug (fun hk he => ps_daug (hu1 hr.units) (pv 2) hk he in_subI (by intros; rfl)) (so_var (pv 3)) (se_var (pv 4))) sss_nil))) (sss_cons (ss_retS (sv_callC (ok_from_counts C) rfl rfl rfl rfl rfl (hr.mono (by first | decide | omega)) (by rfl) C.g_from_counts C.k_from_counts C.B_from_counts rfl tk (so_cons (so_var (pv 2)) sos_nil) (lm_cons lm_nil))) sss_nil))) (by decide)
theorem ok_is_name (C : Fx K mg a) : FnOk P w K mg base (L2.CX P w) 1 a.f_is_name a.d_is_name ["thing"] (spOf K mg 1 s_is_name) := by
  refine fn_okX (k := 0) C.F_is_name sc_is_name (by decide) (fun cdv A outer s H E hr => ?_)
  have po : PassesOwn (model P w) (cxOf (L2.CX P w) P w K mg base N_is_name "is_name" (defScope t_is_name) a.f_is_name cdv A outer s H E).A (cxOf (L2.CX P w) P w K mg base N_is_name "is_name" (defScope t_is_name) a.f_is_name cdv A outer s H E).env (cxOf (L2.CX P w) P w K mg base N_is_name "is_name" (defScope t_is_name) a.f_is_name cdv A outer s H E).xe := passes_of rfl
  have tk : Takes (cxOf (L2.CX P w) P w K mg base N_is_name "is_name" (defScope t_is_name) a.f_is_name cdv A outer s H E) (fun c dd _ H' => E c dd H') := takes_of rfl rfl rfl rfl
  unfold m_is_name lc_is_name_1
  exact SSs.ex (sss_cons (ss_if (SW.st (sw_or (st_not (st_val (se_isiK K rfl (by rfl) C.b_isinstance (so_var (pv 0)) (pe_bltn (v := .ty "str") (by rfl) C.b_str (by decide +kernel) rfl) (by decide +kernel)))) (sw_or1 (st_not (st_chain op_le op_le ok_le ok_le (SE.so se_int) (SE.so (se_callB (cK_len K rfl) ok_len (by rfl) C.b_len (by decide +kernel) (so_cons (so_var (pv 0)) sos_nil))) (SE.so (se_gint (by rfl) C.c_LONGEST_NAME))))))) (sss_cons (ss_ret se_bl) sss_nil) sss_nil) (sss_cons (ss_ret (se_callB (cK_all K rfl rfl) ok_all (by rfl) C.b_all (by decide +kernel) (so_cons (SE.so (se_lc (own := [("letter", 1)]) rfl sc_is_name.nd (si_seqK K rfl (se_var (pv 0))) (blkOk_by (own := [("letter", 1)]) (N := N_is_name) (sc := defScope t_is_name) (by decide +kernel)) (fun _ _ _ _ _ => (sg_name (pg_name (i := 1) sc_is_name.nd rfl (by first | exact Or.inl rfl | exact Or.inr rfl)))) (by decide) (fun _ _ _ _ _ => sts_nil) (fun _ _ _ _ _ => (se_cmp (oK_in K rfl) ok_in (by rfl) (so_var (pv 1)) (SE.so (se_gstr (by rfl) C.c_LETTERS)))))) sos_nil))) sss_nil)) (by decide)
theorem ok_parts_in (C : Fx K mg a) : FnOk P w K mg base (L2.CX P w) 1 a.f_parts_in a.d_parts_in ["right"] (spOf K mg 1 s_parts_in) := by
  refine fn_okX (k := 0) C.F_parts_in sc_parts_in (by decide) (fun cdv A outer s H E hr => ?_)
  have po : PassesOwn (model P w) (cxOf (L2.CX P w) P w K mg base N_parts_in "parts_in" (defScope t_parts_in) a.f_parts_in cdv A outer s H E).A (cxOf (L2.CX P w) P w K mg base N_parts_in "parts_in" (defScope t_parts_in) a.f_parts_in cdv A outer s H E).env (cxOf (L2.CX P w) P w K mg base N_parts_in "parts_in" (defScope t_parts_in) a.f_parts_in cdv A outer s H E).xe := passes_of rfl
  have tk : Takes (cxOf (L2.CX P w) P w K mg base N_parts_in "parts_in" (defScope t_parts_in) a.f_parts_in cdv A outer s H E) (fun c dd _ H' => E c dd H') := takes_of rfl rfl rfl rfl
  unfold m_parts_in
  exact SSs.ex (sss_cons (ss_if (st_cmp (oK_in K rfl) ok_in (by rfl) (SE.so (se_ixK K rfl (fun _ _ => rfl) (so_var (pv 0)) (SE.so se_int))) (SE.so (se_gtup (by rfl) C.c_SETS))) (sss_cons (ss_ret (se_ixK K rfl (fun _ _ => rfl) (so_var (pv 0)) (SE.so se_int))) sss_nil) sss_nil) (sss_cons (ss_ret (se_if (st_cmp (oK_in K rfl) ok_in (by rfl) (SE.so (se_ixK K rfl (fun _ _ => rfl) (so_var (pv 0)) (SE.so se_int))) (SE.so (se_gtup (by rfl) C.c_FRAMES))) (se_tup (sa_cons (se_ixK K rfl (fun _ _ => rfl) (so_var (pv 0)) (SE.so se_int)) sa_nil)) (se_tup sa_nil))) sss_nil)) (by decide)
theorem ok_is_form (C : Fx K mg a) : ∀ n, FnOk P w K mg base (L2.CX P w) (2 + n) a.f_is_form a.d_is_form ["thing", "deep"] (spOf K mg 2 (s_is_form n)) := by
  intro n
  induction n with
  | zero => exact fn_rec0 rfl
  | succ n IH =>
  rw [← Nat.add_assoc, r_is_form]
  refine fn_okX C.F_is_form sc_is_form (by decide) (fun cdv A outer s H E hr => ?_)
  have po : PassesOwn (model P w) (cxOf (L2.CX P w) P w K mg base N_is_form "is_form" (defScope t_is_form) a.f_is_form cdv A outer s H E).A (cxOf (L2.CX P w) P w K mg base N_is_form "is_form" (defScope t_is_form) a.f_is_form cdv A outer s H E).env (cxOf (L2.CX P w) P w K mg base N_is_form "is_form" (defScope t_is_form) a.f_is_form cdv A outer s H E).xe := passes_of rfl
  have tk : Takes (cxOf (L2.CX P w) P w K mg base N_is_form "is_form" (defScope t_is_form) a.f_is_form cdv A outer s H E) (fun c dd _ H' => E c dd H') := takes_of rfl rfl rfl rfl
  unfold m_is_form lc_is_form_1
  exact SSs.ex (sss_cons (ss_if (SW.st (sw_or (st_not (st_val (se_isiK K rfl (by rfl) C.b_isinstance (so_var (pv 0)) (pe_bltn (v := .ty "tuple") (by rfl) C.b_tuple (by decide +kernel) rfl) (by decide +kernel)))) (sw_or (st_cmp (oK_eq K rfl hr.units) ok_eq (nomark _) (SE.so (se_callB (cK_len K rfl) ok_len (by rfl) C.b_len (by decide +kernel) (so_cons (so_var (pv 0)) sos_nil))) (SE.so se_int)) (sw_or (st_not (st_val (se_isiK K rfl (by rfl) C.b_isinstance (SE.so (se_ixK K rfl (fun _ _ => rfl) (so_var (pv 0)) (SE.so se_int))) (pe_bltn (v := .ty "str") (by rfl) C.b_str (by decide +kernel) rfl) (by decide +kernel)))) (sw_or1 (st_cmp op_lt ok_lt (nomark _) (so_var (pv 1)) (SE.so se_int))))))) (sss_cons (ss_ret se_bl) sss_nil) sss_nil) (sss_cons (ss_star (i := 3) rfl (se_var (pv 0)) (sg_name (pg_name (i := 2) sc_is_form.nd rfl (by first | exact Or.inl rfl | exact Or.inr rfl))) (pg_name (i := 3) sc_is_form.nd rfl (by first | exact Or.inl rfl | exact Or.inr rfl))) (sss_cons (ss_if (st_cmp (oK_eq K rfl hr.units) ok_eq (nomark _) (so_var (pv 2)) (SE.so se_str)) (sss_cons (ss_ret (se_cmp (oK_eq K rfl hr.units) ok_eq (nomark _) (SE.so (se_callB (cK_len K rfl) ok_len (by rfl) C.b_len (by decide +kernel) (so_cons (so_var (pv 3)) sos_nil))) (SE.so se_int))) sss_nil) sss_nil) (sss_cons (ss_if (st_cmp (oK_eq K rfl hr.units) ok_eq (nomark _) (so_var (pv 2)) (SE.so se_str)) (sss_cons (ss_ret (se_and (se_cmp (oK_eq K rfl hr.units) ok_eq (nomark _) (SE.so (se_callB (cK_len K rfl) ok_len (by rfl) C.b_len (by decide +kernel) (so_cons (so_var (pv 3)) sos_nil))) (SE.so se_int)) (se_and (se_callC (ok_is_name C) rfl rfl rfl rfl rfl (hr.mono (by first | decide | omega)) (by rfl) C.g_is_name C.k_is_name C.B_is_name rfl tk (so_cons (SE.so (se_ixK K rfl (fun _ _ => rfl) (so_var (pv 3)) (SE.so se_int))) sos_nil) (lm_cons lm_nil)) (se_and (se_callC (ok_is_from C) rfl rfl rfl rfl rfl (hr.mono (by first | decide | omega)) (by rfl) C.g_is_from C.k_is_from C.B_is_from rfl tk (so_cons (SE.so (se_ixK K rfl (fun _ _ => rfl) (so_var (pv 3)) (SE.so se_int))) (so_cons (SE.so se_int) sos_nil)) (lm_cons (lm_cons lm_nil))) (se_one (se_callC (ok_is_from C) rfl rfl rfl rfl rfl (hr.mono (by first | decide | omega)) (by rfl) C.g_is_from C.k_is_from C.B_is_from rfl tk (so_cons (SE.so (se_ixK K rfl (fun _ _ => rfl) (so_var (pv 3)) (SE.so se_int))) (so_cons (SE.so se_int) sos_nil)) (lm_cons (lm_cons lm_nil)))))))) sss_nil) sss_nil) (sss_cons (ss_if (st_cmp (oK_in K rfl) ok_in (by rfl) (so_var (pv 2)) (SE.so (se_gtup (by rfl) C.c_FRAMES))) (sss_cons (ss_ret (se_and (se_cmp (oK_eq K rfl hr.units) ok_eq (nomark _) (SE.so (se_callB (cK_len K rfl) ok_len (by rfl) C.b_len (by decide +kernel) (so_cons (so_var (pv 3)) sos_nil))) (SE.so se_int)) (se_and (se_callC (ok_is_from C) rfl rfl rfl rfl rfl (hr.mono (by first | decide | omega)) (by rfl) C.g_is_from C.k_is_from C.B_is_from rfl tk (so_cons (SE.so (se_ixK K rfl (fun _ _ => rfl) (so_var (pv 3)) (SE.so se_int))) (so_cons (SE.so se_int) sos_nil)) (lm_cons (lm_cons lm_nil))) (se_one (se_callC IH rfl rfl rfl rfl rfl (hr.mono (by first | decide | omega)) (by rfl) C.g_is_form C.k_is_form C.B_is_form rfl tk (so_cons (SE.so (se_ixK K rfl (fun _ _ => rfl) (so_var (pv 3)) (SE.so se_int))) (so_cons (SE.so (se_op op_sub ok_sub (so_var (pv 1)) (SE.so se_int))) sos_nil)) (lm_cons (lm_cons lm_nil))))))) sss_nil) sss_nil) (sss_cons (ss_if (SW.st (sw_or (st_cmp (oK_nin K rfl) ok_nin (by rfl) (so_var (pv 2)) (SE.so (se_gtup (by rfl) C.c_SETS))) (sw_or (st_cmp (oK_ne K rfl hr.units) ok_ne (nomark _) (SE.so (se_callB (cK_len K rfl) ok_len (by rfl) C.b_len (by decide +kernel) (so_cons (so_var (pv 3)) sos_nil))) (SE.so se_int)) (sw_or1 (st_not (st_val (se_isiK K rfl (by rfl) C.b_isinstance (SE.so (se_ixK K rfl (fun _ _ => rfl) (so_var (pv 3)) (SE.so se_int))) (pe_bltn (v := .ty "tuple") (by rfl) C.b_tuple (by decide +kernel) rfl) (by decide +kernel)))))))) (sss_cons (ss_ret se_bl) sss_nil) sss_nil) (sss_cons (ss_ret (se_callB (cK_all K rfl rfl) ok_all (by rfl) C.b_all (by decide +kernel) (so_cons (SE.so (se_lc (own := [("right", 4)]) rfl sc_is_form.nd (si_seqK K rfl (se_ixK K rfl (fun _ _ => rfl) (so_var (pv 3)) (SE.so se_int))) (blkOk_by (own := [("right", 4)]) (N := N_is_form) (sc := defScope t_is_form) (by decide +kernel)) (fun _ _ _ _ _ => (sg_name (pg_name (i := 4) sc_is_form.nd rfl (by first | exact Or.inl rfl | exact Or.inr rfl)))) (by decide) (fun _ _ _ _ _ => sts_nil) (fun _ _ _ _ _ => (se_callC IH rfl rfl rfl rfl rfl (hr.mono (by first | decide | omega)) (by rfl) C.g_is_form C.k_is_form C.B_is_form rfl takes0 (so_cons (so_var (pv 4)) (so_cons (SE.so (se_op op_sub ok_sub (so_var (pv 1)) (SE.so se_int))) sos_nil)) (lm_cons (lm_cons lm_nil)))))) sos_nil))) sss_nil))))))) (by decide)
theorem ok_calls_in (C : Fx K mg a) : ∀ n, FnOk P w K mg base (L2.CX P w) (2 + n) a.f_calls_in a.d_calls_in ["right"] (spOf K mg 1 (s_calls_in n)) := by
  intro n
  induction n with
  | zero => exact fn_rec0 rfl
  | succ n IH =>
  rw [← Nat.add_assoc, r_calls_in]
  refine fn_okX C.F_calls_in sc_calls_in (by decide) (fun cdv A outer s H E hr => ?_)
  have po : PassesOwn (model P w) (cxOf (L2.CX P w) P w K mg base N_calls_in "calls_in" (defScope t_calls_in) a.f_calls_in cdv A outer s H E).A (cxOf (L2.CX P w) P w K mg base N_calls_in "calls_in" (defScope t_calls_in) a.f_calls_in cdv A outer s H E).env (cxOf (L2.CX P w) P w K mg base N_calls_in "calls_in" (defScope t_calls_in) a.f_calls_in cdv A outer s H E).xe := passes_of rfl
  have tk : Takes (cxOf (L2.CX P w) P w K mg base N_calls_in "calls_in" (defScope t_calls_in) a.f_calls_in cdv A outer s H E) (fun c dd _ H' => E c dd H') := takes_of rfl rfl rfl rfl
  unfold m_calls_in lc_calls_in_1
  exact SSs.ex (sss_cons (ss_if (st_cmp (oK_eq K rfl hr.units) ok_eq (nomark _) (SE.so (se_ixK K rfl (fun _ _ => rfl) (so_var (pv 0)) (SE.so se_int))) (SE.so se_str)) (sss_cons (ss_ret (se_lst (sa_cons (se_var (pv 0)) sa_nil))) sss_nil) sss_nil) (sss_cons (ss_ret (se_lc2 (own := [("part", 1), ("call", 2)]) (vs1 := [2]) rfl sc_calls_in.nd (si_seqK K rfl (se_callC (ok_parts_in C) rfl rfl rfl rfl rfl (hr.mono (by first | decide | omega)) (by rfl) C.g_parts_in C.k_parts_in C.B_parts_in rfl tk (so_cons (so_var (pv 0)) sos_nil) (lm_cons lm_nil))) (blkOk_by (own := [("part", 1), ("call", 2)]) (N := N_calls_in) (sc := defScope t_calls_in) (by decide +kernel)) (by decide) (fun _ _ _ _ _ => (sg_name (pg_name (i := 1) sc_calls_in.nd rfl (by first | exact Or.inl rfl | exact Or.inr rfl)))) (by decide) (fun _ _ _ _ _ => sts_nil) (fun _ _ _ _ _ => (si_seqK K rfl (se_callC IH rfl rfl rfl rfl rfl (hr.mono (by first | decide | omega)) (by rfl) C.g_calls_in C.k_calls_in C.B_calls_in rfl takes0 (so_cons (so_var (pv 1)) sos_nil) (lm_cons lm_nil)))) (fun _ _ _ _ _ => (sg_name (pg_name (i := 2) sc_calls_in.nd rfl (by first | exact Or.inl rfl | exact Or.inr rfl)))) (by decide) (fun _ _ _ _ _ => sts_nil) (fun _ _ _ _ _ => (se_var (pv 2))))) sss_nil)) (by decide)
theorem ok_names_in (C : Fx K mg a) : FnOk P w K mg base (L2.CX P w) 33 a.f_names_in a.d_names_in ["right"] (spOf K mg 1 s_names_in) := by
  refine fn_okX (k := 32) C.F_names_in sc_names_in (by decide) (fun cdv A outer s H E hr => ?_)
  have po : PassesOwn (model P w) (cxOf (L2.CX P w) P w K mg base N_names_in "names_in" (defScope t_names_in) a.f_names_in cdv A outer s H E).A (cxOf (L2.CX P w) P w K mg base N_names_in "names_in" (defScope t_names_in) a.f_names_in cdv A outer s H E).env (cxOf (L2.CX P w) P w K mg base N_names_in "names_in" (defScope t_names_in) a.f_names_in cdv A outer s H E).xe := passes_of rfl
  have tk : Takes (cxOf (L2.CX P w) P w K mg base N_names_in "names_in" (defScope t_names_in) a.f_names_in cdv A outer s H E) (fun c dd _ H' => E c dd H') := takes_of rfl rfl rfl rfl
  unfold m_names_in lc_names_in_1
  exact SSs.ex (sss_cons (ss_retS (SFO.sv (SF.o (sf_lc (own := [("word", 1), ("name", 2), ("most", 3), ("times", 4)]) rfl sc_names_in.nd (si_seqK K rfl (se_callC (ok_calls_in C 30) rfl rfl rfl rfl rfl (hr.mono (by first | decide | omega)) (by rfl) C.g_calls_in C.k_calls_in C.B_calls_in rfl tk (so_cons (so_var (pv 0)) sos_nil) (lm_cons lm_nil))) (blkOk_by (own := [("word", 1), ("name", 2), ("most", 3), ("times", 4)]) (N := N_names_in) (sc := defScope t_names_in) (by decide +kernel)) (fun _ _ _ _ _ => (sg_tupK K rfl rfl (sgs_cons (sg_name (pg_name (i := 1) sc_names_in.nd rfl (by first | exact Or.inl rfl | exact Or.inr rfl))) (sgs_cons (sg_name (pg_name (i := 2) sc_names_in.nd rfl (by first | exact Or.inl rfl | exact Or.inr rfl))) (sgs_cons (sg_name (pg_name (i := 3) sc_names_in.nd rfl (by first | exact Or.inl rfl | exact Or.inr rfl))) (sgs_cons (sg_name (pg_name (i := 4) sc_names_in.nd rfl (by first | exact Or.inl rfl | exact Or.inr rfl))) sgs_nil)))))) (by decide) (fun _ _ _ _ _ => sts_nil) (fun _ _ _ _ _ => (se_var (pv 2))))))) sss_nil) (by decide)
theorem ok_is_right (C : Fx K mg a) : FnOk P w K mg base (L2.CX P w) 34 a.f_is_right a.d_is_right ["thing"] (spOf K mg 1 s_is_right) := by
  refine fn_okX (k := 33) C.F_is_right sc_is_right (by decide) (fun cdv A outer s H E hr => ?_)
  have po : PassesOwn (model P w) (cxOf (L2.CX P w) P w K mg base N_is_right "is_right" (defScope t_is_right) a.f_is_right cdv A outer s H E).A (cxOf (L2.CX P w) P w K mg base N_is_right "is_right" (defScope t_is_right) a.f_is_right cdv A outer s H E).env (cxOf (L2.CX P w) P w K mg base N_is_right "is_right" (defScope t_is_right) a.f_is_right cdv A outer s H E).xe := passes_of rfl
  have tk : Takes (cxOf (L2.CX P w) P w K mg base N_is_right "is_right" (defScope t_is_right) a.f_is_right cdv A outer s H E) (fun c dd _ H' => E c dd H') := takes_of rfl rfl rfl rfl
  unfold m_is_right lc_is_right_1
  exact SSs.ex (sss_cons (ss_if (st_not (st_val (se_callC (ok_is_form C 30) rfl rfl rfl rfl rfl (hr.mono (by first | decide | omega)) (by rfl) C.g_is_form C.k_is_form C.B_is_form rfl tk (so_cons (so_var (pv 0)) (so_cons (SE.so (se_gint (by rfl) C.c_DEEPEST)) sos_nil)) (lm_cons (lm_cons lm_nil))))) (sss_cons (ss_ret se_bl) sss_nil) sss_nil) (sss_cons (ss_set (i := 1) sc_is_right.nd rfl (by first | exact Or.inl rfl | exact Or.inr rfl) (se_callC (ok_names_in C) rfl rfl rfl rfl rfl (hr.mono (by first | decide | omega)) (by rfl) C.g_names_in C.k_names_in C.B_names_in rfl tk (so_cons (so_var (pv 0)) sos_nil) (lm_cons lm_nil))) (sss_cons (ss_ret (se_cmp (oK_eq K rfl hr.units) ok_eq (nomark _) (SE.so (se_lenK (own := [("name", 2)]) (by rfl) C.b_len rfl sc_is_right.nd (si_seqK K rfl (se_var (pv 1))) (blkOk_by (own := [("name", 2)]) (N := N_is_right) (sc := defScope t_is_right) (by decide +kernel)) (fun _ _ _ _ _ => (sg_name (pg_name (i := 2) sc_is_right.nd rfl (by first | exact Or.inl rfl | exact Or.inr rfl)))) (by decide) (fun _ _ _ _ _ => sts_nil) (fun _ _ _ _ _ => (se_var (pv 2))))) (SE.so (se_callB (cK_len K rfl) ok_len (by rfl) C.b_len (by decide +kernel) (so_cons (so_var (pv 1)) sos_nil))))) sss_nil))) (by decide)
theorem ok_look_at_right (C : Fx K mg a) : FnOk P w K mg base (L2.CX P w) 35 a.f_look_at_right a.d_look_at_right ["thing"] (spOf K mg 1 s_look_at_right) := by
  refine fn_okX (k := 34) C.F_look_at_right sc_look_at_right (by decide) (fun cdv A outer s H E hr => ?_)
  have po : PassesOwn (model P w) (cxOf (L2.CX P w) P w K mg base N_look_at_right "look_at_right" (defScope t_look_at_right) a.f_look_at_right cdv A outer s H E).A (cxOf (L2.CX P w) P w K mg base N_look_at_right "look_at_right" (defScope t_look_at_right) a.f_look_at_right cdv A outer s H E).env (cxOf (L2.CX P w) P w K mg base N_look_at_right "look_at_right" (defScope t_look_at_right) a.f_look_at_right cdv A outer s H E).xe := passes_of rfl
  have tk : Takes (cxOf (L2.CX P w) P w K mg base N_look_at_right "look_at_right" (defScope t_look_at_right) a.f_look_at_right cdv A outer s H E) (fun c dd _ H' => E c dd H') := takes_of rfl rfl rfl rfl
  unfold m_look_at_right
  exact SSs.ex (sss_cons (ss_if (st_not (st_val (se_callC (ok_is_right C) rfl rfl rfl rfl rfl (hr.mono (by first | decide | omega)) (by rfl) C.g_is_right C.k_is_right C.B_is_right rfl tk (so_cons (so_var (pv 0)) sos_nil) (lm_cons lm_nil)))) (sss_cons (ss_raise0 K rfl rfl C.x_ok C.x_NoRight ⟨by decide, rfl⟩ rfl tk (by rfl)) sss_nil) sss_nil) sss_nil) (by decide)
theorem ok_cut_at (C : Fx K mg a) : FnOk P w K mg base (L2.CX P w) 1 a.f_cut_at a.d_cut_at ["most", "below"] (spOf K mg 2 s_cut_at) := by
  refine fn_okX (k := 0) C.F_cut_at sc_cut_at (by decide) (fun cdv A outer s H E hr => ?_)
  have po : PassesOwn (model P w) (cxOf (L2.CX P w) P w K mg base N_cut_at "cut_at" (defScope t_cut_at) a.f_cut_at cdv A outer s H E).A (cxOf (L2.CX P w) P w K mg base N_cut_at "cut_at" (defScope t_cut_at) a.f_cut_at cdv A outer s H E).env (cxOf (L2.CX P w) P w K mg base N_cut_at "cut_at" (defScope t_cut_at) a.f_cut_at cdv A outer s H E).xe := passes_of rfl
  have tk : Takes (cxOf (L2.CX P w) P w K mg base N_cut_at "cut_at" (defScope t_cut_at) a.f_cut_at cdv A outer s H E) (fun c dd _ H' => E c dd H') := takes_of rfl rfl rfl rfl
  unfold m_cut_at
  exact SSs.ex (sss_cons (ss_ret (se_if (st_cmp op_isN ok_is (nomark _) (so_var (pv 1)) (SE.so se_non)) (se_var (pv 0)) (se_callB (cK_min K rfl rfl) ok_min (by rfl) C.b_min (by decide +kernel) (so_cons (so_var (pv 0)) (so_cons (SE.so (se_op op_sub ok_sub (so_var (pv 1)) (SE.so se_int))) sos_nil))))) sss_nil) (by decide)
theorem ok_longest_of (C : Fx K mg a) : ∀ n, FnOk P w K mg base (L2.CX P w) (1 + n) a.f_longest_of a.d_longest_of ["right"] (spOf K mg 1 (s_longest_of n)) := by
  intro n
  induction n with
  | zero => exact fn_rec0 rfl
  | succ n IH =>
  rw [← Nat.add_assoc, r_longest_of]
  refine fn_okX C.F_longest_of sc_longest_of (by decide) (fun cdv A outer s H E hr => ?_)
  have po : PassesOwn (model P w) (cxOf (L2.CX P w) P w K mg base N_longest_of "longest_of" (defScope t_longest_of) a.f_longest_of cdv A outer s H E).A (cxOf (L2.CX P w) P w K mg base N_longest_of "longest_of" (defScope t_longest_of) a.f_longest_of cdv A outer s H E).env (cxOf (L2.CX P w) P w K mg base N_longest_of "longest_of" (defScope t_longest_of) a.f_longest_of cdv A outer s H E).xe := passes_of rfl
  have tk : Takes (cxOf (L2.CX P w) P w K mg base N_longest_of "longest_of" (defScope t_longest_of) a.f_longest_of cdv A outer s H E) (fun c dd _ H' => E c dd H') := takes_of rfl rfl rfl rfl
  unfold m_longest_of lc_longest_of_1
  exact SSs.ex (sss_cons (ss_star (i := 3) rfl (se_var (pv 0)) (sg_name (pg_name (i := 2) sc_longest_of.nd rfl (by first | exact Or.inl rfl | exact Or.inr rfl))) (pg_name (i := 3) sc_longest_of.nd rfl (by first | exact Or.inl rfl | exact Or.inr rfl))) (sss_cons (ss_if (st_cmp (oK_eq K rfl hr.units) ok_eq (nomark _) (so_var (pv 2)) (SE.so se_str)) (sss_cons (ss_ret se_int) sss_nil) sss_nil) (sss_cons (ss_if (st_cmp (oK_eq K rfl hr.units) ok_eq (nomark _) (so_var (pv 2)) (SE.so se_str)) (sss_cons (ss_ret (se_ixK K rfl (fun _ _ => rfl) (so_var (pv 3)) (SE.so se_int))) sss_nil) sss_nil) (sss_cons (ss_if (st_cmp (oK_in K rfl) ok_in (by rfl) (so_var (pv 2)) (SE.so (se_tup (sa_cons se_str (sa_cons se_str sa_nil))))) (sss_cons (ss_ret (se_callB (cK_min K rfl rfl) ok_min (by rfl) C.b_min (by decide +kernel) (so_cons (SE.so (se_ixK K rfl (fun _ _ => rfl) (so_var (pv 3)) (SE.so se_int))) (so_cons (SE.so (se_callC IH rfl rfl rfl rfl rfl (hr.mono (by first | decide | omega)) (by rfl) C.g_longest_of C.k_longest_of C.B_longest_of rfl tk (so_cons (SE.so (se_ixK K rfl (fun _ _ => rfl) (so_var (pv 3)) (SE.so se_int))) sos_nil) (lm_cons lm_nil))) sos_nil)))) sss_nil) sss_nil) (sss_cons (ss_setLc (i := 1) (own := [("part", 4)]) rfl sc_longest_of.nd rfl rfl (sw_true rfl rfl rfl (by decide +kernel)) (si_seqK K rfl (se_ixK K rfl (fun _ _ => rfl) (so_var (pv 3)) (SE.so se_int))) (blkOk_by (own := [("part", 4)]) (N := N_longest_of) (sc := defScope t_longest_of) (by decide +kernel)) (fun _ _ _ _ _ => (sg_name (pg_name (i := 4) sc_longest_of.nd rfl (by first | exact Or.inl rfl | exact Or.inr rfl)))) (by decide) (fun _ _ _ _ _ => sts_nil) (fun _ _ _ _ _ => (se_callC IH rfl rfl rfl rfl rfl (hr.mono (by first | decide | omega)) (by rfl) C.g_longest_of C.k_longest_of C.B_longest_of rfl takes0 (so_cons (so_var (pv 4)) sos_nil) (lm_cons lm_nil)))) (sss_cons (ss_ret (se_if (st_cmp (oK_eq K rfl hr.units) ok_eq (nomark _) (so_var (pv 2)) (SE.so se_str)) (se_callB (cK_sum K rfl rfl) ok_sum (by rfl) C.b_sum (by decide +kernel) (so_cons (so_var (pv 1)) sos_nil)) (se_maxDK K rfl rfl hr.units (by rfl) C.b_max (so_var (pv 1)) se_int))) sss_nil)))))) (by decide)
theorem ok_shared_out (C : Fx K mg a) : FnOk P w K mg base (L2.CX P w) 1 a.f_shared_out a.d_shared_out ["one", "other", "calls"] (spOf K mg 3 s_shared_out) := by
  refine fn_okX (k := 0) C.F_shared_out sc_shared_out (by decide) (fun cdv A outer s H E hr => ?_)
  have po : PassesOwn (model P w) (cxOf (L2.CX P w) P w K mg base N_shared_out "shared_out" (defScope t_shared_out) a.f_shared_out cdv A outer s H E).A (cxOf (L2.CX P w) P w K mg base N_shared_out "shared_out" (defScope t_shared_out) a.f_shared_out cdv A outer s H E).env (cxOf (L2.CX P w) P w K mg base N_shared_out "shared_out" (defScope t_shared_out) a.f_shared_out cdv A outer s H E).xe := passes_of rfl
  have tk : Takes (cxOf (L2.CX P w) P w K mg base N_shared_out "shared_out" (defScope t_shared_out) a.f_shared_out cdv A outer s H E) (fun c dd _ H' => E c dd H') := takes_of rfl rfl rfl rfl
  unfold m_shared_out lc_shared_out_2 lc_shared_out_1
  exact SSs.ex (sss_cons (ss_retS (SFO.sv (SF.o (sf_lc (own := [("j", 3)]) rfl sc_shared_out.nd (si_range1 (fun h => pi_range1 (by rfl) C.b_range h) (so_cons (SE.so (se_op (oK_add K rfl) ok_add (so_var (pv 2)) (SE.so se_int))) sos_nil)) (blkOk_by (own := [("j", 3)]) (N := N_shared_out) (sc := defScope t_shared_out) (by decide +kernel)) (fun _ _ _ _ _ => (sg_name (pg_name (i := 3) sc_shared_out.nd rfl (by first | exact Or.inl rfl | exact Or.inr rfl)))) (by decide) (fun _ _ _ _ _ => sts_nil) (fun _ _ _ _ _ => (se_callB (cK_max K rfl rfl) ok_max (by rfl) C.b_max (by decide +kernel) (so_cons (SE.so (se_lc (own := [("i", 4)]) rfl sc_shared_out.nd (si_range1 (fun h => pi_range1 (by rfl) C.b_range h) (so_cons (SE.so (se_op (oK_add K rfl) ok_add (so_var (pv 3)) (SE.so se_int))) sos_nil)) (blkOk_by (own := [("i", 4)]) (N := N_shared_out) (sc := relS _ (defScope t_shared_out)) (by decide +kernel)) (fun _ _ _ _ _ => (sg_name (pg_name (i := 4) sc_shared_out.nd rfl (by first | exact Or.inl rfl | exact Or.inr rfl)))) (by decide) (fun _ _ _ _ _ => sts_nil) (fun _ _ _ _ _ => (se_op (oK_add K rfl) ok_add (SE.so (se_ixK K rfl (fun _ _ => rfl) (so_var (pv 0)) (so_var (pv 4)))) (SE.so (se_ixK K rfl (fun _ _ => rfl) (so_var (pv 1)) (SE.so (se_op op_sub ok_sub (so_var (pv 3)) (so_var (pv 4)))))))))) sos_nil))))))) sss_nil) (by decide)
theorem ok_row_of (C : Fx K mg a) : ∀ n, FnOk P w K mg base (L2.CX P w) (2 + n) a.f_row_of a.d_row_of ["right", "below", "calls"] (spOf K mg 3 (s_row_of n)) := by
  intro n
  induction n with
  | zero => exact fn_rec0 rfl
  | succ n IH =>
  rw [← Nat.add_assoc, r_row_of]
  refine fn_okX C.F_row_of sc_row_of (by decide) (fun cdv A outer s H E hr => ?_)
  have po : PassesOwn (model P w) (cxOf (L2.CX P w) P w K mg base N_row_of "row_of" (defScope t_row_of) a.f_row_of cdv A outer s H E).A (cxOf (L2.CX P w) P w K mg base N_row_of "row_of" (defScope t_row_of) a.f_row_of cdv A outer s H E).env (cxOf (L2.CX P w) P w K mg base N_row_of "row_of" (defScope t_row_of) a.f_row_of cdv A outer s H E).xe := passes_of rfl
  have tk : Takes (cxOf (L2.CX P w) P w K mg base N_row_of "row_of" (defScope t_row_of) a.f_row_of cdv A outer s H E) (fun c dd _ H' => E c dd H') := takes_of rfl rfl rfl rfl
  unfold m_row_of fr_row_of_1 lp_row_of_1 lc_row_of_4 lc_row_of_3 lc_row_of_2 lc_row_of_1
  exact SSs.ex (sss_cons (ss_star (i := 7) rfl (se_var (pv 0)) (sg_name (pg_name (i := 5) sc_row_of.nd rfl (by first | exact Or.inl rfl | exact Or.inr rfl))) (pg_name (i := 7) sc_row_of.nd rfl (by first | exact Or.inl rfl | exact Or.inr rfl))) (sss_cons (ss_if (st_cmp (oK_eq K rfl hr.units) ok_eq (nomark _) (so_var (pv 5)) (SE.so se_str)) (sss_cons (ss_ret (se_op (oK_mul K rfl) ok_mul (SE.so (se_lst (sa_cons se_int sa_nil))) (SE.so (se_op (oK_add K rfl) ok_add (so_var (pv 2)) (SE.so se_int))))) sss_nil) sss_nil) (sss_cons (ss_if (st_cmp (oK_eq K rfl hr.units) ok_eq (nomark _) (so_var (pv 5)) (SE.so se_str)) (sss_cons (ss_retS (SFO.sv (SF.o (sf_lc (own := [("j", 8)]) rfl sc_row_of.nd (si_range1 (fun h => pi_range1 (by rfl) C.b_range h) (so_cons (SE.so (se_op (oK_add K rfl) ok_add (so_var (pv 2)) (SE.so se_int))) sos_nil)) (blkOk_by (own := [("j", 8)]) (N := N_row_of) (sc := defScope t_row_of) (by decide +kernel)) (fun _ _ _ _ _ => (sg_name (pg_name (i := 8) sc_row_of.nd rfl (by first | exact Or.inl rfl | exact Or.inr rfl)))) (by decide) (fun _ _ _ _ _ => sts_nil) (fun _ _ _ _ _ => (se_op (oK_mul K rfl) ok_mul (SE.so (se_callB (cK_min K rfl rfl) ok_min (by rfl) C.b_min (by decide +kernel) (so_cons (SE.so (se_ixK K rfl (fun _ _ => rfl) (so_var (pv 7)) (SE.so se_int))) (so_cons (so_var (pv 8)) sos_nil)))) (SE.so (se_callC (ok_cut_at C) rfl rfl rfl rfl rfl (hr.mono (by first | decide | omega)) (by rfl) C.g_cut_at C.k_cut_at C.B_cut_at rfl takes0 (so_cons (SE.so (se_ixK K rfl (fun _ _ => rfl) (so_var (pv 7)) (SE.so se_int))) (so_cons (so_var (pv 1)) sos_nil)) (lm_cons (lm_cons lm_nil)))))))))) sss_nil) sss_nil) (sss_cons (ss_if (st_cmp (oK_eq K rfl hr.units) ok_eq (nomark _) (so_var (pv 5)) (SE.so se_str)) (sss_cons (ss_retS (SFO.sv (SF.o (sf_lc (own := [("found", 3)]) rfl sc_row_of.nd (si_seqK K rfl (se_callC IH rfl rfl rfl rfl rfl (hr.mono (by first | decide | omega)) (by rfl) C.g_row_of C.k_row_of C.B_row_of rfl tk (so_cons (SE.so (se_ixK K rfl (fun _ _ => rfl) (so_var (pv 7)) (SE.so se_int))) (so_cons (so_var (pv 1)) (so_cons (so_var (pv 2)) sos_nil))) (lm_cons (lm_cons (lm_cons lm_nil))))) (blkOk_by (own := [("found", 3)]) (N := N_row_of) (sc := defScope t_row_of) (by decide +kernel)) (fun _ _ _ _ _ => (sg_name (pg_name (i := 3) sc_row_of.nd rfl (by first | exact Or.inl rfl | exact Or.inr rfl)))) (by decide) (fun _ _ _ _ _ => sts_nil) (fun _ _ _ _ _ => (se_callB (cK_min K rfl rfl) ok_min (by rfl) C.b_min (by decide +kernel) (so_cons (SE.so (se_ixK K rfl (fun _ _ => rfl) (so_var (pv 7)) (SE.so se_int))) (so_cons (so_var (pv 3)) sos_nil)))))))) sss_nil) sss_nil) (sss_cons (ss_if (st_cmp (oK_eq K rfl hr.units) ok_eq (nomark _) (so_var (pv 5)) (SE.so se_str)) (sss_cons (ss_set (i := 3) sc_row_of.nd rfl (by first | exact Or.inl rfl | exact Or.inr rfl) (se_callC IH rfl rfl rfl rfl rfl (hr.mono (by first | decide | omega)) (by rfl) C.g_row_of C.k_row_of C.B_row_of rfl tk (so_cons (SE.so (se_ixK K rfl (fun _ _ => rfl) (so_var (pv 7)) (SE.so se_int))) (so_cons (so_var (pv 1)) (so_cons (SE.so (se_callB (cK_min K rfl rfl) ok_min (by rfl) C.b_min (by decide +kernel) (so_cons (so_var (pv 2)) (so_cons (SE.so (se_ixK K rfl (fun _ _ => rfl) (so_var (pv 7)) (SE.so se_int))) sos_nil)))) sos_nil))) (lm_cons (lm_cons (lm_cons lm_nil))))) (sss_cons (ss_retS (SFO.sv (SF.o (sf_lc (own := [("j", 8)]) rfl sc_row_of.nd (si_range1 (fun h => pi_range1 (by rfl) C.b_range h) (so_cons (SE.so (se_op (oK_add K rfl) ok_add (so_var (pv 2)) (SE.so se_int))) sos_nil)) (blkOk_by (own := [("j", 8)]) (N := N_row_of) (sc := defScope t_row_of) (by decide +kernel)) (fun _ _ _ _ _ => (sg_name (pg_name (i := 8) sc_row_of.nd rfl (by first | exact Or.inl rfl | exact Or.inr rfl)))) (by decide) (fun _ _ _ _ _ => sts_nil) (fun _ _ _ _ _ => (se_ixK K rfl (fun _ _ => rfl) (so_var (pv 3)) (SE.so (se_callB (cK_min K rfl rfl) ok_min (by rfl) C.b_min (by decide +kernel) (so_cons (so_var (pv 8)) (so_cons (SE.so (se_ixK K rfl (fun _ _ => rfl) (so_var (pv 7)) (SE.so se_int))) sos_nil)))))))))) sss_nil)) sss_nil) (sss_cons (ss_set (i := 3) sc_row_of.nd rfl (by first | exact Or.inl rfl | exact Or.inr rfl) (se_op (oK_mul K rfl) ok_mul (SE.so (se_lst (sa_cons se_int sa_nil))) (SE.so (se_op (oK_add K rfl) ok_add (so_var (pv 2)) (SE.so se_int))))) (sss_cons (ss_for [4, 6] po rfl (si_seqK K rfl (se_ixK K rfl (fun _ _ => rfl) (so_var (pv 7)) (SE.so se_int))) (sg_name (pg_name (i := 4) sc_row_of.nd rfl (by first | exact Or.inl rfl | exact Or.inr rfl))) (sss_cons (ss_set (i := 6) sc_row_of.nd rfl (by first | exact Or.inl rfl | exact Or.inr rfl) (se_callC IH rfl rfl rfl rfl rfl (hr.mono (by first | decide | omega)) (by rfl) C.g_row_of C.k_row_of C.B_row_of rfl tk (so_cons (so_var (pv 4)) (so_cons (so_var (pv 1)) (so_cons (so_var (pv 2)) sos_nil))) (lm_cons (lm_cons (lm_cons lm_nil))))) (sss_cons (ss_if (st_cmp (oK_eq K rfl hr.units) ok_eq (nomark _) (so_var (pv 5)) (SE.so se_str)) (sss_cons (ss_set (i := 3) sc_row_of.nd rfl (by first | exact Or.inl rfl | exact Or.inr rfl) (se_lc (own := [("pair", 9)]) rfl sc_row_of.nd (si_zipEK K rfl (fun h => pi_zipS (by rfl) C.b_zip h) (sa_cons (se_var (pv 3)) (sa_cons (se_var (pv 6)) sa_nil))) (blkOk_by (own := [("pair", 9)]) (N := N_row_of) (sc := defScope t_row_of) (by decide +kernel)) (fun _ _ _ _ _ => (sg_name (pg_name (i := 9) sc_row_of.nd rfl (by first | exact Or.inl rfl | exact Or.inr rfl)))) (by decide) (fun _ _ _ _ _ => sts_nil) (fun _ _ _ _ _ => (se_callB (cK_maxT K rfl rfl hr.units) ok_maxT (by rfl) C.b_max (by decide +kernel) (so_cons (so_var (pv 9)) sos_nil))))) sss_nil) (sss_cons (ss_set (i := 3) sc_row_of.nd rfl (by first | exact Or.inl rfl | exact Or.inr rfl) (se_callC (ok_shared_out C) rfl rfl rfl rfl rfl (hr.mono (by first | decide | omega)) (by rfl) C.g_shared_out C.k_shared_out C.B_shared_out rfl tk (so_cons (so_var (pv 3)) (so_cons (so_var (pv 6)) (so_cons (so_var (pv 2)) sos_nil))) (lm_cons (lm_cons (lm_cons lm_nil))))) sss_nil)) sss_nil))) (sss_cons (ss_ret (se_var (pv 3))) sss_nil)))))))) (by decide)
theorem ok_most_of (C : Fx K mg a) : ∀ n, FnOk P w K mg base (L2.CX P w) (33 + n) a.f_most_of a.d_most_of ["right", "below"] (spOf K mg 2 (s_most_of n)) := by
  intro n
  induction n with
  | zero => exact fn_rec0 rfl
  | succ n IH =>
  rw [← Nat.add_assoc, r_most_of]
  refine fn_okD C.F_most_of sc_most_of (by decide) (fun cdv A outer s H E hr => ?_)
  have po : PassesOwn (model P w) (cxOf (L2.CX P w) P w K mg base N_most_of "most_of" (defScope t_most_of) a.f_most_of cdv A outer s H E).A (cxOf (L2.CX P w) P w K mg base N_most_of "most_of" (defScope t_most_of) a.f_most_of cdv A outer s H E).env (cxOf (L2.CX P w) P w K mg base N_most_of "most_of" (defScope t_most_of) a.f_most_of cdv A outer s H E).xe := passes_of rfl
  have tk : Takes (cxOf (L2.CX P w) P w K mg base N_most_of "most_of" (defScope t_most_of) a.f_most_of cdv A outer s H E) (fun c dd _ H' => E c dd H') := takes_of rfl rfl rfl rfl
  unfold m_most_of lc_most_of_1
  exact SSs.ex (sss_cons (ss_star (i := 4) rfl (se_var (pv 0)) (sg_name (pg_name (i := 3) sc_most_of.nd rfl (by first | exact Or.inl rfl | exact Or.inr rfl))) (pg_name (i := 4) sc_most_of.nd rfl (by first | exact Or.inl rfl | exact Or.inr rfl))) (sss_cons (ss_if (st_cmp (oK_eq K rfl hr.units) ok_eq (nomark _) (so_var (pv 3)) (SE.so se_str)) (sss_cons (ss_ret se_int) sss_nil) sss_nil) (sss_cons (ss_if (st_cmp (oK_eq K rfl hr.units) ok_eq (nomark _) (so_var (pv 3)) (SE.so se_str)) (sss_cons (ss_ret (se_op (oK_mul K rfl) ok_mul (SE.so (se_ixK K rfl (fun _ _ => rfl) (so_var (pv 4)) (SE.so se_int))) (SE.so (se_callC (ok_cut_at C) rfl rfl rfl rfl rfl (hr.mono (by first | decide | omega)) (by rfl) C.g_cut_at C.k_cut_at C.B_cut_at rfl tk (so_cons (SE.so (se_ixK K rfl (fun _ _ => rfl) (so_var (pv 4)) (SE.so se_int))) (so_cons (so_var (pv 1)) sos_nil)) (lm_cons (lm_cons lm_nil)))))) sss_nil) sss_nil) (sss_cons (ss_if (st_cmp (oK_eq K rfl hr.units) ok_eq (nomark _) (so_var (pv 3)) (SE.so se_str)) (sss_cons (ss_ret (se_callB (cK_min K rfl rfl) ok_min (by rfl) C.b_min (by decide +kernel) (so_cons (SE.so (se_ixK K rfl (fun _ _ => rfl) (so_var (pv 4)) (SE.so se_int))) (so_cons (SE.so (se_callC IH rfl rfl rfl rfl rfl (hr.mono (by first | decide | omega)) (by rfl) C.g_most_of C.k_most_of C.B_most_of rfl tk (so_cons (SE.so (se_ixK K rfl (fun _ _ => rfl) (so_var (pv 4)) (SE.so se_int))) (so_cons (so_var (pv 1)) sos_nil)) (lm_cons (lm_cons lm_nil)))) sos_nil)))) sss_nil) sss_nil) (sss_cons (ss_if (st_cmp (oK_eq K rfl hr.units) ok_eq (nomark _) (so_var (pv 3)) (SE.so se_str)) (sss_cons (ss_ret (se_ixK K rfl (fun _ _ => rfl) (SE.so (se_callC (ok_row_of C 30) rfl rfl rfl rfl rfl (hr.mono (by first | decide | omega)) (by rfl) C.g_row_of C.k_row_of C.B_row_of rfl tk (so_cons (SE.so (se_ixK K rfl (fun _ _ => rfl) (so_var (pv 4)) (SE.so se_int))) (so_cons (so_var (pv 1)) (so_cons (SE.so (se_callB (cK_min K rfl rfl) ok_min (by rfl) C.b_min (by decide +kernel) (so_cons (SE.so (se_ixK K rfl (fun _ _ => rfl) (so_var (pv 4)) (SE.so se_int))) (so_cons (SE.so (se_callC (ok_longest_of C 30) rfl rfl rfl rfl rfl (hr.mono (by first | decide | omega)) (by rfl) C.g_longest_of C.k_longest_of C.B_longest_of rfl tk (so_cons (SE.so (se_ixK K rfl (fun _ _ => rfl) (so_var (pv 4)) (SE.so se_int))) sos_nil) (lm_cons lm_nil))) sos_nil)))) sos_nil))) (lm_cons (lm_cons (lm_cons lm_nil))))) (SE.so (se_neg (SE.so se_int))))) sss_nil) sss_nil) (sss_cons (ss_setLc (i := 2) (own := [("part", 5)]) rfl sc_most_of.nd rfl rfl (sw_true rfl rfl rfl (by decide +kernel)) (si_seqK K rfl (se_ixK K rfl (fun _ _ => rfl) (so_var (pv 4)) (SE.so se_int))) (blkOk_by (own := [("part", 5)]) (N := N_most_of) (sc := defScope t_most_of) (by decide +kernel)) (fun _ _ _ _ _ => (sg_name (pg_name (i := 5) sc_most_of.nd rfl (by first | exact Or.inl rfl | exact Or.inr rfl)))) (by decide) (fun _ _ _ _ _ => sts_nil) (fun _ _ _ _ _ => (se_callC IH rfl rfl rfl rfl rfl (hr.mono (by first | decide | omega)) (by rfl) C.g_most_of C.k_most_of C.B_most_of rfl takes0 (so_cons (so_var (pv 5)) (so_cons (so_var (pv 1)) sos_nil)) (lm_cons (lm_cons lm_nil))))) (sss_cons (ss_ret (se_if (st_cmp (oK_eq K rfl hr.units) ok_eq (nomark _) (so_var (pv 3)) (SE.so se_str)) (se_callB (cK_sum K rfl rfl) ok_sum (by rfl) C.b_sum (by decide +kernel) (so_cons (so_var (pv 2)) sos_nil)) (se_maxDK K rfl rfl hr.units (by rfl) C.b_max (so_var (pv 2)) se_int))) sss_nil))))))) (by decide)
theorem ok_bounds_of (C : Fx K mg a) : FnOk P w K mg base (L2.CX P w) 2 a.f_bounds_of a.d_bounds_of ["pile"] (spOf K mg 1 s_bounds_of) := by
  refine fn_okX (k := 1) C.F_bounds_of sc_bounds_of (by decide) (fun cdv A outer s H E hr => ?_)
  have po : PassesOwn (model P w) (cxOf (L2.CX P w) P w K mg base N_bounds_of "bounds_of" (defScope t_bounds_of) a.f_bounds_of cdv A outer s H E).A (cxOf (L2.CX P w) P w K mg base N_bounds_of "bounds_of" (defScope t_bounds_of) a.f_bounds_of cdv A outer s H E).env (cxOf (L2.CX P w) P w K mg base N_bounds_of "bounds_of" (defScope t_bounds_of) a.f_bounds_of cdv A outer s H E).xe := passes_of rfl
  have tk : Takes (cxOf (L2.CX P w) P w K mg base N_bounds_of "bounds_of" (defScope t_bounds_of) a.f_bounds_of cdv A outer s H E) (fun c dd _ H' => E c dd H') := takes_of rfl rfl rfl rfl
  unfold m_bounds_of lc_bounds_of_1
  exact SSs.ex (sss_cons (ss_setLc (i := 1) (own := [("worth", 2), ("many", 3)]) rfl sc_bounds_of.nd rfl rfl (sw_true rfl rfl rfl (by decide +kernel)) (si_seqK K rfl (se_var (pv 0))) (blkOk_by (own := [("worth", 2), ("many", 3)]) (N := N_bounds_of) (sc := defScope t_bounds_of) (by decide +kernel)) (fun _ _ _ _ _ => (sg_tupK K rfl rfl (sgs_cons (sg_name (pg_name (i := 2) sc_bounds_of.nd rfl (by first | exact Or.inl rfl | exact Or.inr rfl))) (sgs_cons (sg_name (pg_name (i := 3) sc_bounds_of.nd rfl (by first | exact Or.inl rfl | exact Or.inr rfl))) sgs_nil)))) (by decide) (fun _ _ _ _ _ => (sts_one (st_cmp op_gt ok_gt (nomark _) (so_var (pv 2)) (SE.so se_int)))) (fun _ _ _ _ _ => (se_tup (sa_cons (se_var (pv 2)) (sa_cons (se_callC (ok_less_of C) rfl rfl rfl rfl rfl (hr.mono (by first | decide | omega)) (by rfl) C.g_less_of C.k_less_of C.B_less_of rfl takes0 (so_cons (so_var (pv 0)) (so_cons (so_var (pv 2)) sos_nil)) (lm_cons (lm_cons lm_nil))) sa_nil))))) (sss_cons (ss_ret (se_op (oK_add K rfl) ok_add (so_var (pv 1)) (SE.so (se_lst (sa_cons (se_tup (sa_cons se_non (sa_cons (se_callC (ok_sum_of C) rfl rfl rfl rfl rfl (hr.mono (by first | decide | omega)) (by rfl) C.g_sum_of C.k_sum_of C.B_sum_of rfl tk (so_cons (so_var (pv 0)) sos_nil) (lm_cons lm_nil)) sa_nil))) sa_nil))))) sss_nil)) (by decide)
theorem ok_failing (C : Fx K mg a) : FnOk P w K mg base (L2.CX P w) 64 a.f_failing a.d_failing ["pile", "right"] (spOf K mg 2 s_failing) := by
  refine fn_okX (k := 63) C.F_failing sc_failing (by decide) (fun cdv A outer s H E hr => ?_)
  have po : PassesOwn (model P w) (cxOf (L2.CX P w) P w K mg base N_failing "failing" (defScope t_failing) a.f_failing cdv A outer s H E).A (cxOf (L2.CX P w) P w K mg base N_failing "failing" (defScope t_failing) a.f_failing cdv A outer s H E).env (cxOf (L2.CX P w) P w K mg base N_failing "failing" (defScope t_failing) a.f_failing cdv A outer s H E).xe := passes_of rfl
  have tk : Takes (cxOf (L2.CX P w) P w K mg base N_failing "failing" (defScope t_failing) a.f_failing cdv A outer s H E) (fun c dd _ H' => E c dd H') := takes_of rfl rfl rfl rfl
  unfold m_failing lc_failing_1
  exact SSs.ex (sss_cons (ss_retS (SFO.sv (SF.o (sf_lc (own := [("below", 2), ("there", 3)]) rfl sc_failing.nd (si_seqK K rfl (se_callC (ok_bounds_of C) rfl rfl rfl rfl rfl (hr.mono (by first | decide | omega)) (by rfl) C.g_bounds_of C.k_bounds_of C.B_bounds_of rfl tk (so_cons (so_var (pv 0)) sos_nil) (lm_cons lm_nil))) (blkOk_by (own := [("below", 2), ("there", 3)]) (N := N_failing) (sc := defScope t_failing) (by decide +kernel)) (fun _ _ _ _ _ => (sg_tupK K rfl rfl (sgs_cons (sg_name (pg_name (i := 2) sc_failing.nd rfl (by first | exact Or.inl rfl | exact Or.inr rfl))) (sgs_cons (sg_name (pg_name (i := 3) sc_failing.nd rfl (by first | exact Or.inl rfl | exact Or.inr rfl))) sgs_nil)))) (by decide) (fun _ _ _ _ _ => (sts_one (st_cmp op_gt ok_gt (nomark _) (SE.so (se_callC (ok_most_of C 30) rfl rfl rfl rfl rfl (hr.mono (by first | decide | omega)) (by rfl) C.g_most_of C.k_most_of C.B_most_of rfl takes0 (so_cons (so_var (pv 1)) (so_cons (so_var (pv 2)) sos_nil)) (lm_cons (lm_cons lm_nil)))) (so_var (pv 3))))) (fun _ _ _ _ _ => (se_tup (sa_cons (se_var (pv 2)) (sa_cons (se_var (pv 3)) sa_nil)))))))) sss_nil) (by decide)
theorem ok_is_served (C : Fx K mg a) : FnOk P w K mg base (L2.CX P w) 65 a.f_is_served a.d_is_served ["pile", "right"] (spOf K mg 2 s_is_served) := by
  refine fn_okX (k := 64) C.F_is_served sc_is_served (by decide) (fun cdv A outer s H E hr => ?_)
  have po : PassesOwn (model P w) (cxOf (L2.CX P w) P w K mg base N_is_served "is_served" (defScope t_is_served) a.f_is_served cdv A outer s H E).A (cxOf (L2.CX P w) P w K mg base N_is_served "is_served" (defScope t_is_served) a.f_is_served cdv A outer s H E).env (cxOf (L2.CX P w) P w K mg base N_is_served "is_served" (defScope t_is_served) a.f_is_served cdv A outer s H E).xe := passes_of rfl
  have tk : Takes (cxOf (L2.CX P w) P w K mg base N_is_served "is_served" (defScope t_is_served) a.f_is_served cdv A outer s H E) (fun c dd _ H' => E c dd H') := takes_of rfl rfl rfl rfl
  unfold m_is_served
  exact SSs.ex (sss_cons (ss_ret (se_cmp (oK_eq K rfl hr.units) ok_eq (nomark _) (SE.so (se_callB (cK_len K rfl) ok_len (by rfl) C.b_len (by decide +kernel) (so_cons (SE.so (se_callC (ok_failing C) rfl rfl rfl rfl rfl (hr.mono (by first | decide | omega)) (by rfl) C.g_failing C.k_failing C.B_failing rfl tk (so_cons (so_var (pv 0)) (so_cons (so_var (pv 1)) sos_nil)) (lm_cons (lm_cons lm_nil)))) sos_nil))) (SE.so se_int))) sss_nil) (by decide)
theorem ok_within_by (C : Fx K mg a) : FnOk P w K mg base (L2.CX P w) 1 a.f_within_by a.d_within_by ["pile"] (spOf K mg 1 s_k64_within_by) := by
  refine fn_okX (k := 0) C.F_within_by sc_within_by (by decide) (fun cdv A outer s H E hr => ?_)
  have po : PassesOwn (model P w) (cxOf (L2.CX P w) P w K mg base N_within_by "within_by" (defScope t_within_by) a.f_within_by cdv A outer s H E).A (cxOf (L2.CX P w) P w K mg base N_within_by "within_by" (defScope t_within_by) a.f_within_by cdv A outer s H E).env (cxOf (L2.CX P w) P w K mg base N_within_by "within_by" (defScope t_within_by) a.f_within_by cdv A outer s H E).xe := passes_of rfl
  have tk : Takes (cxOf (L2.CX P w) P w K mg base N_within_by "within_by" (defScope t_within_by) a.f_within_by cdv A outer s H E) (fun c dd _ H' => E c dd H') := takes_of rfl rfl rfl rfl
  unfold m_k64_within_by fr_k64_within_by_1 lp_k64_within_by_1 lc_k64_within_by_1
  exact SSs.ex (sss_cons (ss_set (i := 1) sc_within_by.nd rfl (by first | exact Or.inl rfl | exact Or.inr rfl) (se_lst (sa_cons (se_tup sa_nil) sa_nil))) (sss_cons (ss_for [2, 3] po rfl (si_seqK K rfl (se_var (pv 0))) (sg_tupK K rfl rfl (sgs_cons (sg_name (pg_name (i := 2) sc_within_by.nd rfl (by first | exact Or.inl rfl | exact Or.inr rfl))) (sgs_cons (sg_name (pg_name (i := 3) sc_within_by.nd rfl (by first | exact Or.inl rfl | exact Or.inr rfl))) sgs_nil))) (sss_cons (ss_setLc2 (i := 1) (own := [("one", 4), ("often", 5)]) (vs1 := [5]) rfl sc_within_by.nd rfl rfl (sw_true rfl rfl rfl (by decide +kernel)) (si_seqK K rfl (se_var (pv 1))) (blkOk_by (own := [("one", 4), ("often", 5)]) (N := N_within_by) (sc := defScope t_within_by) (by decide +kernel)) (by decide) (fun _ _ _ _ _ => (sg_name (pg_name (i := 4) sc_within_by.nd rfl (by first | exact Or.inl rfl | exact Or.inr rfl)))) (by decide) (fun _ _ _ _ _ => sts_nil) (fun _ _ _ _ _ => (si_range1 (fun h => pi_range1 (by rfl) C.b_range h) (so_cons (SE.so (se_op (oK_add K rfl) ok_add (so_var (pv 3)) (SE.so se_int))) sos_nil))) (fun _ _ _ _ _ => (sg_name (pg_name (i := 5) sc_within_by.nd rfl (by first | exact Or.inl rfl | exact Or.inr rfl)))) (by decide) (fun _ _ _ _ _ => sts_nil) (fun _ _ _ _ _ => (se_op (oK_add K rfl) ok_add (so_var (pv 4)) (SE.so (se_op (oK_mul K rfl) ok_mul (SE.so (se_tup (sa_cons (se_tup (sa_cons (se_var (pv 2)) (sa_cons (se_var (pv 5)) sa_nil))) sa_nil))) (SE.so (se_callTy (cK_int K rfl) ok_int (by rfl) C.b_int (by decide +kernel) (so_cons (SE.so (se_cmp op_gt ok_gt (nomark _) (so_var (pv 5)) (SE.so se_int))) sos_nil)))))))) sss_nil)) (sss_cons (ss_ret (se_callB (cK_sorted K rfl hr.units) ok_sorted (by rfl) C.b_sorted (by decide +kernel) (so_cons (so_var (pv 1)) sos_nil))) sss_nil))) (by decide)
theorem ok_can_part (C : Fx K mg a) : FnOk P w K mg base (L2.CX P w) 66 a.f_can_part a.d_can_part ["pile", "one", "other"] (spOf K mg 3 s_k64_can_part) := by
  refine fn_okX (k := 65) C.F_can_part sc_can_part (by decide) (fun cdv A outer s H E hr => ?_)
  have po : PassesOwn (model P w) (cxOf (L2.CX P w) P w K mg base N_can_part "can_part" (defScope t_can_part) a.f_can_part cdv A outer s H E).A (cxOf (L2.CX P w) P w K mg base N_can_part "can_part" (defScope t_can_part) a.f_can_part cdv A outer s H E).env (cxOf (L2.CX P w) P w K mg base N_can_part "can_part" (defScope t_can_part) a.f_can_part cdv A outer s H E).xe := passes_of rfl
  have tk : Takes (cxOf (L2.CX P w) P w K mg base N_can_part "can_part" (defScope t_can_part) a.f_can_part cdv A outer s H E) (fun c dd _ H' => E c dd H') := takes_of rfl rfl rfl rfl
  unfold m_k64_can_part fr_k64_can_part_2 lp_k64_can_part_2 fr_k64_can_part_1 lp_k64_can_part_1
  exact SSs.ex (sss_cons (ss_expr (fun h => ps_expr h) (se_callC (ok_look_at_pile C) rfl rfl rfl rfl rfl (hr.mono (by first | decide | omega)) (by rfl) C.g_look_at_pile C.k_look_at_pile C.B_look_at_pile rfl tk (so_cons (so_var (pv 0)) sos_nil) (lm_cons lm_nil))) (sss_cons (ss_expr (fun h => ps_expr h) (se_callC (ok_look_at_right C) rfl rfl rfl rfl rfl (hr.mono (by first | decide | omega)) (by rfl) C.g_look_at_right C.k_look_at_right C.B_look_at_right rfl tk (so_cons (so_var (pv 1)) sos_nil) (lm_cons lm_nil))) (sss_cons (ss_expr (fun h => ps_expr h) (se_callC (ok_look_at_right C) rfl rfl rfl rfl rfl (hr.mono (by first | decide | omega)) (by rfl) C.g_look_at_right C.k_look_at_right C.B_look_at_right rfl tk (so_cons (so_var (pv 2)) sos_nil) (lm_cons lm_nil))) (sss_cons (ss_expr (fun h => ps_expr h) (se_callC (ok_look_at_small C) rfl rfl rfl rfl rfl (hr.mono (by first | decide | omega)) (by rfl) C.g_look_at_small C.k_look_at_small C.B_look_at_small rfl tk (so_cons (so_var (pv 0)) sos_nil) (lm_cons lm_nil))) (sss_cons (ss_set (i := 3) sc_can_part.nd rfl (by first | exact Or.inl rfl | exact Or.inr rfl) se_int) (sss_cons (ss_for [5, 6] po rfl (si_seqK K rfl (se_var (pv 0))) (sg_tupK K rfl rfl (sgs_cons (sg_name (pg_name (i := 5) sc_can_part.nd rfl (by first | exact Or.inl rfl | exact Or.inr rfl))) (sgs_cons (sg_name (pg_name (i := 6) sc_can_part.nd rfl (by first | exact Or.inl rfl | exact Or.inr rfl))) sgs_nil))) (sss_cons (ss_augM (fun h => ps_aug (i := 3) sc_can_part.nd rfl (by first | exact Or.inl rfl | exact Or.inr rfl) h ip_mul) (se_op (oK_add K rfl) ok_add (so_var (pv 6)) (SE.so se_int))) sss_nil)) (sss_cons (ss_if (st_cmp op_gt ok_gt (nomark _) (so_var (pv 3)) (SE.so (se_gint (by rfl) C.c_MOST_WITHIN))) (sss_cons (ss_raise0 K rfl rfl C.x_ok C.x_TooGreat ⟨by decide, rfl⟩ rfl tk (by rfl)) sss_nil) sss_nil) (sss_cons (ss_for [4, 7] po rfl (si_seqK K rfl (se_callC (ok_within_by C) rfl rfl rfl rfl rfl (hr.mono (by first | decide | omega)) (by rfl) C.g_within_by C.k_within_by C.B_within_by rfl tk (so_cons (so_var (pv 0)) sos_nil) (lm_cons lm_nil))) (sg_name (pg_name (i := 4) sc_can_part.nd rfl (by first | exact Or.inl rfl | exact Or.inr rfl))) (sss_cons (ss_set (i := 7) sc_can_part.nd rfl (by first | exact Or.inl rfl | exact Or.inr rfl) (se_callC (ok_take_by C) rfl rfl rfl rfl rfl (hr.mono (by first | decide | omega)) (by rfl) C.g_take_by C.k_take_by C.B_take_by rfl tk (so_cons (so_var (pv 0)) (so_cons (so_var (pv 4)) sos_nil)) (lm_cons (lm_cons lm_nil)))) (sss_cons (ss_if (SW.st (sw_and (st_val (se_callC (ok_is_served C) rfl rfl rfl rfl rfl (hr.mono (by first | decide | omega)) (by rfl) C.g_is_served C.k_is_served C.B_is_served rfl tk (so_cons (so_var (pv 4)) (so_cons (so_var (pv 2)) sos_nil)) (lm_cons (lm_cons lm_nil)))) (sw_and1 (st_val (se_callC (ok_is_served C) rfl rfl rfl rfl rfl (hr.mono (by first | decide | omega)) (by rfl) C.g_is_served C.k_is_served C.B_is_served rfl tk (so_cons (so_var (pv 7)) (so_cons (so_var (pv 1)) sos_nil)) (lm_cons (lm_cons lm_nil))))))) (sss_cons (ss_ret (se_tup (sa_cons (se_var (pv 7)) (sa_cons (se_var (pv 4)) sa_nil)))) sss_nil) sss_nil) sss_nil))) (sss_cons (ss_ret se_non) sss_nil))))))))) (by decide)
theorem ok__law_mixed (C : Fx K mg a) : FnOk P w K mg base (L2.CX P w) 1 a.f__law_mixed a.d__law_mixed ["_law_cell_here", "_law_k"] (spOf K mg 2 s__law_mixed) := by
  refine fn_okX (k := 0) C.F__law_mixed sc__law_mixed (by decide) (fun cdv A outer s H E hr => ?_)
  have po : PassesOwn (model P w) (cxOf (L2.CX P w) P w K mg base N__law_mixed "_law_mixed" (defScope t__law_mixed) a.f__law_mixed cdv A outer s H E).A (cxOf (L2.CX P w) P w K mg base N__law_mixed "_law_mixed" (defScope t__law_mixed) a.f__law_mixed cdv A outer s H E).env (cxOf (L2.CX P w) P w K mg base N__law_mixed "_law_mixed" (defScope t__law_mixed) a.f__law_mixed cdv A outer s H E).xe := passes_of rfl
  have tk : Takes (cxOf (L2.CX P w) P w K mg base N__law_mixed "_law_mixed" (defScope t__law_mixed) a.f__law_mixed cdv A outer s H E) (fun c dd _ H' => E c dd H') := takes_of rfl rfl rfl rfl
  unfold m__law_mixed
  exact SSs.ex (sss_cons (ss_set (i := 2) sc__law_mixed.nd rfl (by first | exact Or.inl rfl | exact Or.inr rfl) (se_op op_mod ok_mod (SE.so (se_op (oK_add K rfl) ok_add (SE.so (se_op (oK_add K rfl) ok_add (SE.so (se_op (oK_mul K rfl) ok_mul (SE.so (se_op op_mod ok_mod (so_var (pv 0)) (SE.so se_int))) (SE.so se_int))) (SE.so (se_op (oK_mul K rfl) ok_mul (so_var (pv 1)) (SE.so se_int))))) (SE.so se_int))) (SE.so se_int))) (sss_cons (ss_set (i := 2) sc__law_mixed.nd rfl (by first | exact Or.inl rfl | exact Or.inr rfl) (se_op op_mod ok_mod (SE.so (se_op (oK_mul K rfl) ok_mul (so_var (pv 2)) (so_var (pv 2)))) (SE.so se_int))) (sss_cons (ss_ret (se_op op_mod ok_mod (SE.so (se_op (oK_mul K rfl) ok_mul (so_var (pv 2)) (SE.so (se_op (oK_add K rfl) ok_add (so_var (pv 2)) (SE.so se_int))))) (SE.so se_int))) sss_nil))) (by decide)
theorem ok__law_cell (C : Fx K mg a) : FnOk P w K mg base (L2.CX P w) 2 a.f__law_cell a.d__law_cell ["_law_script", "_law_k"] (spOf K mg 2 s__law_cell) := by
  refine fn_okX (k := 1) C.F__law_cell sc__law_cell (by decide) (fun cdv A outer s H E hr => ?_)
  have po : PassesOwn (model P w) (cxOf (L2.CX P w) P w K mg base N__law_cell "_law_cell" (defScope t__law_cell) a.f__law_cell cdv A outer s H E).A (cxOf (L2.CX P w) P w K mg base N__law_cell "_law_cell" (defScope t__law_cell) a.f__law_cell cdv A outer s H E).env (cxOf (L2.CX P w) P w K mg base N__law_cell "_law_cell" (defScope t__law_cell) a.f__law_cell cdv A outer s H E).xe := passes_of rfl
  have tk : Takes (cxOf (L2.CX P w) P w K mg base N__law_cell "_law_cell" (defScope t__law_cell) a.f__law_cell cdv A outer s H E) (fun c dd _ H' => E c dd H') := takes_of rfl rfl rfl rfl
  unfold m__law_cell fr__law_cell_1 lp__law_cell_1
  exact SSs.ex (sss_cons (ss_set (i := 2) sc__law_cell.nd rfl (by first | exact Or.inl rfl | exact Or.inr rfl) se_int) (sss_cons (ss_if (st_cmp op_lt ok_lt (nomark _) (so_var (pv 1)) (SE.so (se_lenScr (pe_callB call_len (by rfl) C.b_len PySem.boot_len (pa_cons (pv 0) pa_nil))))) (sss_cons (ss_set (i := 2) sc__law_cell.nd rfl (by first | exact Or.inl rfl | exact Or.inr rfl) (se_ixScr (fun h => pe_ix ix_B (pv 0) h (fun _ _ => rfl)) (so_var (pv 1)))) sss_nil) sss_nil) (sss_cons (ss_if (st_cmp op_ge ok_ge (nomark _) (so_var (pv 2)) (SE.so (se_op op_pow ok_pow (SE.so se_int) (SE.so se_int)))) (sss_cons (ss_ret (se_op op_mod ok_mod (SE.so (se_op op_sub ok_sub (so_var (pv 2)) (SE.so (se_op op_pow ok_pow (SE.so se_int) (SE.so se_int))))) (SE.so (se_op (oK_mul K rfl) ok_mul (SE.so (se_op (oK_mul K rfl) ok_mul (SE.so (se_op (oK_mul K rfl) ok_mul (SE.so (se_op op_pow ok_pow (SE.so se_int) (SE.so se_int))) (SE.so (se_op op_pow ok_pow (SE.so se_int) (SE.so se_int))))) (SE.so (se_op op_pow ok_pow (SE.so se_int) (SE.so se_int))))) (SE.so (se_op op_pow ok_pow (SE.so se_int) (SE.so se_int))))))) sss_nil) sss_nil) (sss_cons (ss_set (i := 3) sc__law_cell.nd rfl (by first | exact Or.inl rfl | exact Or.inr rfl) se_int) (sss_cons (ss_for [4] po rfl (si_range1 (fun h => pi_range1 (by rfl) C.b_range h) (so_cons (SE.so se_int) sos_nil)) (sg_name (pg_name (i := 4) sc__law_cell.nd rfl (by first | exact Or.inl rfl | exact Or.inr rfl))) (sss_cons (ss_set (i := 3) sc__law_cell.nd rfl (by first | exact Or.inl rfl | exact Or.inr rfl) (se_op (oK_add K rfl) ok_add (SE.so (se_op (oK_mul K rfl) ok_mul (so_var (pv 3)) (SE.so se_int))) (SE.so (se_callC (ok__law_mixed C) rfl rfl rfl rfl rfl (hr.mono (by first | decide | omega)) (by rfl) C.g__law_mixed C.k__law_mixed C.B__law_mixed rfl tk (so_cons (so_var (pv 2)) (so_cons (SE.so (se_op (oK_add K rfl) ok_add (SE.so (se_op (oK_add K rfl) ok_add (SE.so (se_op (oK_mul K rfl) ok_mul (SE.so se_int) (so_var (pv 1)))) (SE.so (se_op (oK_mul K rfl) ok_mul (SE.so se_int) (so_var (pv 4)))))) (SE.so (se_op (oK_mul K rfl) ok_mul (so_var (pv 4)) (so_var (pv 4)))))) sos_nil)) (lm_cons (lm_cons lm_nil)))))) sss_nil)) (sss_cons (ss_ret (se_var (pv 3))) sss_nil)))))) (by decide)
theorem ok__law_take (C : Fx K mg a) : FnOk P w K mg base (L2.CX P w) 1 a.f__law_take a.d__law_take ["_law_pile", "_law_size"] (spOf K mg 2 s__law_take) := by
  refine fn_okX (k := 0) C.F__law_take sc__law_take (by decide) (fun cdv A outer s H E hr => ?_)
  have po : PassesOwn (model P w) (cxOf (L2.CX P w) P w K mg base N__law_take "_law_take" (defScope t__law_take) a.f__law_take cdv A outer s H E).A (cxOf (L2.CX P w) P w K mg base N__law_take "_law_take" (defScope t__law_take) a.f__law_take cdv A outer s H E).env (cxOf (L2.CX P w) P w K mg base N__law_take "_law_take" (defScope t__law_take) a.f__law_take cdv A outer s H E).xe := passes_of rfl
  have tk : Takes (cxOf (L2.CX P w) P w K mg base N__law_take "_law_take" (defScope t__law_take) a.f__law_take cdv A outer s H E) (fun c dd _ H' => E c dd H') := takes_of rfl rfl rfl rfl
  unfold m__law_take
  exact SSs.ex (sss_cons (ss_set (i := 2) sc__law_take.nd rfl (by first | exact Or.inl rfl | exact Or.inr rfl) (se_op op_mod ok_mod (SE.so (se_ixK K rfl (fun _ _ => rfl) (so_var (pv 0)) (SE.so se_int))) (so_var (pv 1)))) (sss_cons (ss_put (fun he hk => ps_asg he (pg_sub (pv 0) hk set_list)) (se_op op_fdivW ok_fdiv (SE.so (se_ixK K rfl (fun _ _ => rfl) (so_var (pv 0)) (SE.so se_int))) (so_var (pv 1))) (SE.so se_int)) (sss_cons (ss_ret (se_var (pv 2))) sss_nil))) (by decide)
theorem ok__law_sum (C : Fx K mg a) : FnOk P w K mg base (L2.CX P w) 1 a.f__law_sum a.d__law_sum ["_law_pile"] (spOf K mg 1 s_sum_of) := by
  refine fn_okX (k := 0) C.F__law_sum sc__law_sum (by decide) (fun cdv A outer s H E hr => ?_)
  have po : PassesOwn (model P w) (cxOf (L2.CX P w) P w K mg base N__law_sum "_law_sum" (defScope t__law_sum) a.f__law_sum cdv A outer s H E).A (cxOf (L2.CX P w) P w K mg base N__law_sum "_law_sum" (defScope t__law_sum) a.f__law_sum cdv A outer s H E).env (cxOf (L2.CX P w) P w K mg base N__law_sum "_law_sum" (defScope t__law_sum) a.f__law_sum cdv A outer s H E).xe := passes_of rfl
  have tk : Takes (cxOf (L2.CX P w) P w K mg base N__law_sum "_law_sum" (defScope t__law_sum) a.f__law_sum cdv A outer s H E) (fun c dd _ H' => E c dd H') := takes_of rfl rfl rfl rfl
  unfold m_sum_of lc_sum_of_1
  exact SSs.ex (sss_cons (ss_ret (se_callB (cK_sum K rfl rfl) ok_sum (by rfl) C.b_sum (by decide +kernel) (so_cons (SE.so (se_lc (own := [("_law_worth", 1), ("_law_many", 2)]) rfl sc__law_sum.nd (si_seqK K rfl (se_var (pv 0))) (blkOk_by (own := [("_law_worth", 1), ("_law_many", 2)]) (N := N__law_sum) (sc := defScope t__law_sum) (by decide +kernel)) (fun _ _ _ _ _ => (sg_tupK K rfl rfl (sgs_cons (sg_name (pg_name (i := 1) sc__law_sum.nd rfl (by first | exact Or.inl rfl | exact Or.inr rfl))) (sgs_cons (sg_name (pg_name (i := 2) sc__law_sum.nd rfl (by first | exact Or.inl rfl | exact Or.inr rfl))) sgs_nil)))) (by decide) (fun _ _ _ _ _ => sts_nil) (fun _ _ _ _ _ => (se_op (oK_mul K rfl) ok_mul (so_var (pv 1)) (so_var (pv 2)))))) sos_nil))) sss_nil) (by decide)
theorem ok__law_under (C : Fx K mg a) : FnOk P w K mg base (L2.CX P w) 1 a.f__law_under a.d__law_under ["_law_pile", "_law_bound"] (spOf K mg 2 s__law_under) := by
  refine fn_okX (k := 0) C.F__law_under sc__law_under (by decide) (fun cdv A outer s H E hr => ?_)
  have po : PassesOwn (model P w) (cxOf (L2.CX P w) P w K mg base N__law_under "_law_under" (defScope t__law_under) a.f__law_under cdv A outer s H E).A (cxOf (L2.CX P w) P w K mg base N__law_under "_law_under" (defScope t__law_under) a.f__law_under cdv A outer s H E).env (cxOf (L2.CX P w) P w K mg base N__law_under "_law_under" (defScope t__law_under) a.f__law_under cdv A outer s H E).xe := passes_of rfl
  have tk : Takes (cxOf (L2.CX P w) P w K mg base N__law_under "_law_under" (defScope t__law_under) a.f__law_under cdv A outer s H E) (fun c dd _ H' => E c dd H') := takes_of rfl rfl rfl rfl
  unfold m__law_under lc__law_under_1
  exact SSs.ex (sss_cons (ss_ret (se_callB (cK_sum K rfl rfl) ok_sum (by rfl) C.b_sum (by decide +kernel) (so_cons (SE.so (se_lc (own := [("_law_worth", 2), ("_law_many", 3)]) rfl sc__law_under.nd (si_seqK K rfl (se_var (pv 0))) (blkOk_by (own := [("_law_worth", 2), ("_law_many", 3)]) (N := N__law_under) (sc := defScope t__law_under) (by decide +kernel)) (fun _ _ _ _ _ => (sg_tupK K rfl rfl (sgs_cons (sg_name (pg_name (i := 2) sc__law_under.nd rfl (by first | exact Or.inl rfl | exact Or.inr rfl))) (sgs_cons (sg_name (pg_name (i := 3) sc__law_under.nd rfl (by first | exact Or.inl rfl | exact Or.inr rfl))) sgs_nil)))) (by decide) (fun _ _ _ _ _ => (sts_one (SW.st (sw_or (st_cmp op_isN ok_is (nomark _) (so_var (pv 1)) (SE.so se_non)) (sw_or1 (st_cmp op_lt ok_lt (nomark _) (so_var (pv 2)) (so_var (pv 1)))))))) (fun _ _ _ _ _ => (se_op (oK_mul K rfl) ok_mul (so_var (pv 2)) (so_var (pv 3)))))) sos_nil))) sss_nil) (by decide)
theorem ok__law_heap (C : Fx K mg a) : FnOk P w K mg base (L2.CX P w) 1 a.f__law_heap a.d__law_heap ["_law_coins_here"] (spOf K mg 1 s__law_heap) := by
  refine fn_okX (k := 0) C.F__law_heap sc__law_heap (by decide) (fun cdv A outer s H E hr => ?_)
  have po : PassesOwn (model P w) (cxOf (L2.CX P w) P w K mg base N__law_heap "_law_heap" (defScope t__law_heap) a.f__law_heap cdv A outer s H E).A (cxOf (L2.CX P w) P w K mg base N__law_heap "_law_heap" (defScope t__law_heap) a.f__law_heap cdv A outer s H E).env (cxOf (L2.CX P w) P w K mg base N__law_heap "_law_heap" (defScope t__law_heap) a.f__law_heap cdv A outer s H E).xe := passes_of rfl
  have tk : Takes (cxOf (L2.CX P w) P w K mg base N__law_heap "_law_heap" (defScope t__law_heap) a.f__law_heap cdv A outer s H E) (fun c dd _ H' => E c dd H') := takes_of rfl rfl rfl rfl
  unfold m__law_heap fr__law_heap_1 lp__law_heap_1
  exact SSs.ex (sss_cons (ss_own (fun h => ps_set (i := 1) sc__law_heap.nd rfl (by first | exact Or.inl rfl | exact Or.inr rfl) h) (sf_lst sa_nil)) (sss_cons (ss_for [2] po rfl (si_seqK K rfl (se_callB (cK_sorted K rfl hr.units) ok_sorted (by rfl) C.b_sorted (by decide +kernel) (so_cons (so_var (pv 0)) sos_nil))) (sg_name (pg_name (i := 2) sc__law_heap.nd rfl (by first | exact Or.inl rfl | exact Or.inr rfl))) (sss_cons (ss_if (SW.st (sw_and (st_cmp (oK_ne K rfl hr.units) ok_ne (nomark _) (so_var (pv 1)) (SE.so (se_lst sa_nil))) (sw_and1 (st_cmp (oK_eq K rfl hr.units) ok_eq (nomark _) (SE.so (se_ixK K rfl (fun _ _ => rfl) (SE.so (se_ixK K rfl (fun _ _ => rfl) (so_var (pv 1)) (SE.so (se_neg (SE.so se_int))))) (SE.so se_int))) (so_var (pv 2)))))) (sss_cons (ss_put (fun he hk => ps_asg he (pg_sub (pv 1) hk set_list)) (se_tup (sa_cons (se_var (pv 2)) (sa_cons (se_op (oK_add K rfl) ok_add (SE.so (se_ixK K rfl (fun _ _ => rfl) (SE.so (se_ixK K rfl (fun _ _ => rfl) (so_var (pv 1)) (SE.so (se_neg (SE.so se_int))))) (SE.so se_int))) (SE.so se_int)) sa_nil))) (SE.so (se_neg (SE.so se_int)))) sss_nil) (sss_cons (ss_app (fun h => ps_expr (pe_bm PySem.F.plainAttrs_list PySem.F.slot_list_append PySem.F.type_list_append mt_append (pv 1) (pa_cons h pa_nil))) (se_tup (sa_cons (se_var (pv 2)) (sa_cons se_int sa_nil)))) sss_nil)) sss_nil)) (sss_cons (ss_ret (se_callTy (cK_tuple K rfl) ok_tuple (by rfl) C.b_tuple (by decide +kernel) (so_cons (so_var (pv 1)) sos_nil))) sss_nil))) (by decide)
theorem ok__law_length (C : Fx K mg a) : ∀ n, FnOk P w K mg base (L2.CX P w) (1 + n) a.f__law_length a.d__law_length ["_law_right_here"] (spOf K mg 1 (s__law_length n)) := by
  intro n
  induction n with
  | zero => exact fn_rec0 rfl
  | succ n IH =>
  rw [← Nat.add_assoc, r__law_length]
  refine fn_okX C.F__law_length sc__law_length (by decide) (fun cdv A outer s H E hr => ?_)
  have po : PassesOwn (model P w) (cxOf (L2.CX P w) P w K mg base N__law_length "_law_length" (defScope t__law_length) a.f__law_length cdv A outer s H E).A (cxOf (L2.CX P w) P w K mg base N__law_length "_law_length" (defScope t__law_length) a.f__law_length cdv A outer s H E).env (cxOf (L2.CX P w) P w K mg base N__law_length "_law_length" (defScope t__law_length) a.f__law_length cdv A outer s H E).xe := passes_of rfl
  have tk : Takes (cxOf (L2.CX P w) P w K mg base N__law_length "_law_length" (defScope t__law_length) a.f__law_length cdv A outer s H E) (fun c dd _ H' => E c dd H') := takes_of rfl rfl rfl rfl
  unfold m__law_length lc__law_length_1
  exact SSs.ex (sss_cons (ss_set (i := 1) sc__law_length.nd rfl (by first | exact Or.inl rfl | exact Or.inr rfl) (se_ixK K rfl (fun _ _ => rfl) (so_var (pv 0)) (SE.so se_int))) (sss_cons (ss_if (st_cmp (oK_eq K rfl hr.units) ok_eq (nomark _) (so_var (pv 1)) (SE.so se_str)) (sss_cons (ss_ret (se_ixK K rfl (fun _ _ => rfl) (so_var (pv 0)) (SE.so se_int))) sss_nil) sss_nil) (sss_cons (ss_if (st_cmp (oK_in K rfl) ok_in (by rfl) (so_var (pv 1)) (SE.so (se_tup (sa_cons se_str (sa_cons se_str sa_nil))))) (sss_cons (ss_ret (se_callB (cK_min K rfl rfl) ok_min (by rfl) C.b_min (by decide +kernel) (so_cons (SE.so (se_ixK K rfl (fun _ _ => rfl) (so_var (pv 0)) (SE.so se_int))) (so_cons (SE.so (se_callC IH rfl rfl rfl rfl rfl (hr.mono (by first | decide | omega)) (by rfl) C.g__law_length C.k__law_length C.B__law_length rfl tk (so_cons (SE.so (se_ixK K rfl (fun _ _ => rfl) (so_var (pv 0)) (SE.so se_int))) sos_nil) (lm_cons lm_nil))) sos_nil)))) sss_nil) sss_nil) (sss_cons (ss_if (st_cmp (oK_eq K rfl hr.units) ok_eq (nomark _) (so_var (pv 1)) (SE.so se_str)) (sss_cons (ss_ret se_int) sss_nil) sss_nil) (sss_cons (ss_setLc (i := 2) (own := [("_law_part", 3)]) rfl sc__law_length.nd rfl rfl (sw_true rfl rfl rfl (by decide +kernel)) (si_seqK K rfl (se_ixK K rfl (fun _ _ => rfl) (so_var (pv 0)) (SE.so se_int))) (blkOk_by (own := [("_law_part", 3)]) (N := N__law_length) (sc := defScope t__law_length) (by decide +kernel)) (fun _ _ _ _ _ => (sg_name (pg_name (i := 3) sc__law_length.nd rfl (by first | exact Or.inl rfl | exact Or.inr rfl)))) (by decide) (fun _ _ _ _ _ => sts_nil) (fun _ _ _ _ _ => (se_callC IH rfl rfl rfl rfl rfl (hr.mono (by first | decide | omega)) (by rfl) C.g__law_length C.k__law_length C.B__law_length rfl takes0 (so_cons (so_var (pv 3)) sos_nil) (lm_cons lm_nil)))) (sss_cons (ss_ret (se_if (st_cmp (oK_eq K rfl hr.units) ok_eq (nomark _) (so_var (pv 1)) (SE.so se_str)) (se_callB (cK_sum K rfl rfl) ok_sum (by rfl) C.b_sum (by decide +kernel) (so_cons (so_var (pv 2)) sos_nil)) (se_callB (cK_max K rfl rfl) ok_max (by rfl) C.b_max (by decide +kernel) (so_cons (SE.so (se_op (oK_add K rfl) ok_add (so_var (pv 2)) (SE.so (se_lst (sa_cons se_int sa_nil))))) sos_nil)))) sss_nil)))))) (by decide)
theorem ok__law_row (C : Fx K mg a) : ∀ n, FnOk P w K mg base (L2.CX P w) (1 + n) a.f__law_row a.d__law_row ["_law_right_here", "_law_bound", "_law_many"] (spOf K mg 3 (s__law_row n)) := by
  intro n
  induction n with
  | zero => exact fn_rec0 rfl
  | succ n IH =>
  rw [← Nat.add_assoc, r__law_row]
  refine fn_okX C.F__law_row sc__law_row (by decide) (fun cdv A outer s H E hr => ?_)
  have po : PassesOwn (model P w) (cxOf (L2.CX P w) P w K mg base N__law_row "_law_row" (defScope t__law_row) a.f__law_row cdv A outer s H E).A (cxOf (L2.CX P w) P w K mg base N__law_row "_law_row" (defScope t__law_row) a.f__law_row cdv A outer s H E).env (cxOf (L2.CX P w) P w K mg base N__law_row "_law_row" (defScope t__law_row) a.f__law_row cdv A outer s H E).xe := passes_of rfl
  have tk : Takes (cxOf (L2.CX P w) P w K mg base N__law_row "_law_row" (defScope t__law_row) a.f__law_row cdv A outer s H E) (fun c dd _ H' => E c dd H') := takes_of rfl rfl rfl rfl
  unfold m__law_row fr__law_row_1 lp__law_row_1 lc__law_row_6 lc__law_row_5 lc__law_row_4 lc__law_row_3 lc__law_row_2 lc__law_row_1
  exact SSs.ex (sss_cons (ss_set (i := 3) sc__law_row.nd rfl (by first | exact Or.inl rfl | exact Or.inr rfl) (se_ixK K rfl (fun _ _ => rfl) (so_var (pv 0)) (SE.so se_int))) (sss_cons (ss_if (st_cmp (oK_eq K rfl hr.units) ok_eq (nomark _) (so_var (pv 3)) (SE.so se_str)) (sss_cons (ss_set (i := 6) sc__law_row.nd rfl (by first | exact Or.inl rfl | exact Or.inr rfl) (se_if (st_cmp op_isN ok_is (nomark _) (so_var (pv 1)) (SE.so se_non)) (se_ixK K rfl (fun _ _ => rfl) (so_var (pv 0)) (SE.so se_int)) (se_callB (cK_min K rfl rfl) ok_min (by rfl) C.b_min (by decide +kernel) (so_cons (SE.so (se_ixK K rfl (fun _ _ => rfl) (so_var (pv 0)) (SE.so se_int))) (so_cons (SE.so (se_op op_sub ok_sub (so_var (pv 1)) (SE.so se_int))) sos_nil))))) (sss_cons (ss_retS (SFO.sv (SF.o (sf_lc (own := [("_law_j", 8)]) rfl sc__law_row.nd (si_range1 (fun h => pi_range1 (by rfl) C.b_range h) (so_cons (SE.so (se_op (oK_add K rfl) ok_add (so_var (pv 2)) (SE.so se_int))) sos_nil)) (blkOk_by (own := [("_law_j", 8)]) (N := N__law_row) (sc := defScope t__law_row) (by decide +kernel)) (fun _ _ _ _ _ => (sg_name (pg_name (i := 8) sc__law_row.nd rfl (by first | exact Or.inl rfl | exact Or.inr rfl)))) (by decide) (fun _ _ _ _ _ => sts_nil) (fun _ _ _ _ _ => (se_op (oK_mul K rfl) ok_mul (SE.so (se_callB (cK_min K rfl rfl) ok_min (by rfl) C.b_min (by decide +kernel) (so_cons (SE.so (se_ixK K rfl (fun _ _ => rfl) (so_var (pv 0)) (SE.so se_int))) (so_cons (so_var (pv 8)) sos_nil)))) (so_var (pv 6)))))))) sss_nil)) sss_nil) (sss_cons (ss_if (st_cmp (oK_eq K rfl hr.units) ok_eq (nomark _) (so_var (pv 3)) (SE.so se_str)) (sss_cons (ss_retS (SFO.sv (SF.o (sf_lc (own := [("_law_one", 9)]) rfl sc__law_row.nd (si_seqK K rfl (se_callC IH rfl rfl rfl rfl rfl (hr.mono (by first | decide | omega)) (by rfl) C.g__law_row C.k__law_row C.B__law_row rfl tk (so_cons (SE.so (se_ixK K rfl (fun _ _ => rfl) (so_var (pv 0)) (SE.so se_int))) (so_cons (so_var (pv 1)) (so_cons (so_var (pv 2)) sos_nil))) (lm_cons (lm_cons (lm_cons lm_nil))))) (blkOk_by (own := [("_law_one", 9)]) (N := N__law_row) (sc := defScope t__law_row) (by decide +kernel)) (fun _ _ _ _ _ => (sg_name (pg_name (i := 9) sc__law_row.nd rfl (by first | exact Or.inl rfl | exact Or.inr rfl)))) (by decide) (fun _ _ _ _ _ => sts_nil) (fun _ _ _ _ _ => (se_callB (cK_min K rfl rfl) ok_min (by rfl) C.b_min (by decide +kernel) (so_cons (SE.so (se_ixK K rfl (fun _ _ => rfl) (so_var (pv 0)) (SE.so se_int))) (so_cons (so_var (pv 9)) sos_nil)))))))) sss_nil) sss_nil) (sss_cons (ss_if (st_cmp (oK_eq K rfl hr.units) ok_eq (nomark _) (so_var (pv 3)) (SE.so se_str)) (sss_cons (ss_set (i := 4) sc__law_row.nd rfl (by first | exact Or.inl rfl | exact Or.inr rfl) (se_callC IH rfl rfl rfl rfl rfl (hr.mono (by first | decide | omega)) (by rfl) C.g__law_row C.k__law_row C.B__law_row rfl tk (so_cons (SE.so (se_ixK K rfl (fun _ _ => rfl) (so_var (pv 0)) (SE.so se_int))) (so_cons (so_var (pv 1)) (so_cons (so_var (pv 2)) sos_nil))) (lm_cons (lm_cons (lm_cons lm_nil))))) (sss_cons (ss_retS (SFO.sv (SF.o (sf_lc (own := [("_law_j", 8)]) rfl sc__law_row.nd (si_range1 (fun h => pi_range1 (by rfl) C.b_range h) (so_cons (SE.so (se_op (oK_add K rfl) ok_add (so_var (pv 2)) (SE.so se_int))) sos_nil)) (blkOk_by (own := [("_law_j", 8)]) (N := N__law_row) (sc := defScope t__law_row) (by decide +kernel)) (fun _ _ _ _ _ => (sg_name (pg_name (i := 8) sc__law_row.nd rfl (by first | exact Or.inl rfl | exact Or.inr rfl)))) (by decide) (fun _ _ _ _ _ => sts_nil) (fun _ _ _ _ _ => (se_ixK K rfl (fun _ _ => rfl) (so_var (pv 4)) (SE.so (se_callB (cK_min K rfl rfl) ok_min (by rfl) C.b_min (by decide +kernel) (so_cons (so_var (pv 8)) (so_cons (SE.so (se_ixK K rfl (fun _ _ => rfl) (so_var (pv 0)) (SE.so se_int))) sos_nil)))))))))) sss_nil)) sss_nil) (sss_cons (ss_set (i := 4) sc__law_row.nd rfl (by first | exact Or.inl rfl | exact Or.inr rfl) (se_op (oK_mul K rfl) ok_mul (SE.so (se_lst (sa_cons se_int sa_nil))) (SE.so (se_op (oK_add K rfl) ok_add (so_var (pv 2)) (SE.so se_int))))) (sss_cons (ss_if (st_cmp (oK_eq K rfl hr.units) ok_eq (nomark _) (so_var (pv 3)) (SE.so se_str)) (sss_cons (ss_ret (se_var (pv 4))) sss_nil) sss_nil) (sss_cons (ss_for [5, 7] po rfl (si_seqK K rfl (se_ixK K rfl (fun _ _ => rfl) (so_var (pv 0)) (SE.so se_int))) (sg_name (pg_name (i := 5) sc__law_row.nd rfl (by first | exact Or.inl rfl | exact Or.inr rfl))) (sss_cons (ss_set (i := 7) sc__law_row.nd rfl (by first | exact Or.inl rfl | exact Or.inr rfl) (se_callC IH rfl rfl rfl rfl rfl (hr.mono (by first | decide | omega)) (by rfl) C.g__law_row C.k__law_row C.B__law_row rfl tk (so_cons (so_var (pv 5)) (so_cons (so_var (pv 1)) (so_cons (so_var (pv 2)) sos_nil))) (lm_cons (lm_cons (lm_cons lm_nil))))) (sss_cons (ss_if (st_cmp (oK_eq K rfl hr.units) ok_eq (nomark _) (so_var (pv 3)) (SE.so se_str)) (sss_cons (ss_set (i := 4) sc__law_row.nd rfl (by first | exact Or.inl rfl | exact Or.inr rfl) (se_lc (own := [("_law_pair", 10)]) rfl sc__law_row.nd (si_zipEK K rfl (fun h => pi_zipN (by rfl) C.b_zip h) (sa_cons (se_var (pv 4)) (sa_cons (se_var (pv 7)) sa_nil))) (blkOk_by (own := [("_law_pair", 10)]) (N := N__law_row) (sc := defScope t__law_row) (by decide +kernel)) (fun _ _ _ _ _ => (sg_name (pg_name (i := 10) sc__law_row.nd rfl (by first | exact Or.inl rfl | exact Or.inr rfl)))) (by decide) (fun _ _ _ _ _ => sts_nil) (fun _ _ _ _ _ => (se_callB (cK_maxT K rfl rfl hr.units) ok_maxT (by rfl) C.b_max (by decide +kernel) (so_cons (so_var (pv 10)) sos_nil))))) sss_nil) (sss_cons (ss_set (i := 4) sc__law_row.nd rfl (by first | exact Or.inl rfl | exact Or.inr rfl) (se_lc (own := [("_law_j", 8)]) rfl sc__law_row.nd (si_range1 (fun h => pi_range1 (by rfl) C.b_range h) (so_cons (SE.so (se_op (oK_add K rfl) ok_add (so_var (pv 2)) (SE.so se_int))) sos_nil)) (blkOk_by (own := [("_law_j", 8)]) (N := N__law_row) (sc := defScope t__law_row) (by decide +kernel)) (fun _ _ _ _ _ => (sg_name (pg_name (i := 8) sc__law_row.nd rfl (by first | exact Or.inl rfl | exact Or.inr rfl)))) (by decide) (fun _ _ _ _ _ => sts_nil) (fun _ _ _ _ _ => (se_callB (cK_max K rfl rfl) ok_max (by rfl) C.b_max (by decide +kernel) (so_cons (SE.so (se_lc (own := [("_law_i", 11)]) rfl sc__law_row.nd (si_range1 (fun h => pi_range1 (by rfl) C.b_range h) (so_cons (SE.so (se_op (oK_add K rfl) ok_add (so_var (pv 8)) (SE.so se_int))) sos_nil)) (blkOk_by (own := [("_law_i", 11)]) (N := N__law_row) (sc := relS _ (defScope t__law_row)) (by decide +kernel)) (fun _ _ _ _ _ => (sg_name (pg_name (i := 11) sc__law_row.nd rfl (by first | exact Or.inl rfl | exact Or.inr rfl)))) (by decide) (fun _ _ _ _ _ => sts_nil) (fun _ _ _ _ _ => (se_op (oK_add K rfl) ok_add (SE.so (se_ixK K rfl (fun _ _ => rfl) (so_var (pv 4)) (so_var (pv 11)))) (SE.so (se_ixK K rfl (fun _ _ => rfl) (so_var (pv 7)) (SE.so (se_op op_sub ok_sub (so_var (pv 8)) (so_var (pv 11)))))))))) sos_nil))))) sss_nil)) sss_nil))) (sss_cons (ss_ret (se_var (pv 4))) sss_nil)))))))) (by decide)
theorem ok__law_top (C : Fx K mg a) : ∀ n, FnOk P w K mg base (L2.CX P w) (32 + n) a.f__law_top a.d__law_top ["_law_right_here", "_law_bound"] (spOf K mg 2 (s__law_top n)) := by
  intro n
  induction n with
  | zero => exact fn_rec0 rfl
  | succ n IH =>
  rw [← Nat.add_assoc, r__law_top]
  refine fn_okX C.F__law_top sc__law_top (by decide) (fun cdv A outer s H E hr => ?_)
  have po : PassesOwn (model P w) (cxOf (L2.CX P w) P w K mg base N__law_top "_law_top" (defScope t__law_top) a.f__law_top cdv A outer s H E).A (cxOf (L2.CX P w) P w K mg base N__law_top "_law_top" (defScope t__law_top) a.f__law_top cdv A outer s H E).env (cxOf (L2.CX P w) P w K mg base N__law_top "_law_top" (defScope t__law_top) a.f__law_top cdv A outer s H E).xe := passes_of rfl
  have tk : Takes (cxOf (L2.CX P w) P w K mg base N__law_top "_law_top" (defScope t__law_top) a.f__law_top cdv A outer s H E) (fun c dd _ H' => E c dd H') := takes_of rfl rfl rfl rfl
  unfold m__law_top lc__law_top_1
  exact SSs.ex (sss_cons (ss_set (i := 2) sc__law_top.nd rfl (by first | exact Or.inl rfl | exact Or.inr rfl) (se_ixK K rfl (fun _ _ => rfl) (so_var (pv 0)) (SE.so se_int))) (sss_cons (ss_if (st_cmp (oK_eq K rfl hr.units) ok_eq (nomark _) (so_var (pv 2)) (SE.so se_str)) (sss_cons (ss_ret (se_op (oK_mul K rfl) ok_mul (SE.so (se_ixK K rfl (fun _ _ => rfl) (so_var (pv 0)) (SE.so se_int))) (SE.so (se_if (st_cmp op_isN ok_is (nomark _) (so_var (pv 1)) (SE.so se_non)) (se_ixK K rfl (fun _ _ => rfl) (so_var (pv 0)) (SE.so se_int)) (se_callB (cK_min K rfl rfl) ok_min (by rfl) C.b_min (by decide +kernel) (so_cons (SE.so (se_ixK K rfl (fun _ _ => rfl) (so_var (pv 0)) (SE.so se_int))) (so_cons (SE.so (se_op op_sub ok_sub (so_var (pv 1)) (SE.so se_int))) sos_nil))))))) sss_nil) sss_nil) (sss_cons (ss_if (st_cmp (oK_eq K rfl hr.units) ok_eq (nomark _) (so_var (pv 2)) (SE.so se_str)) (sss_cons (ss_ret (se_callB (cK_min K rfl rfl) ok_min (by rfl) C.b_min (by decide +kernel) (so_cons (SE.so (se_ixK K rfl (fun _ _ => rfl) (so_var (pv 0)) (SE.so se_int))) (so_cons (SE.so (se_callC IH rfl rfl rfl rfl rfl (hr.mono (by first | decide | omega)) (by rfl) C.g__law_top C.k__law_top C.B__law_top rfl tk (so_cons (SE.so (se_ixK K rfl (fun _ _ => rfl) (so_var (pv 0)) (SE.so se_int))) (so_cons (so_var (pv 1)) sos_nil)) (lm_cons (lm_cons lm_nil)))) sos_nil)))) sss_nil) sss_nil) (sss_cons (ss_if (st_cmp (oK_eq K rfl hr.units) ok_eq (nomark _) (so_var (pv 2)) (SE.so se_str)) (sss_cons (ss_ret (se_ixK K rfl (fun _ _ => rfl) (SE.so (se_callC (ok__law_row C 30) rfl rfl rfl rfl rfl (hr.mono (by first | decide | omega)) (by rfl) C.g__law_row C.k__law_row C.B__law_row rfl tk (so_cons (SE.so (se_ixK K rfl (fun _ _ => rfl) (so_var (pv 0)) (SE.so se_int))) (so_cons (so_var (pv 1)) (so_cons (SE.so (se_callB (cK_min K rfl rfl) ok_min (by rfl) C.b_min (by decide +kernel) (so_cons (SE.so (se_ixK K rfl (fun _ _ => rfl) (so_var (pv 0)) (SE.so se_int))) (so_cons (SE.so (se_callC (ok__law_length C 30) rfl rfl rfl rfl rfl (hr.mono (by first | decide | omega)) (by rfl) C.g__law_length C.k__law_length C.B__law_length rfl tk (so_cons (SE.so (se_ixK K rfl (fun _ _ => rfl) (so_var (pv 0)) (SE.so se_int))) sos_nil) (lm_cons lm_nil))) sos_nil)))) sos_nil))) (lm_cons (lm_cons (lm_cons lm_nil))))) (SE.so (se_neg (SE.so se_int))))) sss_nil) sss_nil) (sss_cons (ss_if (st_cmp (oK_eq K rfl hr.units) ok_eq (nomark _) (so_var (pv 2)) (SE.so se_str)) (sss_cons (ss_ret se_int) sss_nil) sss_nil) (sss_cons (ss_setLc (i := 3) (own := [("_law_part", 4)]) rfl sc__law_top.nd rfl rfl (sw_true rfl rfl rfl (by decide +kernel)) (si_seqK K rfl (se_ixK K rfl (fun _ _ => rfl) (so_var (pv 0)) (SE.so se_int))) (blkOk_by (own := [("_law_part", 4)]) (N := N__law_top) (sc := defScope t__law_top) (by decide +kernel)) (fun _ _ _ _ _ => (sg_name (pg_name (i := 4) sc__law_top.nd rfl (by first | exact Or.inl rfl | exact Or.inr rfl)))) (by decide) (fun _ _ _ _ _ => sts_nil) (fun _ _ _ _ _ => (se_callC IH rfl rfl rfl rfl rfl (hr.mono (by first | decide | omega)) (by rfl) C.g__law_top C.k__law_top C.B__law_top rfl takes0 (so_cons (so_var (pv 4)) (so_cons (so_var (pv 1)) sos_nil)) (lm_cons (lm_cons lm_nil))))) (sss_cons (ss_ret (se_if (st_cmp (oK_eq K rfl hr.units) ok_eq (nomark _) (so_var (pv 2)) (SE.so se_str)) (se_callB (cK_sum K rfl rfl) ok_sum (by rfl) C.b_sum (by decide +kernel) (so_cons (so_var (pv 3)) sos_nil)) (se_callB (cK_max K rfl rfl) ok_max (by rfl) C.b_max (by decide +kernel) (so_cons (SE.so (se_op (oK_add K rfl) ok_add (so_var (pv 3)) (SE.so (se_lst (sa_cons se_int sa_nil))))) sos_nil)))) sss_nil))))))) (by decide)
theorem ok__law_holds (C : Fx K mg a) : FnOk P w K mg base (L2.CX P w) 63 a.f__law_holds a.d__law_holds ["_law_pile", "_law_right_here"] (spOf K mg 2 s__law_holds) := by
  refine fn_okX (k := 62) C.F__law_holds sc__law_holds (by decide) (fun cdv A outer s H E hr => ?_)
  have po : PassesOwn (model P w) (cxOf (L2.CX P w) P w K mg base N__law_holds "_law_holds" (defScope t__law_holds) a.f__law_holds cdv A outer s H E).A (cxOf (L2.CX P w) P w K mg base N__law_holds "_law_holds" (defScope t__law_holds) a.f__law_holds cdv A outer s H E).env (cxOf (L2.CX P w) P w K mg base N__law_holds "_law_holds" (defScope t__law_holds) a.f__law_holds cdv A outer s H E).xe := passes_of rfl
  have tk : Takes (cxOf (L2.CX P w) P w K mg base N__law_holds "_law_holds" (defScope t__law_holds) a.f__law_holds cdv A outer s H E) (fun c dd _ H' => E c dd H') := takes_of rfl rfl rfl rfl
  unfold m__law_holds fr__law_holds_1 lp__law_holds_1
  exact SSs.ex (sss_cons (ss_for [2, 3] po rfl (si_seqK K rfl (se_var (pv 0))) (sg_tupK K rfl rfl (sgs_cons (sg_name (pg_name (i := 2) sc__law_holds.nd rfl (by first | exact Or.inl rfl | exact Or.inr rfl))) (sgs_cons (sg_name (pg_name (i := 3) sc__law_holds.nd rfl (by first | exact Or.inl rfl | exact Or.inr rfl))) sgs_nil))) (sss_cons (ss_if (SW.st (sw_and (st_cmp op_gt ok_gt (nomark _) (so_var (pv 2)) (SE.so se_int)) (sw_and1 (st_cmp op_gt ok_gt (nomark _) (SE.so (se_callC (ok__law_top C 30) rfl rfl rfl rfl rfl (hr.mono (by first | decide | omega)) (by rfl) C.g__law_top C.k__law_top C.B__law_top rfl tk (so_cons (so_var (pv 1)) (so_cons (so_var (pv 2)) sos_nil)) (lm_cons (lm_cons lm_nil)))) (SE.so (se_callC (ok__law_under C) rfl rfl rfl rfl rfl (hr.mono (by first | decide | omega)) (by rfl) C.g__law_under C.k__law_under C.B__law_under rfl tk (so_cons (so_var (pv 0)) (so_cons (so_var (pv 2)) sos_nil)) (lm_cons (lm_cons lm_nil)))))))) (sss_cons (ss_ret se_bl) sss_nil) sss_nil) sss_nil)) (sss_cons (ss_ret (se_cmp op_le ok_le (nomark _) (SE.so (se_callC (ok__law_top C 30) rfl rfl rfl rfl rfl (hr.mono (by first | decide | omega)) (by rfl) C.g__law_top C.k__law_top C.B__law_top rfl tk (so_cons (so_var (pv 1)) (so_cons (SE.so se_non) sos_nil)) (lm_cons (lm_cons lm_nil)))) (SE.so (se_callC (ok__law_sum C) rfl rfl rfl rfl rfl (hr.mono (by first | decide | omega)) (by rfl) C.g__law_sum C.k__law_sum C.B__law_sum rfl tk (so_cons (so_var (pv 0)) sos_nil) (lm_cons lm_nil))))) sss_nil)) (by decide)
theorem ok__law_right (C : Fx K mg a) : ∀ n, FnOk P w K mg base (L2.CX P w) (2 + n) a.f__law_right a.d__law_right ["_law_digits", "_law_deep", "_law_spare", "_law_size"] (spOf K mg 4 (s__law_right n)) := by
  intro n
  induction n with
  | zero => exact fn_rec0 rfl
  | succ n IH =>
  rw [← Nat.add_assoc, r__law_right]
  refine fn_okX C.F__law_right sc__law_right (by decide) (fun cdv A outer s H E hr => ?_)
  have po : PassesOwn (model P w) (cxOf (L2.CX P w) P w K mg base N__law_right "_law_right" (defScope t__law_right) a.f__law_right cdv A outer s H E).A (cxOf (L2.CX P w) P w K mg base N__law_right "_law_right" (defScope t__law_right) a.f__law_right cdv A outer s H E).env (cxOf (L2.CX P w) P w K mg base N__law_right "_law_right" (defScope t__law_right) a.f__law_right cdv A outer s H E).xe := passes_of rfl
  have tk : Takes (cxOf (L2.CX P w) P w K mg base N__law_right "_law_right" (defScope t__law_right) a.f__law_right cdv A outer s H E) (fun c dd _ H' => E c dd H') := takes_of rfl rfl rfl rfl
  unfold m__law_right lc__law_right_1
  exact SSs.ex (sss_cons (ss_set (i := 4) sc__law_right.nd rfl (by first | exact Or.inl rfl | exact Or.inr rfl) (se_callC (ok__law_take C) rfl rfl rfl rfl rfl (hr.mono (by first | decide | omega)) (by rfl) C.g__law_take C.k__law_take C.B__law_take rfl tk (so_cons (so_var (pv 0)) (so_cons (SE.so se_int) sos_nil)) (lm_cons (lm_cons lm_nil)))) (sss_cons (ss_if (st_cmp (oK_eq K rfl hr.units) ok_eq (nomark _) (so_var (pv 2)) (SE.so (se_lst sa_nil))) (sss_cons (ss_ret (se_tup (sa_cons se_str sa_nil))) sss_nil) sss_nil) (sss_cons (ss_if (SW.st (sw_or (st_cmp op_lt ok_lt (nomark _) (so_var (pv 1)) (SE.so se_int)) (sw_or1 (st_cmp op_lt ok_lt (nomark _) (so_var (pv 4)) (SE.so se_int))))) (sss_cons (ss_ret (se_tup (sa_cons se_str (sa_cons (se_popK (K := K) rfl (fun h => pe_bm PySem.F.plainAttrs_list PySem.F.slot_list_pop PySem.F.type_list_pop mt_popAt (pv 2) (pa_cons h pa_nil)) (SE.so se_int)) (sa_cons (se_op (oK_add K rfl) ok_add (SE.so se_int) (SE.so (se_callC (ok__law_take C) rfl rfl rfl rfl rfl (hr.mono (by first | decide | omega)) (by rfl) C.g__law_take C.k__law_take C.B__law_take rfl tk (so_cons (so_var (pv 0)) (so_cons (so_var (pv 3)) sos_nil)) (lm_cons (lm_cons lm_nil))))) (sa_cons (se_op (oK_add K rfl) ok_add (SE.so se_int) (SE.so (se_op (oK_mul K rfl) ok_mul (SE.so (se_callC (ok__law_take C) rfl rfl rfl rfl rfl (hr.mono (by first | decide | omega)) (by rfl) C.g__law_take C.k__law_take C.B__law_take rfl tk (so_cons (so_var (pv 0)) (so_cons (SE.so se_int) sos_nil)) (lm_cons (lm_cons lm_nil)))) (SE.so (se_callTy (cK_int K rfl) ok_int (by rfl) C.b_int (by decide +kernel) (so_cons (SE.so (se_cmp (oK_eq K rfl hr.units) ok_eq (nomark _) (so_var (pv 4)) (SE.so se_int))) sos_nil)))))) sa_nil)))))) sss_nil) sss_nil) (sss_cons (ss_if (st_cmp (oK_eq K rfl hr.units) ok_eq (nomark _) (so_var (pv 4)) (SE.so se_int)) (sss_cons (ss_ret (se_tup (sa_cons se_str (sa_cons (se_op (oK_add K rfl) ok_add (SE.so se_int) (SE.so (se_callC (ok__law_take C) rfl rfl rfl rfl rfl (hr.mono (by first | decide | omega)) (by rfl) C.g__law_take C.k__law_take C.B__law_take rfl tk (so_cons (so_var (pv 0)) (so_cons (SE.so (se_op (oK_mul K rfl) ok_mul (SE.so se_int) (so_var (pv 3)))) sos_nil)) (lm_cons (lm_cons lm_nil))))) (sa_cons (se_callC IH rfl rfl rfl rfl rfl (hr.mono (by first | decide | omega)) (by rfl) C.g__law_right C.k__law_right C.B__law_right rfl tk (so_cons (so_var (pv 0)) (so_cons (SE.so (se_op op_sub ok_sub (so_var (pv 1)) (SE.so se_int))) (so_cons (so_var (pv 2)) (so_cons (so_var (pv 3)) sos_nil)))) (lm_cons (lm_cons (lm_cons (lm_cons lm_nil))))) sa_nil))))) sss_nil) sss_nil) (sss_cons (ss_if (st_cmp (oK_eq K rfl hr.units) ok_eq (nomark _) (so_var (pv 4)) (SE.so se_int)) (sss_cons (ss_ret (se_tup (sa_cons se_str (sa_cons (se_op (oK_add K rfl) ok_add (SE.so se_int) (SE.so (se_callC (ok__law_take C) rfl rfl rfl rfl rfl (hr.mono (by first | decide | omega)) (by rfl) C.g__law_take C.k__law_take C.B__law_take rfl tk (so_cons (so_var (pv 0)) (so_cons (SE.so se_int) sos_nil)) (lm_cons (lm_cons lm_nil))))) (sa_cons (se_callC IH rfl rfl rfl rfl rfl (hr.mono (by first | decide | omega)) (by rfl) C.g__law_right C.k__law_right C.B__law_right rfl tk (so_cons (so_var (pv 0)) (so_cons (SE.so (se_op op_sub ok_sub (so_var (pv 1)) (SE.so se_int))) (so_cons (so_var (pv 2)) (so_cons (so_var (pv 3)) sos_nil)))) (lm_cons (lm_cons (lm_cons (lm_cons lm_nil))))) sa_nil))))) sss_nil) sss_nil) (sss_cons (ss_setLc (i := 5) (own := [("_law_k", 6)]) rfl sc__law_right.nd rfl rfl (sw_true rfl rfl rfl (by decide +kernel)) (si_range1 (fun h => pi_range1 (by rfl) C.b_range h) (so_cons (SE.so (se_op (oK_add K rfl) ok_add (SE.so se_int) (SE.so (se_callC (ok__law_take C) rfl rfl rfl rfl rfl (hr.mono (by first | decide | omega)) (by rfl) C.g__law_take C.k__law_take C.B__law_take rfl tk (so_cons (so_var (pv 0)) (so_cons (SE.so se_int) sos_nil)) (lm_cons (lm_cons lm_nil)))))) sos_nil)) (blkOk_by (own := [("_law_k", 6)]) (N := N__law_right) (sc := defScope t__law_right) (by decide +kernel)) (fun _ _ _ _ _ => (sg_name (pg_name (i := 6) sc__law_right.nd rfl (by first | exact Or.inl rfl | exact Or.inr rfl)))) (by decide) (fun _ _ _ _ _ => sts_nil) (fun _ _ _ _ _ => (se_callC IH rfl rfl rfl rfl rfl (hr.mono (by first | decide | omega)) (by rfl) C.g__law_right C.k__law_right C.B__law_right rfl takes0 (so_cons (so_var (pv 0)) (so_cons (SE.so (se_op op_sub ok_sub (so_var (pv 1)) (SE.so se_int))) (so_cons (so_var (pv 2)) (so_cons (so_var (pv 3)) sos_nil)))) (lm_cons (lm_cons (lm_cons (lm_cons lm_nil))))))) (sss_cons (ss_ret (se_tup (sa_cons (se_ixK K rfl (fun _ _ => rfl) (SE.so (se_lst (sa_cons se_str (sa_cons se_str (sa_cons se_str sa_nil))))) (SE.so (se_op op_sub ok_sub (so_var (pv 4)) (SE.so se_int)))) (sa_cons (se_callTy (cK_tuple K rfl) ok_tuple (by rfl) C.b_tuple (by decide +kernel) (so_cons (so_var (pv 5)) sos_nil)) sa_nil)))) sss_nil))))))) (by decide)
theorem ok__law_left (C : Fx K mg a) : FnOk P w K mg base (L2.CX P w) 1 a.f__law_left a.d__law_left ["_law_pile", "_law_paying"] (spOf K mg 2 s_k64__law_left) := by
  refine fn_okX (k := 0) C.F__law_left sc__law_left (by decide) (fun cdv A outer s H E hr => ?_)
  have po : PassesOwn (model P w) (cxOf (L2.CX P w) P w K mg base N__law_left "_law_left" (defScope t__law_left) a.f__law_left cdv A outer s H E).A (cxOf (L2.CX P w) P w K mg base N__law_left "_law_left" (defScope t__law_left) a.f__law_left cdv A outer s H E).env (cxOf (L2.CX P w) P w K mg base N__law_left "_law_left" (defScope t__law_left) a.f__law_left cdv A outer s H E).xe := passes_of rfl
  have tk : Takes (cxOf (L2.CX P w) P w K mg base N__law_left "_law_left" (defScope t__law_left) a.f__law_left cdv A outer s H E) (fun c dd _ H' => E c dd H') := takes_of rfl rfl rfl rfl
  unfold m_k64__law_left lc_k64__law_left_2 lc_k64__law_left_1
  exact SSs.ex (sss_cons (ss_ownO (fun h => ps_set (i := 2) sc__law_left.nd rfl (by first | exact Or.inl rfl | exact Or.inr rfl) h) (sfo_dict (K := K) rfl (fun h => pe_callTy (call_dictA rfl) (by rfl) C.b_dict (by decide +kernel) (pa_cons h pa_nil)) (so_var (pv 1)))) (sss_cons (ss_setLc (i := 3) (own := [("_law_worth", 4), ("_law_many", 5)]) rfl sc__law_left.nd rfl rfl (sw_true rfl rfl rfl (by decide +kernel)) (si_seqK K rfl (se_var (pv 0))) (blkOk_by (own := [("_law_worth", 4), ("_law_many", 5)]) (N := N__law_left) (sc := defScope t__law_left) (by decide +kernel)) (fun _ _ _ _ _ => (sg_tupK K rfl rfl (sgs_cons (sg_name (pg_name (i := 4) sc__law_left.nd rfl (by first | exact Or.inl rfl | exact Or.inr rfl))) (sgs_cons (sg_name (pg_name (i := 5) sc__law_left.nd rfl (by first | exact Or.inl rfl | exact Or.inr rfl))) sgs_nil)))) (by decide) (fun _ _ _ _ _ => sts_nil) (fun _ _ _ _ _ => (se_tup (sa_cons (se_var (pv 4)) (sa_cons (se_op op_sub ok_sub (so_var (pv 5)) (SE.so (se_dget2 (fun h1 h2 => pe_dget2 (hu1 hr.units) (pv 2) h1 h2 ⟨rfl, rfl, rfl, rfl⟩) (so_var (pv 4)) se_int))) sa_nil))))) (sss_cons (ss_ret (se_callTy (cK_tuple K rfl) ok_tuple (by rfl) C.b_tuple (by decide +kernel) (so_cons (SE.so (se_lc (own := [("_law_lot", 6)]) rfl sc__law_left.nd (si_seqK K rfl (se_var (pv 3))) (blkOk_by (own := [("_law_lot", 6)]) (N := N__law_left) (sc := defScope t__law_left) (by decide +kernel)) (fun _ _ _ _ _ => (sg_name (pg_name (i := 6) sc__law_left.nd rfl (by first | exact Or.inl rfl | exact Or.inr rfl)))) (by decide) (fun _ _ _ _ _ => (sts_one (st_cmp op_gt ok_gt (nomark _) (SE.so (se_ixK K rfl (fun _ _ => rfl) (so_var (pv 6)) (SE.so se_int))) (SE.so se_int)))) (fun _ _ _ _ _ => (se_var (pv 6))))) sos_nil))) sss_nil))) (by decide)
theorem ok__law_within (C : Fx K mg a) : FnOk P w K mg base (L2.CX P w) 1 a.f__law_within a.d__law_within ["_law_pile"] (spOf K mg 1 s_k64__law_within) := by
  refine fn_okX (k := 0) C.F__law_within sc__law_within (by decide) (fun cdv A outer s H E hr => ?_)
  have po : PassesOwn (model P w) (cxOf (L2.CX P w) P w K mg base N__law_within "_law_within" (defScope t__law_within) a.f__law_within cdv A outer s H E).A (cxOf (L2.CX P w) P w K mg base N__law_within "_law_within" (defScope t__law_within) a.f__law_within cdv A outer s H E).env (cxOf (L2.CX P w) P w K mg base N__law_within "_law_within" (defScope t__law_within) a.f__law_within cdv A outer s H E).xe := passes_of rfl
  have tk : Takes (cxOf (L2.CX P w) P w K mg base N__law_within "_law_within" (defScope t__law_within) a.f__law_within cdv A outer s H E) (fun c dd _ H' => E c dd H') := takes_of rfl rfl rfl rfl
  unfold m_k64__law_within fr_k64__law_within_3 lp_k64__law_within_3 fr_k64__law_within_2 lp_k64__law_within_2 fr_k64__law_within_1 lp_k64__law_within_1
  exact SSs.ex (sss_cons (ss_set (i := 1) sc__law_within.nd rfl (by first | exact Or.inl rfl | exact Or.inr rfl) (se_lst (sa_cons (se_tup sa_nil) sa_nil))) (sss_cons (ss_for [2, 3, 4, 5, 6] po rfl (si_seqK K rfl (se_var (pv 0))) (sg_tupK K rfl rfl (sgs_cons (sg_name (pg_name (i := 2) sc__law_within.nd rfl (by first | exact Or.inl rfl | exact Or.inr rfl))) (sgs_cons (sg_name (pg_name (i := 3) sc__law_within.nd rfl (by first | exact Or.inl rfl | exact Or.inr rfl))) sgs_nil))) (sss_cons (ss_own (fun h => ps_set (i := 4) sc__law_within.nd rfl (by first | exact Or.inl rfl | exact Or.inr rfl) h) (sf_lst sa_nil)) (sss_cons (ss_for [5, 6] po rfl (si_seqK K rfl (se_var (pv 1))) (sg_name (pg_name (i := 5) sc__law_within.nd rfl (by first | exact Or.inl rfl | exact Or.inr rfl))) (sss_cons (ss_for [6] po rfl (si_range1 (fun h => pi_range1 (by rfl) C.b_range h) (so_cons (SE.so (se_op (oK_add K rfl) ok_add (so_var (pv 3)) (SE.so se_int))) sos_nil)) (sg_name (pg_name (i := 6) sc__law_within.nd rfl (by first | exact Or.inl rfl | exact Or.inr rfl))) (sss_cons (ss_app (fun h => ps_expr (pe_bm PySem.F.plainAttrs_list PySem.F.slot_list_append PySem.F.type_list_append mt_append (pv 4) (pa_cons h pa_nil))) (se_op (oK_add K rfl) ok_add (so_var (pv 5)) (SE.so (se_op (oK_mul K rfl) ok_mul (SE.so (se_tup (sa_cons (se_tup (sa_cons (se_var (pv 2)) (sa_cons (se_var (pv 6)) sa_nil))) sa_nil))) (SE.so (se_callTy (cK_int K rfl) ok_int (by rfl) C.b_int (by decide +kernel) (so_cons (SE.so (se_cmp op_gt ok_gt (nomark _) (so_var (pv 6)) (SE.so se_int))) sos_nil))))))) sss_nil)) sss_nil)) (sss_cons (ss_set (i := 1) sc__law_within.nd rfl (by first | exact Or.inl rfl | exact Or.inr rfl) (se_frz (pv 4))) sss_nil)))) (sss_cons (ss_ret (se_callB (cK_sorted K rfl hr.units) ok_sorted (by rfl) C.b_sorted (by decide +kernel) (so_cons (so_var (pv 1)) sos_nil))) sss_nil))) (by decide)
theorem ok__law_due (C : Fx K mg a) : FnOk P w K mg base (L2.CX P w) 64 a.f__law_due a.d__law_due ["_law_pile", "_law_one", "_law_other"] (spOf K mg 3 s_k64__law_due) := by
  refine fn_okX (k := 63) C.F__law_due sc__law_due (by decide) (fun cdv A outer s H E hr => ?_)
  have po : PassesOwn (model P w) (cxOf (L2.CX P w) P w K mg base N__law_due "_law_due" (defScope t__law_due) a.f__law_due cdv A outer s H E).A (cxOf (L2.CX P w) P w K mg base N__law_due "_law_due" (defScope t__law_due) a.f__law_due cdv A outer s H E).env (cxOf (L2.CX P w) P w K mg base N__law_due "_law_due" (defScope t__law_due) a.f__law_due cdv A outer s H E).xe := passes_of rfl
  have tk : Takes (cxOf (L2.CX P w) P w K mg base N__law_due "_law_due" (defScope t__law_due) a.f__law_due cdv A outer s H E) (fun c dd _ H' => E c dd H') := takes_of rfl rfl rfl rfl
  unfold m_k64__law_due fr_k64__law_due_1 lp_k64__law_due_1
  exact SSs.ex (sss_cons (ss_for [3, 4] po rfl (si_seqK K rfl (se_callC (ok__law_within C) rfl rfl rfl rfl rfl (hr.mono (by first | decide | omega)) (by rfl) C.g__law_within C.k__law_within C.B__law_within rfl tk (so_cons (so_var (pv 0)) sos_nil) (lm_cons lm_nil))) (sg_name (pg_name (i := 3) sc__law_due.nd rfl (by first | exact Or.inl rfl | exact Or.inr rfl))) (sss_cons (ss_set (i := 4) sc__law_due.nd rfl (by first | exact Or.inl rfl | exact Or.inr rfl) (se_callC (ok__law_left C) rfl rfl rfl rfl rfl (hr.mono (by first | decide | omega)) (by rfl) C.g__law_left C.k__law_left C.B__law_left rfl tk (so_cons (so_var (pv 0)) (so_cons (so_var (pv 3)) sos_nil)) (lm_cons (lm_cons lm_nil)))) (sss_cons (ss_if (SW.st (sw_and (st_val (se_callC (ok__law_holds C) rfl rfl rfl rfl rfl (hr.mono (by first | decide | omega)) (by rfl) C.g__law_holds C.k__law_holds C.B__law_holds rfl tk (so_cons (so_var (pv 3)) (so_cons (so_var (pv 2)) sos_nil)) (lm_cons (lm_cons lm_nil)))) (sw_and1 (st_val (se_callC (ok__law_holds C) rfl rfl rfl rfl rfl (hr.mono (by first | decide | omega)) (by rfl) C.g__law_holds C.k__law_holds C.B__law_holds rfl tk (so_cons (so_var (pv 4)) (so_cons (so_var (pv 1)) sos_nil)) (lm_cons (lm_cons lm_nil))))))) (sss_cons (ss_ret (se_tup (sa_cons (se_var (pv 4)) (sa_cons (se_var (pv 3)) sa_nil)))) sss_nil) sss_nil) sss_nil))) (sss_cons (ss_ret se_non) sss_nil)) (by decide)
theorem ok__law_refused (C : Fx K mg a) : FnOk P w K mg base (L2.CX P w) 67 a.f__law_refused a.d__law_refused ["_law_pile", "_law_one"] (spOf K mg 2 s_k64__law_refused) := by
  refine fn_okX (k := 66) C.F__law_refused sc__law_refused (by decide) (fun cdv A outer s H E hr => ?_)
  have po : PassesOwn (model P w) (cxOf (L2.CX P w) P w K mg base N__law_refused "_law_refused" (defScope t__law_refused) a.f__law_refused cdv A outer s H E).A (cxOf (L2.CX P w) P w K mg base N__law_refused "_law_refused" (defScope t__law_refused) a.f__law_refused cdv A outer s H E).env (cxOf (L2.CX P w) P w K mg base N__law_refused "_law_refused" (defScope t__law_refused) a.f__law_refused cdv A outer s H E).xe := passes_of rfl
  have tk : Takes (cxOf (L2.CX P w) P w K mg base N__law_refused "_law_refused" (defScope t__law_refused) a.f__law_refused cdv A outer s H E) (fun c dd _ H' => E c dd H') := takes_of rfl rfl rfl rfl
  unfold m_k64__law_refused tb_k64__law_refused_1
  exact SSs.ex (sss_cons (ss_try0 (c := 7) K rfl rfl C.x_ok C.x_TooGreat ⟨by decide, rfl⟩ rfl rfl rfl (by rfl) tk (fun _ _ _ tk po => (sss_cons (ss_expr (fun h => ps_expr h) (se_callC (ok_can_part C) rfl rfl rfl rfl rfl (hr.mono (by first | decide | omega)) (by rfl) C.g_can_part C.k_can_part C.B_can_part rfl tk (so_cons (so_var (pv 0)) (so_cons (so_var (pv 1)) (so_cons (SE.so (se_tup (sa_cons se_str sa_nil))) sos_nil))) (lm_cons (lm_cons (lm_cons lm_nil))))) sss_nil)) (fun sua _ => (sss_cons (ss_ret se_bl) sss_nil))) (sss_cons (ss_ret se_bl) sss_nil)) (by decide)
theorem ok__law_great (C : Fx K mg a) : FnOk P w K mg base (L2.CX P w) 68 a.f__law_great a.d__law_great ["_law_pile"] (spOf K mg 1 s_k64__law_great) := by
  refine fn_okX (k := 67) C.F__law_great sc__law_great (by decide) (fun cdv A outer s H E hr => ?_)
  have po : PassesOwn (model P w) (cxOf (L2.CX P w) P w K mg base N__law_great "_law_great" (defScope t__law_great) a.f__law_great cdv A outer s H E).A (cxOf (L2.CX P w) P w K mg base N__law_great "_law_great" (defScope t__law_great) a.f__law_great cdv A outer s H E).env (cxOf (L2.CX P w) P w K mg base N__law_great "_law_great" (defScope t__law_great) a.f__law_great cdv A outer s H E).xe := passes_of rfl
  have tk : Takes (cxOf (L2.CX P w) P w K mg base N__law_great "_law_great" (defScope t__law_great) a.f__law_great cdv A outer s H E) (fun c dd _ H' => E c dd H') := takes_of rfl rfl rfl rfl
  unfold m_k64__law_great
  exact SSs.ex (sss_cons (ss_ret (se_and (se_callC (ok__law_refused C) rfl rfl rfl rfl rfl (hr.mono (by first | decide | omega)) (by rfl) C.g__law_refused C.k__law_refused C.B__law_refused rfl tk (so_cons (so_var (pv 0)) (so_cons (SE.so (se_tup (sa_cons se_str sa_nil))) sos_nil)) (lm_cons (lm_cons lm_nil))) (se_one (se_callC (ok__law_refused C) rfl rfl rfl rfl rfl (hr.mono (by first | decide | omega)) (by rfl) C.g__law_refused C.k__law_refused C.B__law_refused rfl tk (so_cons (so_var (pv 0)) (so_cons (SE.so (se_tup (sa_cons se_str (sa_cons se_str (sa_cons (se_op op_pow ok_pow (SE.so se_int) (SE.so se_int)) (sa_cons se_int sa_nil)))))) sos_nil)) (lm_cons (lm_cons lm_nil)))))) sss_nil) (by decide)
theorem ok_law (C : Fx K mg a) : FnOk P w K mg base CX0 69 a.f_law a.d_law ["_law_script"] (fun vs H Q E => spOf K mg 1 s_k64_law vs H Q E0) := by
  refine fn_ok0 (k := 68) C.F_law sc_law (by decide) (fun cdv A outer s H E hr => ?_)
  have po : PassesOwn (model P w) (cxOf CX0 P w K mg base N_law "law" (defScope t_law) a.f_law cdv A outer s H E).nox.A (cxOf CX0 P w K mg base N_law "law" (defScope t_law) a.f_law cdv A outer s H E).nox.env (cxOf CX0 P w K mg base N_law "law" (defScope t_law) a.f_law cdv A outer s H E).nox.xe := PassesOwn.never
  have tk : Takes (cxOf CX0 P w K mg base N_law "law" (defScope t_law) a.f_law cdv A outer s H E).nox W0 := takes0
  unfold m_k64_law lc_k64_law_3 lc_k64_law_2 fr_k64_law_2 lp_k64_law_2 fr_k64_law_1 lp_k64_law_1 lc_k64_law_1
  exact SSs.ex (sss_cons (ss_for [1, 6, 7, 8, 9, 10, 11, 12] po rfl (si_range1 (fun h => pi_range1 (by rfl) C.b_range h) (so_cons (SE.so (se_callB (cK_max K rfl rfl) ok_max (by rfl) C.b_max (by decide +kernel) (so_cons (SE.so (se_callB (cK_min K rfl rfl) ok_min (by rfl) C.b_min (by decide +kernel) (so_cons (SE.so (se_lenScr (pe_callB call_len (by rfl) C.b_len PySem.boot_len (pa_cons (pv 0) pa_nil)))) (so_cons (SE.so se_int) sos_nil)))) (so_cons (SE.so se_int) sos_nil)))) sos_nil)) (sg_name (pg_name (i := 1) sc_law.nd rfl (by first | exact Or.inl rfl | exact Or.inr rfl))) (sss_cons (ss_own (fun h => ps_set (i := 6) sc_law.nd rfl (by first | exact Or.inl rfl | exact Or.inr rfl) h) (sf_lst (sa_cons (se_callC (ok__law_cell C) rfl rfl rfl rfl rfl (hr.mono (by first | decide | omega)) (by rfl) C.g__law_cell C.k__law_cell C.B__law_cell rfl tk (so_cons (so_var (pv 0)) (so_cons (so_var (pv 1)) sos_nil)) (lm_cons (lm_cons lm_nil))) sa_nil))) (sss_cons (ss_for [7, 8, 9, 10, 11, 12] po rfl (si_range1 (fun h => pi_range1 (by rfl) C.b_range h) (so_cons (SE.so se_int) sos_nil)) (sg_name (pg_name (i := 7) sc_law.nd rfl (by first | exact Or.inl rfl | exact Or.inr rfl))) (sss_cons (ss_set (i := 8) sc_law.nd rfl (by first | exact Or.inl rfl | exact Or.inr rfl) (se_callNC (ok__law_right C 30) rfl rfl rfl rfl rfl (hr.mono (by first | decide | omega)) (by rfl) C.g__law_right C.k__law_right C.B__law_right rfl tk (so_consN (so_var (pv 6)) (so_consN (SE.so se_int) (so_new (sf_call (fun h => pe_callTy (call_listT rfl) (by rfl) C.b_list (by decide +kernel) h) okF_lstT (so_cons (SE.so se_str) sos_nil)) (so_cons (SE.so (se_ixK K rfl (fun _ _ => rfl) (SE.so (se_lst (sa_cons se_int (sa_cons se_int sa_nil)))) (SE.so (se_callC (ok__law_take C) rfl rfl rfl rfl rfl (hr.mono (by first | decide | omega)) (by rfl) C.g__law_take C.k__law_take C.B__law_take rfl tk (so_cons (so_var (pv 6)) (so_cons (SE.so se_int) sos_nil)) (lm_cons (lm_cons lm_nil)))))) sos_nil)))) (lm_cons (lm_cons (lm_new (lm_cons lm_nil)))))) (sss_cons (ss_set (i := 9) sc_law.nd rfl (by first | exact Or.inl rfl | exact Or.inr rfl) (se_callNC (ok__law_right C 30) rfl rfl rfl rfl rfl (hr.mono (by first | decide | omega)) (by rfl) C.g__law_right C.k__law_right C.B__law_right rfl tk (so_consN (so_var (pv 6)) (so_consN (SE.so se_int) (so_new (sf_call (fun h => pe_callTy (call_listT rfl) (by rfl) C.b_list (by decide +kernel) h) okF_lstT (so_cons (SE.so se_str) sos_nil)) (so_cons (SE.so (se_ixK K rfl (fun _ _ => rfl) (SE.so (se_lst (sa_cons se_int (sa_cons se_int sa_nil)))) (SE.so (se_callC (ok__law_take C) rfl rfl rfl rfl rfl (hr.mono (by first | decide | omega)) (by rfl) C.g__law_take C.k__law_take C.B__law_take rfl tk (so_cons (so_var (pv 6)) (so_cons (SE.so se_int) sos_nil)) (lm_cons (lm_cons lm_nil)))))) sos_nil)))) (lm_cons (lm_cons (lm_new (lm_cons lm_nil)))))) (sss_cons (ss_set (i := 10) sc_law.nd rfl (by first | exact Or.inl rfl | exact Or.inr rfl) (se_op (oK_add K rfl) ok_add (SE.so (se_op (oK_mul K rfl) ok_mul (SE.so (se_lst (sa_cons se_int sa_nil))) (SE.so (se_callC (ok__law_take C) rfl rfl rfl rfl rfl (hr.mono (by first | decide | omega)) (by rfl) C.g__law_take C.k__law_take C.B__law_take rfl tk (so_cons (so_var (pv 6)) (so_cons (SE.so se_int) sos_nil)) (lm_cons (lm_cons lm_nil)))))) (SE.so (se_lc (own := [("_law_j", 14)]) rfl sc_law.nd (si_range1 (fun h => pi_range1 (by rfl) C.b_range h) (so_cons (SE.so (se_callC (ok__law_take C) rfl rfl rfl rfl rfl (hr.mono (by first | decide | omega)) (by rfl) C.g__law_take C.k__law_take C.B__law_take rfl tk (so_cons (so_var (pv 6)) (so_cons (SE.so se_int) sos_nil)) (lm_cons (lm_cons lm_nil)))) sos_nil)) (blkOk_by (own := [("_law_j", 14)]) (N := N_law) (sc := defScope t_law) (by decide +kernel)) (fun _ _ _ _ _ => (sg_name (pg_name (i := 14) sc_law.nd rfl (by first | exact Or.inl rfl | exact Or.inr rfl)))) (by decide) (fun _ _ _ _ _ => sts_nil) (fun _ _ _ _ _ => (se_op (oK_add K rfl) ok_add (SE.so se_int) (SE.so (se_callC (ok__law_take C) rfl rfl rfl rfl rfl (hr.mono (by first | decide | omega)) (by rfl) C.g__law_take C.k__law_take C.B__law_take rfl takes0 (so_cons (so_var (pv 6)) (so_cons (SE.so se_int) sos_nil)) (lm_cons (lm_cons lm_nil)))))))))) (sss_cons (ss_set (i := 11) sc_law.nd rfl (by first | exact Or.inl rfl | exact Or.inr rfl) (se_callC (ok__law_heap C) rfl rfl rfl rfl rfl (hr.mono (by first | decide | omega)) (by rfl) C.g__law_heap C.k__law_heap C.B__law_heap rfl tk (so_cons (so_var (pv 10)) sos_nil) (lm_cons lm_nil))) (sss_cons (ss_set (i := 12) sc_law.nd rfl (by first | exact Or.inl rfl | exact Or.inr rfl) (se_callC (ok__law_take C) rfl rfl rfl rfl rfl (hr.mono (by first | decide | omega)) (by rfl) C.g__law_take C.k__law_take C.B__law_take rfl tk (so_cons (so_var (pv 6)) (so_cons (SE.so se_int) sos_nil)) (lm_cons (lm_cons lm_nil)))) (sss_cons (ss_if (st_cmp (oK_eq K rfl hr.units) ok_eq (nomark _) (so_var (pv 12)) (SE.so se_int)) (sss_cons (ss_set (i := 9) sc_law.nd rfl (by first | exact Or.inl rfl | exact Or.inr rfl) (se_ixK K rfl (fun _ _ => rfl) (SE.so (se_lst (sa_cons (se_tup (sa_cons se_str sa_nil)) (sa_cons (se_tup (sa_cons se_str (sa_cons (se_tup sa_nil) sa_nil))) (sa_cons (se_tup (sa_cons se_str (sa_cons se_int (sa_cons (se_tup (sa_cons se_str sa_nil)) sa_nil)))) sa_nil))))) (SE.so (se_callC (ok__law_take C) rfl rfl rfl rfl rfl (hr.mono (by first | decide | omega)) (by rfl) C.g__law_take C.k__law_take C.B__law_take rfl tk (so_cons (so_var (pv 6)) (so_cons (SE.so se_int) sos_nil)) (lm_cons (lm_cons lm_nil)))))) sss_nil) sss_nil) (sss_cons (ss_if (st_cmp (oK_eq K rfl hr.units) ok_eq (nomark _) (so_var (pv 12)) (SE.so se_int)) (sss_cons (ss_set (i := 8) sc_law.nd rfl (by first | exact Or.inl rfl | exact Or.inr rfl) (se_tup (sa_cons se_str (sa_cons (se_op op_pow ok_pow (SE.so se_int) (SE.so se_int)) (sa_cons (se_var (pv 8)) sa_nil))))) sss_nil) sss_nil) (sss_cons (ss_if (st_cmp (oK_ne K rfl hr.units) ok_ne (nomark _) (SE.so (se_callC (ok_can_part C) rfl rfl rfl rfl rfl (hr.mono (by first | decide | omega)) (by rfl) C.g_can_part C.k_can_part C.B_can_part rfl tk (so_cons (so_var (pv 11)) (so_cons (so_var (pv 8)) (so_cons (so_var (pv 9)) sos_nil))) (lm_cons (lm_cons (lm_cons lm_nil))))) (SE.so (se_callC (ok__law_due C) rfl rfl rfl rfl rfl (hr.mono (by first | decide | omega)) (by rfl) C.g__law_due C.k__law_due C.B__law_due rfl tk (so_cons (so_var (pv 11)) (so_cons (so_var (pv 8)) (so_cons (so_var (pv 9)) sos_nil))) (lm_cons (lm_cons (lm_cons lm_nil)))))) (sss_cons (ss_ret se_bl) sss_nil) sss_nil) sss_nil))))))))) sss_nil))) (sss_cons (ss_set (i := 2) sc_law.nd rfl (by first | exact Or.inl rfl | exact Or.inr rfl) (se_tup (sa_cons se_str (sa_cons se_str (sa_cons se_int (sa_cons se_int sa_nil)))))) (sss_cons (ss_if (st_cmp op_notN ok_isnt (nomark _) (SE.so (se_callC (ok_can_part C) rfl rfl rfl rfl rfl (hr.mono (by first | decide | omega)) (by rfl) C.g_can_part C.k_can_part C.B_can_part rfl tk (so_cons (SE.so (se_tup (sa_cons (se_tup (sa_cons se_int (sa_cons se_int sa_nil))) (sa_cons (se_tup (sa_cons se_int (sa_cons se_int sa_nil))) sa_nil)))) (so_cons (so_var (pv 2)) (so_cons (SE.so (se_tup (sa_cons se_str (sa_cons se_str (sa_cons se_int (sa_cons se_int sa_nil)))))) sos_nil))) (lm_cons (lm_cons (lm_cons lm_nil))))) (SE.so se_non)) (sss_cons (ss_ret se_bl) sss_nil) sss_nil) (sss_cons (ss_if (SW.st (sw_or (st_not (st_val (se_callC (ok__law_holds C) rfl rfl rfl rfl rfl (hr.mono (by first | decide | omega)) (by rfl) C.g__law_holds C.k__law_holds C.B__law_holds rfl tk (so_cons (SE.so (se_tup (sa_cons (se_tup (sa_cons se_int (sa_cons se_int sa_nil))) (sa_cons (se_tup (sa_cons se_int (sa_cons se_int sa_nil))) sa_nil)))) (so_cons (SE.so (se_tup (sa_cons se_str (sa_cons (se_tup (sa_cons (se_var (pv 2)) (sa_cons (se_tup (sa_cons se_str (sa_cons se_str (sa_cons se_int (sa_cons se_int sa_nil))))) sa_nil))) sa_nil)))) sos_nil)) (lm_cons (lm_cons lm_nil))))) (sw_or1 (st_cmp op_notN ok_isnt (nomark _) (SE.so (se_callC (ok_can_part C) rfl rfl rfl rfl rfl (hr.mono (by first | decide | omega)) (by rfl) C.g_can_part C.k_can_part C.B_can_part rfl tk (so_cons (SE.so (se_tup sa_nil)) (so_cons (so_var (pv 2)) (so_cons (so_var (pv 2)) sos_nil))) (lm_cons (lm_cons (lm_cons lm_nil))))) (SE.so se_non))))) (sss_cons (ss_ret se_bl) sss_nil) sss_nil) (sss_cons (ss_set (i := 3) sc_law.nd rfl (by first | exact Or.inl rfl | exact Or.inr rfl) (se_lst (sa_cons (se_callTy (cK_tuple K rfl) ok_tuple (by rfl) C.b_tuple (by decide +kernel) (so_cons (SE.so (se_lc (own := [("_law_worth", 13)]) rfl sc_law.nd (si_range2 (fun h => pi_range2 (by rfl) C.b_range h) (so_cons (SE.so se_int) (so_cons (SE.so se_int) sos_nil))) (blkOk_by (own := [("_law_worth", 13)]) (N := N_law) (sc := defScope t_law) (by decide +kernel)) (fun _ _ _ _ _ => (sg_name (pg_name (i := 13) sc_law.nd rfl (by first | exact Or.inl rfl | exact Or.inr rfl)))) (by decide) (fun _ _ _ _ _ => sts_nil) (fun _ _ _ _ _ => (se_tup (sa_cons (se_var (pv 13)) (sa_cons se_int sa_nil)))))) sos_nil)) (sa_cons (se_tup (sa_cons (se_tup (sa_cons se_int (sa_cons se_int sa_nil))) sa_nil)) sa_nil)))) (sss_cons (ss_set (i := 4) sc_law.nd rfl (by first | exact Or.inl rfl | exact Or.inr rfl) (se_tup (sa_cons (se_tup (sa_cons se_int (sa_cons se_int sa_nil))) (sa_cons (se_tup (sa_cons se_int (sa_cons se_int sa_nil))) (sa_cons (se_tup (sa_cons se_int (sa_cons se_int sa_nil))) (sa_cons (se_tup (sa_cons se_int (sa_cons se_int sa_nil))) (sa_cons (se_tup (sa_cons se_int (sa_cons se_int sa_nil))) (sa_cons (se_tup (sa_cons se_int (sa_cons se_int sa_nil))) (sa_cons (se_tup (sa_cons se_int (sa_cons se_int sa_nil))) (sa_cons (se_tup (sa_cons se_int (sa_cons se_int sa_nil))) (sa_cons (se_tup (sa_cons se_int (sa_cons se_int sa_nil))) (sa_cons (se_tup (sa_cons se_int (sa_cons se_int sa_nil))) (sa_cons (se_tup (sa_cons se_int (sa_cons se_int sa_nil))) sa_nil))))))))))))) (sss_cons (ss_if (SW.st (sw_or (st_not (st_val (se_callC (ok__law_great C) rfl rfl rfl rfl rfl (hr.mono (by first | decide | omega)) (by rfl) C.g__law_great C.k__law_great C.B__law_great rfl tk (so_cons (so_var (pv 4)) sos_nil) (lm_cons lm_nil)))) (sw_or1 (st_cmp op_notN ok_isnt (nomark _) (SE.so (se_callC (ok_can_part C) rfl rfl rfl rfl rfl (hr.mono (by first | decide | omega)) (by rfl) C.g_can_part C.k_can_part C.B_can_part rfl tk (so_cons (SE.so (se_tup (sa_cons (se_tup (sa_cons se_int (sa_cons se_int sa_nil))) (sa_cons (se_tup (sa_cons se_int (sa_cons se_int sa_nil))) sa_nil)))) (so_cons (SE.so (se_tup (sa_cons se_str (sa_cons se_str (sa_cons se_int (sa_cons se_int sa_nil)))))) (so_cons (so_var (pv 2)) sos_nil))) (lm_cons (lm_cons (lm_cons lm_nil))))) (SE.so se_non))))) (sss_cons (ss_ret se_bl) sss_nil) sss_nil) (sss_cons (ss_if (st_cmp (oK_ne K rfl hr.units) ok_ne (nomark _) (SE.so (se_callC (ok_can_part C) rfl rfl rfl rfl rfl (hr.mono (by first | decide | omega)) (by rfl) C.g_can_part C.k_can_part C.B_can_part rfl tk (so_cons (SE.so (se_tup (sa_cons (se_tup (sa_cons se_int (sa_cons se_int sa_nil))) sa_nil))) (so_cons (SE.so (se_tup (sa_cons se_str (sa_cons se_str (sa_cons se_int (sa_cons se_int sa_nil)))))) (so_cons (SE.so (se_tup (sa_cons se_str sa_nil))) sos_nil))) (lm_cons (lm_cons (lm_cons lm_nil))))) (SE.so (se_tup (sa_cons (se_tup (sa_cons (se_tup (sa_cons se_int (sa_cons se_int sa_nil))) sa_nil)) (sa_cons (se_tup sa_nil) sa_nil))))) (sss_cons (ss_ret se_bl) sss_nil) sss_nil) (sss_cons (ss_if (SW.st (sw_or (st_cmp (oK_ne K rfl hr.units) ok_ne (nomark _) (SE.so (se_callC (ok_can_part C) rfl rfl rfl rfl rfl (hr.mono (by first | decide | omega)) (by rfl) C.g_can_part C.k_can_part C.B_can_part rfl tk (so_cons (SE.so (se_tup sa_nil)) (so_cons (SE.so (se_tup (sa_cons se_str sa_nil))) (so_cons (SE.so (se_tup (sa_cons se_str sa_nil))) sos_nil))) (lm_cons (lm_cons (lm_cons lm_nil))))) (SE.so (se_tup (sa_cons (se_tup sa_nil) (sa_cons (se_tup sa_nil) sa_nil))))) (sw_or1 (st_val (se_callC (ok__law_refused C) rfl rfl rfl rfl rfl (hr.mono (by first | decide | omega)) (by rfl) C.g__law_refused C.k__law_refused C.B__law_refused rfl tk (so_cons (SE.so (se_tup (sa_cons (se_tup (sa_cons se_int (sa_cons se_int sa_nil))) sa_nil))) (so_cons (SE.so (se_tup (sa_cons se_str sa_nil))) sos_nil)) (lm_cons (lm_cons lm_nil))))))) (sss_cons (ss_ret se_bl) sss_nil) sss_nil) (sss_cons (ss_set (i := 5) sc_law.nd rfl (by first | exact Or.inl rfl | exact Or.inr rfl) (se_tup (sa_cons (se_tup (sa_cons se_int (sa_cons se_int sa_nil))) (sa_cons (se_tup (sa_cons se_int (sa_cons se_int sa_nil))) (sa_cons (se_tup (sa_cons se_int (sa_cons se_int sa_nil))) (sa_cons (se_tup (sa_cons se_int (sa_cons se_int sa_nil))) (sa_cons (se_tup (sa_cons se_int (sa_cons se_int sa_nil))) (sa_cons (se_tup (sa_cons se_int (sa_cons se_int sa_nil))) (sa_cons (se_tup (sa_cons se_int (sa_cons se_int sa_nil))) sa_nil))))))))) (sss_cons (ss_ret (se_and (se_callB (cK_all K rfl rfl) ok_all (by rfl) C.b_all (by decide +kernel) (so_cons (SE.so (se_lc (own := [("_law_pile", 11)]) rfl sc_law.nd (si_seqK K rfl (se_var (pv 3))) (blkOk_by (own := [("_law_pile", 11)]) (N := N_law) (sc := defScope t_law) (by decide +kernel)) (fun _ _ _ _ _ => (sg_name (pg_name (i := 11) sc_law.nd rfl (by first | exact Or.inl rfl | exact Or.inr rfl)))) (by decide) (fun _ _ _ _ _ => sts_nil) (fun _ _ _ _ _ => (se_callC (ok__law_great C) rfl rfl rfl rfl rfl (hr.mono (by first | decide | omega)) (by rfl) C.g__law_great C.k__law_great C.B__law_great rfl takes0 (so_cons (so_var (pv 11)) sos_nil) (lm_cons lm_nil))))) sos_nil)) (se_one (se_not (se_callC (ok__law_refused C) rfl rfl rfl rfl rfl (hr.mono (by first | decide | omega)) (by rfl) C.g__law_refused C.k__law_refused C.B__law_refused rfl tk (so_cons (so_var (pv 5)) (so_cons (SE.so (se_tup (sa_cons se_str sa_nil))) sos_nil)) (lm_cons (lm_cons lm_nil))))))) sss_nil))))))))))) (by decide)
end
end Lw
namespace Bt
open PySem L2
section
variable {α β : Type} (E : En)
theorem a_bnd (m : M α) (f : α → M β) : bnd m f E = (match m E with | .ok a E' => f a E' | .ex x E' => .ex x E' | .bad => .bad) := rfl
theorem a_ret (a : α) : Bt.ret a E = .ok a E := rfl
theorem a_stuck : (stuck : M α) E = .bad := rfl
theorem a_liftS (a : α) : lift (some a) E = .ok a E := rfl
theorem a_liftN : lift (none : Option α) E = .bad := rfl
theorem a_mOp (f : D → D → Option D) (ma mb : M Ag) : mOp f ma mb E = bnd ma (fun a => bnd mb fun b => fun E => match rsv E a, rsv E b with | some x, some y => lift (f x y) E | _, _ => .bad) E := rfl
theorem a_mOpF (f : D → D → Option (List D)) (ma mb : M Ag) : mOpF f ma mb E = bnd ma (fun a => bnd mb fun b => fun E => match rsv E a, rsv E b with | some x, some y => lift (f x y) E | _, _ => .bad) E := rfl
theorem a_mChain (f g : D → D → Option D) (ma mb mc : M Ag) : mChain f g ma mb mc E = bnd ma (fun a => bnd mb fun b => fun E => match rsv E a, rsv E b with
  | some x, some y => match f x y with
    | some (.bool true) => (bnd mc fun c => fun E => match rsv E b, rsv E c with
      | some y, some z => lift (g y z) E
      | _, _ => .bad) E
    | some (.bool false) => .ok (.bool false) E
    | _ => .bad
  | _, _ => .bad) E := rfl
theorem a_mD (m : M D) : mD m E = bnd m (fun d => Bt.ret (.d d)) E := rfl
theorem a_mR (i : Nat) : mR i E = (match E[i]? with | some (.dat _) => .ok (.r i) E | some (.ow _) => .ok (.r i) E | some (.scr _) => .ok (.r i) E | _ => .bad) := rfl
theorem a_mV (i : Nat) : mV i E = (match E[i]? with | some (.dat d) => .ok d E | _ => .bad) := rfl
theorem a_mFrz (i : Nat) : mFrz i E = (match E[i]? with | some ((.ow (.l ds))) => .ok (.list ds) (E.set i (.dat (.list ds))) | some (.dat d) => .ok d E | _ => .bad) := rfl
theorem a_rsvD (d : D) : rsv E (.d d) = some d := rfl
theorem a_rsvR (i : Nat) : rsv E (.r i) = (match E[i]? with | some (.dat d) => some d | some ((.ow (.l ds))) => some (.list ds) | _ => none) := rfl
theorem a_rsvs0 : rsvs E [] = some [] := rfl
theorem a_rsvs1 (a : Ag) (as : List Ag) : rsvs E (a :: as) = (match rsv E a, rsvs E as with | some d, some ds => some (d :: ds) | _, _ => none) := rfl
theorem a_mCons (m : M Ag) (ms : M (List Ag)) : mCons m ms E = bnd m (fun a => bnd ms fun as => Bt.ret (a :: as)) E := rfl
theorem a_mConsD (m : M D) (ms : M (List D)) : mConsD m ms E = bnd m (fun a => bnd ms fun as => Bt.ret (a :: as)) E := rfl
theorem a_mTup (ms : M (List D)) : mTup ms E = bnd ms (fun ds => fun E => if ds.length ≤ LIM then .ok (.tuple ds) E else .bad) E := rfl
theorem a_mLst (ms : M (List D)) : mLst ms E = bnd ms (fun ds => fun E => if ds.length ≤ LIM then .ok (.list ds) E else .bad) E := rfl
theorem a_mLstF (ms : M (List D)) : mLstF ms E = bnd ms (fun ds => fun E => if ds.length ≤ LIM then .ok ds E else .bad) E := rfl
theorem a_mIf (mt : M Bool) (x y : M α) : mIf mt x y E = bnd mt (fun b => if b then x else y) E := rfl
theorem a_mIfS (mt : M Bool) (x y : M Fl) : mIfS mt x y E = bnd mt (fun b => if b then x else y) E := rfl
theorem a_ite (c : Prop) [Decidable c] (x y : M α) : (if c then x else y) E = if c then x E else y E := by split <;> rfl
theorem a_mAnd (x y : M Bool) : mAnd x y E = bnd x (fun b => if b then y else Bt.ret false) E := rfl
theorem a_mOr (x y : M Bool) : mOr x y E = bnd x (fun b => if b then Bt.ret true else y) E := rfl
theorem a_mNot (x : M Bool) : mNot x E = bnd x (fun b => Bt.ret (!b)) E := rfl
theorem a_mAndV (x y : M D) : mAndV x y E = bnd x (fun d => match d with | .bool true => y | .bool false => Bt.ret (.bool false) | _ => stuck) E := rfl
theorem a_mOrV (x y : M D) : mOrV x y E = bnd x (fun d => match d with | .bool true => Bt.ret (.bool true) | .bool false => y | _ => stuck) E := rfl
theorem a_mNotV (x : M D) : mNotV x E = bnd x (fun d => match d with | .bool b => Bt.ret (.bool (!b)) | _ => stuck) E := rfl
theorem a_asB (b : Bool) : asB (.bool b) E = .ok b E := rfl
theorem a_mNeg (m : M Ag) : mNeg m E = bnd m (fun a => fun E => match rsv E a with | some (.int i) => .ok (.int (-i)) E | _ => .bad) E := rfl
theorem a_mB (f : List D → Option D) (ms : M (List Ag)) : mB f ms E = bnd ms (fun as => fun E => match rsvs E as with | some ds => lift (f ds) E | none => .bad) E := rfl
theorem a_mBF (f : List D → Option (List D)) (ms : M (List Ag)) : mBF f ms E = bnd ms (fun as => fun E => match rsvs E as with | some ds => lift (f ds) E | none => .bad) E := rfl
theorem a_mIsi (T : String) (m : M Ag) : mIsi T m E = bnd m (fun a => fun E => match rsv E a with | some d => if notX d then .ok (.bool (isiD T d)) E else .bad | none => .bad) E := rfl
theorem a_mCallO (Fm : M Sl) (dds : List D) (ms : M (List Ag)) : mCallO Fm dds ms E = bnd ms (fun ags => fun E => if apartA E ags then match argSl E ags with
  | none => .bad
  | some as => match Fm (as ++ dds.map .dat) with
    | .ok d as' => match putB E ags (as'.take ags.length) with
      | some E' => .ok d E'
      | none => .bad
    | .ex x as' => match putB E ags (as'.take ags.length) with
      | some E' => .ex x E'
      | none => .bad
    | .bad => .bad
  else .bad) E := rfl
theorem a_mCall (Fm : M Sl) (dds : List D) (ms : M (List Ag)) : mCall Fm dds ms E = bnd (mCallO Fm dds ms) thaw E := rfl
theorem a_mCallB (Fm : M Sl) (ms : M (List Ag)) : mCallB Fm ms E = bnd ms (fun ags => fun E => match borSl E ags with
  | none => .bad
  | some as => match Fm as with
    | .ok (.dat d) _ => if flatD d then .ok d E else .bad
    | .ex x _ => if flatX x then .ex x E else .bad
    | _ => .bad) E := rfl
theorem a_thawD (d : D) : thaw (.dat d) E = .ok d E := rfl
theorem a_thawL (ds : List D) : thaw (.ow (.l ds)) E = .ok (.list ds) E := rfl
theorem a_mCallKO (Fm : M Sl) (pk : List Pk) (n1 n2 : Nat) (ms1 ms2 : M (List D)) : mCallKO Fm pk n1 n2 ms1 ms2 E = bnd ms1 (fun ds1 => bnd ms2 fun ds2 => fun E => if ds1.length = n1 ∧ ds2.length = n2 then match Fm ((pk.map (pkD (ds1 ++ ds2))).map .dat) with
  | .ok d _ => .ok d E
  | .ex x _ => .ex x E
  | .bad => .bad
  else .bad) E := rfl
theorem a_mCallK (Fm : M Sl) (pk : List Pk) (n1 n2 : Nat) (ms1 ms2 : M (List D)) : mCallK Fm pk n1 n2 ms1 ms2 E = bnd (mCallKO Fm pk n1 n2 ms1 ms2) thaw E := rfl
theorem a_mSeq (a b : M Fl) : mSeq a b E = (match a E with | .ok .nx E' => b E' | r => r) := rfl
theorem a_mNil : mNil E = .ok .nx E := rfl
theorem a_mRet (m : M D) : mRet m E = bnd m (fun d => Bt.ret (.rt (.dat d))) E := rfl
theorem a_mRetS (m : M Sl) : mRetS m E = bnd m (fun d => Bt.ret (.rt d)) E := rfl
theorem a_mDat (m : M D) : mDat m E = bnd m (fun d => Bt.ret (.dat d)) E := rfl
theorem a_mObj (m : M Ob) : mObj m E = bnd m (fun d => Bt.ret (.ow d)) E := rfl
theorem a_mLstO (m : M (List D)) : mLstO m E = bnd m (fun d => Bt.ret (.l d)) E := rfl
theorem a_mSetS (i : Nat) (m : M Sl) : mSetS i m E = bnd m (fun z => fun E => if i < E.length then .ok .nx (E.set i z) else .bad) E := rfl
theorem a_mGive (i : Nat) : mGive i E = (match E[i]? with | some (.ow ob) => .ok (.ow ob) (E.set i .un) | some (.dat d) => .ok (.dat d) E | _ => .bad) := rfl
theorem a_mAsL (m : M D) : mAsL m E = bnd m asL E := rfl
theorem a_asL (ds : List D) : asL (.list ds) E = .ok ds E := rfl
theorem a_mExpr (m : M D) : mExpr m E = bnd m (fun _ => Bt.ret .nx) E := rfl
theorem a_mSet (g : MG) (m : M D) : mSet g m E = bnd m (fun d => fun E => match g d E with | some E' => .ok .nx E' | none => .bad) E := rfl
theorem a_gN (i : Nat) (d : D) : gN i d E = if i < E.length then some (E.set i (.dat d)) else none := rfl
theorem a_gTup (n : Nat) (ms : List D → En → Option En) (ds : List D) : gTupM n ms (.tuple ds) E = if ds.length = n then ms ds E else none := rfl
theorem a_gCons (m : MG) (ms : List D → En → Option En) (d : D) (ds : List D) : gConsM m ms (d :: ds) E = (m d E).bind (ms ds) := rfl
theorem a_gNil : gNilM [] E = some E := rfl
theorem a_mItL (ds : List D) : (lift (itemsOf (.list ds)) : M _) E = .ok ds E := rfl
theorem a_mItT (ds : List D) : (lift (itemsOf (.tuple ds)) : M _) E = .ok ds E := rfl
theorem a_mIt (m : M D) : mIt m E = bnd m (fun d => lift (itemsOf d)) E := rfl
theorem a_mPart0 : mPart none E = .ok none E := rfl
theorem a_mPart1 (m : M D) : mPart (some m) E = bnd m (fun d => match d with | .int i => Bt.ret (some i) | _ => stuck) E := rfl
theorem a_mSl (ma : M Ag) (ml mh : M (Option Int)) : mSl ma ml mh E = bnd ma (fun a => bnd ml fun lo => bnd mh fun hi => fun E => match rsv E a with | some d => lift (slD lo hi d) E | none => .bad) E := rfl
theorem a_mOwn (i : Nat) (m : M (List D)) : mOwn i m E = bnd m (fun ds => fun E => if i < E.length then .ok .nx (E.set i ((.ow (.l ds)))) else .bad) E := rfl
theorem a_mApp (i : Nat) (m : M D) : mApp i m E = (match E[i]? with
  | some ((.ow (.l _))) => (bnd m fun d => fun E => match E[i]? with
    | some ((.ow (.l ds))) => if ds.length < LIM then .ok .nx (E.set i ((.ow (.l (ds ++ [d]))))) else .bad
    | _ => .bad) E
  | _ => .bad) := rfl
theorem a_mPut (i : Nat) (mk : M Ag) (m : M D) : mPut i mk m E = bnd m (fun d => fun E => match E[i]? with
  | some ((.ow (.l _))) => (bnd mk fun a => fun E => match E[i]?, rsv E a with
    | some ((.ow (.l ds))), some (.int k) => match ixN ds.length k with
      | some j => .ok .nx (E.set i ((.ow (.l (ds.set j d)))))
      | none => .bad
    | _, _ => .bad) E
  | _ => .bad) E := rfl
theorem a_mAug (f : Int → Int → Int) (i : Nat) (m : M D) : mAug f i m E = (match E[i]? with
  | some (.dat (.int x)) => (bnd m fun d => fun E => match d with
    | .int y => if i < E.length then .ok .nx (E.set i (.dat (.int (f x y)))) else .bad
    | _ => .bad) E
  | _ => .bad) := rfl
theorem a_mRng1 (ms : M (List Ag)) : mRng1 ms E = bnd ms (fun as => fun E => match rsvs E as with | some [.int j] => if rgOk j then .ok (rangeD 0 j) E else .bad | _ => .bad) E := rfl
theorem a_mRng2 (ms : M (List Ag)) : mRng2 ms E = bnd ms (fun as => fun E => match rsvs E as with | some [.int i, .int j] => if rgOk i && rgOk j then .ok (rangeD i j) E else .bad | _ => .bad) E := rfl
theorem a_mZip (ms : M (List D)) : mZip ms E = bnd ms (fun ds => match ds with | [.list xs, .list ys] => Bt.ret (zipD xs ys) | [.tuple xs, .tuple ys] => Bt.ret (zipD xs ys) | _ => stuck) E := rfl
theorem a_mEnum (ms : M (List D)) : mEnum ms E = bnd ms (fun ds => match ds with | [.list xs] => Bt.ret (enumD xs) | _ => stuck) E := rfl
theorem a_mFor (ws : List Nat) (mi : M (List D)) (g : MG) (mb : M Fl) : mFor ws mi g mb E = bnd mi (fun its => forGo ws g mb its) E := rfl
theorem a_mRev (m : M Ag) : mRev m E = bnd m (fun a => fun E => match rsv E a with | some d => lift (revD d) E | none => .bad) E := rfl
theorem a_mDfl (f : D → D → Option D) (m : M Ag) (mz : M D) : mDfl f m mz E = bnd m (fun a => bnd mz fun z => fun E => match rsv E a with | some d => lift (f d z) E | none => .bad) E := rfl
theorem a_mRng3 (ms : M (List Ag)) : mRng3 ms E = bnd ms (fun as => fun E => match rsvs E as with | some [.int i, .int j, .int k] => if rgOk i && rgOk j && decide (k = -1) then .ok (downD i j) E else .bad | _ => .bad) E := rfl
theorem a_mPutAug (f : Int → Int → Int) (i : Nat) (mk : M Ag) (m : M D) : mPutAug f i mk m E = (match E[i]? with
  | some ((.ow (.l _))) => (bnd mk fun a => fun E => match E[i]?, rsv E a with
    | some ((.ow (.l ds))), some (.int k) => match atI ds k with
      | some (.int x) => (bnd m fun d => fun E => match d, E[i]? with
        | .int y, some ((.ow (.l ds))) => match ixN ds.length k with
          | some j => .ok .nx (E.set i ((.ow (.l (ds.set j (.int (f x y)))))))
          | none => .bad
        | _, _ => .bad) E
      | _ => .bad
    | _, _ => .bad) E
  | _ => .bad) := rfl
theorem a_mPop (i : Nat) (mk : M Ag) : mPop i mk E = (match E[i]? with
  | some ((.ow (.l _))) => (bnd mk fun a => fun E => match E[i]?, rsv E a with
    | some ((.ow (.l ds))), some (.int k) => match ixN ds.length k with
      | some j => match ds[j]? with
        | some d => if ds.length ≤ LIM then .ok d (E.set i ((.ow (.l (ds.eraseIdx j))))) else .bad
        | none => .bad
      | none => .bad
    | _, _ => .bad) E
  | _ => .bad) := rfl
theorem a_mFn (asg : List Nat) (nl : Nat) (m : M Fl) (as : En) : mFn asg nl m as = if okAsg asg as then match m (as ++ List.replicate nl .un) with
  | .ok f E' => match f, parBack as E' with
    | .rt d, some as' => .ok d as'
    | .nx, some as' => .ok (.dat .none) as'
    | _, _ => .bad
  | .ex x E' => match parBack as E' with
    | some as' => .ex x as'
    | none => .bad
  | .bad => .bad
  else .bad := rfl
theorem a_mLenScr (i : Nat) : mLenScr i E = (match E[i]? with | some (.scr ns) => .ok (.int (ns.length : Nat)) E | _ => .bad) := rfl
theorem a_mIxScr (i : Nat) (mk : M Ag) : mIxScr i mk E = (match E[i]? with
  | some (.scr ns) => (bnd mk fun a => fun E => match rsv E a with
    | some (.int k) => match atI ns k with
      | some n => .ok (.int n) E
      | none => .bad
    | _ => .bad) E
  | _ => .bad) := rfl
end
section
variable (E : En)
theorem a_mDGet (i : Nat) (mk : M Ag) : mDGet i mk E = (if isDic E i = true then (bnd mk fun a => fun E => match dkOf E i a with
    | some (es, k) => lift (valD es k) E
    | none => .bad) E else .bad) := rfl
theorem a_mDGet2 (i : Nat) (mk : M Ag) (mx : M D) : mDGet2 i mk mx E = (if isDic E i = true then (bnd mk fun a => bnd mx fun z => fun E => match dkOf E i a with
    | some (es, k) => .ok ((valD es k).getD z) E
    | none => .bad) E else .bad) := rfl
theorem a_mDIn (b : Bool) (i : Nat) (mk : M Ag) : mDIn b i mk E = bnd mk (fun a => fun E => match dkOf E i a with
    | some (es, k) => .ok (.bool ((valD es k).isSome == b)) E
    | none => .bad) E := rfl
theorem a_mDPut (i : Nat) (mk : M Ag) (m : M D) : mDPut i mk m E = bnd m (fun d => fun E => if isDic E i = true then (bnd mk fun a => fun E => match dkOf E i a with
    | some (es, k) => if es.length < LIM then .ok .nx (E.set i (.ow (.d (putD es k d)))) else .bad
    | none => .bad) E else .bad) E := rfl
theorem a_mDAug (f : Int → Int → Int) (i : Nat) (mk : M Ag) (m : M D) : mDAug f i mk m E = (if isDic E i = true then (bnd mk fun a => fun E => match dkOf E i a with
    | some (es, k) => match valD es k with
      | some (.int x) => (bnd m fun d => fun E => match d, E[i]? with
        | .int y, some (.ow (.d es2)) => if es2.length < LIM then .ok .nx (E.set i (.ow (.d (putD es2 k (.int (f x y)))))) else .bad
        | _, _ => .bad) E
      | _ => .bad
    | none => .bad) E else .bad) := rfl
theorem a_mOwnO (i : Nat) (m : M Ob) : mOwnO i m E = bnd m (fun ob => fun E => if i < E.length then .ok .nx (E.set i (.ow ob)) else .bad) E := rfl
theorem a_mDict (m : M Ag) : mDict m E = bnd m (fun a => fun E => match rsv E a with
  | some d => lift (dictF d) E
  | none => .bad) E := rfl
theorem a_mDNew : mDNew E = .ok (.d []) E := rfl
theorem a_mSortD (i : Nat) : mSortD i E = (match E[i]? with
  | some (.ow (.d es)) => match keysI es with
    | some ks => if ks.length < 1000 then .ok (.list ((sortI ks).map .int)) E else .bad
    | none => .bad
  | _ => .bad) := rfl
end
theorem notX_none : notX .none = true := rfl
theorem notX_bool (b : Bool) : notX (.bool b) = true := rfl
theorem notX_int (b : Int) : notX (.int b) = true := rfl
theorem notX_str (b : Str) : notX (.str b) = true := rfl
theorem notX_list (b : List D) : notX (.list b) = true := rfl
theorem notX_tuple (b : List D) : notX (.tuple b) = true := rfl
theorem isi_none (T : String) : isiD T .none = tyIs T "NoneType" := rfl
theorem isi_bool (T : String) (b : Bool) : isiD T (.bool b) = tyIs T "bool" := rfl
theorem isi_int (T : String) (b : Int) : isiD T (.int b) = tyIs T "int" := rfl
theorem isi_str (T : String) (b : Str) : isiD T (.str b) = tyIs T "str" := rfl
theorem isi_list (T : String) (b : List D) : isiD T (.list b) = tyIs T "list" := rfl
theorem isi_tuple (T : String) (b : List D) : isiD T (.tuple b) = tyIs T "tuple" := rfl
theorem backE_same {E E' : En} {vs : List Nat} (hw : wipeE E' vs = wipeE E vs) (hv : ∀ v ∈ vs, (∃ d, E[v]? = some (.dat d)) ∨ E[v]? = some .un) : backE E E' vs = E := by
  have hl : E'.length = E.length := by rw [← wipeE_length E' vs, hw, wipeE_length]
  have out : ∀ (A : En) (i : Nat) (us : List Nat), i ∉ us → (wipeE A us)[i]? = A[i]? := by
    intro A i us
    induction us with
    | nil => intro _; rfl
    | cons u us ih =>
      intro h
      have hne : u ≠ i := fun e => h (e ▸ List.mem_cons_self)
      show ((wipeE A us).set u .un)[i]? = _
      rw [List.getElem?_set_ne hne]
      exact ih fun z => h (List.mem_cons_of_mem _ z)
  refine List.ext_getElem? fun i => ?_
  by_cases h : i ∈ vs
  · rcases hv i h with ⟨d, e⟩ | e
    · rw [get_backE_in (by rw [hl]; exact (List.getElem?_eq_some_iff.mp e).1) h, e]
    · rw [get_backE_in (by rw [hl]; exact (List.getElem?_eq_some_iff.mp e).1) h, e]
  · rw [get_backE_out h, ← out E' i vs h, hw, out E i vs h]
noncomputable def elF (vs : List Nat) (g : MG) (mt : M Bool) (me : M D) (E : En) (d : D) : Option (Option D) := match g d E with
  | none => none
  | some E1 => match mt E1 with
    | .ok true E2 => match me E2 with
      | .ok y E3 => open Classical in if wipeE E3 vs = E then some (some y) else none
      | _ => none
    | .ok false E2 => open Classical in if wipeE E2 vs = E then some none else none
    | _ => none
theorem lcGo_el {α : Type} {vs : List Nat} {g : MG} {mt : M Bool} {me : M D} {E Ew : En} {en : α → D} {o : α → Option D} : ∀ (p : List α) (E1 : En) (acc : List D), wipeE E1 vs = Ew → (∀ q ∈ p, elF vs g mt me Ew (en q) = some (o q)) → acc.length + p.length ≤ LIM →
    ∃ E', wipeE E' vs = Ew ∧ lcGo vs g mt me E (p.map en) E1 acc = .ok (.list (acc ++ p.filterMap o)) (backE E E' vs)
  | [], E1, acc, h1, _, _ => ⟨E1, h1, by simp [lcGo]⟩
  | q :: p, E1, acc, h1, h, hl => by
    have hq := h q List.mem_cons_self
    have ih := fun E2 acc' e2 hl' => lcGo_el (E := E) p E2 acc' e2 (fun q hq => h q (List.mem_cons_of_mem _ hq)) hl'
    rw [List.length_cons] at hl
    rw [List.map_cons]
    unfold lcGo
    rw [h1]
    unfold elF at hq
    cases eg : g (en q) Ew with
    | none => rw [eg] at hq; cases hq
    | some E2 =>
      rw [eg] at hq
      dsimp only at hq ⊢
      cases et : mt E2 with
      | bad => rw [et] at hq; cases hq
      | ex _ _ => rw [et] at hq; cases hq
      | ok b E3 =>
        rw [et] at hq
        cases b with
        | false =>
          dsimp only at hq ⊢
          split at hq
          · rename_i hw
            have e := Option.some.inj hq
            rw [List.filterMap_cons_none e.symm]
            exact ih E3 acc hw (by omega)
          · cases hq
        | true =>
          dsimp only at hq ⊢
          cases em : me E3 with
          | bad => rw [em] at hq; cases hq
          | ex _ _ => rw [em] at hq; cases hq
          | ok y E4 =>
            rw [em] at hq
            dsimp only at hq ⊢
            split at hq
            · rename_i hw
              have e := Option.some.inj hq
              rw [if_pos (by omega), List.filterMap_cons_some e.symm]
              obtain ⟨E', q1, q2⟩ := ih E4 (acc ++ [y]) hw (by rw [List.length_append, List.length_singleton]; omega)
              exact ⟨E', q1, by rw [q2, List.append_assoc]; rfl⟩
            · cases hq
theorem lc_ok {α : Type} {mi : M (List D)} {vs : List Nat} {g : MG} {mt : M Bool} {me : M D} {E E0 : En} (p : List α) (en : α → D) (o : α → Option D) (hi : mi E0 = .ok (p.map en) E) (hv : ∀ v ∈ vs, (∃ d, E[v]? = some (.dat d)) ∨ E[v]? = some .un) (h : ∀ q ∈ p, elF vs g mt me (wipeE E vs) (en q) = some (o q)) (hl : p.length ≤ LIM) :
    mLc mi g mt me vs E0 = .ok (.list (p.filterMap o)) E := by
  unfold mLc bnd
  rw [hi]
  obtain ⟨E', h1, h2⟩ := lcGo_el (E := E) p E [] rfl h (by simpa using hl)
  show lcGo vs g mt me E (p.map en) E [] = _
  rw [h2, backE_same h1 hv, List.nil_append]
theorem fm_filter {α β : Type} (c : α → Bool) (y : α → β) : ∀ p : List α, (p.filterMap fun q => if c q = true then some (y q) else none) = (p.filter c).map y
  | [] => rfl
  | q :: p => by
    by_cases h : c q = true
    · rw [List.filterMap_cons_some (by rw [if_pos h]), List.filter_cons_of_pos h, List.map_cons, fm_filter c y p]
    · rw [List.filterMap_cons_none (by rw [if_neg h]), List.filter_cons_of_neg h, fm_filter c y p]
theorem lc_if {α : Type} {mi : M (List D)} {vs : List Nat} {g : MG} {mt : M Bool} {me : M D} {E E0 : En} (p : List α) (en : α → D) (c : α → Bool) (y : α → D) (hi : mi E0 = .ok (p.map en) E) (hv : ∀ v ∈ vs, (∃ d, E[v]? = some (.dat d)) ∨ E[v]? = some .un) (h : ∀ q ∈ p, elF vs g mt me (wipeE E vs) (en q) = some (if c q = true then some (y q) else none)) (hl : p.length ≤ LIM) :
    mLc mi g mt me vs E0 = .ok (.list ((p.filter c).map y)) E := by
  rw [lc_ok p en (fun q => if c q = true then some (y q) else none) hi hv h hl, fm_filter]
theorem lc_map {α : Type} {mi : M (List D)} {vs : List Nat} {g : MG} {mt : M Bool} {me : M D} {E E0 : En} (p : List α) (en : α → D) (y : α → D) (hi : mi E0 = .ok (p.map en) E) (hv : ∀ v ∈ vs, (∃ d, E[v]? = some (.dat d)) ∨ E[v]? = some .un) (h : ∀ q ∈ p, elF vs g mt me (wipeE E vs) (en q) = some (some (y q))) (hl : p.length ≤ LIM) :
    mLc mi g mt me vs E0 = .ok (.list (p.map y)) E := by
  rw [lc_ok p en (fun q => some (y q)) hi hv h hl]
  congr 2
  clear hi h hl
  induction p with
  | nil => rfl
  | cons q p ih => simp
theorem lcGo_inv {vs : List Nat} {g : MG} {mt : M Bool} {me : M D} {E : En} (I : List D → En → List D → Prop) : ∀ (its : List D) (E1 : En) (acc : List D), I its E1 acc → acc.length + its.length ≤ LIM →
    (∀ d ds E acc, I (d :: ds) E acc → ∃ E1, g d (wipeE E vs) = some E1 ∧ ((∃ E2 y E3, mt E1 = .ok true E2 ∧ me E2 = .ok y E3 ∧ I ds E3 (acc ++ [y])) ∨ ∃ E2, mt E1 = .ok false E2 ∧ I ds E2 acc)) →
    ∃ E' acc', I [] E' acc' ∧ lcGo vs g mt me E its E1 acc = .ok (.list acc') (backE E E' vs)
  | [], E1, acc, h, _, _ => ⟨E1, acc, h, rfl⟩
  | d :: ds, E1, acc, h, hl, hs => by
    rw [List.length_cons] at hl
    unfold lcGo
    obtain ⟨E2, e1, h2⟩ := hs d ds E1 acc h
    rw [e1]
    dsimp only
    rcases h2 with ⟨E3, y, E4, e2, e3, h3⟩ | ⟨E3, e2, h3⟩
    · rw [e2]
      dsimp only
      rw [e3]
      dsimp only
      rw [if_pos (by omega)]
      exact lcGo_inv I ds E4 (acc ++ [y]) h3 (by rw [List.length_append, List.length_singleton]; omega) hs
    · rw [e2]
      exact lcGo_inv I ds E3 acc h3 (by omega) hs
theorem lc_inv {mi : M (List D)} {vs : List Nat} {g : MG} {mt : M Bool} {me : M D} {E E0 : En} {its : List D} (I : List D → En → List D → Prop) (hi : mi E0 = .ok its E) (h0 : I its E []) (hl : its.length ≤ LIM)
    (hs : ∀ d ds E acc, I (d :: ds) E acc → ∃ E1, g d (wipeE E vs) = some E1 ∧ ((∃ E2 y E3, mt E1 = .ok true E2 ∧ me E2 = .ok y E3 ∧ I ds E3 (acc ++ [y])) ∨ ∃ E2, mt E1 = .ok false E2 ∧ I ds E2 acc)) :
    ∃ E' acc', I [] E' acc' ∧ mLc mi g mt me vs E0 = .ok (.list acc') (backE E E' vs) := by
  obtain ⟨E', acc', h1, h2⟩ := lcGo_inv (E := E) I its E [] h0 (by simpa using hl) hs
  refine ⟨E', acc', h1, ?_⟩
  unfold mLc bnd
  rw [hi]
  exact h2
theorem forGo_inv {ws : List Nat} {g : MG} {mb : M Fl} (I : List D → En → Prop) : ∀ (its : List D) (E : En), I its E → (∀ d ds E, I (d :: ds) E → ∃ E1 E2, g d E = some E1 ∧ (mb E1 = .ok .nx E2 ∨ mb E1 = .ok .ct E2) ∧ I ds (wipeE E2 ws)) → ∃ E', I [] E' ∧ forGo ws g mb its E = .ok .nx E'
  | [], E, h, _ => ⟨E, h, rfl⟩
  | d :: ds, E, h, hs => by
    obtain ⟨E1, E2, e1, e2, h2⟩ := hs d ds E h
    obtain ⟨E', h3, h4⟩ := forGo_inv I ds (wipeE E2 ws) h2 hs
    refine ⟨E', h3, ?_⟩
    unfold forGo
    rw [e1]
    dsimp only
    rcases e2 with e2 | e2 <;> rw [e2] <;> exact h4
theorem for_inv {ws : List Nat} {mi : M (List D)} {g : MG} {mb : M Fl} {E0 E : En} {its : List D} (I : List D → En → Prop) (hi : mi E0 = .ok its E) (h0 : I its E) (hs : ∀ d ds E, I (d :: ds) E → ∃ E1 E2, g d E = some E1 ∧ (mb E1 = .ok .nx E2 ∨ mb E1 = .ok .ct E2) ∧ I ds (wipeE E2 ws)) : ∃ E', I [] E' ∧ mFor ws mi g mb E0 = .ok .nx E' := by
  obtain ⟨E', h1, h2⟩ := forGo_inv I its E h0 hs
  exact ⟨E', h1, by unfold mFor bnd; rw [hi]; exact h2⟩
theorem rg_ok {i : Int} (h : -1000000 ≤ i) (h2 : i ≤ 1000000) : rgOk i = true := by
  exact rgOk_iff.mpr ⟨h, h2⟩
theorem rgOk_eq (i : Int) : rgOk i = (decide (-1000000 ≤ i) && decide (i ≤ 1000000)) := by
  rw [Bool.eq_iff_iff, rgOk_iff]
  simp
theorem rangeD_mem {lo hi : Int} {d : D} (h : d ∈ rangeD lo hi) : ∃ i, d = .int i ∧ lo ≤ i ∧ i < hi := by
  unfold rangeD at h
  obtain ⟨k, hk, rfl⟩ := List.mem_map.mp h
  have := List.mem_range.mp hk
  exact ⟨_, rfl, by omega, by omega⟩
theorem rangeD_length {lo hi : Int} : (rangeD lo hi).length = (hi - lo).toNat := by unfold rangeD; rw [List.length_map, List.length_range]
theorem okI_of {i : Int} (h : -(10 ^ 300) ≤ i) (h2 : i ≤ 10 ^ 300) : okI i = true := by
  unfold okI
  refine decide_eq_true ?_
  by_cases z : i.natAbs = 0
  · rw [z]; decide
  · refine (Nat.log2_lt z).mpr (Nat.lt_of_le_of_lt (show i.natAbs ≤ 10 ^ 300 by omega) ?_)
    calc 10 ^ 300 ≤ 16 ^ 300 := Nat.pow_le_pow_left (by decide) _
      _ = 2 ^ 1200 := by rw [show (16 : Nat) = 2 ^ 4 from rfl, ← Nat.pow_mul]
      _ < 2 ^ 9000 := Nat.pow_lt_pow_right (by decide) (by decide)
theorem forGo_fold {α S : Type} {ws : List Nat} {g : MG} {mb : M Fl} {en : α → D} (st : S → En) (step : S → α → S) (I : S → List α → Prop) : ∀ (p : List α) (s : S), I s p →
    (∀ q p s, I s (q :: p) → (∃ E1 E2, g (en q) (st s) = some E1 ∧ (mb E1 = .ok .nx E2 ∨ mb E1 = .ok .ct E2) ∧ wipeE E2 ws = st (step s q)) ∧ I (step s q) p) → forGo ws g mb (p.map en) (st s) = .ok .nx (st (p.foldl step s)) ∧ I (p.foldl step s) []
  | [], s, h, _ => ⟨rfl, h⟩
  | q :: p, s, h, hs => by
    obtain ⟨⟨E1, E2, e1, e2, e3⟩, h2⟩ := hs q p s h
    have ih := forGo_fold st step I p (step s q) h2 hs
    refine ⟨?_, ih.2⟩
    rw [List.map_cons]
    unfold forGo
    rw [e1]
    dsimp only
    rcases e2 with e2 | e2 <;> rw [e2] <;> (dsimp only; rw [e3]; exact ih.1)
theorem for_fold {α S : Type} {ws : List Nat} {mi : M (List D)} {g : MG} {mb : M Fl} {E0 : En} {s : S} (p : List α) (en : α → D) (st : S → En) (step : S → α → S) (I : S → List α → Prop) (hi : mi E0 = .ok (p.map en) (st s)) (h0 : I s p)
    (hs : ∀ q p s, I s (q :: p) → (∃ E1 E2, g (en q) (st s) = some E1 ∧ (mb E1 = .ok .nx E2 ∨ mb E1 = .ok .ct E2) ∧ wipeE E2 ws = st (step s q)) ∧ I (step s q) p) : mFor ws mi g mb E0 = .ok .nx (st (p.foldl step s)) ∧ I (p.foldl step s) [] := by
  have := forGo_fold (ws := ws) (g := g) (mb := mb) (en := en) st step I p s h0 hs
  exact ⟨by unfold mFor bnd; rw [hi]; exact this.1, this.2⟩
theorem forGo_find {α : Type} {ws : List Nat} {g : MG} {mb : M Fl} {E : En} {en : α → D} (c : α → Bool) (r : Sl) (st : α → En) : ∀ (p : List α), (∀ q ∈ p, ∃ E1, g (en q) E = some E1 ∧ mb E1 = .ok (if c q = true then .rt r else .nx) (st q) ∧ wipeE (st q) ws = E) →
    forGo ws g mb (p.map en) E = match p.find? c with | some q => .ok (.rt r) (st q) | none => .ok .nx E
  | [], _ => rfl
  | q :: p, h => by
    obtain ⟨E1, e1, e2, e3⟩ := h q List.mem_cons_self
    have ih := forGo_find c r st p fun x hx => h x (List.mem_cons_of_mem _ hx)
    rw [List.map_cons]
    unfold forGo
    rw [e1]
    dsimp only
    rw [e2]
    by_cases z : c q = true
    · rw [if_pos z, List.find?_cons_of_pos z]
    · rw [if_neg z, List.find?_cons_of_neg z]
      dsimp only
      rw [e3]
      exact ih
theorem for_find {α : Type} {ws : List Nat} {mi : M (List D)} {g : MG} {mb : M Fl} {E0 E : En} (p : List α) (en : α → D) (c : α → Bool) (r : Sl) (st : α → En) (hi : mi E0 = .ok (p.map en) E) (h : ∀ q ∈ p, ∃ E1, g (en q) E = some E1 ∧ mb E1 = .ok (if c q = true then .rt r else .nx) (st q) ∧ wipeE (st q) ws = E) :
    mFor ws mi g mb E0 = match p.find? c with | some q => .ok (.rt r) (st q) | none => .ok .nx E := by
  unfold mFor bnd
  rw [hi]
  exact forGo_find c r st p h
structure Shp (n : Nat) (d : D) : Prop where
  lay : d.canLay0 = true
  dep : d.depth ≤ n
theorem Shp.ok {n : Nat} {d : D} (h : Shp n d) (hn : n ≤ 64 := by decide) : SeqAt.shaped d = true := by
  unfold SeqAt.shaped
  rw [h.lay]
  have := h.dep
  simp
  omega
theorem canLayAll_of : ∀ {ds : List D}, (∀ d ∈ ds, d.canLay0 = true) → PyData.canLayAll0 ds = true
  | [], _ => rfl
  | d :: ds, h => by
    unfold PyData.canLayAll0
    rw [h d List.mem_cons_self, canLayAll_of fun e he => h e (List.mem_cons_of_mem _ he)]
    rfl
theorem depthAll_of {n : Nat} : ∀ {ds : List D}, (∀ d ∈ ds, d.depth ≤ n) → PyData.depthAll ds ≤ n
  | [], _ => by simp [PyData.depthAll]
  | d :: ds, h => by
    have h1 := h d List.mem_cons_self
    have h2 := depthAll_of (n := n) (ds := ds) fun e he => h e (List.mem_cons_of_mem _ he)
    simp only [PyData.depthAll]
    omega
theorem shp_list {n : Nat} {ds : List D} (h : ∀ d ∈ ds, Shp n d) : Shp (n + 1) (.list ds) := by
  refine ⟨canLayAll_of fun d hd => (h d hd).lay, ?_⟩
  have := depthAll_of (n := n) fun d hd => (h d hd).dep
  simp only [PyData.depth]
  omega
theorem shp_tup {n : Nat} {ds : List D} (h : ∀ d ∈ ds, Shp n d) : Shp (n + 1) (.tuple ds) := by
  refine ⟨canLayAll_of fun d hd => (h d hd).lay, ?_⟩
  have := depthAll_of (n := n) fun d hd => (h d hd).dep
  simp only [PyData.depth]
  omega
theorem shp_int (i : Int) : Shp 1 (.int i) := ⟨rfl, by simp [PyData.depth]⟩
theorem Shp.up {n m : Nat} {d : D} (h : Shp n d) (hm : n ≤ m) : Shp m d := ⟨h.lay, Nat.le_trans h.dep hm⟩
theorem eqD_of {n m : Nat} {d e : D} (hd : Shp n d) (he : Shp m e) (hn : n ≤ 64 := by decide) (hm : m ≤ 64 := by decide) : eqD d e = some (.bool (PyData.eqv d e)) := by
  unfold eqD
  rw [hd.ok hn, he.ok hm]
  rfl
theorem neD_of {n m : Nat} {d e : D} (hd : Shp n d) (he : Shp m e) (hn : n ≤ 64 := by decide) (hm : m ≤ 64 := by decide) : neD d e = some (.bool (!PyData.eqv d e)) := by
  unfold neD
  rw [hd.ok hn, he.ok hm]
  rfl
mutual
theorem eqv_refl : ∀ d : D, d.canLay0 = true → PyData.eqv d d = true
  | .none, _ => rfl
  | .bool _, _ => by simp [PyData.eqv]
  | .int _, _ => by simp [PyData.eqv]
  | .str _, _ => by simp [PyData.eqv]
  | .list ds, h => eqvAll_refl ds h
  | .tuple ds, h => eqvAll_refl ds h
  | .dict _, h => nomatch h
theorem eqvAll_refl : ∀ ds : List D, PyData.canLayAll0 ds = true → PyData.eqvAll ds ds = true
  | [], _ => rfl
  | d :: ds, h => by
    unfold PyData.canLayAll0 at h
    rw [Bool.and_eq_true] at h
    unfold PyData.eqvAll
    rw [eqv_refl d h.1, eqvAll_refl ds h.2]
    rfl
end
theorem neD_self {n : Nat} {d : D} (hd : Shp n d) (hn : n ≤ 64 := by decide) : neD d d = some (.bool false) := by rw [neD_of hd hd hn hn, eqv_refl d hd.lay]; rfl
theorem sumF_map {α : Type} (f : α → Int) (p : List α) : sumF [.list (p.map fun q => .int (f q))] = some (.int (p.map f).sum) := by
  show (intsOf (p.map fun q => .int (f q))).map _ = _
  rw [show (p.map fun q => PyData.int (f q)) = (p.map f).map .int by rw [List.map_map]; rfl, intsOf_map]
  rfl
theorem allF_map {α : Type} (f : α → Bool) (p : List α) : allF [.list (p.map fun q => .bool (f q))] = some (.bool (p.all f)) := by
  show (boolsOf (p.map fun q => .bool (f q))).map _ = _
  rw [show (p.map fun q => PyData.bool (f q)) = (p.map f).map .bool by rw [List.map_map]; rfl, boolsOf_map]
  simp [List.all_map]
theorem sortedF_ints (ns : List Int) : sortedF [.list (ns.map .int)] = some (.list ((sortI ns).map .int)) := by
  unfold sortedF
  dsimp only
  rw [intsOf_map]
theorem eqD_int (i j : Int) : eqD (.int i) (.int j) = some (.bool (decide (i = j))) := by
  simp [eqD, SeqAt.shaped, PyData.canLay0, PyData.depth, PyData.eqv]
  rfl
theorem neD_int (i j : Int) : neD (.int i) (.int j) = some (.bool (!decide (i = j))) := by
  simp [neD, SeqAt.shaped, PyData.canLay0, PyData.depth, PyData.eqv]
  rfl
end Bt
namespace Bt
open PySem L2
section
variable {E : En}
theorem a_mRaise0 (c : Nat) : mRaise0 c E = .ex ⟨c, none⟩ E := rfl
theorem a_mRaise1 (c : Nat) (m : M D) : mRaise1 c m E = bnd m (fun d => fun E => .ex ⟨c, some d⟩ E) E := rfl
theorem a_mTry (c i : Nat) (mb ms : M Fl) : mTry c i mb ms E = (match mb E with
  | .ok f E' => .ok f E'
  | .ex x E' => if isSub x.cls c then (if i < E'.length then (match ms (E'.set i (.dat (xOf x))) with
      | .ok f E2 => .ok f (E2.set i .un)
      | _ => .bad) else .bad) else .ex x E'
  | .bad => .bad) := rfl
theorem a_mIsx (n : Nat) (m : M Ag) : mIsx n m E = bnd m (fun a => fun E => match rsv E a with
  | some d => (match isCls n d with
    | some b => .ok (.bool b) E
    | none => .bad)
  | none => .bad) E := rfl
theorem a_mFld (cs : List Nat) (m : M Ag) : mFld cs m E = bnd m (fun a => fun E => match rsv E a with
  | some (.dict [(.int c, .none), (.none, d)]) => if c.toNat ∈ cs then .ok d E else .bad
  | _ => .bad) E := rfl
theorem a_mMeth (f : D → D → Option D) (ma mb : M Ag) : mMeth f ma mb E = bnd ma (fun a => fun E0 => match rsv E0 a with
  | some (.list _) => (bnd mb fun b => fun E => match rsv E a, rsv E b with
    | some (.list ds), some y => lift (f (.list ds) y) E
    | _, _ => .bad) E0
  | _ => .bad) E := rfl
theorem a_mExt (i : Nat) (m : M D) : mExt i m E = (match E[i]? with
  | some ((.ow (.l _))) => (bnd m fun d => fun E => match E[i]?, d with
    | some ((.ow (.l ds))), .list es => if ds.length + es.length ≤ LIM then .ok .nx (E.set i ((.ow (.l (ds ++ es))))) else .bad
    | _, _ => .bad) E
  | _ => .bad) := rfl
theorem a_mExtB (i : Nat) (m : M D) : mExtB i m E = (match E[i]? with
  | some ((.ow (.l _))) => (bnd m fun d => fun E => match E[i]?, d with
    | some ((.ow (.l ds))), .list es => if ds.length + es.length ≤ LIM then .ok .nx (E.set i ((.ow (.l (ds ++ es))))) else .bad
    | some ((.ow (.l ds))), .tuple es => if ds.length + es.length ≤ LIM then .ok .nx (E.set i ((.ow (.l (ds ++ es))))) else .bad
    | _, _ => .bad) E
  | _ => .bad) := rfl
theorem a_mNew0 (c : Nat) : mNew0 c E = .ok (.dict [(.int c, .none)]) E := rfl
theorem a_mNewN (c : Nat) : mNewN c E = .ok (.dict [(.int c, .none), (.none, .none)]) E := rfl
theorem a_mNew1 (c : Nat) (m : M D) : mNew1 c m E = bnd m (fun d => ret (.dict [(.int c, .none), (.none, d)])) E := rfl
theorem a_mIsxO (m : M Ag) : mIsxO m E = bnd m (fun a => fun E => match rsv E a with
  | some (.dict ((.int _, .none) :: _)) => .ok (.bool false) E
  | _ => .bad) E := rfl
theorem a_mIsVE : mIsVE E = .ok (.bool false) E := rfl
theorem a_mPar (i j : Nat) (ms : M (List D)) : mPar i j ms E = bnd ms (fun ds => fun E => match ds with
  | [d1, d2] => if i < E.length ∧ j < E.length then .ok .nx ((E.set i (.dat d1)).set j (.dat d2)) else .bad
  | _ => .bad) E := rfl
theorem isCls_x (n : Nat) (c : Int) (r : List (D × D)) : isCls n (.dict ((.int c, .none) :: r)) = some (isSub c.toNat n || n == 17) := rfl
theorem isCls_n (n : Nat) : isCls n .none = if n < 17 then some false else none := rfl
theorem xOf_0 (c : Nat) : xOf ⟨c, none⟩ = .dict [(.int c, .none)] := rfl
theorem xOf_1 (c : Nat) (d : D) : xOf ⟨c, some d⟩ = .dict [(.int c, .none), (.none, d)] := rfl
theorem isSub_0 (a : Nat) : isSub a 0 = true := by unfold isSub; simp
theorem lift_some {α : Type} (a : α) : Bt.lift (some a) E = .ok a E := rfl
end
theorem shp_str (x : Str) (h : (PyData.str x).canLay0 = true) : Shp 1 (.str x) := ⟨h, by simp [PyData.depth]⟩
theorem ll0 : ((0 : Nat) ≤ LIM) = True := eq_true (by decide)
theorem ll1 : ((1 : Nat) ≤ LIM) = True := eq_true (by decide)
theorem ll2 : ((2 : Nat) ≤ LIM) = True := eq_true (by decide)
theorem ll3 : ((3 : Nat) ≤ LIM) = True := eq_true (by decide)
theorem ll4 : ((4 : Nat) ≤ LIM) = True := eq_true (by decide)
theorem ll5 : ((5 : Nat) ≤ LIM) = True := eq_true (by decide)
theorem ll6 : ((6 : Nat) ≤ LIM) = True := eq_true (by decide)
theorem ll7 : ((7 : Nat) ≤ LIM) = True := eq_true (by decide)
theorem ll8 : ((8 : Nat) ≤ LIM) = True := eq_true (by decide)
theorem ll9 : ((9 : Nat) ≤ LIM) = True := eq_true (by decide)
theorem ll10 : ((10 : Nat) ≤ LIM) = True := eq_true (by decide)
theorem ll11 : ((11 : Nat) ≤ LIM) = True := eq_true (by decide)
theorem ll12 : ((12 : Nat) ≤ LIM) = True := eq_true (by decide)
theorem ll13 : ((13 : Nat) ≤ LIM) = True := eq_true (by decide)
theorem ll14 : ((14 : Nat) ≤ LIM) = True := eq_true (by decide)
theorem ll15 : ((15 : Nat) ≤ LIM) = True := eq_true (by decide)
theorem ll16 : ((16 : Nat) ≤ LIM) = True := eq_true (by decide)
section
variable {E : En}
theorem a_mRaiseN (c : Nat) : mRaiseN c E = .ex ⟨c, some .none⟩ E := rfl
theorem a_mTry0 (c : Nat) (mb ms : M Fl) : mTry0 c mb ms E = (match mb E with
  | .ok f E1 => .ok f E1
  | .ex z E1 => if isSub z.cls c = true then match ms E1 with
    | .ok f E2 => .ok f E2
    | _ => .bad
    else .ex z E1
  | .bad => .bad) := rfl
theorem a_mZipE (ms : M (List D)) : mZipE ms E = bnd ms (fun ds => match ds with
  | [.list xs, .list ys] => fun E => if xs.length = ys.length then .ok (zipD xs ys) E else .bad
  | _ => stuck) E := rfl
theorem a_mLrg2 (ma mb : M Ag) : mLrg2 ma mb E = bnd ma (fun x => bnd mb fun y => fun E => match rsv E x, rsv E y with
  | some (.int i), some (.int j) => if rgOk i && rgOk j then .ok (.list (rangeD i j)) E else .bad
  | _, _ => .bad) E := rfl
theorem a_mLrg1 (ma : M Ag) : mLrg1 ma E = bnd ma (fun x => fun E => match rsv E x with
  | some (.int j) => if rgOk j then .ok (.list (rangeD 0 j)) E else .bad
  | _ => .bad) E := rfl
end
end Bt
local macro_rules
  | `(tactic| simp! [$a,*]) => `(tactic| simp [$a,*, Bt.a_bnd, Bt.a_ret, Bt.a_stuck, Bt.a_liftS, Bt.a_liftN, Bt.a_mOp, Bt.a_mOpF, Bt.a_mChain, Bt.a_mD, Bt.a_mR, Bt.a_mV, Bt.a_mFrz, Bt.a_rsvD, Bt.a_rsvR, Bt.a_rsvs0, Bt.a_rsvs1, Bt.a_mCons, Bt.a_mConsD, Bt.a_mTup, Bt.a_mLst, Bt.a_mLstF, Bt.a_mIf, Bt.a_mIfS, Bt.a_ite, Bt.a_mAnd, Bt.a_mOr, Bt.a_mNot, Bt.a_mAndV, Bt.a_mOrV, Bt.a_mNotV, Bt.a_asB, Bt.a_mNeg, Bt.a_mB, Bt.a_mBF, Bt.a_mIsi, Bt.a_mCall, Bt.a_mCallK, Bt.a_mCallO, Bt.a_mCallKO, Bt.a_mCallB, Bt.a_thawD, Bt.a_thawL, Bt.a_mRetS, Bt.a_mDat, Bt.a_mObj, Bt.a_mLstO, Bt.a_mSetS, Bt.a_mGive, Bt.a_mAsL, Bt.a_asL, Bt.a_mRev, Bt.a_mDfl, Bt.a_mRng3, Bt.a_mPutAug, Bt.a_mPop, Bt.a_mSeq, Bt.a_mNil, Bt.a_mRet, Bt.a_mExpr, Bt.a_mSet, Bt.a_gN, Bt.a_gTup, Bt.a_gCons, Bt.a_gNil, Bt.a_mItL, Bt.a_mItT, Bt.a_mIt, Bt.a_mPart0, Bt.a_mPart1, Bt.a_mSl, Bt.a_mOwn, Bt.a_mApp, Bt.a_mPut, Bt.a_mAug, Bt.a_mRng1, Bt.a_mRng2, Bt.a_mZip, Bt.a_mEnum, Bt.a_mFor, Bt.a_mFn, Bt.a_mLenScr, Bt.a_mIxScr, Bt.a_mDGet, Bt.a_mDGet2, Bt.a_mDIn, Bt.a_mDPut, Bt.a_mDAug, Bt.a_mOwnO, Bt.a_mDict, Bt.a_mDNew, Bt.a_mSortD, Bt.a_mRaise0, Bt.a_mRaise1, Bt.a_mTry, Bt.a_mIsx, Bt.a_mFld, Bt.a_mMeth, Bt.a_mExt, Bt.a_mExtB, Bt.a_mNew0, Bt.a_mNewN, Bt.a_mNew1, Bt.a_mIsxO, Bt.a_mIsVE, Bt.a_mPar, Bt.a_mRaiseN, Bt.a_mTry0, Bt.a_mZipE, Bt.a_mLrg2, Bt.a_mLrg1, Bt.argSl, Bt.apartA, Bt.isOwn, Bt.putB, Bt.okAsg, Bt.parBack, Bt.slD, Bt.addD, Bt.subD, Bt.mulD, Bt.fdivD, Bt.modD, Bt.powD, Bt.ltD, Bt.leD, Bt.gtD, Bt.geD, Bt.isD, Bt.isntD, Bt.isNone, Bt.ixD, Bt.lenF, Bt.intF, Bt.minF, Bt.maxF, Bt.tupleF, Bt.listF, Bt.notX_none, Bt.notX_bool, Bt.notX_int, Bt.notX_str, Bt.notX_list, Bt.notX_tuple, Bt.isi_none, Bt.isi_bool, Bt.isi_int, Bt.isi_str, Bt.isi_list, Bt.isi_tuple, Bt.tyIs, Bt.pkD, Bt.addL, Bt.mulL, Bt.listL, Bt.revD, Bt.borSl, Bt.flatD, Bt.isDic, Bt.dkOf, Bt.keyOf, Bt.isCls_x, Bt.isCls_n, Bt.xOf_0, Bt.xOf_1, Bt.isSub_0, Bt.lift_some, Bt.ll0, Bt.ll1, Bt.ll2, Bt.ll3, Bt.ll4, Bt.ll5, Bt.ll6, Bt.ll7, Bt.ll8, Bt.ll9, Bt.ll10, Bt.ll11, Bt.ll12, Bt.ll13, Bt.ll14, Bt.ll15, Bt.ll16])
namespace Lw
open PySem L2 Bt
theorem okS {i : Int} (h : -(10 ^ 30) ≤ i) (h2 : i ≤ 10 ^ 30) : okI i = true := okI_of (by omega) (by omega)
theorem take_ok (n s : Int) (h : 0 < s) (h2 : okI s = true) : s__law_take [(.ow (.l [.int n])), .dat (.int s)] = .ok (.dat (.int (n % s))) [(.ow (.l [.int (n / s)])), .dat (.int s)] := by
  simp! [s__law_take, m__law_take, atI, ixN, h, h2]
theorem mixed_ok (c k : Int) (h1 : 0 ≤ k) (h2 : k ≤ 10 ^ 6) : ∃ r, 0 ≤ r ∧ r < 2147483579 ∧ s__law_mixed [.dat (.int c), .dat (.int k)] = .ok (.dat (.int r)) [.dat (.int c), .dat (.int k)] := by
  have a0 : 0 ≤ c % 2147483647 := Int.emod_nonneg _ (by omega)
  have a1 : c % 2147483647 < 2147483647 := Int.emod_lt_of_pos _ (by omega)
  have o1 : okI (c % 2147483647) = true := okS (by omega) (by omega)
  have o2 : okI k = true := okS (by omega) (by omega)
  have o3 : okI 48271 = true := okS (by omega) (by omega)
  have o4 : okI 69621 = true := okS (by omega) (by omega)
  generalize e1 : (c % 2147483647 * 48271 + k * 69621 + 1048583) % 2147483629 = x
  have x0 : 0 ≤ x := by rw [← e1]; exact Int.emod_nonneg _ (by omega)
  have x1 : x < 2147483629 := by rw [← e1]; exact Int.emod_lt_of_pos _ (by omega)
  have o5 : okI x = true := okS (by omega) (by omega)
  generalize e2 : x * x % 2147483587 = y
  have y0 : 0 ≤ y := by rw [← e2]; exact Int.emod_nonneg _ (by omega)
  have y1 : y < 2147483587 := by rw [← e2]; exact Int.emod_lt_of_pos _ (by omega)
  have o6 : okI y = true := okS (by omega) (by omega)
  have o7 : okI (y + 2) = true := okS (by omega) (by omega)
  refine ⟨y * (y + 2) % 2147483579, Int.emod_nonneg _ (by omega), Int.emod_lt_of_pos _ (by omega), ?_⟩
  simp! [s__law_mixed, m__law_mixed, o1, o2, o3, o4, e1, o5, e2, o6, o7]
theorem B_pow (m : Nat) (h : m ≤ 24) : (2147483579 : Int) ^ m ≤ 10 ^ 300 := by
  have h1 : (2147483579 : Nat) ^ m ≤ 2147483579 ^ 24 := Nat.pow_le_pow_right (by decide) h
  have h2 : (2147483579 : Nat) ^ 24 ≤ 10 ^ 300 := by decide +kernel
  have h3 := Nat.le_trans h1 h2
  have h4 : ((2147483579 ^ m : Nat) : Int) ≤ ((10 ^ 300 : Nat) : Int) := Int.ofNat_le.mpr h3
  rw [Int.natCast_pow, Int.natCast_pow] at h4
  exact h4
def cellI (ns : List Int) (k c : Int) (ds : List D) (E : En) : Prop := ∃ x, E = [.scr ns, .dat (.int k), .dat (.int c), .dat (.int x), .un] ∧ 0 ≤ x ∧ x < 2147483579 ^ (24 - ds.length) ∧ ds.length ≤ 24 ∧ ∀ d ∈ ds, ∃ i, d = .int i ∧ 0 ≤ i ∧ i < 24
theorem cell_turn {ns : List Int} {k c : Int} (hk : 0 ≤ k) (hk2 : k ≤ 100) (d : D) (ds : List D) (E : En) (h : cellI ns k c (d :: ds) E) : ∃ E1 E2, gN 4 d E = some E1 ∧ (lp__law_cell_1 E1 = .ok .nx E2 ∨ lp__law_cell_1 E1 = .ok .ct E2) ∧ cellI ns k c ds (wipeE E2 [4]) := by
  obtain ⟨x, rfl, x0, x1, hl, hd⟩ := h
  obtain ⟨i, rfl, i0, i1⟩ := hd d List.mem_cons_self
  rw [List.length_cons] at x1 hl
  have hii : 0 ≤ i * i ∧ i * i ≤ 24 * 24 := ⟨Int.mul_nonneg i0 i0, Int.mul_le_mul (by omega) (by omega) i0 (by omega)⟩
  obtain ⟨r, r0, r1, hm⟩ := mixed_ok c (7 * k + 100 * i + i * i) (by omega) (by omega)
  have px := B_pow (24 - (ds.length + 1)) (by omega)
  have o1 : okI x = true := okI_of (by omega) (by omega)
  have o2 : okI 2147483579 = true := okS (by omega) (by omega)
  have o3 : okI 7 = true := okS (by omega) (by omega)
  have o4 : okI 100 = true := okS (by omega) (by omega)
  have o5 : okI k = true := okS (by omega) (by omega)
  have o6 : okI i = true := okS (by omega) (by omega)
  refine ⟨[.scr ns, .dat (.int k), .dat (.int c), .dat (.int x), .dat (.int i)], [.scr ns, .dat (.int k), .dat (.int c), .dat (.int (x * 2147483579 + r)), .dat (.int i)], rfl, .inl ?_, ?_⟩
  · simp! [lp__law_cell_1, hm, o1, o2, o3, o4, o5, o6]
  · refine ⟨_, rfl, by have := Int.mul_nonneg x0 (show (0 : Int) ≤ 2147483579 by omega); omega, ?_, by omega, fun d hd' => hd d (List.mem_cons_of_mem _ hd')⟩
    rw [show 24 - ds.length = 24 - (ds.length + 1) + 1 by omega, Int.pow_succ]
    have : (x + 1) * 2147483579 ≤ 2147483579 ^ (24 - (ds.length + 1)) * 2147483579 := Int.mul_le_mul_of_nonneg_right (by omega) (by omega)
    omega
theorem cell_loop (ns : List Int) (k c : Int) (hk : 0 ≤ k) (hk2 : k ≤ 100) : ∃ x, fr__law_cell_1 [.scr ns, .dat (.int k), .dat (.int c), .dat (.int 0), .un] = .ok .nx [.scr ns, .dat (.int k), .dat (.int c), .dat (.int x), .un] := by
  obtain ⟨E', ⟨x, rfl, _⟩, hf⟩ := for_inv (ws := [4]) (mi := mRng1 (mCons (mD (Bt.ret (.int 24))) (Bt.ret []))) (g := gN 4) (mb := lp__law_cell_1) (E0 := [.scr ns, .dat (.int k), .dat (.int c), .dat (.int 0), .un]) (cellI ns k c) (its := rangeD 0 24) (E := [.scr ns, .dat (.int k), .dat (.int c), .dat (.int 0), .un]) (by simp! [rgOk_eq]) ⟨0, rfl, Int.le_refl _, by rw [rangeD_length]; decide, by rw [rangeD_length]; decide, fun d hd => by
    obtain ⟨i, rfl, h1, h2⟩ := rangeD_mem hd
    exact ⟨i, rfl, h1, h2⟩⟩ (fun d ds E h => cell_turn hk hk2 d ds E h)
  exact ⟨x, hf⟩
theorem cell_ok (ns : List Int) (k : Int) (hk : 0 ≤ k) (hk2 : k ≤ 100) : ∃ n, s__law_cell [.scr ns, .dat (.int k)] = .ok (.dat (.int n)) [.scr ns, .dat (.int k)] := by
  have o : okI ((10 : Int) ^ 60) = true := okI_of (by decide) (by decide +kernel)
  have o2 : okI ((10 : Int) ^ 60 * 10 ^ 60) = true := okI_of (by decide) (by decide +kernel)
  have o3 : okI ((10 : Int) ^ 60 * 10 ^ 60 * 10 ^ 60) = true := okI_of (by decide) (by decide +kernel)
  simp at o o2 o3
  have key : ∀ c : Int, (∃ n, (if (1000000000000000000 : Int) ≤ c then (c - 1000000000000000000) % (10 ^ 60 * 10 ^ 60 * 10 ^ 60 * 10 ^ 60) = n else ∃ x, fr__law_cell_1 [.scr ns, .dat (.int k), .dat (.int c), .dat (.int 0), .un] = .ok .nx [.scr ns, .dat (.int k), .dat (.int c), .dat (.int x), .un] ∧ x = n)) := fun c => by
    by_cases z : (1000000000000000000 : Int) ≤ c
    · exact ⟨_, by rw [if_pos z]⟩
    · obtain ⟨x, hx⟩ := cell_loop ns k c hk hk2
      exact ⟨x, by rw [if_neg z]; exact ⟨x, hx, rfl⟩⟩
  by_cases z : k < (ns.length : Int)
  · obtain ⟨j, rfl⟩ := Int.eq_ofNat_of_zero_le hk
    have hj : j < ns.length := by omega
    have ha : atI ns ((j : Nat) : Int) = some ns[j] := atI_nat (List.getElem?_eq_getElem hj)
    obtain ⟨n, hn⟩ := key ns[j]
    refine ⟨n, ?_⟩
    by_cases z2 : (1000000000000000000 : Int) ≤ ns[j]
    · rw [if_pos z2] at hn
      rw [← hn]
      simp! [s__law_cell, m__law_cell, hj, ha, z2, o, o2, o3]
    · rw [if_neg z2] at hn
      obtain ⟨x, hx, rfl⟩ := hn
      simp! [s__law_cell, m__law_cell, hj, ha, z2, o, o2, o3, hx]
  · obtain ⟨n, hn⟩ := key 0
    refine ⟨n, ?_⟩
    rw [if_neg (by omega)] at hn
    obtain ⟨x, hx, rfl⟩ := hn
    simp! [s__law_cell, m__law_cell, z, o, o2, o3, hx]
end Lw
namespace Lw
open PySem L2 Bt
abbrev Pile := List (Int × Int)
def encL (q : Int × Int) : D := .tuple [.int q.1, .int q.2]
def enc (p : Pile) : D := .tuple (p.map encL)
structure Gd (p : Pile) : Prop where
  w1 : ∀ q ∈ p, 1 ≤ q.1
  w2 : ∀ q ∈ p, q.1 ≤ 10 ^ 13
  m1 : ∀ q ∈ p, 1 ≤ q.2
  m2 : ∀ q ∈ p, q.2 ≤ 10 ^ 13
  up : p.Pairwise fun a b => a.1 < b.1
  len : p.length ≤ 1000
def S (p : Pile) : Int := (p.map fun q => q.1 * q.2).sum
def L (p : Pile) (c : Int) : Int := ((p.filter fun q => decide (q.1 < c)).map fun q => q.1 * q.2).sum
theorem gd_lim {p : Pile} (h : Gd p) : p.length ≤ LIM := Nat.le_trans h.len (by decide)
theorem gd_ok1 {p : Pile} (h : Gd p) {q : Int × Int} (hq : q ∈ p) : okI q.1 = true := by
  have h1 := h.w1 q hq; have h2 := h.w2 q hq
  exact okS (by omega) (by omega)
theorem gd_ok2 {p : Pile} (h : Gd p) {q : Int × Int} (hq : q ∈ p) : okI q.2 = true := by
  have h3 := h.m1 q hq; have h4 := h.m2 q hq
  exact okS (by omega) (by omega)
theorem at0 {α : Type} (a : α) (l : List α) : atI (a :: l) 0 = some a := by simp [atI, ixN]
theorem at1 {α : Type} (a b : α) (l : List α) : atI (a :: b :: l) 1 = some b := by
  unfold atI ixN
  rw [if_pos (by omega), if_pos (by simp only [List.length_cons]; omega)]
  rfl
theorem is_from_int (i l : Int) : s_is_from [.dat (.int i), .dat (.int l)] = .ok (.dat (.bool (decide (l ≤ i)))) [.dat (.int i), .dat (.int l)] := by
  simp! [s_is_from, m_is_from]
theorem is_lot_ok (q : Int × Int) : s_is_lot [.dat (encL q)] = .ok (.dat (.bool (decide (1 ≤ q.1) && decide (1 ≤ q.2)))) [.dat (encL q)] := by
  by_cases h : 1 ≤ q.1 <;> simp! [s_is_lot, m_is_lot, encL, is_from_int, atI, ixN, eqD_int, h]
theorem zipD_map {α β : Type} (f : α → D) (g : β → D) : ∀ (xs : List α) (ys : List β), zipD (xs.map f) (ys.map g) = (xs.zip ys).map fun q => .tuple [f q.1, g q.2]
  | [], _ => by simp [zipD]
  | _ :: _, [] => by simp [zipD]
  | x :: xs, y :: ys => by
    have := zipD_map f g xs ys
    unfold zipD at this ⊢
    simp [this]
theorem cut1 (xs : List D) : cutD xs (some 1) none = xs.drop 1 := by
  unfold cutD
  rw [show HT.sIx xs.length 0 (some 1) = min 1 xs.length from HT.sIx_nat xs.length 0 1, HT.sIx_none]
  cases xs with
  | nil => rfl
  | cons x r =>
    rw [show min 1 (x :: r).length = 1 by rw [List.length_cons]; omega]
    show (List.take ((x :: r).length - 1) r) = r
    rw [List.length_cons, Nat.add_sub_cancel]
    exact List.take_length
theorem up_zip {p : Pile} (h : p.Pairwise fun a b => a.1 < b.1) : ∀ q ∈ p.zip (p.drop 1), q.1.1 < q.2.1 := by
  induction p with
  | nil => intro q hq; simp at hq
  | cons a r ih =>
    intro q hq
    cases r with
    | nil => simp at hq
    | cons b r =>
      have hp := List.pairwise_cons.mp h
      rw [List.drop_one, List.tail_cons] at hq
      rcases List.mem_cons.mp (show q ∈ (a, b) :: (b :: r).zip r from hq) with rfl | hq
      · exact hp.1 b List.mem_cons_self
      · exact ih hp.2 q (by rw [List.drop_one, List.tail_cons]; exact hq)
theorem isi_enc (p : Pile) : isiD "tuple" (enc p) = true := rfl
theorem is_pile_ok {p : Pile} (h : Gd p) : s_is_pile [.dat (enc p)] = .ok (.dat (.bool true)) [.dat (enc p)] := by
  have e1 : lc_is_pile_1 [.dat (enc p), .un, .un, .un] = .ok (.list (p.map fun _ => .bool true)) [.dat (enc p), .un, .un, .un] := by
    unfold lc_is_pile_1
    exact lc_map p encL (fun _ => .bool true) (by simp! [enc]) (by simp) (fun q hq => by simp! [elF, wipeE, is_lot_ok, h.w1 q hq, h.m1 q hq]) (gd_lim h)
  have e2 : lc_is_pile_2 [.dat (enc p), .un, .un, .un] = .ok (.list ((p.zip (p.drop 1)).map fun _ => .bool true)) [.dat (enc p), .un, .un, .un] := by
    unfold lc_is_pile_2
    refine lc_map (p.zip (p.drop 1)) (fun q => .tuple [encL q.1, encL q.2]) (fun _ => .bool true) (by simp! [enc, cut1, ← List.map_tail, zipD_map]) (by simp) (fun q hq => by simp! [elF, wipeE, encL, atI, ixN, up_zip h.up q hq]) ?_
    rw [List.length_zip]
    have := gd_lim h
    omega
  simp! [s_is_pile, m_is_pile, e1, e2, allF_map, isi_enc, show notX (enc p) = true from rfl]
theorem look_pile {p : Pile} (h : Gd p) : s_look_at_pile [.dat (enc p)] = .ok (.dat .none) [.dat (enc p)] := by
  simp! [s_look_at_pile, m_look_at_pile, is_pile_ok h]
theorem sum_of_ok {p : Pile} (h : Gd p) : s_sum_of [.dat (enc p)] = .ok (.dat (.int (S p))) [.dat (enc p)] := by
  have e1 : lc_sum_of_1 [.dat (enc p), .un, .un] = .ok (.list (p.map fun q => .int (q.1 * q.2))) [.dat (enc p), .un, .un] := by
    unfold lc_sum_of_1
    exact lc_map p encL _ (by simp! [enc]) (by simp) (fun q hq => by simp! [elF, wipeE, encL, gd_ok1 h hq, gd_ok2 h hq]) (gd_lim h)
  simp! [s_sum_of, m_sum_of, e1, sumF_map, S]
theorem less_of_ok {p : Pile} (h : Gd p) (c : Int) : s_less_of [.dat (enc p), .dat (.int c)] = .ok (.dat (.int (L p c))) [.dat (enc p), .dat (.int c)] := by
  have e1 : lc_less_of_1 [.dat (enc p), .dat (.int c), .un, .un] = .ok (.list ((p.filter fun q => decide (q.1 < c)).map fun q => .int (q.1 * q.2))) [.dat (enc p), .dat (.int c), .un, .un] := by
    unfold lc_less_of_1
    exact lc_if p encL _ _ (by simp! [enc]) (by simp) (fun q hq => by by_cases z : q.1 < c <;> simp! [elF, wipeE, encL, gd_ok1 h hq, gd_ok2 h hq, z]) (gd_lim h)
  simp! [s_less_of, m_less_of, e1, sumF_map, L]
theorem law_under_ok {p : Pile} (h : Gd p) (c : Int) : s__law_under [.dat (enc p), .dat (.int c)] = .ok (.dat (.int (L p c))) [.dat (enc p), .dat (.int c)] := by
  have e1 : lc__law_under_1 [.dat (enc p), .dat (.int c), .un, .un] = .ok (.list ((p.filter fun q => decide (q.1 < c)).map fun q => .int (q.1 * q.2))) [.dat (enc p), .dat (.int c), .un, .un] := by
    unfold lc__law_under_1
    exact lc_if p encL _ _ (by simp! [enc]) (by simp) (fun q hq => by by_cases z : q.1 < c <;> simp! [elF, wipeE, encL, gd_ok1 h hq, gd_ok2 h hq, z]) (gd_lim h)
  simp! [s__law_under, m__law_under, e1, sumF_map, L]
end Lw
namespace Lw
open PySem L2 Bt
def coinsOf (p : Pile) : List Int := p.flatMap fun q => List.replicate q.2.toNat q.1
def hstep (acc : Pile) (c : Int) : Pile := match acc.getLast? with
  | some q => if q.1 = c then acc.dropLast ++ [(q.1, q.2 + 1)] else acc ++ [(c, 1)]
  | none => [(c, 1)]
theorem hstep_last (b : Pile) (q : Int × Int) (c : Int) : hstep (b ++ [q]) c = if q.1 = c then b ++ [(q.1, q.2 + 1)] else b ++ [q] ++ [(c, 1)] := by
  unfold hstep
  rw [List.getLast?_concat]
  simp
structure HI (done : List Int) (acc : Pile) : Prop where
  up : acc.Pairwise fun a b => a.1 < b.1
  one : ∀ q ∈ acc, 1 ≤ q.2
  coins : coinsOf acc = done
theorem mem_coins {p : Pile} (h : ∀ q ∈ p, 1 ≤ q.2) {q : Int × Int} (hq : q ∈ p) : q.1 ∈ coinsOf p := by
  unfold coinsOf
  refine List.mem_flatMap.mpr ⟨q, hq, ?_⟩
  have := h q hq
  exact List.mem_replicate.mpr ⟨by omega, rfl⟩
theorem coins_append (a b : Pile) : coinsOf (a ++ b) = coinsOf a ++ coinsOf b := by unfold coinsOf; rw [List.flatMap_append]
theorem coins_one (w m : Int) : coinsOf [(w, m)] = List.replicate m.toNat w := by simp [coinsOf]
theorem nil_or_last {α : Type} (l : List α) : l = [] ∨ ∃ b x, l = b ++ [x] := by
  rcases List.eq_nil_or_concat l with h | ⟨b, x, h⟩
  · exact .inl h
  · exact .inr ⟨b, x, by rw [h, List.concat_eq_append]⟩
theorem hstep_ok {done : List Int} {acc : Pile} {c : Int} (h : HI done acc) (hc : ∀ x ∈ done, x ≤ c) : HI (done ++ [c]) (hstep acc c) := by
  rcases nil_or_last acc with rfl | ⟨b, q, rfl⟩
  · refine ⟨by simp [hstep], by simp [hstep], ?_⟩
    have := h.coins
    rw [← this]
    simp [hstep, coinsOf]
  · rw [hstep_last]
    have h1 := h.one q (by simp)
    have hq : q.1 ≤ c := hc q.1 (by rw [← h.coins]; exact mem_coins h.one (by simp))
    have hu := List.pairwise_append.mp h.up
    have hcoins := h.coins
    by_cases z : q.1 = c
    · rw [if_pos z]
      refine ⟨List.pairwise_append.mpr ⟨hu.1, by simp, fun a ha d hd => ?_⟩, fun a ha => ?_, ?_⟩
      · rw [List.mem_singleton.mp hd]
        exact hu.2.2 a ha q (by simp)
      · rcases List.mem_append.mp ha with ha | ha
        · exact h.one a (List.mem_append_left _ ha)
        · rw [List.mem_singleton.mp ha]; show 1 ≤ q.2 + 1; omega
      · rw [← hcoins, coins_append, coins_append, coins_one, show [q] = [(q.1, q.2)] from rfl, coins_one, show (q.2 + 1).toNat = q.2.toNat + 1 by omega, List.replicate_succ', List.append_assoc, z]
    · rw [if_neg z]
      refine ⟨List.pairwise_append.mpr ⟨h.up, by simp, fun a ha d hd => ?_⟩, fun a ha => ?_, ?_⟩
      · rw [List.mem_singleton.mp hd]
        show a.1 < c
        rcases List.mem_append.mp ha with ha | ha
        · have := hu.2.2 a ha q (by simp); omega
        · rw [List.mem_singleton.mp ha]; omega
      · rcases List.mem_append.mp ha with ha | ha
        · exact h.one a ha
        · rw [List.mem_singleton.mp ha]; show (1 : Int) ≤ 1; omega
      · rw [coins_append, hcoins, coins_one]; rfl
theorem fold_ok : ∀ (r : List Int) (done : List Int) (acc : Pile), HI done acc → (done ++ r).Pairwise (· ≤ ·) → HI (done ++ r) (r.foldl hstep acc)
  | [], done, acc, h, _ => by rw [List.append_nil]; exact h
  | c :: r, done, acc, h, hp => by
    have hp' := List.pairwise_append.mp hp
    have h2 := hstep_ok (c := c) h fun x hx => hp'.2.2 x hx c List.mem_cons_self
    have := fold_ok r (done ++ [c]) (hstep acc c) h2 (by rw [List.append_assoc]; exact hp)
    rw [List.append_assoc] at this
    exact this
def heapOf (ns : List Int) : Pile := (sortI ns).foldl hstep []
theorem sortI_pair (ns : List Int) : (sortI ns).Pairwise (· ≤ ·) := by
  have p1 : (sortI ns).Pairwise (fun a b => decide (a ≤ b) = true) := List.pairwise_mergeSort (fun a b c h1 h2 => by simp at *; omega) (fun a b => by simp; omega) ns
  exact p1.imp fun h => of_decide_eq_true h
theorem sortI_perm (ns : List Int) : (sortI ns).Perm ns := List.mergeSort_perm ns _
theorem heap_HI (ns : List Int) : HI (sortI ns) (heapOf ns) := by
  have := fold_ok (sortI ns) [] [] ⟨by simp, by simp, rfl⟩ (by simpa using sortI_pair ns)
  rw [List.nil_append] at this
  exact this
theorem len_coins : ∀ {p : Pile}, (∀ q ∈ p, 1 ≤ q.2) → p.length ≤ (coinsOf p).length
  | [], _ => by simp
  | q :: p, h => by
    have := len_coins (p := p) fun x hx => h x (List.mem_cons_of_mem _ hx)
    have h1 := h q List.mem_cons_self
    rw [show q :: p = [(q.1, q.2)] ++ p from rfl, coins_append, coins_one, List.length_append, List.length_append, List.length_replicate]
    simp
    omega
theorem many_coins : ∀ {p : Pile}, (∀ q ∈ p, 1 ≤ q.2) → ∀ q ∈ p, q.2 ≤ (coinsOf p).length
  | [], _, q, hq => by cases hq
  | a :: p, h, q, hq => by
    rw [show a :: p = [(a.1, a.2)] ++ p from rfl, coins_append, coins_one, List.length_append, List.length_replicate]
    have ha := h a List.mem_cons_self
    rcases List.mem_cons.mp hq with rfl | hq
    · omega
    · have := many_coins (p := p) (fun x hx => h x (List.mem_cons_of_mem _ hx)) q hq
      omega
theorem heap_gd {ns : List Int} (h : ∀ n ∈ ns, 1 ≤ n ∧ n ≤ 10 ^ 13) (hl : ns.length ≤ 1000) : Gd (heapOf ns) := by
  have H := heap_HI ns
  have hm : ∀ q ∈ heapOf ns, q.1 ∈ ns := fun q hq => (sortI_perm ns).mem_iff.mp (by rw [← H.coins]; exact mem_coins H.one hq)
  have hlen : (coinsOf (heapOf ns)).length = ns.length := by rw [H.coins]; exact (sortI_perm ns).length_eq
  refine ⟨fun q hq => (h _ (hm q hq)).1, fun q hq => (h _ (hm q hq)).2, H.one, fun q hq => ?_, H.up, ?_⟩
  · have := many_coins H.one q hq; omega
  · have := len_coins H.one; omega
theorem shp_encL (q : Int × Int) : Shp 2 (encL q) := shp_tup fun d hd => by
  rcases List.mem_cons.mp hd with rfl | hd
  · exact shp_int _
  · rw [List.mem_singleton.mp hd]; exact shp_int _
theorem shp_enc (p : Pile) : Shp 3 (enc p) := shp_tup fun d hd => by
  obtain ⟨q, _, rfl⟩ := List.mem_map.mp hd
  exact shp_encL q
theorem shp_encs (p : Pile) : Shp 3 (.list (p.map encL)) := shp_list fun d hd => by
  obtain ⟨q, _, rfl⟩ := List.mem_map.mp hd
  exact shp_encL q
theorem shp_nil : Shp 1 (.list []) := ⟨rfl, by simp [PyData.depth, PyData.depthAll]⟩
theorem ixN_last (n : Nat) (h : 0 < n) : ixN n (-1) = some (n - 1) := by
  unfold ixN
  rw [if_neg (by omega), if_pos (by omega)]
  congr 1
  omega
theorem heap_turn (x0 : Sl) (acc : Pile) (c : Int) (hl : acc.length < 1000) : lp__law_heap_1 [x0, (.ow (.l (acc.map encL))), .dat (.int c)] = .ok .nx [x0, (.ow (.l ((hstep acc c).map encL))), .dat (.int c)] := by
  rcases nil_or_last acc with rfl | ⟨b, ⟨w, m⟩, rfl⟩
  · simp! [lp__law_heap_1, neD_self shp_nil, hstep, encL, LIM]
  · have e1 : neD (.list ((b ++ [(w, m)]).map encL)) (.list []) = some (.bool true) := by
      rw [neD_of (shp_encs _) shp_nil, List.map_append]
      cases b <;> rfl
    have e2 : atI ((b ++ [(w, m)]).map encL) (-1) = some (encL (w, m)) := by rw [List.map_append]; exact atI_last _ _
    have e3 : ixN ((b ++ [(w, m)]).map encL).length (-1) = some b.length := by rw [ixN_last _ (by simp)]; simp
    rw [hstep_last]
    generalize ex : (b ++ [(w, m)]).map encL = X at e1 e2 e3
    by_cases z : w = c
    · subst z
      have e4 : X.set b.length (encL (w, m + 1)) = (b ++ [(w, m + 1)]).map encL := by rw [← ex]; simp
      simp only [if_pos]
      rw [← e4]
      clear e4 ex
      simp! [lp__law_heap_1, e1, e2, e3, encL, eqD_int, at0, at1, LIM]
    · have hb : X.length < LIM := by rw [← ex]; simp at hl ⊢; have : LIM = 100000 := rfl; omega
      have e4 : (b ++ [(w, m)] ++ [(c, 1)]).map encL = X ++ [encL (c, 1)] := by rw [List.map_append, ex]; rfl
      simp only [z, if_false]
      rw [e4]
      clear e4 ex
      simp! [lp__law_heap_1, e1, e2, e3, encL, eqD_int, z, at0, at1, hb, show (2 : Nat) ≤ LIM by decide]
theorem hstep_len (acc : Pile) (c : Int) : (hstep acc c).length ≤ acc.length + 1 := by
  rcases nil_or_last acc with rfl | ⟨b, q, rfl⟩
  · simp [hstep]
  · rw [hstep_last]; split <;> simp
theorem heap_ok (x0 : Sl) (ns : List Int) (hx : x0 = (.ow (.l (ns.map .int))) ∨ x0 = .dat (.list (ns.map .int))) (hl : ns.length ≤ 900) : s__law_heap [x0] = .ok (.dat (enc (heapOf ns))) [x0] := by
  have hr : mIt (mB sortedF (mCons (mR 0) (Bt.ret []))) [x0, (.ow (.l (([] : Pile).map encL))), .un] = .ok ((sortI ns).map .int) [x0, (.ow (.l (([] : Pile).map encL))), .un] := by
    rcases hx with rfl | rfl <;> simp! [sortedF_ints]
  have hlen : (sortI ns).length = ns.length := (sortI_perm ns).length_eq
  have hf := for_fold (ws := [2]) (g := gN 2) (mb := lp__law_heap_1) (E0 := [x0, (.ow (.l (([] : Pile).map encL))), .un]) (sortI ns) PyData.int (fun acc => [x0, (.ow (.l (acc.map encL))), .un]) hstep (fun acc r => acc.length + r.length ≤ 900) hr (by simp; omega) (fun c r acc hI => by
    rw [List.length_cons] at hI
    refine ⟨⟨_, _, rfl, .inl (heap_turn x0 acc c (by omega)), rfl⟩, ?_⟩
    have := hstep_len acc c
    omega)
  have e : fr__law_heap_1 [x0, (.ow (.l [])), .un] = .ok .nx [x0, (.ow (.l ((heapOf ns).map encL))), .un] := hf.1
  rcases hx with rfl | rfl <;> simp! [s__law_heap, m__law_heap, e, enc]
theorem repl_flat (n : Nat) (w : Int) : (List.replicate n [PyData.int w]).flatten = (List.replicate n w).map .int := by
  induction n with
  | zero => rfl
  | succ n ih => rw [List.replicate_succ, List.replicate_succ, List.flatten_cons, ih]; rfl
end Lw
namespace Lw
open PySem L2 Bt
end Lw
namespace Lw
open PySem L2 Bt
theorem ok1 {p : Pile} (h : Gd p) {q : Int × Int} (hq : q ∈ p) : okI (q.1 - 1) = true := by
  have h1 := h.w1 q hq; have h2 := h.w2 q hq
  exact okS (by omega) (by omega)
def un (p : Pile) (m : Int) : List Int := (p.filter fun q => decide (1 < q.1) && decide (L p q.1 < (m - 1) * (q.1 - 1))).map fun q => q.1
end Lw
namespace Lw
open PySem L2 Bt
def kv (q : Int × Int) : Key × D := (.inl q.1, .int q.2)
theorem pairs_enc : ∀ p : Pile, pairsOf (p.map encL) = some (p.map kv)
  | [] => rfl
  | q :: p => by
    rw [List.map_cons]
    unfold pairsOf
    rw [pairs_enc p]
    rfl
def has (c : Pile) (w : Int) : Bool := c.any fun q => decide (q.1 = w)
def cnt (c : Pile) (w : Int) : Int := ((c.find? fun q => decide (q.1 = w)).map (·.2)).getD 0
theorem val_kv (w : Int) : ∀ c : Pile, valD (c.map kv) (.inl w) = if has c w = true then some (.int (cnt c w)) else none
  | [] => rfl
  | q :: c => by
    have ih := val_kv w c
    unfold valD at ih ⊢
    by_cases z : q.1 = w
    · simp [kv, has, cnt, z]
    · rw [List.map_cons, List.find?_cons_of_neg (by simp [kv, z]), ih]
      unfold has cnt
      rw [List.any_cons, decide_eq_false z, Bool.false_or, List.find?_cons_of_neg (by simpa using z)]
theorem any_kv (w : Int) (c : Pile) : ((c.map kv).any fun e => decide (e.1 = Sum.inl w)) = has c w := by
  unfold has
  rw [List.any_map]
  congr 1
  funext q
  simp [kv]
theorem put_in {c : Pile} {w : Int} (n : Int) (h : has c w = true) : putD (c.map kv) (.inl w) (.int n) = (c.map fun q => if q.1 = w then (q.1, n) else q).map kv := by
  unfold putD
  rw [any_kv, if_pos h, List.map_map, List.map_map]
  refine List.map_congr_left fun q _ => ?_
  by_cases z : q.1 = w <;> simp [kv, z]
theorem put_new {c : Pile} {w : Int} (n : Int) (h : has c w = false) : putD (c.map kv) (.inl w) (.int n) = (c ++ [(w, n)]).map kv := by
  unfold putD
  rw [any_kv, if_neg (by rw [h]; exact Bool.false_ne_true), List.map_append]
  rfl
theorem has_iff {c : Pile} {w : Int} : has c w = true ↔ ∃ q ∈ c, q.1 = w := by
  unfold has
  rw [List.any_eq_true]
  simp
theorem has_false {c : Pile} {w : Int} (h : ∀ q ∈ c, q.1 ≠ w) : has c w = false := by
  cases e : has c w with
  | false => rfl
  | true => obtain ⟨q, hq, z⟩ := has_iff.mp e; exact absurd z (h q hq)
theorem merge_kv : ∀ (r done : Pile), (done ++ r).Pairwise (fun a b => a.1 ≠ b.1) → mergeD (done.map kv) (r.map kv) = (done ++ r).map kv
  | [], done, _ => by simp [mergeD]
  | q :: r, done, h => by
    have hn : has done q.1 = false := has_false fun x hx => (List.pairwise_append.mp h).2.2 x hx q List.mem_cons_self
    have ih := merge_kv r (done ++ [q]) (by rw [List.append_assoc]; exact h)
    unfold mergeD at ih ⊢
    rw [List.map_cons, List.foldl_cons, show putD (done.map kv) (kv q).1 (kv q).2 = (done ++ [(q.1, q.2)]).map kv from put_new q.2 hn]
    rw [List.append_assoc] at ih
    exact ih
theorem up_ne {p : Pile} (h : p.Pairwise fun a b => a.1 < b.1) : p.Pairwise fun a b => a.1 ≠ b.1 := h.imp fun h => by omega
theorem dict_enc {p : Pile} (h : Gd p) : dictF (enc p) = some (.d (p.map kv)) := by
  unfold enc dictF
  dsimp only
  rw [pairs_enc]
  have := merge_kv p [] (up_ne h.up)
  simp only [List.map_nil, List.nil_append] at this
  simp [this]
theorem keys_kv : ∀ c : Pile, keysI (c.map kv) = some (c.map (·.1))
  | [] => rfl
  | q :: c => by
    rw [List.map_cons]
    unfold keysI
    rw [keys_kv c]
    rfl
def fcG (c : Pile) : Pile := ((sortI (c.map (·.1))).filter fun w => decide (0 < cnt c w)).map fun w => (w, cnt c w)
theorem from_counts_ok (c : Pile) (hl : c.length < 1000) : s_from_counts [(.ow (.d (c.map kv)))] = .ok (.dat (enc (fcG c))) [(.ow (.d (c.map kv)))] := by
  have hs : ∀ w ∈ sortI (c.map (·.1)), has c w = true := fun w hw => by
    have := (sortI_perm _).mem_iff.mp hw
    obtain ⟨q, hq, rfl⟩ := List.mem_map.mp this
    exact has_iff.mpr ⟨q, hq, rfl⟩
  have e1 : lc_from_counts_1 [(.ow (.d (c.map kv))), .un] = .ok (.list (((sortI (c.map (·.1))).filter fun w => decide (0 < cnt c w)).map fun w => encL (w, cnt c w))) [(.ow (.d (c.map kv))), .un] := by
    have hLl : (sortI (c.map (·.1))).length ≤ LIM := by
      rw [(sortI_perm _).length_eq, List.length_map]
      have : LIM = 100000 := rfl
      omega
    unfold lc_from_counts_1
    refine lc_if (sortI (c.map (·.1))) PyData.int (fun w => decide (0 < cnt c w)) (fun w => encL (w, cnt c w)) ?_ ?_ ?_ hLl
    · simp! [keys_kv, hl]
    · simp
    · intro w hw
      by_cases z : 0 < cnt c w <;> simp! [elF, wipeE, encL, val_kv, hs w hw, z, show (2 : Nat) ≤ LIM by decide]
  simp! [s_from_counts, m_from_counts, e1, enc, fcG, List.map_map, Function.comp_def]
theorem sortI_self {ns : List Int} (h : ns.Pairwise (· ≤ ·)) : sortI ns = ns := (sortI_uniq (List.Perm.refl _) h).symm
theorem cnt_mem : ∀ {c : Pile}, c.Pairwise (fun a b => a.1 ≠ b.1) → ∀ q ∈ c, cnt c q.1 = q.2
  | [], _, q, h => by cases h
  | a :: c, hp, q, h => by
    have hp' := List.pairwise_cons.mp hp
    by_cases z : a.1 = q.1
    · rcases List.mem_cons.mp h with rfl | h
      · simp [cnt]
      · exact absurd z (hp'.1 q h)
    · rcases List.mem_cons.mp h with rfl | h
      · exact absurd rfl z
      · have := cnt_mem hp'.2 q h
        unfold cnt at this ⊢
        rw [List.find?_cons_of_neg (by simpa using z)]
        exact this
theorem fcG_up {c : Pile} (h : c.Pairwise fun a b => a.1 < b.1) : fcG c = c.filter fun q => decide (0 < q.2) := by
  unfold fcG
  rw [sortI_self (List.pairwise_map.mpr (h.imp fun h => by omega))]
  have hc := cnt_mem (up_ne h)
  have key : ∀ d : Pile, (∀ q ∈ d, q ∈ c) → (((d.map (·.1)).filter fun w => decide (0 < cnt c w)).map fun w => (w, cnt c w)) = d.filter fun q => decide (0 < q.2) := by
    intro d
    induction d with
    | nil => intro _; rfl
    | cons q d ih =>
      intro hd
      have e := hc q (hd q List.mem_cons_self)
      have ih := ih fun x hx => hd x (List.mem_cons_of_mem _ hx)
      rw [List.map_cons]
      by_cases z : 0 < q.2
      · rw [List.filter_cons_of_pos (by rw [e]; simpa using z), List.filter_cons_of_pos (by simpa using z), List.map_cons, ih, e]
      · rw [List.filter_cons_of_neg (by rw [e]; simpa using z), List.filter_cons_of_neg (by simpa using z), ih]
  exact key c fun q hq => hq
def tstep (c : Pile) (x : Int × Int) : Pile := c.map fun q => if q.1 = x.1 then (q.1, q.2 - x.2) else q
def takeP (p o : Pile) : Pile := (o.foldl tstep p).filter fun q => decide (0 < q.2)
structure TI (p c r : Pile) : Prop where
  keys : c.map (·.1) = p.map (·.1)
  sub : ∀ x ∈ r, ∃ q ∈ c, q.1 = x.1 ∧ x.2 ≤ q.2
  dist : r.Pairwise fun a b => a.1 ≠ b.1
theorem tstep_keys (c : Pile) (x : Int × Int) : (tstep c x).map (·.1) = c.map (·.1) := by
  unfold tstep
  rw [List.map_map]
  refine List.map_congr_left fun q _ => ?_
  by_cases z : q.1 = x.1 <;> simp [z]
theorem take_turn {p c r : Pile} {x : Int × Int} (hp : p.Pairwise fun a b => a.1 < b.1) (hl : p.length < 1000) (x0 x1 : Sl) (h : TI p c (x :: r)) : lp_take_by_1 [x0, x1, (.ow (.d (c.map kv))), .dat (.int x.1), .dat (.int x.2)] = .ok .nx [x0, x1, (.ow (.d ((tstep c x).map kv))), .dat (.int x.1), .dat (.int x.2)] ∧ TI p (tstep c x) r := by
  obtain ⟨q, hq, e1, e2⟩ := h.sub x List.mem_cons_self
  have hd := List.pairwise_cons.mp h.dist
  have hcd : c.Pairwise fun a b => a.1 ≠ b.1 := by
    have : (c.map (·.1)).Pairwise (· ≠ ·) := by rw [h.keys]; exact List.pairwise_map.mpr (up_ne hp)
    exact List.pairwise_map.mp this
  have hh : has c x.1 = true := has_iff.mpr ⟨q, hq, e1⟩
  have hc : cnt c x.1 = q.2 := by rw [← e1]; exact cnt_mem hcd q hq
  have hlen : c.length < LIM := by
    have := congrArg List.length h.keys
    simp only [List.length_map] at this
    have : LIM = 100000 := rfl
    omega
  have hput : putD (c.map kv) (.inl x.1) (.int (q.2 - x.2)) = (tstep c x).map kv := by
    rw [put_in _ hh]
    unfold tstep
    congr 1
    refine List.map_congr_left fun y hy => ?_
    by_cases z : y.1 = x.1
    · rw [if_pos z, if_pos z]
      have := cnt_mem hcd y hy
      rw [z, hc] at this
      rw [this]
    · rw [if_neg z, if_neg z]
  refine ⟨?_, by rw [tstep_keys]; exact h.keys, fun y hy => ?_, hd.2⟩
  · simp! [lp_take_by_1, val_kv, hh, hc, show ¬ q.2 < x.2 by omega, hlen, hput]
  · obtain ⟨z, hz, f1, f2⟩ := h.sub y (List.mem_cons_of_mem _ hy)
    refine ⟨z, ?_, f1, f2⟩
    unfold tstep
    exact List.mem_map.mpr ⟨z, hz, by rw [if_neg (by rw [f1]; exact fun w => hd.1 y hy w.symm)]⟩
theorem take_by_ok {p o : Pile} (h : Gd p) (ho : Gd o) (hl : p.length < 1000) (hs : ∀ x ∈ o, ∃ q ∈ p, q.1 = x.1 ∧ x.2 ≤ q.2) : s_take_by [.dat (enc p), .dat (enc o)] = .ok (.dat (enc (takeP p o))) [.dat (enc p), .dat (enc o)] := by
  have hf := for_fold (ws := [3, 4]) (mi := mIt (mV 1)) (g := gTupM 2 (gConsM (gN 3) (gConsM (gN 4) gNilM))) (mb := lp_take_by_1) (E0 := [.dat (enc p), .dat (enc o), (.ow (.d (p.map kv))), .un, .un]) o encL (fun c => [.dat (enc p), .dat (enc o), (.ow (.d (c.map kv))), .un, .un]) tstep (TI p) (s := p) (by simp! [enc]) ⟨rfl, hs, up_ne ho.up⟩ (fun x r c hI => by
    obtain ⟨e, hI2⟩ := take_turn h.up hl (.dat (enc p)) (.dat (enc o)) hI
    exact ⟨⟨_, _, rfl, .inl e, rfl⟩, hI2⟩)
  have e : fr_take_by_1 _ = _ := hf.1
  have hk := hf.2.keys
  have hup : (o.foldl tstep p).Pairwise fun a b => a.1 < b.1 := by
    have : ((o.foldl tstep p).map (·.1)).Pairwise (· < ·) := by rw [hk]; exact List.pairwise_map.mpr h.up
    exact List.pairwise_map.mp this
  have hlen : (o.foldl tstep p).length < 1000 := by
    have := congrArg List.length hk
    simp only [List.length_map] at this
    omega
  have ef := from_counts_ok (o.foldl tstep p) hlen
  rw [fcG_up hup] at ef
  simp! [s_take_by, m_take_by, dict_enc h, e, ef, takeP]
end Lw
namespace Lw
open PySem L2 Bt
end Lw
namespace Lw
open PySem L2 Bt
def lotOf (w : Int) (u : Nat) : Pile := if 0 < u then [(w, (u : Int))] else []
theorem gd_tail {q : Int × Int} {r : Pile} (h : Gd (q :: r)) : Gd r := ⟨fun x hx => h.w1 x (List.mem_cons_of_mem _ hx), fun x hx => h.w2 x (List.mem_cons_of_mem _ hx), fun x hx => h.m1 x (List.mem_cons_of_mem _ hx), fun x hx => h.m2 x (List.mem_cons_of_mem _ hx), (List.pairwise_cons.mp h.up).2, by have := h.len; rw [List.length_cons] at this; omega⟩
end Lw
namespace Lw
open PySem L2 Bt
theorem strOkW (s : String) : PyData.strOk (Str.ofString s) = true := by
  unfold PyData.strOk
  rw [Str.ofString_eq_toList]
  simp only [List.size_toArray, List.length_map, List.all_toArray', List.all_toArray, List.all_map, List.all_eq_true, Function.comp]
  intro c _
  have := c.valid
  simp only [UInt32.isValidChar, Nat.isValidChar] at this
  exact decide_eq_true (by show c.val.toNat < 1114112; omega)
theorem beqS (a b : Str) : (a == b) = decide (a = b) := by
  rw [Bool.eq_iff_iff, beq_iff_eq, decide_eq_true_eq]
theorem eqS {a b : Str} (ha : PyData.strOk a = true) (hb : PyData.strOk b = true) : eqD (.str a) (.str b) = some (.bool (decide (a = b))) := by
  rw [eqD_of (shp_str _ (by simpa [PyData.canLay0] using ha)) (shp_str _ (by simpa [PyData.canLay0] using hb))]
  simp [PyData.eqv, beqS]
theorem inS2 {a x y : Str} : inD (.str a) (.tuple [.str x, .str y]) = some (.bool (decide (a = x) || decide (a = y))) := by
  have e1 : (x == a) = decide (a = x) := by rw [beqS, decide_eq_decide]; exact ⟨Eq.symm, Eq.symm⟩
  have e2 : (y == a) = decide (a = y) := by rw [beqS, decide_eq_decide]; exact ⟨Eq.symm, Eq.symm⟩
  unfold inD
  simp [flatD, PyData.eqv, e1, e2]
abbrev wNone : Str := Str.ofString "none"
abbrev wCall : Str := Str.ofString "call"
abbrev wAll : Str := Str.ofString "all"
abbrev wOne : Str := Str.ofString "one"
abbrev wWithin : Str := Str.ofString "within"
abbrev wCalls : Str := Str.ofString "calls"
theorem dw_none_none : decide (Str.ofString "none" = Str.ofString "none") = true := by decide +kernel
theorem dw_none_call : decide (Str.ofString "none" = Str.ofString "call") = false := by decide +kernel
theorem dw_none_all : decide (Str.ofString "none" = Str.ofString "all") = false := by decide +kernel
theorem dw_none_one : decide (Str.ofString "none" = Str.ofString "one") = false := by decide +kernel
theorem dw_none_within : decide (Str.ofString "none" = Str.ofString "within") = false := by decide +kernel
theorem dw_none_calls : decide (Str.ofString "none" = Str.ofString "calls") = false := by decide +kernel
theorem dw_call_none : decide (Str.ofString "call" = Str.ofString "none") = false := by decide +kernel
theorem dw_call_call : decide (Str.ofString "call" = Str.ofString "call") = true := by decide +kernel
theorem dw_call_all : decide (Str.ofString "call" = Str.ofString "all") = false := by decide +kernel
theorem dw_call_one : decide (Str.ofString "call" = Str.ofString "one") = false := by decide +kernel
theorem dw_call_within : decide (Str.ofString "call" = Str.ofString "within") = false := by decide +kernel
theorem dw_call_calls : decide (Str.ofString "call" = Str.ofString "calls") = false := by decide +kernel
theorem dw_all_none : decide (Str.ofString "all" = Str.ofString "none") = false := by decide +kernel
theorem dw_all_call : decide (Str.ofString "all" = Str.ofString "call") = false := by decide +kernel
theorem dw_all_all : decide (Str.ofString "all" = Str.ofString "all") = true := by decide +kernel
theorem dw_all_one : decide (Str.ofString "all" = Str.ofString "one") = false := by decide +kernel
theorem dw_all_within : decide (Str.ofString "all" = Str.ofString "within") = false := by decide +kernel
theorem dw_all_calls : decide (Str.ofString "all" = Str.ofString "calls") = false := by decide +kernel
theorem dw_one_none : decide (Str.ofString "one" = Str.ofString "none") = false := by decide +kernel
theorem dw_one_call : decide (Str.ofString "one" = Str.ofString "call") = false := by decide +kernel
theorem dw_one_all : decide (Str.ofString "one" = Str.ofString "all") = false := by decide +kernel
theorem dw_one_one : decide (Str.ofString "one" = Str.ofString "one") = true := by decide +kernel
theorem dw_one_within : decide (Str.ofString "one" = Str.ofString "within") = false := by decide +kernel
theorem dw_one_calls : decide (Str.ofString "one" = Str.ofString "calls") = false := by decide +kernel
theorem dw_within_none : decide (Str.ofString "within" = Str.ofString "none") = false := by decide +kernel
theorem dw_within_call : decide (Str.ofString "within" = Str.ofString "call") = false := by decide +kernel
theorem dw_within_all : decide (Str.ofString "within" = Str.ofString "all") = false := by decide +kernel
theorem dw_within_one : decide (Str.ofString "within" = Str.ofString "one") = false := by decide +kernel
theorem dw_within_within : decide (Str.ofString "within" = Str.ofString "within") = true := by decide +kernel
theorem dw_within_calls : decide (Str.ofString "within" = Str.ofString "calls") = false := by decide +kernel
theorem dw_calls_none : decide (Str.ofString "calls" = Str.ofString "none") = false := by decide +kernel
theorem dw_calls_call : decide (Str.ofString "calls" = Str.ofString "call") = false := by decide +kernel
theorem dw_calls_all : decide (Str.ofString "calls" = Str.ofString "all") = false := by decide +kernel
theorem dw_calls_one : decide (Str.ofString "calls" = Str.ofString "one") = false := by decide +kernel
theorem dw_calls_within : decide (Str.ofString "calls" = Str.ofString "within") = false := by decide +kernel
theorem dw_calls_calls : decide (Str.ofString "calls" = Str.ofString "calls") = true := by decide +kernel
theorem ew_none_none : eqD (.str (Str.ofString "none")) (.str (Str.ofString "none")) = some (.bool true) := by rw [eqS (strOkW _) (strOkW _), dw_none_none]
theorem ew_none_call : eqD (.str (Str.ofString "none")) (.str (Str.ofString "call")) = some (.bool false) := by rw [eqS (strOkW _) (strOkW _), dw_none_call]
theorem ew_none_all : eqD (.str (Str.ofString "none")) (.str (Str.ofString "all")) = some (.bool false) := by rw [eqS (strOkW _) (strOkW _), dw_none_all]
theorem ew_none_one : eqD (.str (Str.ofString "none")) (.str (Str.ofString "one")) = some (.bool false) := by rw [eqS (strOkW _) (strOkW _), dw_none_one]
theorem ew_none_within : eqD (.str (Str.ofString "none")) (.str (Str.ofString "within")) = some (.bool false) := by rw [eqS (strOkW _) (strOkW _), dw_none_within]
theorem ew_none_calls : eqD (.str (Str.ofString "none")) (.str (Str.ofString "calls")) = some (.bool false) := by rw [eqS (strOkW _) (strOkW _), dw_none_calls]
theorem ew_call_none : eqD (.str (Str.ofString "call")) (.str (Str.ofString "none")) = some (.bool false) := by rw [eqS (strOkW _) (strOkW _), dw_call_none]
theorem ew_call_call : eqD (.str (Str.ofString "call")) (.str (Str.ofString "call")) = some (.bool true) := by rw [eqS (strOkW _) (strOkW _), dw_call_call]
theorem ew_call_all : eqD (.str (Str.ofString "call")) (.str (Str.ofString "all")) = some (.bool false) := by rw [eqS (strOkW _) (strOkW _), dw_call_all]
theorem ew_call_one : eqD (.str (Str.ofString "call")) (.str (Str.ofString "one")) = some (.bool false) := by rw [eqS (strOkW _) (strOkW _), dw_call_one]
theorem ew_call_within : eqD (.str (Str.ofString "call")) (.str (Str.ofString "within")) = some (.bool false) := by rw [eqS (strOkW _) (strOkW _), dw_call_within]
theorem ew_call_calls : eqD (.str (Str.ofString "call")) (.str (Str.ofString "calls")) = some (.bool false) := by rw [eqS (strOkW _) (strOkW _), dw_call_calls]
theorem ew_all_none : eqD (.str (Str.ofString "all")) (.str (Str.ofString "none")) = some (.bool false) := by rw [eqS (strOkW _) (strOkW _), dw_all_none]
theorem ew_all_call : eqD (.str (Str.ofString "all")) (.str (Str.ofString "call")) = some (.bool false) := by rw [eqS (strOkW _) (strOkW _), dw_all_call]
theorem ew_all_all : eqD (.str (Str.ofString "all")) (.str (Str.ofString "all")) = some (.bool true) := by rw [eqS (strOkW _) (strOkW _), dw_all_all]
theorem ew_all_one : eqD (.str (Str.ofString "all")) (.str (Str.ofString "one")) = some (.bool false) := by rw [eqS (strOkW _) (strOkW _), dw_all_one]
theorem ew_all_within : eqD (.str (Str.ofString "all")) (.str (Str.ofString "within")) = some (.bool false) := by rw [eqS (strOkW _) (strOkW _), dw_all_within]
theorem ew_all_calls : eqD (.str (Str.ofString "all")) (.str (Str.ofString "calls")) = some (.bool false) := by rw [eqS (strOkW _) (strOkW _), dw_all_calls]
theorem ew_one_none : eqD (.str (Str.ofString "one")) (.str (Str.ofString "none")) = some (.bool false) := by rw [eqS (strOkW _) (strOkW _), dw_one_none]
theorem ew_one_call : eqD (.str (Str.ofString "one")) (.str (Str.ofString "call")) = some (.bool false) := by rw [eqS (strOkW _) (strOkW _), dw_one_call]
theorem ew_one_all : eqD (.str (Str.ofString "one")) (.str (Str.ofString "all")) = some (.bool false) := by rw [eqS (strOkW _) (strOkW _), dw_one_all]
theorem ew_one_one : eqD (.str (Str.ofString "one")) (.str (Str.ofString "one")) = some (.bool true) := by rw [eqS (strOkW _) (strOkW _), dw_one_one]
theorem ew_one_within : eqD (.str (Str.ofString "one")) (.str (Str.ofString "within")) = some (.bool false) := by rw [eqS (strOkW _) (strOkW _), dw_one_within]
theorem ew_one_calls : eqD (.str (Str.ofString "one")) (.str (Str.ofString "calls")) = some (.bool false) := by rw [eqS (strOkW _) (strOkW _), dw_one_calls]
theorem ew_within_none : eqD (.str (Str.ofString "within")) (.str (Str.ofString "none")) = some (.bool false) := by rw [eqS (strOkW _) (strOkW _), dw_within_none]
theorem ew_within_call : eqD (.str (Str.ofString "within")) (.str (Str.ofString "call")) = some (.bool false) := by rw [eqS (strOkW _) (strOkW _), dw_within_call]
theorem ew_within_all : eqD (.str (Str.ofString "within")) (.str (Str.ofString "all")) = some (.bool false) := by rw [eqS (strOkW _) (strOkW _), dw_within_all]
theorem ew_within_one : eqD (.str (Str.ofString "within")) (.str (Str.ofString "one")) = some (.bool false) := by rw [eqS (strOkW _) (strOkW _), dw_within_one]
theorem ew_within_within : eqD (.str (Str.ofString "within")) (.str (Str.ofString "within")) = some (.bool true) := by rw [eqS (strOkW _) (strOkW _), dw_within_within]
theorem ew_within_calls : eqD (.str (Str.ofString "within")) (.str (Str.ofString "calls")) = some (.bool false) := by rw [eqS (strOkW _) (strOkW _), dw_within_calls]
theorem ew_calls_none : eqD (.str (Str.ofString "calls")) (.str (Str.ofString "none")) = some (.bool false) := by rw [eqS (strOkW _) (strOkW _), dw_calls_none]
theorem ew_calls_call : eqD (.str (Str.ofString "calls")) (.str (Str.ofString "call")) = some (.bool false) := by rw [eqS (strOkW _) (strOkW _), dw_calls_call]
theorem ew_calls_all : eqD (.str (Str.ofString "calls")) (.str (Str.ofString "all")) = some (.bool false) := by rw [eqS (strOkW _) (strOkW _), dw_calls_all]
theorem ew_calls_one : eqD (.str (Str.ofString "calls")) (.str (Str.ofString "one")) = some (.bool false) := by rw [eqS (strOkW _) (strOkW _), dw_calls_one]
theorem ew_calls_within : eqD (.str (Str.ofString "calls")) (.str (Str.ofString "within")) = some (.bool false) := by rw [eqS (strOkW _) (strOkW _), dw_calls_within]
theorem ew_calls_calls : eqD (.str (Str.ofString "calls")) (.str (Str.ofString "calls")) = some (.bool true) := by rw [eqS (strOkW _) (strOkW _), dw_calls_calls]
theorem iw_none_all : inD (.str (Str.ofString "none")) (.tuple [.str (Str.ofString "all"), .str (Str.ofString "one")]) = some (.bool false) := by rw [inS2, dw_none_all, dw_none_one]; rfl
theorem iw_none_within : inD (.str (Str.ofString "none")) (.tuple [.str (Str.ofString "within"), .str (Str.ofString "calls")]) = some (.bool false) := by rw [inS2, dw_none_within, dw_none_calls]; rfl
theorem iw_call_all : inD (.str (Str.ofString "call")) (.tuple [.str (Str.ofString "all"), .str (Str.ofString "one")]) = some (.bool false) := by rw [inS2, dw_call_all, dw_call_one]; rfl
theorem iw_call_within : inD (.str (Str.ofString "call")) (.tuple [.str (Str.ofString "within"), .str (Str.ofString "calls")]) = some (.bool false) := by rw [inS2, dw_call_within, dw_call_calls]; rfl
theorem iw_all_all : inD (.str (Str.ofString "all")) (.tuple [.str (Str.ofString "all"), .str (Str.ofString "one")]) = some (.bool true) := by rw [inS2, dw_all_all, dw_all_one]; rfl
theorem iw_all_within : inD (.str (Str.ofString "all")) (.tuple [.str (Str.ofString "within"), .str (Str.ofString "calls")]) = some (.bool false) := by rw [inS2, dw_all_within, dw_all_calls]; rfl
theorem iw_one_all : inD (.str (Str.ofString "one")) (.tuple [.str (Str.ofString "all"), .str (Str.ofString "one")]) = some (.bool true) := by rw [inS2, dw_one_all, dw_one_one]; rfl
theorem iw_one_within : inD (.str (Str.ofString "one")) (.tuple [.str (Str.ofString "within"), .str (Str.ofString "calls")]) = some (.bool false) := by rw [inS2, dw_one_within, dw_one_calls]; rfl
theorem iw_within_all : inD (.str (Str.ofString "within")) (.tuple [.str (Str.ofString "all"), .str (Str.ofString "one")]) = some (.bool false) := by rw [inS2, dw_within_all, dw_within_one]; rfl
theorem iw_within_within : inD (.str (Str.ofString "within")) (.tuple [.str (Str.ofString "within"), .str (Str.ofString "calls")]) = some (.bool true) := by rw [inS2, dw_within_within, dw_within_calls]; rfl
theorem iw_calls_all : inD (.str (Str.ofString "calls")) (.tuple [.str (Str.ofString "all"), .str (Str.ofString "one")]) = some (.bool false) := by rw [inS2, dw_calls_all, dw_calls_one]; rfl
theorem iw_calls_within : inD (.str (Str.ofString "calls")) (.tuple [.str (Str.ofString "within"), .str (Str.ofString "calls")]) = some (.bool true) := by rw [inS2, dw_calls_within, dw_calls_calls]; rfl
end Lw
namespace Lw
open PySem L2 Bt
def isFl (l : Int) : D → Bool
  | .int i => decide (l ≤ i)
  | _ => false
theorem is_from_gen (l : Int) (d : D) (h : notX d = true) : s_is_from [.dat d, .dat (.int l)] = .ok (.dat (.bool (isFl l d))) [.dat d, .dat (.int l)] := by
  cases d with
  | dict _ => exact absurd h Bool.false_ne_true
  | int i => rw [is_from_int]; rfl
  | none => simp! [s_is_from, m_is_from, isFl]
  | bool b => simp! [s_is_from, m_is_from, isFl]
  | str b => simp! [s_is_from, m_is_from, isFl]
  | list b => simp! [s_is_from, m_is_from, isFl]
  | tuple b => simp! [s_is_from, m_is_from, isFl]
end Lw
namespace Lw
open PySem L2 Bt
mutual
def okD : D → Bool
  | .str x => PyData.strOk x && decide (x.length ≤ 1000)
  | .list ds => decide (ds.length ≤ 1000) && okDs ds
  | .tuple ds => decide (ds.length ≤ 1000) && okDs ds
  | .dict _ => false
  | _ => true
def okDs : List D → Bool
  | [] => true
  | d :: ds => okD d && okDs ds
end
theorem okDs_mem {ds : List D} (h : okDs ds = true) {d : D} (hd : d ∈ ds) : okD d = true := by
  induction ds with
  | nil => cases hd
  | cons x ds ih =>
    simp only [okDs, Bool.and_eq_true] at h
    rcases List.mem_cons.mp hd with rfl | hd
    · exact h.1
    · exact ih h.2 hd
theorem okD_nx {d : D} (h : okD d = true) : notX d = true := by
  cases d with
  | dict _ => simp [okD] at h
  | _ => rfl
def lets : Str := Str.ofString "abcdefghijklmnopqrstuvwxyz"
def nameS (x : Str) : Bool := decide (1 ≤ x.length) && decide (x.length ≤ 8) && x.cps.toList.all fun c => decide (c ∈ lets.cps.toList)
def nameB : D → Bool
  | .str x => nameS x
  | _ => false
theorem inSign (c : Nat) (z : Str) : inD (.str ⟨#[c]⟩) (.str z) = some (.bool (decide (c ∈ z.cps.toList))) := rfl
theorem is_name_gen (d : D) (h : okD d = true) : s_is_name [.dat d] = .ok (.dat (.bool (nameB d))) [.dat d] := by
  cases d with
  | dict _ => simp [okD] at h
  | none => simp! [s_is_name, m_is_name, nameB]
  | bool b => simp! [s_is_name, m_is_name, nameB]
  | int b => simp! [s_is_name, m_is_name, nameB]
  | list b => simp! [s_is_name, m_is_name, nameB]
  | tuple b => simp! [s_is_name, m_is_name, nameB]
  | str x =>
    simp only [okD, Bool.and_eq_true, decide_eq_true_eq] at h
    have hl : x.length ≤ LIM := Nat.le_trans h.2 (by decide)
    have e1 : lc_is_name_1 [.dat (.str x), .un] = .ok (.list (x.cps.toList.map fun c => .bool (decide (c ∈ lets.cps.toList)))) [.dat (.str x), .un] := by
      unfold lc_is_name_1
      refine lc_map x.cps.toList (fun c => .str ⟨#[c]⟩) _ (by simp! [itemsOf, signsD]) (by simp) (fun q hq => by simp! [elF, wipeE, inSign, lets]) ?_
      have : x.cps.toList.length = x.length := by simp [Str.length]
      rw [this]
      exact Nat.le_trans h.2 (by decide)
    unfold nameB nameS
    by_cases h1 : 1 ≤ x.length
    · by_cases h2 : x.length ≤ 8
      · have g1 : (1 : Int) ≤ (x.length : Nat) := by omega
        have g2 : ((x.length : Nat) : Int) ≤ 8 := by omega
        simp! [s_is_name, m_is_name, hl, e1, allF_map, h1, h2, g1, g2]
      · have g1 : (1 : Int) ≤ (x.length : Nat) := by omega
        have g2 : ¬ ((x.length : Nat) : Int) ≤ 8 := by omega
        simp! [s_is_name, m_is_name, hl, h1, h2, g1, g2]
    · have g1 : ¬ (1 : Int) ≤ (x.length : Nat) := by omega
      simp! [s_is_name, m_is_name, hl, h1, g1]
def formC : List D → Bool
  | [a, b, c] => nameB a && (isFl 1 b && isFl 1 c)
  | _ => false
def formF (g : D → Bool) : List D → Bool
  | [a, b] => isFl 1 a && g b
  | _ => false
def formS (g : D → Bool) : List D → Bool
  | [.tuple rs] => rs.all g
  | _ => false
def formW (g : D → Bool) (w : Str) (r : List D) : Bool :=
  if w = wNone then r.isEmpty else if w = wCall then formC r else if w = wWithin ∨ w = wCalls then formF g r else if w = wAll ∨ w = wOne then formS g r else false
def isFormB : Nat → D → Bool
  | 0, _ => false
  | k + 1, .tuple (.str w :: r) => formW (isFormB k) w r
  | _ + 1, _ => false
theorem isForm_w (k : Nat) (w : Str) (r : List D) : isFormB (k + 1) (.tuple (.str w :: r)) = formW (isFormB k) w r := by rw [isFormB]
theorem okD_str {x : Str} (h : okD (.str x) = true) : PyData.strOk x = true ∧ x.length ≤ LIM := by
  simp only [okD, Bool.and_eq_true, decide_eq_true_eq] at h
  exact ⟨h.1, Nat.le_trans h.2 (by decide)⟩
theorem okD_tup {ds : List D} (h : okD (.tuple ds) = true) : ds.length ≤ LIM ∧ okDs ds = true := by
  simp only [okD, Bool.and_eq_true, decide_eq_true_eq] at h
  exact ⟨Nat.le_trans h.1 (by decide), h.2⟩
theorem at2' {α : Type} (a b c : α) (l : List α) : atI (a :: b :: c :: l) 2 = some c := by
  unfold atI ixN
  rw [if_pos (by omega), if_pos (by simp only [List.length_cons]; omega)]
  rfl
theorem is_form_gen : ∀ (k n : Nat) (d : D), okD d = true → k < n → s_is_form n [.dat d, .dat (.int (k : Nat))] = .ok (.dat (.bool (isFormB k d))) [.dat d, .dat (.int (k : Nat))] := by
  intro k
  induction k with
  | zero =>
    intro n d hd hn
    obtain ⟨m, rfl⟩ : ∃ m, n = m + 1 := ⟨n - 1, by omega⟩
    rw [r_is_form]
    cases d with
    | dict _ => simp [okD] at hd
    | tuple ds =>
      cases ds with
      | nil => simp! [m_is_form, isFormB, eqD_int]
      | cons a r =>
        have ha : notX a = true := okD_nx (okDs_mem (okD_tup hd).2 List.mem_cons_self)
        have ne : ¬ ((r.length : Int) + 1 = 0) := by omega
        cases a <;> first | (simp [okD, okDs] at hd; done) | simp! [m_is_form, isFormB, eqD_int, ne, at0]
    | _ => simp! [m_is_form, isFormB]
  | succ k ih =>
    intro n d hd hn
    obtain ⟨m, rfl⟩ : ∃ m, n = m + 1 := ⟨n - 1, by omega⟩
    have hm : k < m := by omega
    rw [r_is_form]
    cases d with
    | dict _ => simp [okD] at hd
    | tuple ds =>
      cases ds with
      | nil => simp! [m_is_form, isFormB, eqD_int]
      | cons a r =>
        obtain ⟨hlen, hall⟩ := okD_tup hd
        have ha : notX a = true := okD_nx (okDs_mem hall List.mem_cons_self)
        have ne : ¬ ((r.length : Int) + 1 = 0) := by omega
        have nl : ¬ ((k : Int) + 1 < 1) := by omega
        have hr : ∀ x ∈ r, okD x = true := fun x hx => okDs_mem hall (List.mem_cons_of_mem _ hx)
        have ks : ((k : Int) + 1 - 1) = (k : Int) := by omega
        cases a with
        | str w =>
          obtain ⟨hw, _⟩ := okD_str (okDs_mem hall List.mem_cons_self)
          have c1 := eqS hw (strOkW "none")
          have c2 := eqS hw (strOkW "call")
          have h16 : r.length ≤ 16000 := by
            simp only [okD, Bool.and_eq_true, decide_eq_true_eq, List.length_cons] at hd
            omega
          have c3 : inD (.str w) (.tuple [.str wWithin, .str wCalls]) = some (.bool (decide (w = wWithin) || decide (w = wCalls))) := inS2
          have c4 : inD (.str w) (.tuple [.str wAll, .str wOne]) = some (.bool (decide (w = wAll) || decide (w = wOne))) := inS2
          have c5 : ninD (.str w) (.tuple [.str wAll, .str wOne]) = some (.bool (!(decide (w = wAll) || decide (w = wOne)))) := by
            have := @inS2 w wAll wOne
            unfold inD at this
            unfold ninD
            simp only [flatD, List.all_cons, List.all_nil, Bool.and_true, Bool.and_self, if_true, Option.some.injEq, PyData.bool.injEq] at this ⊢
            rw [this]
          by_cases h1 : w = wNone
          · subst h1
            have e : isFormB (k + 1) (.tuple (.str wNone :: r)) = r.isEmpty := by rw [isForm_w, formW, if_pos rfl]
            rw [e]
            have f1 : decide (r = []) = r.isEmpty := by cases r <;> simp
            simp! [m_is_form, eqD_int, at0, nl, gStarM, gN, h16, ew_none_none, ew_none_call, ew_none_all, ew_none_one, ew_none_within, ew_none_calls, ew_call_none, ew_call_call, ew_call_all, ew_call_one, ew_call_within, ew_call_calls, ew_all_none, ew_all_call, ew_all_all, ew_all_one, ew_all_within, ew_all_calls, ew_one_none, ew_one_call, ew_one_all, ew_one_one, ew_one_within, ew_one_calls, ew_within_none, ew_within_call, ew_within_all, ew_within_one, ew_within_within, ew_within_calls, ew_calls_none, ew_calls_call, ew_calls_all, ew_calls_one, ew_calls_within, ew_calls_calls, iw_none_all, iw_none_within, iw_call_all, iw_call_within, iw_all_all, iw_all_within, iw_one_all, iw_one_within, iw_within_all, iw_within_within, iw_calls_all, iw_calls_within, ne, f1]
          by_cases h2 : w = wCall
          · subst h2
            have e : isFormB (k + 1) (.tuple (.str wCall :: r)) = formC r := by rw [isForm_w, formW, if_neg h1, if_pos rfl]
            rw [e]
            match r, h16, hr, ne with
            | [], h16, _, _ => simp! [formC, m_is_form, eqD_int, at0, nl, gStarM, gN, h16, ew_none_none, ew_none_call, ew_none_all, ew_none_one, ew_none_within, ew_none_calls, ew_call_none, ew_call_call, ew_call_all, ew_call_one, ew_call_within, ew_call_calls, ew_all_none, ew_all_call, ew_all_all, ew_all_one, ew_all_within, ew_all_calls, ew_one_none, ew_one_call, ew_one_all, ew_one_one, ew_one_within, ew_one_calls, ew_within_none, ew_within_call, ew_within_all, ew_within_one, ew_within_within, ew_within_calls, ew_calls_none, ew_calls_call, ew_calls_all, ew_calls_one, ew_calls_within, ew_calls_calls, iw_none_all, iw_none_within, iw_call_all, iw_call_within, iw_all_all, iw_all_within, iw_one_all, iw_one_within, iw_within_all, iw_within_within, iw_calls_all, iw_calls_within]
            | [a], h16, _, _ => simp! [formC, m_is_form, eqD_int, at0, nl, gStarM, gN, h16, ew_none_none, ew_none_call, ew_none_all, ew_none_one, ew_none_within, ew_none_calls, ew_call_none, ew_call_call, ew_call_all, ew_call_one, ew_call_within, ew_call_calls, ew_all_none, ew_all_call, ew_all_all, ew_all_one, ew_all_within, ew_all_calls, ew_one_none, ew_one_call, ew_one_all, ew_one_one, ew_one_within, ew_one_calls, ew_within_none, ew_within_call, ew_within_all, ew_within_one, ew_within_within, ew_within_calls, ew_calls_none, ew_calls_call, ew_calls_all, ew_calls_one, ew_calls_within, ew_calls_calls, iw_none_all, iw_none_within, iw_call_all, iw_call_within, iw_all_all, iw_all_within, iw_one_all, iw_one_within, iw_within_all, iw_within_within, iw_calls_all, iw_calls_within]
            | [a, b], h16, _, _ => simp! [formC, m_is_form, eqD_int, at0, nl, gStarM, gN, h16, ew_none_none, ew_none_call, ew_none_all, ew_none_one, ew_none_within, ew_none_calls, ew_call_none, ew_call_call, ew_call_all, ew_call_one, ew_call_within, ew_call_calls, ew_all_none, ew_all_call, ew_all_all, ew_all_one, ew_all_within, ew_all_calls, ew_one_none, ew_one_call, ew_one_all, ew_one_one, ew_one_within, ew_one_calls, ew_within_none, ew_within_call, ew_within_all, ew_within_one, ew_within_within, ew_within_calls, ew_calls_none, ew_calls_call, ew_calls_all, ew_calls_one, ew_calls_within, ew_calls_calls, iw_none_all, iw_none_within, iw_call_all, iw_call_within, iw_all_all, iw_all_within, iw_one_all, iw_one_within, iw_within_all, iw_within_within, iw_calls_all, iw_calls_within]
            | [a, b, c], h16, hr, _ =>
              have e1 := is_name_gen a (hr a (by simp))
              have e2 := is_from_gen 1 b (okD_nx (hr b (by simp)))
              have e3 := is_from_gen 1 c (okD_nx (hr c (by simp)))
              cases q1 : nameB a with
              | false =>
                rw [q1] at e1
                simp! [formC, m_is_form, eqD_int, at0, nl, gStarM, gN, h16, ew_none_none, ew_none_call, ew_none_all, ew_none_one, ew_none_within, ew_none_calls, ew_call_none, ew_call_call, ew_call_all, ew_call_one, ew_call_within, ew_call_calls, ew_all_none, ew_all_call, ew_all_all, ew_all_one, ew_all_within, ew_all_calls, ew_one_none, ew_one_call, ew_one_all, ew_one_one, ew_one_within, ew_one_calls, ew_within_none, ew_within_call, ew_within_all, ew_within_one, ew_within_within, ew_within_calls, ew_calls_none, ew_calls_call, ew_calls_all, ew_calls_one, ew_calls_within, ew_calls_calls, iw_none_all, iw_none_within, iw_call_all, iw_call_within, iw_all_all, iw_all_within, iw_one_all, iw_one_within, iw_within_all, iw_within_within, iw_calls_all, iw_calls_within, e1, q1]
              | true =>
                rw [q1] at e1
                cases q2 : isFl 1 b with
                | false =>
                  rw [q2] at e2
                  simp! [formC, m_is_form, eqD_int, at0, nl, gStarM, gN, h16, ew_none_none, ew_none_call, ew_none_all, ew_none_one, ew_none_within, ew_none_calls, ew_call_none, ew_call_call, ew_call_all, ew_call_one, ew_call_within, ew_call_calls, ew_all_none, ew_all_call, ew_all_all, ew_all_one, ew_all_within, ew_all_calls, ew_one_none, ew_one_call, ew_one_all, ew_one_one, ew_one_within, ew_one_calls, ew_within_none, ew_within_call, ew_within_all, ew_within_one, ew_within_within, ew_within_calls, ew_calls_none, ew_calls_call, ew_calls_all, ew_calls_one, ew_calls_within, ew_calls_calls, iw_none_all, iw_none_within, iw_call_all, iw_call_within, iw_all_all, iw_all_within, iw_one_all, iw_one_within, iw_within_all, iw_within_within, iw_calls_all, iw_calls_within, at1, e1, e2, q1, q2]
                | true =>
                  rw [q2] at e2
                  simp! [formC, m_is_form, eqD_int, at0, nl, gStarM, gN, h16, ew_none_none, ew_none_call, ew_none_all, ew_none_one, ew_none_within, ew_none_calls, ew_call_none, ew_call_call, ew_call_all, ew_call_one, ew_call_within, ew_call_calls, ew_all_none, ew_all_call, ew_all_all, ew_all_one, ew_all_within, ew_all_calls, ew_one_none, ew_one_call, ew_one_all, ew_one_one, ew_one_within, ew_one_calls, ew_within_none, ew_within_call, ew_within_all, ew_within_one, ew_within_within, ew_within_calls, ew_calls_none, ew_calls_call, ew_calls_all, ew_calls_one, ew_calls_within, ew_calls_calls, iw_none_all, iw_none_within, iw_call_all, iw_call_within, iw_all_all, iw_all_within, iw_one_all, iw_one_within, iw_within_all, iw_within_within, iw_calls_all, iw_calls_within, at1, at2', e1, e2, e3, q1, q2]
            | a :: b :: c :: d :: t, h16, _, _ =>
              have n3 : ¬ ((t.length : Int) + 1 + 1 + 1 + 1 = 3) := by omega
              have n0 : ¬ ((t.length : Int) + 1 + 1 + 1 + 1 + 1 = 0) := by omega
              have h16' : t.length + 1 + 1 + 1 + 1 ≤ 16000 := by simpa using h16
              simp! [formC, m_is_form, eqD_int, at0, nl, gStarM, gN, h16, ew_none_none, ew_none_call, ew_none_all, ew_none_one, ew_none_within, ew_none_calls, ew_call_none, ew_call_call, ew_call_all, ew_call_one, ew_call_within, ew_call_calls, ew_all_none, ew_all_call, ew_all_all, ew_all_one, ew_all_within, ew_all_calls, ew_one_none, ew_one_call, ew_one_all, ew_one_one, ew_one_within, ew_one_calls, ew_within_none, ew_within_call, ew_within_all, ew_within_one, ew_within_within, ew_within_calls, ew_calls_none, ew_calls_call, ew_calls_all, ew_calls_one, ew_calls_within, ew_calls_calls, iw_none_all, iw_none_within, iw_call_all, iw_call_within, iw_all_all, iw_all_within, iw_one_all, iw_one_within, iw_within_all, iw_within_within, iw_calls_all, iw_calls_within, h16', n3, n0]
          have fr : ∀ w' : Str, w = w' → (w' = wWithin ∨ w' = wCalls) → s_is_form (m + 1) [.dat (.tuple (.str w :: r)), .dat (.int ((k : Int) + 1))] = .ok (.dat (.bool (formF (isFormB k) r))) [.dat (.tuple (.str w :: r)), .dat (.int ((k : Int) + 1))] := by
            intro w' ew hw'
            rw [r_is_form]
            have c3' : inD (.str w) (.tuple [.str wWithin, .str wCalls]) = some (.bool true) := by
              rw [c3]
              rcases hw' with z | z <;> simp [ew, z]
            have c1' : eqD (.str w) (.str (Str.ofString "none")) = some (.bool false) := by rw [c1]; simp [h1]
            have c2' : eqD (.str w) (.str (Str.ofString "call")) = some (.bool false) := by rw [c2]; simp [h2]
            match r, h16, hr, ne with
            | [], h16, _, _ => simp! [formF, m_is_form, eqD_int, at0, nl, gStarM, gN, h16, ew_none_none, ew_none_call, ew_none_all, ew_none_one, ew_none_within, ew_none_calls, ew_call_none, ew_call_call, ew_call_all, ew_call_one, ew_call_within, ew_call_calls, ew_all_none, ew_all_call, ew_all_all, ew_all_one, ew_all_within, ew_all_calls, ew_one_none, ew_one_call, ew_one_all, ew_one_one, ew_one_within, ew_one_calls, ew_within_none, ew_within_call, ew_within_all, ew_within_one, ew_within_within, ew_within_calls, ew_calls_none, ew_calls_call, ew_calls_all, ew_calls_one, ew_calls_within, ew_calls_calls, iw_none_all, iw_none_within, iw_call_all, iw_call_within, iw_all_all, iw_all_within, iw_one_all, iw_one_within, iw_within_all, iw_within_within, iw_calls_all, iw_calls_within, c1', c2', c3']
            | [a], h16, _, _ => simp! [formF, m_is_form, eqD_int, at0, nl, gStarM, gN, h16, ew_none_none, ew_none_call, ew_none_all, ew_none_one, ew_none_within, ew_none_calls, ew_call_none, ew_call_call, ew_call_all, ew_call_one, ew_call_within, ew_call_calls, ew_all_none, ew_all_call, ew_all_all, ew_all_one, ew_all_within, ew_all_calls, ew_one_none, ew_one_call, ew_one_all, ew_one_one, ew_one_within, ew_one_calls, ew_within_none, ew_within_call, ew_within_all, ew_within_one, ew_within_within, ew_within_calls, ew_calls_none, ew_calls_call, ew_calls_all, ew_calls_one, ew_calls_within, ew_calls_calls, iw_none_all, iw_none_within, iw_call_all, iw_call_within, iw_all_all, iw_all_within, iw_one_all, iw_one_within, iw_within_all, iw_within_within, iw_calls_all, iw_calls_within, c1', c2', c3']
            | [a, b], h16, hr, _ =>
              have e2 := is_from_gen 1 a (okD_nx (hr a (by simp)))
              have e3 := ih m b (hr b (by simp)) hm
              cases q2 : isFl 1 a with
              | false =>
                rw [q2] at e2
                simp! [formF, m_is_form, eqD_int, at0, nl, gStarM, gN, h16, ew_none_none, ew_none_call, ew_none_all, ew_none_one, ew_none_within, ew_none_calls, ew_call_none, ew_call_call, ew_call_all, ew_call_one, ew_call_within, ew_call_calls, ew_all_none, ew_all_call, ew_all_all, ew_all_one, ew_all_within, ew_all_calls, ew_one_none, ew_one_call, ew_one_all, ew_one_one, ew_one_within, ew_one_calls, ew_within_none, ew_within_call, ew_within_all, ew_within_one, ew_within_within, ew_within_calls, ew_calls_none, ew_calls_call, ew_calls_all, ew_calls_one, ew_calls_within, ew_calls_calls, iw_none_all, iw_none_within, iw_call_all, iw_call_within, iw_all_all, iw_all_within, iw_one_all, iw_one_within, iw_within_all, iw_within_within, iw_calls_all, iw_calls_within, c1', c2', c3', at1, e2, q2]
              | true =>
                rw [q2] at e2
                simp! [formF, m_is_form, eqD_int, at0, nl, gStarM, gN, h16, ew_none_none, ew_none_call, ew_none_all, ew_none_one, ew_none_within, ew_none_calls, ew_call_none, ew_call_call, ew_call_all, ew_call_one, ew_call_within, ew_call_calls, ew_all_none, ew_all_call, ew_all_all, ew_all_one, ew_all_within, ew_all_calls, ew_one_none, ew_one_call, ew_one_all, ew_one_one, ew_one_within, ew_one_calls, ew_within_none, ew_within_call, ew_within_all, ew_within_one, ew_within_within, ew_within_calls, ew_calls_none, ew_calls_call, ew_calls_all, ew_calls_one, ew_calls_within, ew_calls_calls, iw_none_all, iw_none_within, iw_call_all, iw_call_within, iw_all_all, iw_all_within, iw_one_all, iw_one_within, iw_within_all, iw_within_within, iw_calls_all, iw_calls_within, c1', c2', c3', at1, e2, e3, q2, ks]
            | a :: b :: d :: t, h16, _, _ =>
              have n3 : ¬ ((t.length : Int) + 1 + 1 + 1 = 2) := by omega
              have n0 : ¬ ((t.length : Int) + 1 + 1 + 1 + 1 = 0) := by omega
              have h16' : t.length + 1 + 1 + 1 ≤ 16000 := by simpa using h16
              simp! [formF, m_is_form, eqD_int, at0, nl, gStarM, gN, h16, ew_none_none, ew_none_call, ew_none_all, ew_none_one, ew_none_within, ew_none_calls, ew_call_none, ew_call_call, ew_call_all, ew_call_one, ew_call_within, ew_call_calls, ew_all_none, ew_all_call, ew_all_all, ew_all_one, ew_all_within, ew_all_calls, ew_one_none, ew_one_call, ew_one_all, ew_one_one, ew_one_within, ew_one_calls, ew_within_none, ew_within_call, ew_within_all, ew_within_one, ew_within_within, ew_within_calls, ew_calls_none, ew_calls_call, ew_calls_all, ew_calls_one, ew_calls_within, ew_calls_calls, iw_none_all, iw_none_within, iw_call_all, iw_call_within, iw_all_all, iw_all_within, iw_one_all, iw_one_within, iw_within_all, iw_within_within, iw_calls_all, iw_calls_within, c1', c2', c3', h16', n3, n0]
          have c1' : eqD (.str w) (.str (Str.ofString "none")) = some (.bool false) := by rw [c1]; simp [h1]
          have c2' : eqD (.str w) (.str (Str.ofString "call")) = some (.bool false) := by rw [c2]; simp [h2]
          by_cases h3 : w = wWithin ∨ w = wCalls
          · have e : isFormB (k + 1) (.tuple (.str w :: r)) = formF (isFormB k) r := by rw [isForm_w, formW, if_neg h1, if_neg h2, if_pos h3]
            rw [e, ← r_is_form]
            exact fr w rfl h3
          have c3' : inD (.str w) (.tuple [.str (Str.ofString "within"), .str (Str.ofString "calls")]) = some (.bool false) := by
            rw [c3]
            have g1 : ¬ w = wWithin := fun z => h3 (.inl z)
            have g2 : ¬ w = wCalls := fun z => h3 (.inr z)
            simp [g1, g2]
          by_cases h4 : w = wAll ∨ w = wOne
          · have e : isFormB (k + 1) (.tuple (.str w :: r)) = formS (isFormB k) r := by rw [isForm_w, formW, if_neg h1, if_neg h2, if_neg h3, if_pos h4]
            rw [e]
            have c5' : ninD (.str w) (.tuple [.str (Str.ofString "all"), .str (Str.ofString "one")]) = some (.bool false) := by
              rw [c5]
              rcases h4 with z | z <;> simp [z]
            match r, h16, hr, ne with
            | [], h16, _, _ => simp! [formS, m_is_form, eqD_int, at0, nl, gStarM, gN, h16, ew_none_none, ew_none_call, ew_none_all, ew_none_one, ew_none_within, ew_none_calls, ew_call_none, ew_call_call, ew_call_all, ew_call_one, ew_call_within, ew_call_calls, ew_all_none, ew_all_call, ew_all_all, ew_all_one, ew_all_within, ew_all_calls, ew_one_none, ew_one_call, ew_one_all, ew_one_one, ew_one_within, ew_one_calls, ew_within_none, ew_within_call, ew_within_all, ew_within_one, ew_within_within, ew_within_calls, ew_calls_none, ew_calls_call, ew_calls_all, ew_calls_one, ew_calls_within, ew_calls_calls, iw_none_all, iw_none_within, iw_call_all, iw_call_within, iw_all_all, iw_all_within, iw_one_all, iw_one_within, iw_within_all, iw_within_within, iw_calls_all, iw_calls_within, c1', c2', c3', c5', neD_int]
            | [.tuple rs], h16, hr, _ =>
              obtain ⟨hl, ha⟩ := okD_tup (hr (.tuple rs) (by simp))
              have e1 : lc_is_form_1 (s_is_form m) [.dat (.tuple [.str w, .tuple rs]), .dat (.int ((k : Int) + 1)), .dat (.str w), .dat (.list [.tuple rs]), .un] = .ok (.list (rs.map fun d => .bool (isFormB k d))) [.dat (.tuple [.str w, .tuple rs]), .dat (.int ((k : Int) + 1)), .dat (.str w), .dat (.list [.tuple rs]), .un] := by
                unfold lc_is_form_1
                exact lc_map rs id _ (by simp! [at0, itemsOf]) (by simp) (fun q hq => by simp! [elF, wipeE, ks, ih m q (okDs_mem ha hq) hm]) hl
              simp! [formS, m_is_form, eqD_int, at0, nl, gStarM, gN, h16, ew_none_none, ew_none_call, ew_none_all, ew_none_one, ew_none_within, ew_none_calls, ew_call_none, ew_call_call, ew_call_all, ew_call_one, ew_call_within, ew_call_calls, ew_all_none, ew_all_call, ew_all_all, ew_all_one, ew_all_within, ew_all_calls, ew_one_none, ew_one_call, ew_one_all, ew_one_one, ew_one_within, ew_one_calls, ew_within_none, ew_within_call, ew_within_all, ew_within_one, ew_within_within, ew_within_calls, ew_calls_none, ew_calls_call, ew_calls_all, ew_calls_one, ew_calls_within, ew_calls_calls, iw_none_all, iw_none_within, iw_call_all, iw_call_within, iw_all_all, iw_all_within, iw_one_all, iw_one_within, iw_within_all, iw_within_within, iw_calls_all, iw_calls_within, c1', c2', c3', c5', neD_int, e1, allF_map]
            | [.none], h16, hr, _ => simp! [formS, m_is_form, eqD_int, at0, nl, gStarM, gN, h16, ew_none_none, ew_none_call, ew_none_all, ew_none_one, ew_none_within, ew_none_calls, ew_call_none, ew_call_call, ew_call_all, ew_call_one, ew_call_within, ew_call_calls, ew_all_none, ew_all_call, ew_all_all, ew_all_one, ew_all_within, ew_all_calls, ew_one_none, ew_one_call, ew_one_all, ew_one_one, ew_one_within, ew_one_calls, ew_within_none, ew_within_call, ew_within_all, ew_within_one, ew_within_within, ew_within_calls, ew_calls_none, ew_calls_call, ew_calls_all, ew_calls_one, ew_calls_within, ew_calls_calls, iw_none_all, iw_none_within, iw_call_all, iw_call_within, iw_all_all, iw_all_within, iw_one_all, iw_one_within, iw_within_all, iw_within_within, iw_calls_all, iw_calls_within, c1', c2', c3', c5', neD_int]
            | [.bool _], h16, hr, _ => simp! [formS, m_is_form, eqD_int, at0, nl, gStarM, gN, h16, ew_none_none, ew_none_call, ew_none_all, ew_none_one, ew_none_within, ew_none_calls, ew_call_none, ew_call_call, ew_call_all, ew_call_one, ew_call_within, ew_call_calls, ew_all_none, ew_all_call, ew_all_all, ew_all_one, ew_all_within, ew_all_calls, ew_one_none, ew_one_call, ew_one_all, ew_one_one, ew_one_within, ew_one_calls, ew_within_none, ew_within_call, ew_within_all, ew_within_one, ew_within_within, ew_within_calls, ew_calls_none, ew_calls_call, ew_calls_all, ew_calls_one, ew_calls_within, ew_calls_calls, iw_none_all, iw_none_within, iw_call_all, iw_call_within, iw_all_all, iw_all_within, iw_one_all, iw_one_within, iw_within_all, iw_within_within, iw_calls_all, iw_calls_within, c1', c2', c3', c5', neD_int]
            | [.int _], h16, hr, _ => simp! [formS, m_is_form, eqD_int, at0, nl, gStarM, gN, h16, ew_none_none, ew_none_call, ew_none_all, ew_none_one, ew_none_within, ew_none_calls, ew_call_none, ew_call_call, ew_call_all, ew_call_one, ew_call_within, ew_call_calls, ew_all_none, ew_all_call, ew_all_all, ew_all_one, ew_all_within, ew_all_calls, ew_one_none, ew_one_call, ew_one_all, ew_one_one, ew_one_within, ew_one_calls, ew_within_none, ew_within_call, ew_within_all, ew_within_one, ew_within_within, ew_within_calls, ew_calls_none, ew_calls_call, ew_calls_all, ew_calls_one, ew_calls_within, ew_calls_calls, iw_none_all, iw_none_within, iw_call_all, iw_call_within, iw_all_all, iw_all_within, iw_one_all, iw_one_within, iw_within_all, iw_within_within, iw_calls_all, iw_calls_within, c1', c2', c3', c5', neD_int]
            | [.str _], h16, hr, _ => simp! [formS, m_is_form, eqD_int, at0, nl, gStarM, gN, h16, ew_none_none, ew_none_call, ew_none_all, ew_none_one, ew_none_within, ew_none_calls, ew_call_none, ew_call_call, ew_call_all, ew_call_one, ew_call_within, ew_call_calls, ew_all_none, ew_all_call, ew_all_all, ew_all_one, ew_all_within, ew_all_calls, ew_one_none, ew_one_call, ew_one_all, ew_one_one, ew_one_within, ew_one_calls, ew_within_none, ew_within_call, ew_within_all, ew_within_one, ew_within_within, ew_within_calls, ew_calls_none, ew_calls_call, ew_calls_all, ew_calls_one, ew_calls_within, ew_calls_calls, iw_none_all, iw_none_within, iw_call_all, iw_call_within, iw_all_all, iw_all_within, iw_one_all, iw_one_within, iw_within_all, iw_within_within, iw_calls_all, iw_calls_within, c1', c2', c3', c5', neD_int]
            | [.list _], h16, hr, _ => simp! [formS, m_is_form, eqD_int, at0, nl, gStarM, gN, h16, ew_none_none, ew_none_call, ew_none_all, ew_none_one, ew_none_within, ew_none_calls, ew_call_none, ew_call_call, ew_call_all, ew_call_one, ew_call_within, ew_call_calls, ew_all_none, ew_all_call, ew_all_all, ew_all_one, ew_all_within, ew_all_calls, ew_one_none, ew_one_call, ew_one_all, ew_one_one, ew_one_within, ew_one_calls, ew_within_none, ew_within_call, ew_within_all, ew_within_one, ew_within_within, ew_within_calls, ew_calls_none, ew_calls_call, ew_calls_all, ew_calls_one, ew_calls_within, ew_calls_calls, iw_none_all, iw_none_within, iw_call_all, iw_call_within, iw_all_all, iw_all_within, iw_one_all, iw_one_within, iw_within_all, iw_within_within, iw_calls_all, iw_calls_within, c1', c2', c3', c5', neD_int]
            | [.dict q], h16, hr, _ => exact absurd (hr (.dict q) (by simp)) (by simp [okD])
            | a :: b :: t, h16, _, _ =>
              have n3 : ¬ ((t.length : Int) + 1 + 1 = 1) := by omega
              have n0 : ¬ ((t.length : Int) + 1 + 1 + 1 = 0) := by omega
              have h16' : t.length + 1 + 1 ≤ 16000 := by simpa using h16
              simp! [formS, m_is_form, eqD_int, at0, nl, gStarM, gN, h16, ew_none_none, ew_none_call, ew_none_all, ew_none_one, ew_none_within, ew_none_calls, ew_call_none, ew_call_call, ew_call_all, ew_call_one, ew_call_within, ew_call_calls, ew_all_none, ew_all_call, ew_all_all, ew_all_one, ew_all_within, ew_all_calls, ew_one_none, ew_one_call, ew_one_all, ew_one_one, ew_one_within, ew_one_calls, ew_within_none, ew_within_call, ew_within_all, ew_within_one, ew_within_within, ew_within_calls, ew_calls_none, ew_calls_call, ew_calls_all, ew_calls_one, ew_calls_within, ew_calls_calls, iw_none_all, iw_none_within, iw_call_all, iw_call_within, iw_all_all, iw_all_within, iw_one_all, iw_one_within, iw_within_all, iw_within_within, iw_calls_all, iw_calls_within, c1', c2', c3', c5', neD_int, h16', n3, n0]
          · have e : isFormB (k + 1) (.tuple (.str w :: r)) = false := by rw [isForm_w, formW, if_neg h1, if_neg h2, if_neg h3, if_neg h4]
            rw [e]
            have c5' : ninD (.str w) (.tuple [.str (Str.ofString "all"), .str (Str.ofString "one")]) = some (.bool true) := by
              rw [c5]
              have g1 : ¬ w = wAll := fun z => h4 (.inl z)
              have g2 : ¬ w = wOne := fun z => h4 (.inr z)
              simp [g1, g2]
            simp! [m_is_form, eqD_int, at0, nl, gStarM, gN, h16, ew_none_none, ew_none_call, ew_none_all, ew_none_one, ew_none_within, ew_none_calls, ew_call_none, ew_call_call, ew_call_all, ew_call_one, ew_call_within, ew_call_calls, ew_all_none, ew_all_call, ew_all_all, ew_all_one, ew_all_within, ew_all_calls, ew_one_none, ew_one_call, ew_one_all, ew_one_one, ew_one_within, ew_one_calls, ew_within_none, ew_within_call, ew_within_all, ew_within_one, ew_within_within, ew_within_calls, ew_calls_none, ew_calls_call, ew_calls_all, ew_calls_one, ew_calls_within, ew_calls_calls, iw_none_all, iw_none_within, iw_call_all, iw_call_within, iw_all_all, iw_all_within, iw_one_all, iw_one_within, iw_within_all, iw_within_within, iw_calls_all, iw_calls_within, c1', c2', c3', c5', ne]
        | _ => first | (simp [okD, okDs] at hd; done) | simp! [formF, m_is_form, isFormB, eqD_int, ne, at0]
    | _ => simp! [formF, m_is_form, isFormB]
end Lw
namespace Bt
open PySem L2
section
variable {E : En}
end
theorem wipeE_out {E : En} {i : Nat} : ∀ {vs : List Nat}, i ∉ vs → (wipeE E vs)[i]? = E[i]?
  | [], _ => rfl
  | v :: vs, h => by
    have e : v ≠ i := fun e => h (e ▸ List.mem_cons_self)
    show ((wipeE E vs).set v .un)[i]? = _
    rw [List.getElem?_set_ne e]
    exact wipeE_out fun z => h (List.mem_cons_of_mem _ z)
theorem wipeE_in {E : En} {i : Nat} : ∀ {vs : List Nat}, i ∈ vs → i < E.length → (wipeE E vs)[i]? = some .un
  | [], h, _ => by cases h
  | v :: vs, h, hl => by
    show ((wipeE E vs).set v .un)[i]? = _
    by_cases e : v = i
    · subst e
      rw [List.getElem?_set_self (by rw [wipeE_length]; exact hl)]
    · rw [List.getElem?_set_ne e]
      cases h with
      | head => exact absurd rfl e
      | tail _ h => exact wipeE_in h hl
theorem wipeE_sub {E E' : En} {vs vs1 : List Nat} (h : wipeE E' vs1 = wipeE E vs1) (hv : ∀ i ∈ vs1, i ∈ vs) : wipeE E' vs = wipeE E vs := by
  have hl : E'.length = E.length := by rw [← wipeE_length E' vs1, h, wipeE_length]
  refine List.ext_getElem? fun i => ?_
  by_cases hi : i ∈ vs
  · by_cases hl2 : i < E.length
    · rw [wipeE_in hi hl2, wipeE_in hi (by rw [hl]; exact hl2)]
    · rw [List.getElem?_eq_none (by rw [wipeE_length]; omega), List.getElem?_eq_none (by rw [wipeE_length]; omega)]
  · have h1 : i ∉ vs1 := fun z => hi (hv i z)
    rw [wipeE_out hi, wipeE_out hi, ← wipeE_out (E := E') h1, h, wipeE_out h1]
theorem lc2In_el {β : Type} {vs1 : List Nat} {g1 : MG} {mt1 : M Bool} {me : M D} {Ew : En} {en1 : β → D} {y : β → D} : ∀ (ys : List β) (E1 : En) (acc : List D), wipeE E1 vs1 = Ew → (∀ b ∈ ys, elF vs1 g1 mt1 me Ew (en1 b) = some (some (y b))) → acc.length + ys.length ≤ LIM →
    ∃ E', wipeE E' vs1 = Ew ∧ lc2In vs1 g1 mt1 me (ys.map en1) E1 acc = .ok (acc ++ ys.map y) E'
  | [], E1, acc, h1, _, _ => ⟨E1, h1, by simp [lc2In]⟩
  | q :: p, E1, acc, h1, h, hl => by
    have hq := h q List.mem_cons_self
    have ih := fun E2 acc' e2 hl' => lc2In_el p E2 acc' e2 (fun q hq => h q (List.mem_cons_of_mem _ hq)) hl'
    rw [List.length_cons] at hl
    rw [List.map_cons]
    unfold lc2In
    rw [h1]
    unfold elF at hq
    cases eg : g1 (en1 q) Ew with
    | none => rw [eg] at hq; cases hq
    | some E2 =>
      rw [eg] at hq
      dsimp only at hq ⊢
      cases et : mt1 E2 with
      | bad => rw [et] at hq; cases hq
      | ex _ _ => rw [et] at hq; cases hq
      | ok b E3 =>
        rw [et] at hq
        cases b with
        | false =>
          dsimp only at hq
          split at hq <;> cases hq
        | true =>
          dsimp only at hq ⊢
          cases em : me E3 with
          | bad => rw [em] at hq; cases hq
          | ex _ _ => rw [em] at hq; cases hq
          | ok z E4 =>
            rw [em] at hq
            dsimp only at hq ⊢
            split at hq
            · rename_i hw
              have e : z = y q := Option.some.inj (Option.some.inj hq)
              rw [if_pos (by omega), e]
              obtain ⟨E', q1, q2⟩ := ih E4 (acc ++ [y q]) hw (by rw [List.length_append, List.length_singleton]; omega)
              exact ⟨E', q1, by rw [q2, List.append_assoc]; rfl⟩
            · cases hq
theorem lc2Go_el {α β : Type} {vs vs1 : List Nat} {g g1 : MG} {mt mt1 : M Bool} {mi1 : M (List D)} {me : M D} {E Ew : En} {en : α → D} {q : α → List β} {en1 : β → D} {y : β → D} (hv : ∀ i ∈ vs1, i ∈ vs) : ∀ (p : List α) (E1 : En) (acc : List D), wipeE E1 vs = Ew →
    (∀ a ∈ p, ∃ E2, g (en a) Ew = some E2 ∧ mt E2 = .ok true E2 ∧ mi1 E2 = .ok ((q a).map en1) E2 ∧ wipeE E2 vs = Ew ∧ ∀ b ∈ q a, elF vs1 g1 mt1 me (wipeE E2 vs1) (en1 b) = some (some (y b))) → acc.length + (p.flatMap q).length ≤ LIM →
    ∃ E', wipeE E' vs = Ew ∧ lc2Go vs vs1 g g1 mt mt1 mi1 me E (p.map en) E1 acc = .ok (.list (acc ++ (p.flatMap q).map y)) (backE E E' vs)
  | [], E1, acc, h1, _, _ => ⟨E1, h1, by simp [lc2Go]⟩
  | a :: p, E1, acc, h1, h, hl => by
    obtain ⟨E2, e1, e2, e3, e4, e5⟩ := h a List.mem_cons_self
    rw [List.flatMap_cons, List.length_append] at hl
    obtain ⟨E3, w3, e6⟩ := lc2In_el (q a) E2 acc rfl e5 (by omega)
    have w4 : wipeE E3 vs = Ew := (wipeE_sub w3 hv).trans e4
    obtain ⟨E', q1, q2⟩ := lc2Go_el (E := E) hv p E3 (acc ++ (q a).map y) w4 (fun a ha => h a (List.mem_cons_of_mem _ ha)) (by rw [List.length_append, List.length_map]; omega)
    refine ⟨E', q1, ?_⟩
    rw [List.map_cons]
    unfold lc2Go
    rw [h1, e1]
    dsimp only
    rw [e2]
    dsimp only
    rw [e3]
    dsimp only
    rw [e6]
    dsimp only
    rw [q2, List.flatMap_cons, List.map_append, List.append_assoc]
theorem lc2_map {α β : Type} {mi mi1 : M (List D)} {vs vs1 : List Nat} {g g1 : MG} {mt mt1 : M Bool} {me : M D} {E E0 : En} (p : List α) (en : α → D) (q : α → List β) (en1 : β → D) (y : β → D) (hi : mi E0 = .ok (p.map en) E) (hv : ∀ v ∈ vs, (∃ d, E[v]? = some (.dat d)) ∨ E[v]? = some .un) (hs : ∀ i ∈ vs1, i ∈ vs)
    (h : ∀ a ∈ p, ∃ E2, g (en a) (wipeE E vs) = some E2 ∧ mt E2 = .ok true E2 ∧ mi1 E2 = .ok ((q a).map en1) E2 ∧ wipeE E2 vs = wipeE E vs ∧ ∀ b ∈ q a, elF vs1 g1 mt1 me (wipeE E2 vs1) (en1 b) = some (some (y b))) (hl : (p.flatMap q).length ≤ LIM) :
    mLc2 mi g mt mi1 g1 mt1 me vs vs1 E0 = .ok (.list ((p.flatMap q).map y)) E := by
  unfold mLc2 bnd
  rw [hi]
  obtain ⟨E', h1, h2⟩ := lc2Go_el (E := E) hs p E [] rfl h (by simpa using hl)
  show lc2Go vs vs1 g g1 mt mt1 mi1 me E (p.map en) E [] = _
  rw [h2, backE_same h1 hv, List.nil_append]
theorem skGo_el {α : Type} {vs : List Nat} {g : MG} {mt : M Bool} {me : M D} {E Ew : En} {en : α → D} {y : α → D} {ky : α → Key} : ∀ (p : List α) (E1 : En) (acc : List Key), wipeE E1 vs = Ew → (∀ q ∈ p, elF vs g mt me Ew (en q) = some (some (y q)) ∧ keyOf (y q) = some (ky q)) → acc.length + p.length ≤ 2000 →
    ∃ E', wipeE E' vs = Ew ∧ skGo vs g mt me E (p.map en) E1 acc = .ok (.int (cntK ((p.map ky).reverse ++ acc))) (backE E E' vs)
  | [], E1, acc, h1, _, _ => ⟨E1, h1, by simp [skGo]⟩
  | q :: p, E1, acc, h1, h, hl => by
    obtain ⟨hq, hk⟩ := h q List.mem_cons_self
    have ih := fun E2 acc' e2 hl' => skGo_el (E := E) (ky := ky) p E2 acc' e2 (fun q hq => h q (List.mem_cons_of_mem _ hq)) hl'
    rw [List.length_cons] at hl
    rw [List.map_cons]
    unfold skGo
    rw [h1]
    unfold elF at hq
    cases eg : g (en q) Ew with
    | none => rw [eg] at hq; cases hq
    | some E2 =>
      rw [eg] at hq
      dsimp only at hq ⊢
      cases et : mt E2 with
      | bad => rw [et] at hq; cases hq
      | ex _ _ => rw [et] at hq; cases hq
      | ok b E3 =>
        rw [et] at hq
        cases b with
        | false =>
          dsimp only at hq
          split at hq <;> cases hq
        | true =>
          dsimp only at hq ⊢
          cases em : me E3 with
          | bad => rw [em] at hq; cases hq
          | ex _ _ => rw [em] at hq; cases hq
          | ok z E4 =>
            rw [em] at hq
            dsimp only at hq ⊢
            split at hq
            · rename_i hw
              have e : z = y q := Option.some.inj (Option.some.inj hq)
              rw [e, hk]
              dsimp only
              rw [if_pos (by omega)]
              obtain ⟨E', q1, q2⟩ := ih E4 (ky q :: acc) hw (by rw [List.length_cons]; omega)
              exact ⟨E', q1, by rw [q2, List.map_cons, List.reverse_cons, List.append_assoc]; rfl⟩
            · cases hq
theorem lenK_map {α : Type} {mi : M (List D)} {vs : List Nat} {g : MG} {mt : M Bool} {me : M D} {E E0 : En} (p : List α) (en : α → D) (y : α → D) (ky : α → Key) (hi : mi E0 = .ok (p.map en) E) (hv : ∀ v ∈ vs, (∃ d, E[v]? = some (.dat d)) ∨ E[v]? = some .un) (h : ∀ q ∈ p, elF vs g mt me (wipeE E vs) (en q) = some (some (y q)) ∧ keyOf (y q) = some (ky q)) (hl : p.length ≤ 2000) :
    mLenK mi g mt me vs E0 = .ok (.int (cntK (p.map ky).reverse)) E := by
  unfold mLenK bnd
  rw [hi]
  obtain ⟨E', h1, h2⟩ := skGo_el (E := E) (ky := ky) p E [] rfl h (by simpa using hl)
  show skGo vs g mt me E (p.map en) E [] = _
  rw [h2, backE_same h1 hv, List.append_nil]
theorem cntK_eq : ∀ l : List Key, cntK l = l.length ↔ l.Nodup
  | [] => by simp [cntK]
  | k :: r => by
    have ih := cntK_eq r
    have le := cntK_le r
    unfold cntK
    rw [List.nodup_cons, List.length_cons]
    by_cases h : memK k r = true
    · rw [if_pos h]
      have hm := memK_iff.mp h
      constructor
      · intro e; omega
      · intro e; exact absurd hm e.1
    · rw [if_neg h]
      have hm : k ∉ r := fun z => h (memK_iff.mpr z)
      constructor
      · intro e; exact ⟨hm, ih.mp (by omega)⟩
      · intro e; rw [ih.mpr e.2]
end Bt
namespace Lw
open PySem L2 Bt
inductive Rt where
  | none
  | call (nm : Str) (most times : Int)
  | all (rs : List Rt)
  | one (rs : List Rt)
  | within (n : Int) (r : Rt)
  | calls (n : Int) (r : Rt)
mutual
theorem Rt.ind {P : Rt → Prop} (h0 : P .none) (h1 : ∀ x m t, P (.call x m t)) (h2 : ∀ rs, (∀ r ∈ rs, P r) → P (.all rs)) (h3 : ∀ rs, (∀ r ∈ rs, P r) → P (.one rs)) (h4 : ∀ n r, P r → P (.within n r)) (h5 : ∀ n r, P r → P (.calls n r)) : ∀ r, P r
  | .none => h0
  | .call x m t => h1 x m t
  | .all rs => h2 rs (Rt.inds h0 h1 h2 h3 h4 h5 rs)
  | .one rs => h3 rs (Rt.inds h0 h1 h2 h3 h4 h5 rs)
  | .within n r => h4 n r (Rt.ind h0 h1 h2 h3 h4 h5 r)
  | .calls n r => h5 n r (Rt.ind h0 h1 h2 h3 h4 h5 r)
theorem Rt.inds {P : Rt → Prop} (h0 : P .none) (h1 : ∀ x m t, P (.call x m t)) (h2 : ∀ rs, (∀ r ∈ rs, P r) → P (.all rs)) (h3 : ∀ rs, (∀ r ∈ rs, P r) → P (.one rs)) (h4 : ∀ n r, P r → P (.within n r)) (h5 : ∀ n r, P r → P (.calls n r)) : ∀ rs : List Rt, ∀ r ∈ rs, P r
  | [], _, h => nomatch h
  | q :: qs, r, h => by
    rcases List.mem_cons.mp h with e | h
    · rw [e]; exact Rt.ind h0 h1 h2 h3 h4 h5 q
    · exact Rt.inds h0 h1 h2 h3 h4 h5 qs r h
end
mutual
def encR : Rt → D
  | .none => .tuple [.str wNone]
  | .call x m t => .tuple [.str wCall, .str x, .int m, .int t]
  | .all rs => .tuple [.str wAll, .tuple (encRs rs)]
  | .one rs => .tuple [.str wOne, .tuple (encRs rs)]
  | .within n r => .tuple [.str wWithin, .int n, encR r]
  | .calls n r => .tuple [.str wCalls, .int n, encR r]
def encRs : List Rt → List D
  | [] => []
  | r :: rs => encR r :: encRs rs
end
theorem encRs_map : ∀ rs : List Rt, encRs rs = rs.map encR
  | [] => rfl
  | r :: rs => by rw [encRs, encRs_map rs, List.map_cons]
mutual
def dep : Rt → Nat
  | .none => 1
  | .call _ _ _ => 1
  | .all rs => 1 + deps rs
  | .one rs => 1 + deps rs
  | .within _ r => 1 + dep r
  | .calls _ r => 1 + dep r
def deps : List Rt → Nat
  | [] => 0
  | r :: rs => max (dep r) (deps rs)
end
theorem dep_mem {rs : List Rt} {r : Rt} (h : r ∈ rs) : dep r ≤ deps rs := by
  induction rs with
  | nil => cases h
  | cons q qs ih =>
    rw [deps]
    rcases List.mem_cons.mp h with rfl | h
    · exact Nat.le_max_left _ _
    · exact Nat.le_trans (ih h) (Nat.le_max_right _ _)
mutual
def wfR : Rt → Prop
  | .none => True
  | .call x m t => nameS x = true ∧ PyData.strOk x = true ∧ 1 ≤ m ∧ 1 ≤ t
  | .all rs => rs.length ≤ 1000 ∧ wfRs rs
  | .one rs => rs.length ≤ 1000 ∧ wfRs rs
  | .within n r => 1 ≤ n ∧ wfR r
  | .calls n r => 1 ≤ n ∧ wfR r
def wfRs : List Rt → Prop
  | [] => True
  | r :: rs => wfR r ∧ wfRs rs
end
theorem wf_mem {rs : List Rt} (h : wfRs rs) {r : Rt} (hr : r ∈ rs) : wfR r := by
  induction rs with
  | nil => cases hr
  | cons q qs ih =>
    rw [wfRs] at h
    rcases List.mem_cons.mp hr with rfl | hr
    · exact h.1
    · exact ih h.2 hr
theorem wfRs_of {rs : List Rt} (h : ∀ r ∈ rs, wfR r) : wfRs rs := by
  induction rs with
  | nil => trivial
  | cons q qs ih => exact ⟨h q List.mem_cons_self, ih fun r hr => h r (List.mem_cons_of_mem _ hr)⟩
theorem name_len {x : Str} (h : nameS x = true) : x.length ≤ 1000 := by
  unfold nameS at h
  simp only [Bool.and_eq_true, decide_eq_true_eq] at h
  omega
theorem okDs_of {ds : List D} (h : ∀ d ∈ ds, okD d = true) : okDs ds = true := by
  induction ds with
  | nil => rfl
  | cons d ds ih => simp only [okDs, Bool.and_eq_true]; exact ⟨h d List.mem_cons_self, ih fun r hr => h r (List.mem_cons_of_mem _ hr)⟩
theorem ok_none : PyData.strOk wNone = true ∧ wNone.length ≤ 1000 := ⟨strOkW _, by decide +kernel⟩
theorem ok_call : PyData.strOk wCall = true ∧ wCall.length ≤ 1000 := ⟨strOkW _, by decide +kernel⟩
theorem ok_all : PyData.strOk wAll = true ∧ wAll.length ≤ 1000 := ⟨strOkW _, by decide +kernel⟩
theorem ok_one : PyData.strOk wOne = true ∧ wOne.length ≤ 1000 := ⟨strOkW _, by decide +kernel⟩
theorem ok_within : PyData.strOk wWithin = true ∧ wWithin.length ≤ 1000 := ⟨strOkW _, by decide +kernel⟩
theorem ok_calls : PyData.strOk wCalls = true ∧ wCalls.length ≤ 1000 := ⟨strOkW _, by decide +kernel⟩
theorem okR (r : Rt) : wfR r → okD (encR r) = true := by
  induction r using Rt.ind with
  | h0 => intro _; simp [encR, okD, okDs, ok_none]
  | h1 x m t => intro h; simp only [wfR] at h; simp [encR, okD, okDs, ok_call, h.2.1, name_len h.1]
  | h2 rs ih => intro h; simp only [wfR] at h; simp [encR, okD, okDs, ok_all, encRs_map, h.1]; exact okDs_of fun d hd => by obtain ⟨r, hr, rfl⟩ := List.mem_map.mp hd; exact ih r hr (wf_mem h.2 hr)
  | h3 rs ih => intro h; simp only [wfR] at h; simp [encR, okD, okDs, ok_one, encRs_map, h.1]; exact okDs_of fun d hd => by obtain ⟨r, hr, rfl⟩ := List.mem_map.mp hd; exact ih r hr (wf_mem h.2 hr)
  | h4 n r ih => intro h; simp only [wfR] at h; simp [encR, okD, okDs, ok_within, ih h.2]
  | h5 n r ih => intro h; simp only [wfR] at h; simp [encR, okD, okDs, ok_calls, ih h.2]
theorem form_enc (r : Rt) : ∀ k, wfR r → dep r ≤ k → isFormB k (encR r) = true := by
  induction r using Rt.ind with
  | h0 =>
    intro k _ hk
    obtain ⟨k, rfl⟩ : ∃ j, k = j + 1 := ⟨k - 1, by simp [dep] at hk; omega⟩
    rw [encR, isForm_w, formW, if_pos rfl]
    rfl
  | h1 x m t =>
    intro k h hk
    obtain ⟨k, rfl⟩ : ∃ j, k = j + 1 := ⟨k - 1, by simp [dep] at hk; omega⟩
    simp only [wfR] at h
    rw [encR, isForm_w, formW, if_neg (of_decide_eq_false dw_call_none), if_pos rfl]
    simp [formC, nameB, isFl, h.1, h.2.2.1, h.2.2.2]
  | h2 rs ih =>
    intro k h hk
    obtain ⟨k, rfl⟩ : ∃ j, k = j + 1 := ⟨k - 1, by simp [dep] at hk; omega⟩
    simp only [wfR] at h
    simp only [dep] at hk
    rw [encR, isForm_w, formW, if_neg (of_decide_eq_false dw_all_none), if_neg (of_decide_eq_false dw_all_call), if_neg (not_or.mpr ⟨of_decide_eq_false dw_all_within, of_decide_eq_false dw_all_calls⟩), if_pos (.inl rfl)]
    simp only [formS, encRs_map, List.all_map, List.all_eq_true]
    intro r hr
    exact ih r hr k (wf_mem h.2 hr) (by have := dep_mem hr; omega)
  | h3 rs ih =>
    intro k h hk
    obtain ⟨k, rfl⟩ : ∃ j, k = j + 1 := ⟨k - 1, by simp [dep] at hk; omega⟩
    simp only [wfR] at h
    simp only [dep] at hk
    rw [encR, isForm_w, formW, if_neg (of_decide_eq_false dw_one_none), if_neg (of_decide_eq_false dw_one_call), if_neg (not_or.mpr ⟨of_decide_eq_false dw_one_within, of_decide_eq_false dw_one_calls⟩), if_pos (.inr rfl)]
    simp only [formS, encRs_map, List.all_map, List.all_eq_true]
    intro r hr
    exact ih r hr k (wf_mem h.2 hr) (by have := dep_mem hr; omega)
  | h4 n r ih =>
    intro k h hk
    obtain ⟨k, rfl⟩ : ∃ j, k = j + 1 := ⟨k - 1, by simp [dep] at hk; omega⟩
    simp only [wfR] at h
    simp only [dep] at hk
    rw [encR, isForm_w, formW, if_neg (of_decide_eq_false dw_within_none), if_neg (of_decide_eq_false dw_within_call), if_pos (.inl rfl)]
    simp [formF, isFl, h.1, ih k h.2 (by omega)]
  | h5 n r ih =>
    intro k h hk
    obtain ⟨k, rfl⟩ : ∃ j, k = j + 1 := ⟨k - 1, by simp [dep] at hk; omega⟩
    simp only [wfR] at h
    simp only [dep] at hk
    rw [encR, isForm_w, formW, if_neg (of_decide_eq_false dw_calls_none), if_neg (of_decide_eq_false dw_calls_call), if_pos (.inr rfl)]
    simp [formF, isFl, h.1, ih k h.2 (by omega)]
end Lw
namespace Lw
open PySem L2 Bt
mutual
def callsR : Rt → List (Str × Int × Int)
  | .none => []
  | .call x m t => [(x, m, t)]
  | .all rs => callsRs rs
  | .one rs => callsRs rs
  | .within _ r => callsR r
  | .calls _ r => callsR r
def callsRs : List Rt → List (Str × Int × Int)
  | [] => []
  | r :: rs => callsR r ++ callsRs rs
end
theorem callsRs_flat : ∀ rs : List Rt, callsRs rs = rs.flatMap callsR
  | [] => rfl
  | r :: rs => by rw [callsRs, callsRs_flat rs, List.flatMap_cons]
def encC (c : Str × Int × Int) : D := .tuple [.str wCall, .str c.1, .int c.2.1, .int c.2.2]
def partsR : Rt → List Rt
  | .all rs => rs
  | .one rs => rs
  | .within _ r => [r]
  | .calls _ r => [r]
  | _ => []
theorem at3' {α : Type} (a b c d : α) (l : List α) : atI (a :: b :: c :: d :: l) 3 = some d := by
  unfold atI ixN
  rw [if_pos (by omega), if_pos (by simp only [List.length_cons]; omega)]
  rfl
theorem parts_ok (r : Rt) : s_parts_in [.dat (encR r)] = .ok (.dat (.tuple ((partsR r).map encR))) [.dat (encR r)] := by
  cases r <;> simp! [s_parts_in, m_parts_in, encR, partsR, at0, at1, at2', encRs_map, ew_none_none, ew_none_call, ew_none_all, ew_none_one, ew_none_within, ew_none_calls, ew_call_none, ew_call_call, ew_call_all, ew_call_one, ew_call_within, ew_call_calls, ew_all_none, ew_all_call, ew_all_all, ew_all_one, ew_all_within, ew_all_calls, ew_one_none, ew_one_call, ew_one_all, ew_one_one, ew_one_within, ew_one_calls, ew_within_none, ew_within_call, ew_within_all, ew_within_one, ew_within_within, ew_within_calls, ew_calls_none, ew_calls_call, ew_calls_all, ew_calls_one, ew_calls_within, ew_calls_calls, iw_none_all, iw_none_within, iw_call_all, iw_call_within, iw_all_all, iw_all_within, iw_one_all, iw_one_within, iw_within_all, iw_within_within, iw_calls_all, iw_calls_within]
theorem callsR_parts (r : Rt) (h : ∀ x m t, r ≠ .call x m t) : callsR r = (partsR r).flatMap callsR := by
  cases r with
  | call x m t => exact absurd rfl (h x m t)
  | _ => simp [callsR, partsR, callsRs_flat]
theorem dep_parts {r q : Rt} (h : q ∈ partsR r) : dep q < dep r := by
  cases r <;> simp [partsR] at h
  · have := dep_mem h; rw [dep]; omega
  · have := dep_mem h; rw [dep]; omega
  · subst h; rw [dep]; omega
  · subst h; rw [dep]; omega
theorem calls_len {r q : Rt} (h : q ∈ partsR r) : (callsR q).length ≤ (callsR r).length := by
  have : ∀ {rs : List Rt}, q ∈ rs → (callsR q).length ≤ (rs.flatMap callsR).length := by
    intro rs
    induction rs with
    | nil => intro h; cases h
    | cons a as ih =>
      intro h
      rw [List.flatMap_cons, List.length_append]
      rcases List.mem_cons.mp h with rfl | h
      · omega
      · have := ih h; omega
  rw [callsR_parts r (by rintro x m t rfl; simp [partsR] at h)]
  exact this h
theorem calls_ok : ∀ (n : Nat) (r : Rt), dep r ≤ n → (callsR r).length ≤ 1000 → s_calls_in n [.dat (encR r)] = .ok (.dat (.list ((callsR r).map encC))) [.dat (encR r)] := by
  intro n
  induction n with
  | zero => intro r h; cases r <;> simp [dep] at h
  | succ n ih =>
    intro r hd hl
    rw [r_calls_in]
    by_cases hc : ∃ x m t, r = .call x m t
    · obtain ⟨x, m, t, rfl⟩ := hc
      simp! [m_calls_in, encR, callsR, encC, at0, ew_none_none, ew_none_call, ew_none_all, ew_none_one, ew_none_within, ew_none_calls, ew_call_none, ew_call_call, ew_call_all, ew_call_one, ew_call_within, ew_call_calls, ew_all_none, ew_all_call, ew_all_all, ew_all_one, ew_all_within, ew_all_calls, ew_one_none, ew_one_call, ew_one_all, ew_one_one, ew_one_within, ew_one_calls, ew_within_none, ew_within_call, ew_within_all, ew_within_one, ew_within_within, ew_within_calls, ew_calls_none, ew_calls_call, ew_calls_all, ew_calls_one, ew_calls_within, ew_calls_calls, iw_none_all, iw_none_within, iw_call_all, iw_call_within, iw_all_all, iw_all_within, iw_one_all, iw_one_within, iw_within_all, iw_within_within, iw_calls_all, iw_calls_within, LIM]
    · have hc' : ∀ x m t, r ≠ .call x m t := fun x m t e => hc ⟨x, m, t, e⟩
      have hw : ∃ w l, encR r = .tuple (.str w :: l) ∧ eqD (.str w) (.str (Str.ofString "call")) = some (.bool false) := by
        cases r with
        | call x m t => exact absurd rfl (hc' x m t)
        | none => exact ⟨_, _, by rw [encR], ew_none_call⟩
        | all rs => exact ⟨_, _, by rw [encR], ew_all_call⟩
        | one rs => exact ⟨_, _, by rw [encR], ew_one_call⟩
        | within k q => exact ⟨_, _, by rw [encR], ew_within_call⟩
        | calls k q => exact ⟨_, _, by rw [encR], ew_calls_call⟩
      obtain ⟨w, l, e1, e2⟩ := hw
      have e3 : lc_calls_in_1 (s_calls_in n) [.dat (encR r), .un, .un] = .ok (.list ((callsR r).map encC)) [.dat (encR r), .un, .un] := by
        unfold lc_calls_in_1
        rw [callsR_parts r hc']
        refine lc2_map (partsR r) encR callsR encC encC (by simp! [parts_ok, itemsOf]) (by simp) (by simp) (fun a ha => ?_) (by rw [← callsR_parts r hc']; exact Nat.le_trans hl (by decide))
        have ia := ih a (by have := dep_parts ha; omega) (Nat.le_trans (calls_len ha) hl)
        refine ⟨[.dat (encR r), .dat (encR a), .un], by simp [gN, wipeE], rfl, by simp! [ia, itemsOf], by simp [wipeE], fun b _ => by simp! [elF, wipeE, gN]⟩
      simp only [e1] at e3 ⊢
      simp! [m_calls_in, at0, e2, e3]
def namesR (r : Rt) : List Str := (callsR r).map (·.1)
theorem names_ok (r : Rt) (hd : dep r ≤ 30) (hl : (callsR r).length ≤ 1000) : s_names_in [.dat (encR r)] = .ok ((.ow (.l ((namesR r).map .str)))) [.dat (encR r)] := by
  have e : lc_names_in_1 [.dat (encR r), .un, .un, .un, .un] = .ok (.list ((callsR r).map fun c => .str c.1)) [.dat (encR r), .un, .un, .un, .un] := by
    unfold lc_names_in_1
    exact lc_map (callsR r) encC _ (by simp! [calls_ok 30 r hd hl, itemsOf]) (by simp) (fun q _ => by simp! [elF, wipeE, encC, gN, gTupM, gConsM, gNilM]) (Nat.le_trans hl (by decide))
  simp! [s_names_in, m_names_in, e, namesR, List.map_map, Function.comp_def]
theorem nodup_rev {α : Type} (l : List α) : l.reverse.Nodup ↔ l.Nodup := by
  unfold List.Nodup
  rw [List.pairwise_reverse]
  exact ⟨fun h => h.imp fun h => h.symm, fun h => h.imp fun h => h.symm⟩
theorem nodup_inr (l : List Str) : (l.map (Sum.inr : Str → Key)).Nodup ↔ l.Nodup := by
  unfold List.Nodup
  rw [List.pairwise_map]
  exact ⟨fun h => h.imp fun h e => h (by rw [e]), fun h => h.imp fun h e => h (Sum.inr.inj e)⟩
theorem is_right_ok (r : Rt) (hw : wfR r) (hd : dep r ≤ 6) (hl : (callsR r).length ≤ 1000) : s_is_right [.dat (encR r)] = .ok (.dat (.bool (decide (namesR r).Nodup))) [.dat (encR r)] := by
  have e1 := is_form_gen 6 30 (encR r) (okR r hw) (by omega)
  rw [form_enc r 6 hw hd] at e1
  have e1' : s_is_form 30 [.dat (encR r), .dat (.int 6)] = .ok (.dat (.bool true)) [.dat (encR r), .dat (.int 6)] := e1
  have hlen : (namesR r).length ≤ 1000 := by unfold namesR; rw [List.length_map]; exact hl
  have e2 : lc_is_right_1 [.dat (encR r), .dat (.list ((namesR r).map .str)), .un] = .ok (.int (cntK ((namesR r).map Sum.inr).reverse)) [.dat (encR r), .dat (.list ((namesR r).map .str)), .un] := by
    unfold lc_is_right_1
    exact lenK_map (namesR r) .str .str Sum.inr (by simp! [itemsOf]) (by simp) (fun q _ => ⟨by simp! [elF, wipeE, gN], rfl⟩) (by omega)
  have e3 : decide ((cntK ((namesR r).map Sum.inr).reverse : Int) = ((namesR r).length : Int)) = decide (namesR r).Nodup := by
    rw [decide_eq_decide]
    have := cntK_eq ((namesR r).map (Sum.inr : Str → Key)).reverse
    rw [List.length_reverse, List.length_map, nodup_rev, nodup_inr] at this
    constructor
    · intro e
      exact this.mp (by omega)
    · intro h
      have := this.mpr h
      omega
  simp! [s_is_right, m_is_right, e1', names_ok r (by omega) hl, e2, eqD_int, e3]
theorem look_right (r : Rt) (hw : wfR r) (hd : dep r ≤ 6) (hl : (callsR r).length ≤ 1000) (hn : (namesR r).Nodup) : s_look_at_right [.dat (encR r)] = .ok (.dat .none) [.dat (encR r)] := by
  simp! [s_look_at_right, m_look_at_right, is_right_ok r hw hd hl, hn]
end Lw
namespace Lw
open PySem L2 Bt
def cutI (m : Int) : Option Int → Int
  | none => m
  | some b => min m (b - 1)
def encB : Option Int → D
  | none => .none
  | some b => .int b
mutual
def lenR : Rt → Int
  | .none => 0
  | .call _ _ t => t
  | .all rs => lenSum rs
  | .one rs => lenMax rs
  | .within n r => min n (lenR r)
  | .calls n r => min n (lenR r)
def lenSum : List Rt → Int
  | [] => 0
  | r :: rs => lenR r + lenSum rs
def lenMax : List Rt → Int
  | [] => 0
  | r :: rs => max (lenR r) (lenMax rs)
end
theorem lenSum_eq : ∀ rs : List Rt, lenSum rs = (rs.map lenR).sum
  | [] => rfl
  | r :: rs => by rw [lenSum, lenSum_eq rs, List.map_cons, List.sum_cons]
def max0 : List Int → Int
  | [] => 0
  | x :: xs => max x (max0 xs)
theorem lenMax_eq : ∀ rs : List Rt, lenMax rs = max0 (rs.map lenR)
  | [] => rfl
  | r :: rs => by rw [lenMax, lenMax_eq rs, List.map_cons, max0]
theorem max0_nn : ∀ {l : List Int}, 0 ≤ max0 l
  | [] => Int.le_refl _
  | x :: xs => by rw [max0]; exact Int.le_trans (max0_nn (l := xs)) (Int.le_max_right _ _)
theorem maxL_max0 : ∀ {l : List Int}, (∀ x ∈ l, 0 ≤ x) → l ≠ [] → maxL l = max0 l
  | [], _, h => absurd rfl h
  | [x], h, _ => by
    have := h x List.mem_cons_self
    show x = max x 0
    omega
  | x :: y :: r, h, _ => by
    show max x (maxL (y :: r)) = max x (max0 (y :: r))
    rw [maxL_max0 (fun z hz => h z (List.mem_cons_of_mem _ hz)) (List.cons_ne_nil _ _)]
theorem maxD_0 {l : List Int} (h : ∀ x ∈ l, 0 ≤ x) : maxDf (.list (l.map .int)) (.int 0) = some (.int (max0 l)) := by
  unfold maxDf
  simp only [intsOf_map]
  cases l with
  | nil => rfl
  | cons x xs =>
    show some (PyData.int (maxL (x :: xs))) = _
    rw [maxL_max0 h (List.cons_ne_nil _ _)]
theorem max0_le {l : List Int} {m : Int} (h : ∀ x ∈ l, x ≤ m) (hm : 0 ≤ m) : max0 l ≤ m := by
  induction l with
  | nil => exact hm
  | cons x xs ih =>
    rw [max0]
    have := h x List.mem_cons_self
    have := ih fun y hy => h y (List.mem_cons_of_mem _ hy)
    omega
theorem le_max0 {l : List Int} {x : Int} (h : x ∈ l) : x ≤ max0 l := by
  induction l with
  | nil => cases h
  | cons y ys ih =>
    rw [max0]
    rcases List.mem_cons.mp h with rfl | h
    · omega
    · have := ih h; omega
theorem sum_nn {l : List Int} (h : ∀ x ∈ l, 0 ≤ x) : 0 ≤ l.sum := by
  induction l with
  | nil => simp
  | cons x xs ih =>
    rw [List.sum_cons]
    have := h x List.mem_cons_self
    have := ih fun y hy => h y (List.mem_cons_of_mem _ hy)
    omega
theorem len_nn (r : Rt) : wfR r → 0 ≤ lenR r := by
  induction r using Rt.ind with
  | h0 => intro _; simp [lenR]
  | h1 x m t => intro h; simp only [wfR] at h; simp only [lenR]; omega
  | h2 rs ih => intro h; simp only [wfR] at h; rw [lenR, lenSum_eq]; exact sum_nn fun x hx => by obtain ⟨r, hr, rfl⟩ := List.mem_map.mp hx; exact ih r hr (wf_mem h.2 hr)
  | h3 rs ih => intro h; rw [lenR, lenMax_eq]; exact max0_nn
  | h4 n r ih => intro h; simp only [wfR] at h; have := ih h.2; simp only [lenR]; omega
  | h5 n r ih => intro h; simp only [wfR] at h; have := ih h.2; simp only [lenR]; omega
theorem wf_len {rs : List Rt} (h : rs.length ≤ 1000) : rs.length ≤ LIM := Nat.le_trans h (by decide)
theorem longest_ok : ∀ (n : Nat) (r : Rt), dep r ≤ n → wfR r → s_longest_of n [.dat (encR r)] = .ok (.dat (.int (lenR r))) [.dat (encR r)] := by
  intro n
  induction n with
  | zero => intro r h; cases r <;> simp [dep] at h
  | succ n ih =>
    intro r hd hw
    rw [r_longest_of]
    cases r with
    | none => simp! [m_longest_of, encR, lenR, gStarM, gN, ew_none_none, ew_none_call, ew_none_all, ew_none_one, ew_none_within, ew_none_calls, ew_call_none, ew_call_call, ew_call_all, ew_call_one, ew_call_within, ew_call_calls, ew_all_none, ew_all_call, ew_all_all, ew_all_one, ew_all_within, ew_all_calls, ew_one_none, ew_one_call, ew_one_all, ew_one_one, ew_one_within, ew_one_calls, ew_within_none, ew_within_call, ew_within_all, ew_within_one, ew_within_within, ew_within_calls, ew_calls_none, ew_calls_call, ew_calls_all, ew_calls_one, ew_calls_within, ew_calls_calls, iw_none_all, iw_none_within, iw_call_all, iw_call_within, iw_all_all, iw_all_within, iw_one_all, iw_one_within, iw_within_all, iw_within_within, iw_calls_all, iw_calls_within]
    | call x m t => simp! [m_longest_of, encR, lenR, gStarM, gN, at2', ew_none_none, ew_none_call, ew_none_all, ew_none_one, ew_none_within, ew_none_calls, ew_call_none, ew_call_call, ew_call_all, ew_call_one, ew_call_within, ew_call_calls, ew_all_none, ew_all_call, ew_all_all, ew_all_one, ew_all_within, ew_all_calls, ew_one_none, ew_one_call, ew_one_all, ew_one_one, ew_one_within, ew_one_calls, ew_within_none, ew_within_call, ew_within_all, ew_within_one, ew_within_within, ew_within_calls, ew_calls_none, ew_calls_call, ew_calls_all, ew_calls_one, ew_calls_within, ew_calls_calls, iw_none_all, iw_none_within, iw_call_all, iw_call_within, iw_all_all, iw_all_within, iw_one_all, iw_one_within, iw_within_all, iw_within_within, iw_calls_all, iw_calls_within]
    | within k q =>
      simp only [dep] at hd
      simp only [wfR] at hw
      simp! [m_longest_of, encR, lenR, gStarM, gN, at0, at1, ih q (by omega) hw.2, ew_none_none, ew_none_call, ew_none_all, ew_none_one, ew_none_within, ew_none_calls, ew_call_none, ew_call_call, ew_call_all, ew_call_one, ew_call_within, ew_call_calls, ew_all_none, ew_all_call, ew_all_all, ew_all_one, ew_all_within, ew_all_calls, ew_one_none, ew_one_call, ew_one_all, ew_one_one, ew_one_within, ew_one_calls, ew_within_none, ew_within_call, ew_within_all, ew_within_one, ew_within_within, ew_within_calls, ew_calls_none, ew_calls_call, ew_calls_all, ew_calls_one, ew_calls_within, ew_calls_calls, iw_none_all, iw_none_within, iw_call_all, iw_call_within, iw_all_all, iw_all_within, iw_one_all, iw_one_within, iw_within_all, iw_within_within, iw_calls_all, iw_calls_within]
    | calls k q =>
      simp only [dep] at hd
      simp only [wfR] at hw
      simp! [m_longest_of, encR, lenR, gStarM, gN, at0, at1, ih q (by omega) hw.2, ew_none_none, ew_none_call, ew_none_all, ew_none_one, ew_none_within, ew_none_calls, ew_call_none, ew_call_call, ew_call_all, ew_call_one, ew_call_within, ew_call_calls, ew_all_none, ew_all_call, ew_all_all, ew_all_one, ew_all_within, ew_all_calls, ew_one_none, ew_one_call, ew_one_all, ew_one_one, ew_one_within, ew_one_calls, ew_within_none, ew_within_call, ew_within_all, ew_within_one, ew_within_within, ew_within_calls, ew_calls_none, ew_calls_call, ew_calls_all, ew_calls_one, ew_calls_within, ew_calls_calls, iw_none_all, iw_none_within, iw_call_all, iw_call_within, iw_all_all, iw_all_within, iw_one_all, iw_one_within, iw_within_all, iw_within_within, iw_calls_all, iw_calls_within]
    | all rs =>
      simp only [dep] at hd
      simp only [wfR] at hw
      have e : lc_longest_of_1 (s_longest_of n) [.dat (.tuple [.str wAll, .tuple (rs.map encR)]), .un, .dat (.str wAll), .dat (.list [.tuple (rs.map encR)]), .un] = .ok (.list (rs.map fun r => .int (lenR r))) [.dat (.tuple [.str wAll, .tuple (rs.map encR)]), .un, .dat (.str wAll), .dat (.list [.tuple (rs.map encR)]), .un] := by
        unfold lc_longest_of_1
        exact lc_map rs encR _ (by simp! [at0, itemsOf]) (by simp) (fun q hq => by simp! [elF, wipeE, gN, ih q (by have := dep_mem hq; omega) (wf_mem hw.2 hq)]) (wf_len hw.1)
      simp! [m_longest_of, encR, lenR, gStarM, gN, at0, e, encRs_map, sumF_map, lenSum_eq, ew_none_none, ew_none_call, ew_none_all, ew_none_one, ew_none_within, ew_none_calls, ew_call_none, ew_call_call, ew_call_all, ew_call_one, ew_call_within, ew_call_calls, ew_all_none, ew_all_call, ew_all_all, ew_all_one, ew_all_within, ew_all_calls, ew_one_none, ew_one_call, ew_one_all, ew_one_one, ew_one_within, ew_one_calls, ew_within_none, ew_within_call, ew_within_all, ew_within_one, ew_within_within, ew_within_calls, ew_calls_none, ew_calls_call, ew_calls_all, ew_calls_one, ew_calls_within, ew_calls_calls, iw_none_all, iw_none_within, iw_call_all, iw_call_within, iw_all_all, iw_all_within, iw_one_all, iw_one_within, iw_within_all, iw_within_within, iw_calls_all, iw_calls_within]
    | one rs =>
      simp only [dep] at hd
      simp only [wfR] at hw
      have e : lc_longest_of_1 (s_longest_of n) [.dat (.tuple [.str wOne, .tuple (rs.map encR)]), .un, .dat (.str wOne), .dat (.list [.tuple (rs.map encR)]), .un] = .ok (.list (rs.map fun r => .int (lenR r))) [.dat (.tuple [.str wOne, .tuple (rs.map encR)]), .un, .dat (.str wOne), .dat (.list [.tuple (rs.map encR)]), .un] := by
        unfold lc_longest_of_1
        exact lc_map rs encR _ (by simp! [at0, itemsOf]) (by simp) (fun q hq => by simp! [elF, wipeE, gN, ih q (by have := dep_mem hq; omega) (wf_mem hw.2 hq)]) (wf_len hw.1)
      have e2 : maxDf (.list (rs.map fun r => .int (lenR r))) (.int 0) = some (.int (lenMax rs)) := by
        rw [lenMax_eq, ← maxD_0 (fun x hx => by obtain ⟨r, hr, rfl⟩ := List.mem_map.mp hx; exact len_nn r (wf_mem hw.2 hr)), List.map_map]
        rfl
      simp! [m_longest_of, encR, lenR, gStarM, gN, at0, e, e2, encRs_map, ew_none_none, ew_none_call, ew_none_all, ew_none_one, ew_none_within, ew_none_calls, ew_call_none, ew_call_call, ew_call_all, ew_call_one, ew_call_within, ew_call_calls, ew_all_none, ew_all_call, ew_all_all, ew_all_one, ew_all_within, ew_all_calls, ew_one_none, ew_one_call, ew_one_all, ew_one_one, ew_one_within, ew_one_calls, ew_within_none, ew_within_call, ew_within_all, ew_within_one, ew_within_within, ew_within_calls, ew_calls_none, ew_calls_call, ew_calls_all, ew_calls_one, ew_calls_within, ew_calls_calls, iw_none_all, iw_none_within, iw_call_all, iw_call_within, iw_all_all, iw_all_within, iw_one_all, iw_one_within, iw_within_all, iw_within_within, iw_calls_all, iw_calls_within]
end Lw
namespace Lw
open PySem L2 Bt
def conv (f g : Nat → Int) : Nat → Int := fun j => maxL ((List.range (j + 1)).map fun i => f i + g (j - i))
def pmax (f g : Nat → Int) : Nat → Int := fun j => max (f j) (g j)
mutual
def rowF (b : Option Int) : Rt → Nat → Int
  | .none => fun _ => 0
  | .call _ m t => fun j => min t j * cutI m b
  | .all rs => rowAll b rs fun _ => 0
  | .one rs => rowOne b rs fun _ => 0
  | .within n r => fun j => min n (rowF b r j)
  | .calls n r => fun j => rowF b r (min j n.toNat)
def rowAll (b : Option Int) : List Rt → (Nat → Int) → Nat → Int
  | [], f => f
  | r :: rs, f => rowAll b rs (conv f (rowF b r))
def rowOne (b : Option Int) : List Rt → (Nat → Int) → Nat → Int
  | [], f => f
  | r :: rs, f => rowOne b rs (pmax f (rowF b r))
end
theorem rowAll_eq (b : Option Int) : ∀ (rs : List Rt) (f : Nat → Int), rowAll b rs f = rs.foldl (fun f r => conv f (rowF b r)) f
  | [], f => by rw [rowAll]; rfl
  | r :: rs, f => by rw [rowAll, rowAll_eq b rs, List.foldl_cons]
theorem rowOne_eq (b : Option Int) : ∀ (rs : List Rt) (f : Nat → Int), rowOne b rs f = rs.foldl (fun f r => pmax f (rowF b r)) f
  | [], f => by rw [rowOne]; rfl
  | r :: rs, f => by rw [rowOne, rowOne_eq b rs, List.foldl_cons]
def rowL (f : Nat → Int) (c : Nat) : List D := (List.range (c + 1)).map fun j => .int (f j)
def BdR (r : Rt) : Prop := ∀ q ∈ callsR r, q.2.1 ≤ 10 ^ 100 ∧ q.2.2 ≤ 10 ^ 100
def BdB : Option Int → Prop
  | none => True
  | some b => -(10 ^ 100) ≤ b ∧ b ≤ 10 ^ 100
theorem bd_all {rs : List Rt} (h : BdR (.all rs)) {r : Rt} (hr : r ∈ rs) : BdR r := fun q hq => h q (by rw [callsR, callsRs_flat]; exact List.mem_flatMap.mpr ⟨r, hr, hq⟩)
theorem bd_one {rs : List Rt} (h : BdR (.one rs)) {r : Rt} (hr : r ∈ rs) : BdR r := fun q hq => h q (by rw [callsR, callsRs_flat]; exact List.mem_flatMap.mpr ⟨r, hr, hq⟩)
theorem rangeN (c : Nat) : rangeD 0 ((c : Int) + 1) = (List.range (c + 1)).map fun (j : Nat) => .int (j : Int) := by
  unfold rangeD
  rw [show ((c : Int) + 1 - 0).toNat = c + 1 by omega]
  simp
theorem rgN (c : Nat) (h : c ≤ 100000) : rgOk ((c : Int) + 1) = true := rgOk_iff.mpr ⟨by omega, by omega⟩
theorem cut_ok (m : Int) (b : Option Int) : s_cut_at [.dat (.int m), .dat (encB b)] = .ok (.dat (.int (cutI m b))) [.dat (.int m), .dat (encB b)] := by
  cases b <;> simp! [s_cut_at, m_cut_at, encB, cutI]
theorem atN {l : List D} {i : Nat} (h : i < l.length) : atI l (i : Int) = l[i]? := by
  unfold atI ixN
  rw [if_pos (by omega), if_pos (by omega)]
  rfl
theorem row_at {f : Nat → Int} {c i : Nat} (h : i ≤ c) : atI (rowL f c) (i : Int) = some (.int (f i)) := by
  unfold rowL
  rw [atN (by simp; omega), List.getElem?_map, List.getElem?_range (by omega)]
  rfl
theorem row_len (f : Nat → Int) (c : Nat) : (rowL f c).length = c + 1 := by unfold rowL; simp
theorem maxF_map {α : Type} (f : α → Int) (p : List α) (h : p ≠ []) : maxF [.list (p.map fun q => .int (f q))] = some (.int (maxL (p.map f))) := by
  have e : intsOf (p.map fun q => PyData.int (f q)) = some (p.map f) := by
    rw [show (p.map fun q => PyData.int (f q)) = (p.map f).map .int by rw [List.map_map]; rfl, intsOf_map]
  cases p with
  | nil => exact absurd rfl h
  | cons a as =>
    show (match intsOf ((a :: as).map fun q => PyData.int (f q)) with | some (n :: ns) => some (PyData.int (maxL (n :: ns))) | _ => none) = _
    rw [e]
    rfl
theorem shared_ok (f g : Nat → Int) (c : Nat) (hc : c ≤ 10000) : s_shared_out [.dat (.list (rowL f c)), .dat (.list (rowL g c)), .dat (.int (c : Nat))] = .ok ((.ow (.l (rowL (conv f g) c)))) [.dat (.list (rowL f c)), .dat (.list (rowL g c)), .dat (.int (c : Nat))] := by
  have e1 : ∀ j, j ≤ c → lc_shared_out_1 [.dat (.list (rowL f c)), .dat (.list (rowL g c)), .dat (.int (c : Nat)), .dat (.int (j : Nat)), .un] = .ok (.list ((List.range (j + 1)).map fun i => .int (f i + g (j - i)))) [.dat (.list (rowL f c)), .dat (.list (rowL g c)), .dat (.int (c : Nat)), .dat (.int (j : Nat)), .un] := by
    intro j hj
    unfold lc_shared_out_1
    refine lc_map (List.range (j + 1)) (fun i => .int (i : Nat)) _ (by simp! [rgN j (by omega), rangeN]) (by simp) (fun i hi => ?_) (by rw [List.length_range]; exact Nat.le_trans (by omega : j + 1 ≤ 100000) (Nat.le_refl _))
    have hi' : i ≤ j := by have := List.mem_range.mp hi; omega
    have e2 : ((j : Int) - (i : Int)) = ((j - i : Nat) : Int) := by omega
    simp! [elF, wipeE, gN, row_at (f := f) (show i ≤ c by omega), e2, row_at (f := g) (show j - i ≤ c by omega)]
  have e : lc_shared_out_2 [.dat (.list (rowL f c)), .dat (.list (rowL g c)), .dat (.int (c : Nat)), .un, .un] = .ok (.list (rowL (conv f g) c)) [.dat (.list (rowL f c)), .dat (.list (rowL g c)), .dat (.int (c : Nat)), .un, .un] := by
    unfold lc_shared_out_2 rowL
    refine lc_map (List.range (c + 1)) (fun i => .int (i : Nat)) _ (by simp! [rgN c (by omega), rangeN]) (by simp) (fun j hj => ?_) (by rw [List.length_range]; exact Nat.le_trans (by omega : c + 1 ≤ 100000) (Nat.le_refl _))
    have hj' : j ≤ c := by have := List.mem_range.mp hj; omega
    have e2 := e1 j hj'
    have e3 : maxF [.list ((List.range (j + 1)).map fun i => .int (f i + g (j - i)))] = some (.int (conv f g j)) := maxF_map (fun i => f i + g (j - i)) _ (by simp)
    unfold rowL at e2
    simp [elF, wipeE, gN, Bt.a_bnd, Bt.a_ret, Bt.a_stuck, Bt.a_liftS, Bt.a_liftN, Bt.a_mOp, Bt.a_mOpF, Bt.a_mChain, Bt.a_mD, Bt.a_mR, Bt.a_mV, Bt.a_mFrz, Bt.a_rsvD, Bt.a_rsvR, Bt.a_rsvs0, Bt.a_rsvs1, Bt.a_mCons, Bt.a_mConsD, Bt.a_mTup, Bt.a_mLst, Bt.a_mLstF, Bt.a_mIf, Bt.a_mIfS, Bt.a_ite, Bt.a_mAnd, Bt.a_mOr, Bt.a_mNot, Bt.a_mAndV, Bt.a_mOrV, Bt.a_mNotV, Bt.a_asB, Bt.a_mNeg, Bt.a_mB, Bt.a_mBF, Bt.a_mIsi, Bt.a_mCall, Bt.a_mCallK, Bt.a_mCallO, Bt.a_mCallKO, Bt.a_mCallB, Bt.a_thawD, Bt.a_thawL, Bt.a_mRetS, Bt.a_mDat, Bt.a_mObj, Bt.a_mLstO, Bt.a_mSetS, Bt.a_mGive, Bt.a_mAsL, Bt.a_asL, Bt.a_mRev, Bt.a_mDfl, Bt.a_mRng3, Bt.a_mPutAug, Bt.a_mPop, Bt.a_mSeq, Bt.a_mNil, Bt.a_mRet, Bt.a_mExpr, Bt.a_mSet, Bt.a_gN, Bt.a_gTup, Bt.a_gCons, Bt.a_gNil, Bt.a_mItL, Bt.a_mItT, Bt.a_mIt, Bt.a_mPart0, Bt.a_mPart1, Bt.a_mSl, Bt.a_mOwn, Bt.a_mApp, Bt.a_mPut, Bt.a_mAug, Bt.a_mRng1, Bt.a_mRng2, Bt.a_mZip, Bt.a_mEnum, Bt.a_mFor, Bt.a_mFn, Bt.a_mLenScr, Bt.a_mIxScr, Bt.a_mDGet, Bt.a_mDGet2, Bt.a_mDIn, Bt.a_mDPut, Bt.a_mDAug, Bt.a_mOwnO, Bt.a_mDict, Bt.a_mDNew, Bt.a_mSortD, Bt.a_mRaise0, Bt.a_mRaise1, Bt.a_mTry, Bt.a_mIsx, Bt.a_mFld, Bt.a_mMeth, Bt.a_mExt, Bt.a_mExtB, Bt.a_mNew0, Bt.a_mNewN, Bt.a_mNew1, Bt.a_mIsxO, Bt.a_mIsVE, Bt.a_mPar, Bt.a_mRaiseN, Bt.a_mTry0, Bt.a_mZipE, Bt.a_mLrg2, Bt.a_mLrg1, Bt.argSl, Bt.apartA, Bt.isOwn, Bt.putB, Bt.okAsg, Bt.parBack, Bt.slD, Bt.addD, Bt.subD, Bt.mulD, Bt.fdivD, Bt.modD, Bt.powD, Bt.ltD, Bt.leD, Bt.gtD, Bt.geD, Bt.isD, Bt.isntD, Bt.isNone, Bt.ixD, Bt.lenF, Bt.intF, Bt.minF, Bt.tupleF, Bt.listF, Bt.notX_none, Bt.notX_bool, Bt.notX_int, Bt.notX_str, Bt.notX_list, Bt.notX_tuple, Bt.isi_none, Bt.isi_bool, Bt.isi_int, Bt.isi_str, Bt.isi_list, Bt.isi_tuple, Bt.tyIs, Bt.pkD, Bt.addL, Bt.mulL, Bt.listL, Bt.revD, Bt.borSl, Bt.flatD, Bt.isDic, Bt.dkOf, Bt.keyOf, Bt.isCls_x, Bt.isCls_n, Bt.xOf_0, Bt.xOf_1, Bt.isSub_0, Bt.lift_some, Bt.ll0, Bt.ll1, Bt.ll2, Bt.ll3, Bt.ll4, Bt.ll5, Bt.ll6, Bt.ll7, Bt.ll8, Bt.ll9, Bt.ll10, Bt.ll11, Bt.ll12, Bt.ll13, Bt.ll14, Bt.ll15, Bt.ll16, e2, e3]
  simp! [s_shared_out, m_shared_out, e]
end Lw
namespace Lw
open PySem L2 Bt
theorem rep1 (c : Nat) : List.replicate (c + 1) (PyData.int 0) = rowL (fun _ => 0) c := by
  unfold rowL
  rw [List.map_const', List.length_range]
theorem rpk (c : Nat) (h : c ≤ 10000) : repOk 1 ((c : Int) + 1) = true := repOk_iff.mpr ⟨by omega, by omega, by omega⟩
theorem cut_bd {m : Int} {b : Option Int} (h1 : 1 ≤ m) (h2 : m ≤ 10 ^ 100) (hb : BdB b) : okI (cutI m b) = true := by
  cases b with
  | none => exact okI_of (by simp only [cutI]; omega) (by simp only [cutI]; omega)
  | some b => simp only [BdB] at hb; exact okI_of (by simp only [cutI]; omega) (by simp only [cutI]; omega)
def IsRow (sl : Sl) (ds : List D) : Prop := ∀ E : En, thaw sl E = .ok (.list ds) E
theorem zip_row (f g : Nat → Int) (c : Nat) : zipD (rowL f c) (rowL g c) = (List.range (c + 1)).map fun j => .tuple [.int (f j), .int (g j)] := by
  unfold zipD rowL
  rw [List.zipWith_map, List.zipWith_self]
theorem maxT2 (a b : Int) : maxTF [.tuple [.int a, .int b]] = some (.int (max a b)) := rfl
theorem row_ok : ∀ (n : Nat) (r : Rt) (b : Option Int) (c : Nat), dep r ≤ n → wfR r → BdR r → BdB b → c ≤ 10000 → ∃ sl, s_row_of n [.dat (encR r), .dat (encB b), .dat (.int (c : Nat))] = .ok sl [.dat (encR r), .dat (encB b), .dat (.int (c : Nat))] ∧ IsRow sl (rowL (rowF b r) c) := by
  intro n
  induction n with
  | zero => intro r b c h; cases r <;> simp [dep] at h
  | succ n ih =>
    intro r b c hd hw hB hb hc
    rw [r_row_of]
    have hL : c + 1 ≤ LIM := Nat.le_trans (by omega : c + 1 ≤ 100000) (Nat.le_refl _)
    cases r with
    | none =>
      refine ⟨.dat (.list (rowL (fun _ => 0) c)), ?_, fun _ => by rw [rowF]; rfl⟩
      simp! [m_row_of, encR, gStarM, gN, rpk c hc, rep1, LIM, ew_none_none, ew_none_call, ew_none_all, ew_none_one, ew_none_within, ew_none_calls, ew_call_none, ew_call_call, ew_call_all, ew_call_one, ew_call_within, ew_call_calls, ew_all_none, ew_all_call, ew_all_all, ew_all_one, ew_all_within, ew_all_calls, ew_one_none, ew_one_call, ew_one_all, ew_one_one, ew_one_within, ew_one_calls, ew_within_none, ew_within_call, ew_within_all, ew_within_one, ew_within_within, ew_within_calls, ew_calls_none, ew_calls_call, ew_calls_all, ew_calls_one, ew_calls_within, ew_calls_calls, iw_none_all, iw_none_within, iw_call_all, iw_call_within, iw_all_all, iw_all_within, iw_one_all, iw_one_within, iw_within_all, iw_within_within, iw_calls_all, iw_calls_within]
    | call x m t =>
      simp only [wfR] at hw
      have hq := hB (x, m, t) (by simp [callsR])
      have o2 := cut_bd hw.2.2.1 hq.1 hb
      have e : lc_row_of_1 (s_row_of n) [.dat (encR (.call x m t)), .dat (encB b), .dat (.int (c : Nat)), .un, .un, .dat (.str wCall), .un, .dat (.list [.str x, .int m, .int t]), .un, .un] = .ok (.list (rowL (rowF b (.call x m t)) c)) [.dat (encR (.call x m t)), .dat (encB b), .dat (.int (c : Nat)), .un, .un, .dat (.str wCall), .un, .dat (.list [.str x, .int m, .int t]), .un, .un] := by
        unfold lc_row_of_1 rowL
        refine lc_map (List.range (c + 1)) (fun i => .int (i : Nat)) _ (by simp! [rgN c (by omega), rangeN]) (by simp) (fun j hj => ?_) (by rw [List.length_range]; exact hL)
        have hj' : j ≤ c := by have := List.mem_range.mp hj; omega
        have o1 : okI (min t (j : Int)) = true := okI_of (by omega) (by omega)
        simp! [elF, wipeE, gN, at1, at2', cut_ok, o1, o2, rowF]
      refine ⟨(.ow (.l (rowL (rowF b (.call x m t)) c))), ?_, fun _ => rfl⟩
      rw [encR] at e ⊢
      simp! [m_row_of, gStarM, gN, e, ew_none_none, ew_none_call, ew_none_all, ew_none_one, ew_none_within, ew_none_calls, ew_call_none, ew_call_call, ew_call_all, ew_call_one, ew_call_within, ew_call_calls, ew_all_none, ew_all_call, ew_all_all, ew_all_one, ew_all_within, ew_all_calls, ew_one_none, ew_one_call, ew_one_all, ew_one_one, ew_one_within, ew_one_calls, ew_within_none, ew_within_call, ew_within_all, ew_within_one, ew_within_within, ew_within_calls, ew_calls_none, ew_calls_call, ew_calls_all, ew_calls_one, ew_calls_within, ew_calls_calls, iw_none_all, iw_none_within, iw_call_all, iw_call_within, iw_all_all, iw_all_within, iw_one_all, iw_one_within, iw_within_all, iw_within_within, iw_calls_all, iw_calls_within]
    | within k q =>
      simp only [wfR] at hw
      simp only [dep] at hd
      obtain ⟨sl, e1, e2⟩ := ih q b c (by omega) hw.2 (fun z hz => hB z (by rw [callsR]; exact hz)) hb hc
      have e : lc_row_of_2 (s_row_of n) [.dat (encR (.within k q)), .dat (encB b), .dat (.int (c : Nat)), .un, .un, .dat (.str wWithin), .un, .dat (.list [.int k, encR q]), .un, .un] = .ok (.list (rowL (rowF b (.within k q)) c)) [.dat (encR (.within k q)), .dat (encB b), .dat (.int (c : Nat)), .un, .un, .dat (.str wWithin), .un, .dat (.list [.int k, encR q]), .un, .un] := by
        unfold lc_row_of_2
        have hi : mIt (mCall (s_row_of n) [] (mCons (mD (mOp ixD (mR 7) (mD (Bt.ret (.int 1))))) (mCons (mR 1) (mCons (mR 2) (Bt.ret []))))) [.dat (encR (.within k q)), .dat (encB b), .dat (.int (c : Nat)), .un, .un, .dat (.str wWithin), .un, .dat (.list [.int k, encR q]), .un, .un] = .ok (rowL (rowF b q) c) [.dat (encR (.within k q)), .dat (encB b), .dat (.int (c : Nat)), .un, .un, .dat (.str wWithin), .un, .dat (.list [.int k, encR q]), .un, .un] := by
          simp! [at1, e1, e2 _, itemsOf]
        unfold rowL at hi ⊢
        refine lc_map (List.range (c + 1)) (fun i => .int (rowF b q i)) _ hi (by simp) (fun j hj => ?_) (by rw [List.length_range]; exact hL)
        simp! [elF, wipeE, gN, at0, rowF]
      refine ⟨(.ow (.l (rowL (rowF b (.within k q)) c))), ?_, fun _ => rfl⟩
      rw [encR] at e ⊢
      simp! [m_row_of, gStarM, gN, e, ew_none_none, ew_none_call, ew_none_all, ew_none_one, ew_none_within, ew_none_calls, ew_call_none, ew_call_call, ew_call_all, ew_call_one, ew_call_within, ew_call_calls, ew_all_none, ew_all_call, ew_all_all, ew_all_one, ew_all_within, ew_all_calls, ew_one_none, ew_one_call, ew_one_all, ew_one_one, ew_one_within, ew_one_calls, ew_within_none, ew_within_call, ew_within_all, ew_within_one, ew_within_within, ew_within_calls, ew_calls_none, ew_calls_call, ew_calls_all, ew_calls_one, ew_calls_within, ew_calls_calls, iw_none_all, iw_none_within, iw_call_all, iw_call_within, iw_all_all, iw_all_within, iw_one_all, iw_one_within, iw_within_all, iw_within_within, iw_calls_all, iw_calls_within]
    | calls k q =>
      simp only [wfR] at hw
      simp only [dep] at hd
      obtain ⟨sl, e1, e2⟩ := ih q b (min c k.toNat) (by omega) hw.2 (fun z hz => hB z (by rw [callsR]; exact hz)) hb (by omega)
      have ec : min (c : Int) k = ((min c k.toNat : Nat) : Int) := by omega
      have e : lc_row_of_3 (s_row_of n) [.dat (encR (.calls k q)), .dat (encB b), .dat (.int (c : Nat)), .dat (.list (rowL (rowF b q) (min c k.toNat))), .un, .dat (.str wCalls), .un, .dat (.list [.int k, encR q]), .un, .un] = .ok (.list (rowL (rowF b (.calls k q)) c)) [.dat (encR (.calls k q)), .dat (encB b), .dat (.int (c : Nat)), .dat (.list (rowL (rowF b q) (min c k.toNat))), .un, .dat (.str wCalls), .un, .dat (.list [.int k, encR q]), .un, .un] := by
        unfold lc_row_of_3
        have hi : mRng1 (mCons (mD (mOp addD (mR 2) (mD (Bt.ret (.int 1))))) (Bt.ret [])) [.dat (encR (.calls k q)), .dat (encB b), .dat (.int (c : Nat)), .dat (.list (rowL (rowF b q) (min c k.toNat))), .un, .dat (.str wCalls), .un, .dat (.list [.int k, encR q]), .un, .un] = .ok ((List.range (c + 1)).map fun (i : Nat) => .int (i : Int)) [.dat (encR (.calls k q)), .dat (encB b), .dat (.int (c : Nat)), .dat (.list (rowL (rowF b q) (min c k.toNat))), .un, .dat (.str wCalls), .un, .dat (.list [.int k, encR q]), .un, .un] := by
          simp! [rgN c (by omega), rangeN]
        rw [show rowL (rowF b (.calls k q)) c = (List.range (c + 1)).map fun j => .int (rowF b (.calls k q) j) from rfl]
        refine lc_map (List.range (c + 1)) (fun i => .int (i : Nat)) _ hi (by simp) (fun j hj => ?_) (by rw [List.length_range]; exact hL)
        have hj' : j ≤ c := by have := List.mem_range.mp hj; omega
        have ej : min (j : Int) k = ((min j k.toNat : Nat) : Int) := by omega
        simp! [elF, wipeE, gN, at0, ej, row_at (f := rowF b q) (show min j k.toNat ≤ min c k.toNat by omega), rowF]
      refine ⟨(.ow (.l (rowL (rowF b (.calls k q)) c))), ?_, fun _ => rfl⟩
      rw [encR] at e ⊢
      simp! [m_row_of, gStarM, gN, at0, at1, ec, e1, e2 _, e, ew_none_none, ew_none_call, ew_none_all, ew_none_one, ew_none_within, ew_none_calls, ew_call_none, ew_call_call, ew_call_all, ew_call_one, ew_call_within, ew_call_calls, ew_all_none, ew_all_call, ew_all_all, ew_all_one, ew_all_within, ew_all_calls, ew_one_none, ew_one_call, ew_one_all, ew_one_one, ew_one_within, ew_one_calls, ew_within_none, ew_within_call, ew_within_all, ew_within_one, ew_within_within, ew_within_calls, ew_calls_none, ew_calls_call, ew_calls_all, ew_calls_one, ew_calls_within, ew_calls_calls, iw_none_all, iw_none_within, iw_call_all, iw_call_within, iw_all_all, iw_all_within, iw_one_all, iw_one_within, iw_within_all, iw_within_within, iw_calls_all, iw_calls_within]
    | all rs =>
      simp only [wfR] at hw
      simp only [dep] at hd
      let st : (Nat → Int) → En := fun f => [.dat (.tuple [.str wAll, .tuple (rs.map encR)]), .dat (encB b), .dat (.int (c : Nat)), .dat (.list (rowL f c)), .un, .dat (.str wAll), .un, .dat (.list [.tuple (rs.map encR)]), .un, .un]
      have e : fr_row_of_1 (s_row_of n) (st fun _ => 0) = .ok .nx (st (rs.foldl (fun f r => conv f (rowF b r)) fun _ => 0)) := by
        unfold fr_row_of_1
        refine (for_fold rs encR st (fun f r => conv f (rowF b r)) (fun _ p => ∀ q ∈ p, q ∈ rs) (by simp! [st, at0, itemsOf]) (fun q hq => hq) (fun q p f hI => ⟨?_, fun z hz => hI z (List.mem_cons_of_mem _ hz)⟩)).1
        have hq := hI q List.mem_cons_self
        obtain ⟨sl, e1, e2⟩ := ih q b c (by have := dep_mem hq; omega) (wf_mem hw.2 hq) (bd_all hB hq) hb hc
        refine ⟨[.dat (.tuple [.str wAll, .tuple (rs.map encR)]), .dat (encB b), .dat (.int (c : Nat)), .dat (.list (rowL f c)), .dat (encR q), .dat (.str wAll), .un, .dat (.list [.tuple (rs.map encR)]), .un, .un], [.dat (.tuple [.str wAll, .tuple (rs.map encR)]), .dat (encB b), .dat (.int (c : Nat)), .dat (.list (rowL (conv f (rowF b q)) c)), .dat (encR q), .dat (.str wAll), .dat (.list (rowL (rowF b q) c)), .dat (.list [.tuple (rs.map encR)]), .un, .un], by simp [st, gN], .inl ?_, by simp [st, wipeE]⟩
        simp! [lp_row_of_1, gN, e1, e2 _, shared_ok f (rowF b q) c hc, ew_none_none, ew_none_call, ew_none_all, ew_none_one, ew_none_within, ew_none_calls, ew_call_none, ew_call_call, ew_call_all, ew_call_one, ew_call_within, ew_call_calls, ew_all_none, ew_all_call, ew_all_all, ew_all_one, ew_all_within, ew_all_calls, ew_one_none, ew_one_call, ew_one_all, ew_one_one, ew_one_within, ew_one_calls, ew_within_none, ew_within_call, ew_within_all, ew_within_one, ew_within_within, ew_within_calls, ew_calls_none, ew_calls_call, ew_calls_all, ew_calls_one, ew_calls_within, ew_calls_calls, iw_none_all, iw_none_within, iw_call_all, iw_call_within, iw_all_all, iw_all_within, iw_one_all, iw_one_within, iw_within_all, iw_within_within, iw_calls_all, iw_calls_within]
      refine ⟨.dat (.list (rowL (rowF b (.all rs)) c)), ?_, fun _ => rfl⟩
      rw [rowF, rowAll_eq, encR, encRs_map]
      simp only [st] at e
      simp! [m_row_of, gStarM, gN, rpk c hc, rep1, e, LIM, ew_none_none, ew_none_call, ew_none_all, ew_none_one, ew_none_within, ew_none_calls, ew_call_none, ew_call_call, ew_call_all, ew_call_one, ew_call_within, ew_call_calls, ew_all_none, ew_all_call, ew_all_all, ew_all_one, ew_all_within, ew_all_calls, ew_one_none, ew_one_call, ew_one_all, ew_one_one, ew_one_within, ew_one_calls, ew_within_none, ew_within_call, ew_within_all, ew_within_one, ew_within_within, ew_within_calls, ew_calls_none, ew_calls_call, ew_calls_all, ew_calls_one, ew_calls_within, ew_calls_calls, iw_none_all, iw_none_within, iw_call_all, iw_call_within, iw_all_all, iw_all_within, iw_one_all, iw_one_within, iw_within_all, iw_within_within, iw_calls_all, iw_calls_within]
    | one rs =>
      simp only [wfR] at hw
      simp only [dep] at hd
      let st : (Nat → Int) → En := fun f => [.dat (.tuple [.str wOne, .tuple (rs.map encR)]), .dat (encB b), .dat (.int (c : Nat)), .dat (.list (rowL f c)), .un, .dat (.str wOne), .un, .dat (.list [.tuple (rs.map encR)]), .un, .un]
      have e : fr_row_of_1 (s_row_of n) (st fun _ => 0) = .ok .nx (st (rs.foldl (fun f r => pmax f (rowF b r)) fun _ => 0)) := by
        unfold fr_row_of_1
        refine (for_fold rs encR st (fun f r => pmax f (rowF b r)) (fun _ p => ∀ q ∈ p, q ∈ rs) (by simp! [st, at0, itemsOf]) (fun q hq => hq) (fun q p f hI => ⟨?_, fun z hz => hI z (List.mem_cons_of_mem _ hz)⟩)).1
        have hq := hI q List.mem_cons_self
        obtain ⟨sl, e1, e2⟩ := ih q b c (by have := dep_mem hq; omega) (wf_mem hw.2 hq) (bd_one hB hq) hb hc
        have e3 : lc_row_of_4 (s_row_of n) [.dat (.tuple [.str wOne, .tuple (rs.map encR)]), .dat (encB b), .dat (.int (c : Nat)), .dat (.list (rowL f c)), .dat (encR q), .dat (.str wOne), .dat (.list (rowL (rowF b q) c)), .dat (.list [.tuple (rs.map encR)]), .un, .un] = .ok (.list (rowL (pmax f (rowF b q)) c)) [.dat (.tuple [.str wOne, .tuple (rs.map encR)]), .dat (encB b), .dat (.int (c : Nat)), .dat (.list (rowL f c)), .dat (encR q), .dat (.str wOne), .dat (.list (rowL (rowF b q) c)), .dat (.list [.tuple (rs.map encR)]), .un, .un] := by
          unfold lc_row_of_4
          rw [show rowL (pmax f (rowF b q)) c = (List.range (c + 1)).map fun j => .int (pmax f (rowF b q) j) from rfl]
          refine lc_map (List.range (c + 1)) (fun j => .tuple [.int (f j), .int (rowF b q j)]) _ (by simp! [row_len, zip_row]) (by simp) (fun j hj => ?_) (by rw [List.length_range]; exact hL)
          simp! [elF, wipeE, gN, maxT2, pmax]
        refine ⟨[.dat (.tuple [.str wOne, .tuple (rs.map encR)]), .dat (encB b), .dat (.int (c : Nat)), .dat (.list (rowL f c)), .dat (encR q), .dat (.str wOne), .un, .dat (.list [.tuple (rs.map encR)]), .un, .un], [.dat (.tuple [.str wOne, .tuple (rs.map encR)]), .dat (encB b), .dat (.int (c : Nat)), .dat (.list (rowL (pmax f (rowF b q)) c)), .dat (encR q), .dat (.str wOne), .dat (.list (rowL (rowF b q) c)), .dat (.list [.tuple (rs.map encR)]), .un, .un], by simp [st, gN], .inl ?_, by simp [st, wipeE]⟩
        simp! [lp_row_of_1, gN, e1, e2 _, e3, ew_none_none, ew_none_call, ew_none_all, ew_none_one, ew_none_within, ew_none_calls, ew_call_none, ew_call_call, ew_call_all, ew_call_one, ew_call_within, ew_call_calls, ew_all_none, ew_all_call, ew_all_all, ew_all_one, ew_all_within, ew_all_calls, ew_one_none, ew_one_call, ew_one_all, ew_one_one, ew_one_within, ew_one_calls, ew_within_none, ew_within_call, ew_within_all, ew_within_one, ew_within_within, ew_within_calls, ew_calls_none, ew_calls_call, ew_calls_all, ew_calls_one, ew_calls_within, ew_calls_calls, iw_none_all, iw_none_within, iw_call_all, iw_call_within, iw_all_all, iw_all_within, iw_one_all, iw_one_within, iw_within_all, iw_within_within, iw_calls_all, iw_calls_within]
      refine ⟨.dat (.list (rowL (rowF b (.one rs)) c)), ?_, fun _ => rfl⟩
      rw [rowF, rowOne_eq, encR, encRs_map]
      simp only [st] at e
      simp! [m_row_of, gStarM, gN, rpk c hc, rep1, e, LIM, ew_none_none, ew_none_call, ew_none_all, ew_none_one, ew_none_within, ew_none_calls, ew_call_none, ew_call_call, ew_call_all, ew_call_one, ew_call_within, ew_call_calls, ew_all_none, ew_all_call, ew_all_all, ew_all_one, ew_all_within, ew_all_calls, ew_one_none, ew_one_call, ew_one_all, ew_one_one, ew_one_within, ew_one_calls, ew_within_none, ew_within_call, ew_within_all, ew_within_one, ew_within_within, ew_within_calls, ew_calls_none, ew_calls_call, ew_calls_all, ew_calls_one, ew_calls_within, ew_calls_calls, iw_none_all, iw_none_within, iw_call_all, iw_call_within, iw_all_all, iw_all_within, iw_one_all, iw_one_within, iw_within_all, iw_within_within, iw_calls_all, iw_calls_within]
end Lw
namespace Lw
open PySem L2 Bt
mutual
def topR (b : Option Int) : Rt → Int
  | .none => 0
  | .call _ m t => t * cutI m b
  | .all rs => topSum b rs
  | .one rs => topMax b rs
  | .within n r => min n (topR b r)
  | .calls n r => rowF b r (min n (lenR r)).toNat
def topSum (b : Option Int) : List Rt → Int
  | [] => 0
  | r :: rs => topR b r + topSum b rs
def topMax (b : Option Int) : List Rt → Int
  | [] => 0
  | r :: rs => max (topR b r) (topMax b rs)
end
theorem topSum_eq (b : Option Int) : ∀ rs : List Rt, topSum b rs = (rs.map (topR b)).sum
  | [] => rfl
  | r :: rs => by rw [topSum, topSum_eq b rs, List.map_cons, List.sum_cons]
theorem topMax_eq (b : Option Int) : ∀ rs : List Rt, topMax b rs = max0 (rs.map (topR b))
  | [] => rfl
  | r :: rs => by rw [topMax, topMax_eq b rs, List.map_cons, max0]
def OkB : Option Int → Prop
  | none => True
  | some b => 1 ≤ b ∧ b ≤ 10 ^ 100
theorem OkB.bd {b : Option Int} (h : OkB b) : BdB b := by
  cases b with
  | none => trivial
  | some b => simp only [OkB] at h; exact ⟨by omega, by omega⟩
theorem cut_nn {m : Int} {b : Option Int} (h : 1 ≤ m) (hb : OkB b) : 0 ≤ cutI m b := by
  cases b with
  | none => simp only [cutI]; omega
  | some b => simp only [OkB] at hb; simp only [cutI]; omega
theorem conv_nn {f g : Nat → Int} (hf : ∀ j, 0 ≤ f j) (hg : ∀ j, 0 ≤ g j) (j : Nat) : 0 ≤ conv f g j := by
  unfold conv
  have h : f 0 + g (j - 0) ∈ (List.range (j + 1)).map fun i => f i + g (j - i) := List.mem_map.mpr ⟨0, List.mem_range.mpr (by omega), rfl⟩
  have := maxL_ge h
  have := hf 0
  have := hg (j - 0)
  omega
theorem row_nn (b : Option Int) (hb : OkB b) (r : Rt) : wfR r → ∀ j, 0 ≤ rowF b r j := by
  induction r using Rt.ind with
  | h0 => intro _ j; simp [rowF]
  | h1 x m t =>
    intro h j
    simp only [wfR] at h
    simp only [rowF]
    exact Int.mul_nonneg (by omega) (cut_nn h.2.2.1 hb)
  | h2 rs ih =>
    intro h
    simp only [wfR] at h
    rw [rowF, rowAll_eq]
    have : ∀ (qs : List Rt) (f : Nat → Int), (∀ q ∈ qs, q ∈ rs) → (∀ j, 0 ≤ f j) → ∀ j, 0 ≤ qs.foldl (fun f r => conv f (rowF b r)) f j := by
      intro qs
      induction qs with
      | nil => intro f _ hf; exact hf
      | cons q qs ihq =>
        intro f hs hf
        exact ihq _ (fun z hz => hs z (List.mem_cons_of_mem _ hz)) (conv_nn hf (ih q (hs q List.mem_cons_self) (wf_mem h.2 (hs q List.mem_cons_self))))
    exact this rs _ (fun _ hq => hq) (fun _ => Int.le_refl _)
  | h3 rs ih =>
    intro h
    simp only [wfR] at h
    rw [rowF, rowOne_eq]
    have : ∀ (qs : List Rt) (f : Nat → Int), (∀ j, 0 ≤ f j) → ∀ j, 0 ≤ qs.foldl (fun f r => pmax f (rowF b r)) f j := by
      intro qs
      induction qs with
      | nil => intro f hf; exact hf
      | cons q qs ihq =>
        intro f hf
        refine ihq _ fun j => ?_
        have := hf j
        show 0 ≤ max (f j) (rowF b q j)
        omega
    exact this rs _ (fun _ => Int.le_refl _)
  | h4 n r ih =>
    intro h j
    simp only [wfR] at h
    have := ih h.2 j
    simp only [rowF]
    omega
  | h5 n r ih =>
    intro h j
    simp only [wfR] at h
    simp only [rowF]
    exact ih h.2 _
theorem top_nn (b : Option Int) (hb : OkB b) (r : Rt) : wfR r → 0 ≤ topR b r := by
  induction r using Rt.ind with
  | h0 => intro _; simp [topR]
  | h1 x m t => intro h; simp only [wfR] at h; rw [topR]; exact Int.mul_nonneg (by omega) (cut_nn h.2.2.1 hb)
  | h2 rs ih => intro h; simp only [wfR] at h; rw [topR, topSum_eq]; exact sum_nn fun x hx => by obtain ⟨r, hr, rfl⟩ := List.mem_map.mp hx; exact ih r hr (wf_mem h.2 hr)
  | h3 rs ih => intro h; rw [topR, topMax_eq]; exact max0_nn
  | h4 n r ih => intro h; simp only [wfR] at h; have := ih h.2; simp only [topR]; omega
  | h5 n r ih => intro h; simp only [wfR] at h; rw [topR]; exact row_nn b hb r h.2 _
theorem row_last (f : Nat → Int) (c : Nat) : atI (rowL f c) (-1) = some (.int (f c)) := by
  unfold atI ixN
  rw [if_neg (by omega), row_len, if_pos (by omega)]
  show (rowL f c)[(-1 + ((c + 1 : Nat) : Int)).toNat]? = _
  rw [show (-1 + ((c + 1 : Nat) : Int)).toNat = c by omega]
  unfold rowL
  rw [List.getElem?_map, List.getElem?_range (by omega)]
  rfl
def totC (l : List (Str × Int × Int)) : Int := (l.map (·.2.2)).sum
theorem totC_app (a b : List (Str × Int × Int)) : totC (a ++ b) = totC a + totC b := by simp [totC]
theorem tot_nn {l : List (Str × Int × Int)} (h : ∀ q ∈ l, 1 ≤ q.2.2) : 0 ≤ totC l := sum_nn fun x hx => by
  obtain ⟨q, hq, rfl⟩ := List.mem_map.mp hx
  have := h q hq
  omega
theorem wf_calls (r : Rt) : wfR r → ∀ q ∈ callsR r, nameS q.1 = true ∧ PyData.strOk q.1 = true ∧ 1 ≤ q.2.1 ∧ 1 ≤ q.2.2 := by
  induction r using Rt.ind with
  | h0 => intro _ q hq; simp [callsR] at hq
  | h1 x m t => intro h q hq; simp only [wfR] at h; simp only [callsR, List.mem_singleton] at hq; subst hq; exact h
  | h2 rs ih => intro h q hq; simp only [wfR] at h; rw [callsR, callsRs_flat] at hq; obtain ⟨r, hr, hq⟩ := List.mem_flatMap.mp hq; exact ih r hr (wf_mem h.2 hr) q hq
  | h3 rs ih => intro h q hq; simp only [wfR] at h; rw [callsR, callsRs_flat] at hq; obtain ⟨r, hr, hq⟩ := List.mem_flatMap.mp hq; exact ih r hr (wf_mem h.2 hr) q hq
  | h4 n r ih => intro h; simp only [wfR] at h; rw [callsR]; exact ih h.2
  | h5 n r ih => intro h; simp only [wfR] at h; rw [callsR]; exact ih h.2
theorem tot_flat {rs : List Rt} : totC (rs.flatMap callsR) = (rs.map fun r => totC (callsR r)).sum := by
  induction rs with
  | nil => rfl
  | cons r rs ih => rw [List.flatMap_cons, totC_app, ih, List.map_cons, List.sum_cons]
theorem tot_part {rs : List Rt} {r : Rt} (hw : wfRs rs) (hr : r ∈ rs) : totC (callsR r) ≤ totC (rs.flatMap callsR) := by
  induction rs with
  | nil => cases hr
  | cons q qs ih =>
    rw [wfRs] at hw
    rw [List.flatMap_cons, totC_app]
    have h1 := tot_nn fun z hz => (wf_calls q hw.1 z hz).2.2.2
    have h2 : 0 ≤ totC (qs.flatMap callsR) := tot_nn fun z hz => by
      obtain ⟨a, ha, hz⟩ := List.mem_flatMap.mp hz
      exact (wf_calls a (wf_mem hw.2 ha) z hz).2.2.2
    rcases List.mem_cons.mp hr with rfl | hr
    · omega
    · have := ih hw.2 hr; omega
theorem len_tot (r : Rt) : wfR r → lenR r ≤ totC (callsR r) := by
  induction r using Rt.ind with
  | h0 => intro _; simp [lenR, callsR, totC]
  | h1 x m t => intro _; simp [lenR, callsR, totC]
  | h2 rs ih =>
    intro h
    simp only [wfR] at h
    rw [lenR, lenSum_eq, callsR, callsRs_flat, tot_flat]
    have : ∀ qs : List Rt, (∀ q ∈ qs, q ∈ rs) → (qs.map lenR).sum ≤ (qs.map fun r => totC (callsR r)).sum := by
      intro qs
      induction qs with
      | nil => intro _; simp
      | cons q qs ihq =>
        intro hs
        have h1 := ih q (hs q List.mem_cons_self) (wf_mem h.2 (hs q List.mem_cons_self))
        have h2 := ihq fun z hz => hs z (List.mem_cons_of_mem _ hz)
        simp only [List.map_cons, List.sum_cons]
        omega
    exact this rs fun _ h => h
  | h3 rs ih =>
    intro h
    simp only [wfR] at h
    rw [lenR, lenMax_eq, callsR, callsRs_flat]
    refine max0_le (fun x hx => ?_) (tot_nn fun z hz => ?_)
    · obtain ⟨r, hr, rfl⟩ := List.mem_map.mp hx
      exact Int.le_trans (ih r hr (wf_mem h.2 hr)) (tot_part h.2 hr)
    · obtain ⟨a, ha, hz⟩ := List.mem_flatMap.mp hz
      exact (wf_calls a (wf_mem h.2 ha) z hz).2.2.2
  | h4 n r ih => intro h; simp only [wfR] at h; have := ih h.2; simp only [lenR, callsR]; omega
  | h5 n r ih => intro h; simp only [wfR] at h; have := ih h.2; simp only [lenR, callsR]; omega
theorem most_ok : ∀ (n : Nat) (r : Rt) (b : Option Int), dep r ≤ n → n ≤ 30 → wfR r → BdR r → OkB b → totC (callsR r) ≤ 10000 → s_most_of n [.dat (encR r), .dat (encB b)] = .ok (.dat (.int (topR b r))) [.dat (encR r), .dat (encB b)] := by
  intro n
  induction n with
  | zero => intro r b h; cases r <;> simp [dep] at h
  | succ n ih =>
    intro r b hd hn hw hB hb ht
    rw [r_most_of]
    cases r with
    | none => simp! [m_most_of, encR, topR, gStarM, gN, ew_none_none, ew_none_call, ew_none_all, ew_none_one, ew_none_within, ew_none_calls, ew_call_none, ew_call_call, ew_call_all, ew_call_one, ew_call_within, ew_call_calls, ew_all_none, ew_all_call, ew_all_all, ew_all_one, ew_all_within, ew_all_calls, ew_one_none, ew_one_call, ew_one_all, ew_one_one, ew_one_within, ew_one_calls, ew_within_none, ew_within_call, ew_within_all, ew_within_one, ew_within_within, ew_within_calls, ew_calls_none, ew_calls_call, ew_calls_all, ew_calls_one, ew_calls_within, ew_calls_calls, iw_none_all, iw_none_within, iw_call_all, iw_call_within, iw_all_all, iw_all_within, iw_one_all, iw_one_within, iw_within_all, iw_within_within, iw_calls_all, iw_calls_within]
    | call x m t =>
      simp only [wfR] at hw
      have hq := hB (x, m, t) (by simp [callsR])
      have o2 := cut_bd hw.2.2.1 hq.1 hb.bd
      have h2 : t ≤ 10 ^ 100 := hq.2
      have o1 : okI t = true := okI_of (by omega) (by omega)
      simp! [m_most_of, encR, topR, gStarM, gN, at1, at2', cut_ok, o1, o2, ew_none_none, ew_none_call, ew_none_all, ew_none_one, ew_none_within, ew_none_calls, ew_call_none, ew_call_call, ew_call_all, ew_call_one, ew_call_within, ew_call_calls, ew_all_none, ew_all_call, ew_all_all, ew_all_one, ew_all_within, ew_all_calls, ew_one_none, ew_one_call, ew_one_all, ew_one_one, ew_one_within, ew_one_calls, ew_within_none, ew_within_call, ew_within_all, ew_within_one, ew_within_within, ew_within_calls, ew_calls_none, ew_calls_call, ew_calls_all, ew_calls_one, ew_calls_within, ew_calls_calls, iw_none_all, iw_none_within, iw_call_all, iw_call_within, iw_all_all, iw_all_within, iw_one_all, iw_one_within, iw_within_all, iw_within_within, iw_calls_all, iw_calls_within]
    | within k q =>
      simp only [dep] at hd
      simp only [wfR] at hw
      rw [callsR] at ht
      simp! [m_most_of, encR, topR, gStarM, gN, at0, at1, ih q b (by omega) (by omega) hw.2 (fun z hz => hB z (by rw [callsR]; exact hz)) hb ht, ew_none_none, ew_none_call, ew_none_all, ew_none_one, ew_none_within, ew_none_calls, ew_call_none, ew_call_call, ew_call_all, ew_call_one, ew_call_within, ew_call_calls, ew_all_none, ew_all_call, ew_all_all, ew_all_one, ew_all_within, ew_all_calls, ew_one_none, ew_one_call, ew_one_all, ew_one_one, ew_one_within, ew_one_calls, ew_within_none, ew_within_call, ew_within_all, ew_within_one, ew_within_within, ew_within_calls, ew_calls_none, ew_calls_call, ew_calls_all, ew_calls_one, ew_calls_within, ew_calls_calls, iw_none_all, iw_none_within, iw_call_all, iw_call_within, iw_all_all, iw_all_within, iw_one_all, iw_one_within, iw_within_all, iw_within_within, iw_calls_all, iw_calls_within]
    | calls k q =>
      simp only [dep] at hd
      simp only [wfR] at hw
      rw [callsR] at ht
      have hl := len_tot q hw.2
      have hl0 := len_nn q hw.2
      obtain ⟨sl, e1, e2⟩ := row_ok 30 q b (min k (lenR q)).toNat (by omega) hw.2 (fun z hz => hB z (by rw [callsR]; exact hz)) hb.bd (by omega)
      have ec : (((min k (lenR q)).toNat : Nat) : Int) = min k (lenR q) := by omega
      rw [ec] at e1
      simp! [m_most_of, encR, topR, gStarM, gN, at0, at1, longest_ok 30 q (by omega) hw.2, e1, e2 _, row_last, ew_none_none, ew_none_call, ew_none_all, ew_none_one, ew_none_within, ew_none_calls, ew_call_none, ew_call_call, ew_call_all, ew_call_one, ew_call_within, ew_call_calls, ew_all_none, ew_all_call, ew_all_all, ew_all_one, ew_all_within, ew_all_calls, ew_one_none, ew_one_call, ew_one_all, ew_one_one, ew_one_within, ew_one_calls, ew_within_none, ew_within_call, ew_within_all, ew_within_one, ew_within_within, ew_within_calls, ew_calls_none, ew_calls_call, ew_calls_all, ew_calls_one, ew_calls_within, ew_calls_calls, iw_none_all, iw_none_within, iw_call_all, iw_call_within, iw_all_all, iw_all_within, iw_one_all, iw_one_within, iw_within_all, iw_within_within, iw_calls_all, iw_calls_within]
    | all rs =>
      simp only [dep] at hd
      simp only [wfR] at hw
      rw [callsR, callsRs_flat] at ht
      have e : lc_most_of_1 (s_most_of n) [.dat (.tuple [.str wAll, .tuple (rs.map encR)]), .dat (encB b), .un, .dat (.str wAll), .dat (.list [.tuple (rs.map encR)]), .un] = .ok (.list (rs.map fun r => .int (topR b r))) [.dat (.tuple [.str wAll, .tuple (rs.map encR)]), .dat (encB b), .un, .dat (.str wAll), .dat (.list [.tuple (rs.map encR)]), .un] := by
        unfold lc_most_of_1
        exact lc_map rs encR _ (by simp! [at0, itemsOf]) (by simp) (fun q hq => by simp! [elF, wipeE, gN, ih q b (by have := dep_mem hq; omega) (by omega) (wf_mem hw.2 hq) (bd_all hB hq) hb (Int.le_trans (tot_part hw.2 hq) ht)]) (wf_len hw.1)
      simp! [m_most_of, encR, topR, gStarM, gN, at0, e, encRs_map, sumF_map, topSum_eq, ew_none_none, ew_none_call, ew_none_all, ew_none_one, ew_none_within, ew_none_calls, ew_call_none, ew_call_call, ew_call_all, ew_call_one, ew_call_within, ew_call_calls, ew_all_none, ew_all_call, ew_all_all, ew_all_one, ew_all_within, ew_all_calls, ew_one_none, ew_one_call, ew_one_all, ew_one_one, ew_one_within, ew_one_calls, ew_within_none, ew_within_call, ew_within_all, ew_within_one, ew_within_within, ew_within_calls, ew_calls_none, ew_calls_call, ew_calls_all, ew_calls_one, ew_calls_within, ew_calls_calls, iw_none_all, iw_none_within, iw_call_all, iw_call_within, iw_all_all, iw_all_within, iw_one_all, iw_one_within, iw_within_all, iw_within_within, iw_calls_all, iw_calls_within]
    | one rs =>
      simp only [dep] at hd
      simp only [wfR] at hw
      rw [callsR, callsRs_flat] at ht
      have e : lc_most_of_1 (s_most_of n) [.dat (.tuple [.str wOne, .tuple (rs.map encR)]), .dat (encB b), .un, .dat (.str wOne), .dat (.list [.tuple (rs.map encR)]), .un] = .ok (.list (rs.map fun r => .int (topR b r))) [.dat (.tuple [.str wOne, .tuple (rs.map encR)]), .dat (encB b), .un, .dat (.str wOne), .dat (.list [.tuple (rs.map encR)]), .un] := by
        unfold lc_most_of_1
        exact lc_map rs encR _ (by simp! [at0, itemsOf]) (by simp) (fun q hq => by simp! [elF, wipeE, gN, ih q b (by have := dep_mem hq; omega) (by omega) (wf_mem hw.2 hq) (bd_one hB hq) hb (Int.le_trans (tot_part hw.2 hq) ht)]) (wf_len hw.1)
      have e2 : maxDf (.list (rs.map fun r => .int (topR b r))) (.int 0) = some (.int (topMax b rs)) := by
        rw [topMax_eq, ← maxD_0 (fun x hx => by obtain ⟨r, hr, rfl⟩ := List.mem_map.mp hx; exact top_nn b hb r (wf_mem hw.2 hr)), List.map_map]
        rfl
      simp! [m_most_of, encR, topR, gStarM, gN, at0, e, e2, encRs_map, ew_none_none, ew_none_call, ew_none_all, ew_none_one, ew_none_within, ew_none_calls, ew_call_none, ew_call_call, ew_call_all, ew_call_one, ew_call_within, ew_call_calls, ew_all_none, ew_all_call, ew_all_all, ew_all_one, ew_all_within, ew_all_calls, ew_one_none, ew_one_call, ew_one_all, ew_one_one, ew_one_within, ew_one_calls, ew_within_none, ew_within_call, ew_within_all, ew_within_one, ew_within_within, ew_within_calls, ew_calls_none, ew_calls_call, ew_calls_all, ew_calls_one, ew_calls_within, ew_calls_calls, iw_none_all, iw_none_within, iw_call_all, iw_call_within, iw_all_all, iw_all_within, iw_one_all, iw_one_within, iw_within_all, iw_within_within, iw_calls_all, iw_calls_within]
end Lw
namespace Lw
open PySem L2 Bt
structure GdR (r : Rt) : Prop where
  wf : wfR r
  dp : dep r ≤ 6
  cl : (callsR r).length ≤ 1000
  nd : (namesR r).Nodup
  bd : BdR r
  tt : totC (callsR r) ≤ 10000
theorem GdR.look {r : Rt} (h : GdR r) : s_look_at_right [.dat (encR r)] = .ok (.dat .none) [.dat (encR r)] := look_right r h.wf h.dp h.cl h.nd
theorem GdR.most {r : Rt} (h : GdR r) (b : Option Int) (hb : OkB b) : s_most_of 30 [.dat (encR r), .dat (encB b)] = .ok (.dat (.int (topR b r))) [.dat (encR r), .dat (encB b)] := most_ok 30 r b (by have := h.dp; omega) (by omega) h.wf h.bd hb h.tt
theorem wf_part {r q : Rt} (hw : wfR r) (h : q ∈ partsR r) : wfR q := by
  cases r <;> simp [partsR] at h <;> simp only [wfR] at hw
  · exact wf_mem hw.2 h
  · exact wf_mem hw.2 h
  · subst h; exact hw.2
  · subst h; exact hw.2
theorem lim1 : 1 ≤ LIM := by decide
end Lw
namespace Lw
open PySem L2 Bt
end Lw
namespace Lw
open PySem L2 Bt
theorem maxF_app0 {α : Type} (f : α → Int) (p : List α) (h : ∀ q ∈ p, 0 ≤ f q) : maxF [.list ((p.map fun q => .int (f q)) ++ [.int 0])] = some (.int (max0 (p.map f))) := by
  have e : intsOf ((p.map fun q => PyData.int (f q)) ++ [.int 0]) = some (p.map f ++ [0]) := by
    rw [show ((p.map fun q => PyData.int (f q)) ++ [.int 0]) = (p.map f ++ [0]).map .int by rw [List.map_append, List.map_map]; rfl, intsOf_map]
  have e2 : maxL (p.map f ++ [0]) = max0 (p.map f) := by
    refine (maxL_uniq ?_ fun y hy => ?_).symm
    · have : ∀ l : List Int, max0 l ∈ l ++ [0] := by
        intro l
        induction l with
        | nil => simp [max0]
        | cons x xs ih =>
          rw [max0]
          by_cases hx : max0 xs ≤ x
          · rw [Int.max_eq_left hx]; simp
          · rw [Int.max_eq_right (by omega)]; exact List.mem_cons_of_mem _ ih
      exact this _
    · rcases List.mem_append.mp hy with hy | hy
      · exact le_max0 hy
      · rw [List.mem_singleton.mp hy]; exact max0_nn
  show (match intsOf ((p.map fun q => PyData.int (f q)) ++ [.int 0]) with | some (n :: ns) => some (PyData.int (maxL (n :: ns))) | _ => none) = _
  rw [e, ← e2]
  cases p with
  | nil => rfl
  | cons a as => rfl
theorem lim2 : 2 ≤ LIM := by decide
theorem l_length : ∀ (n : Nat) (r : Rt), dep r ≤ n → wfR r → s__law_length n [.dat (encR r)] = .ok (.dat (.int (lenR r))) [.dat (encR r)] := by
  intro n
  induction n with
  | zero => intro r h; cases r <;> simp [dep] at h
  | succ n ih =>
    intro r hd hw
    rw [r__law_length]
    cases r with
    | none => simp! [m__law_length, encR, lenR, gN, at0, lim2, ew_none_none, ew_none_call, ew_none_all, ew_none_one, ew_none_within, ew_none_calls, ew_call_none, ew_call_call, ew_call_all, ew_call_one, ew_call_within, ew_call_calls, ew_all_none, ew_all_call, ew_all_all, ew_all_one, ew_all_within, ew_all_calls, ew_one_none, ew_one_call, ew_one_all, ew_one_one, ew_one_within, ew_one_calls, ew_within_none, ew_within_call, ew_within_all, ew_within_one, ew_within_within, ew_within_calls, ew_calls_none, ew_calls_call, ew_calls_all, ew_calls_one, ew_calls_within, ew_calls_calls, iw_none_all, iw_none_within, iw_call_all, iw_call_within, iw_all_all, iw_all_within, iw_one_all, iw_one_within, iw_within_all, iw_within_within, iw_calls_all, iw_calls_within]
    | call x m t => simp! [m__law_length, encR, lenR, gN, at0, at3', ew_none_none, ew_none_call, ew_none_all, ew_none_one, ew_none_within, ew_none_calls, ew_call_none, ew_call_call, ew_call_all, ew_call_one, ew_call_within, ew_call_calls, ew_all_none, ew_all_call, ew_all_all, ew_all_one, ew_all_within, ew_all_calls, ew_one_none, ew_one_call, ew_one_all, ew_one_one, ew_one_within, ew_one_calls, ew_within_none, ew_within_call, ew_within_all, ew_within_one, ew_within_within, ew_within_calls, ew_calls_none, ew_calls_call, ew_calls_all, ew_calls_one, ew_calls_within, ew_calls_calls, iw_none_all, iw_none_within, iw_call_all, iw_call_within, iw_all_all, iw_all_within, iw_one_all, iw_one_within, iw_within_all, iw_within_within, iw_calls_all, iw_calls_within]
    | within k q =>
      simp only [dep] at hd
      simp only [wfR] at hw
      simp! [m__law_length, encR, lenR, gN, at0, at1, at2', lim2, ih q (by omega) hw.2, ew_none_none, ew_none_call, ew_none_all, ew_none_one, ew_none_within, ew_none_calls, ew_call_none, ew_call_call, ew_call_all, ew_call_one, ew_call_within, ew_call_calls, ew_all_none, ew_all_call, ew_all_all, ew_all_one, ew_all_within, ew_all_calls, ew_one_none, ew_one_call, ew_one_all, ew_one_one, ew_one_within, ew_one_calls, ew_within_none, ew_within_call, ew_within_all, ew_within_one, ew_within_within, ew_within_calls, ew_calls_none, ew_calls_call, ew_calls_all, ew_calls_one, ew_calls_within, ew_calls_calls, iw_none_all, iw_none_within, iw_call_all, iw_call_within, iw_all_all, iw_all_within, iw_one_all, iw_one_within, iw_within_all, iw_within_within, iw_calls_all, iw_calls_within]
    | calls k q =>
      simp only [dep] at hd
      simp only [wfR] at hw
      simp! [m__law_length, encR, lenR, gN, at0, at1, at2', lim2, ih q (by omega) hw.2, ew_none_none, ew_none_call, ew_none_all, ew_none_one, ew_none_within, ew_none_calls, ew_call_none, ew_call_call, ew_call_all, ew_call_one, ew_call_within, ew_call_calls, ew_all_none, ew_all_call, ew_all_all, ew_all_one, ew_all_within, ew_all_calls, ew_one_none, ew_one_call, ew_one_all, ew_one_one, ew_one_within, ew_one_calls, ew_within_none, ew_within_call, ew_within_all, ew_within_one, ew_within_within, ew_within_calls, ew_calls_none, ew_calls_call, ew_calls_all, ew_calls_one, ew_calls_within, ew_calls_calls, iw_none_all, iw_none_within, iw_call_all, iw_call_within, iw_all_all, iw_all_within, iw_one_all, iw_one_within, iw_within_all, iw_within_within, iw_calls_all, iw_calls_within]
    | all rs =>
      simp only [dep] at hd
      simp only [wfR] at hw
      have hl1 : rs.length + 1 ≤ LIM := Nat.le_trans (Nat.succ_le_succ hw.1) (by decide)
      have em := maxF_app0 lenR rs fun q hq => len_nn q (wf_mem hw.2 hq)
      have e : lc__law_length_1 (s__law_length n) [.dat (.tuple [.str wAll, .tuple (rs.map encR)]), .dat (.str wAll), .un, .un] = .ok (.list (rs.map fun r => .int (lenR r))) [.dat (.tuple [.str wAll, .tuple (rs.map encR)]), .dat (.str wAll), .un, .un] := by
        unfold lc__law_length_1
        exact lc_map rs encR _ (by simp! [at1, itemsOf]) (by simp) (fun q hq => by simp! [elF, wipeE, gN, ih q (by have := dep_mem hq; omega) (wf_mem hw.2 hq)]) (wf_len hw.1)
      simp [m__law_length, encR, lenR, Bt.a_bnd, Bt.a_ret, Bt.a_stuck, Bt.a_liftS, Bt.a_liftN, Bt.a_mOp, Bt.a_mOpF, Bt.a_mChain, Bt.a_mD, Bt.a_mR, Bt.a_mV, Bt.a_mFrz, Bt.a_rsvD, Bt.a_rsvR, Bt.a_rsvs0, Bt.a_rsvs1, Bt.a_mCons, Bt.a_mConsD, Bt.a_mTup, Bt.a_mLst, Bt.a_mLstF, Bt.a_mIf, Bt.a_mIfS, Bt.a_ite, Bt.a_mAnd, Bt.a_mOr, Bt.a_mNot, Bt.a_mAndV, Bt.a_mOrV, Bt.a_mNotV, Bt.a_asB, Bt.a_mNeg, Bt.a_mB, Bt.a_mBF, Bt.a_mIsi, Bt.a_mCall, Bt.a_mCallK, Bt.a_mCallO, Bt.a_mCallKO, Bt.a_mCallB, Bt.a_thawD, Bt.a_thawL, Bt.a_mRetS, Bt.a_mDat, Bt.a_mObj, Bt.a_mLstO, Bt.a_mSetS, Bt.a_mGive, Bt.a_mAsL, Bt.a_asL, Bt.a_mRev, Bt.a_mDfl, Bt.a_mRng3, Bt.a_mPutAug, Bt.a_mPop, Bt.a_mSeq, Bt.a_mNil, Bt.a_mRet, Bt.a_mExpr, Bt.a_mSet, Bt.a_gN, Bt.a_gTup, Bt.a_gCons, Bt.a_gNil, Bt.a_mItL, Bt.a_mItT, Bt.a_mIt, Bt.a_mPart0, Bt.a_mPart1, Bt.a_mSl, Bt.a_mOwn, Bt.a_mApp, Bt.a_mPut, Bt.a_mAug, Bt.a_mRng1, Bt.a_mRng2, Bt.a_mZip, Bt.a_mEnum, Bt.a_mFor, Bt.a_mFn, Bt.a_mLenScr, Bt.a_mIxScr, Bt.a_mDGet, Bt.a_mDGet2, Bt.a_mDIn, Bt.a_mDPut, Bt.a_mDAug, Bt.a_mOwnO, Bt.a_mDict, Bt.a_mDNew, Bt.a_mSortD, Bt.a_mRaise0, Bt.a_mRaise1, Bt.a_mTry, Bt.a_mIsx, Bt.a_mFld, Bt.a_mMeth, Bt.a_mExt, Bt.a_mExtB, Bt.a_mNew0, Bt.a_mNewN, Bt.a_mNew1, Bt.a_mIsxO, Bt.a_mIsVE, Bt.a_mPar, Bt.a_mRaiseN, Bt.a_mTry0, Bt.a_mZipE, Bt.a_mLrg2, Bt.a_mLrg1, Bt.argSl, Bt.apartA, Bt.isOwn, Bt.putB, Bt.okAsg, Bt.parBack, Bt.slD, Bt.addD, Bt.subD, Bt.mulD, Bt.fdivD, Bt.modD, Bt.powD, Bt.ltD, Bt.leD, Bt.gtD, Bt.geD, Bt.isD, Bt.isntD, Bt.isNone, Bt.ixD, Bt.lenF, Bt.intF, Bt.minF, Bt.tupleF, Bt.listF, Bt.notX_none, Bt.notX_bool, Bt.notX_int, Bt.notX_str, Bt.notX_list, Bt.notX_tuple, Bt.isi_none, Bt.isi_bool, Bt.isi_int, Bt.isi_str, Bt.isi_list, Bt.isi_tuple, Bt.tyIs, Bt.pkD, Bt.addL, Bt.mulL, Bt.listL, Bt.revD, Bt.borSl, Bt.flatD, Bt.isDic, Bt.dkOf, Bt.keyOf, Bt.isCls_x, Bt.isCls_n, Bt.xOf_0, Bt.xOf_1, Bt.isSub_0, Bt.lift_some, Bt.ll0, Bt.ll1, Bt.ll2, Bt.ll3, Bt.ll4, Bt.ll5, Bt.ll6, Bt.ll7, Bt.ll8, Bt.ll9, Bt.ll10, Bt.ll11, Bt.ll12, Bt.ll13, Bt.ll14, Bt.ll15, Bt.ll16, gN, at0, e, em, hl1, lim1, lim2, encRs_map, sumF_map, lenSum_eq, lenMax_eq, ew_none_none, ew_none_call, ew_none_all, ew_none_one, ew_none_within, ew_none_calls, ew_call_none, ew_call_call, ew_call_all, ew_call_one, ew_call_within, ew_call_calls, ew_all_none, ew_all_call, ew_all_all, ew_all_one, ew_all_within, ew_all_calls, ew_one_none, ew_one_call, ew_one_all, ew_one_one, ew_one_within, ew_one_calls, ew_within_none, ew_within_call, ew_within_all, ew_within_one, ew_within_within, ew_within_calls, ew_calls_none, ew_calls_call, ew_calls_all, ew_calls_one, ew_calls_within, ew_calls_calls, iw_none_all, iw_none_within, iw_call_all, iw_call_within, iw_all_all, iw_all_within, iw_one_all, iw_one_within, iw_within_all, iw_within_within, iw_calls_all, iw_calls_within]
    | one rs =>
      simp only [dep] at hd
      simp only [wfR] at hw
      have hl1 : rs.length + 1 ≤ LIM := Nat.le_trans (Nat.succ_le_succ hw.1) (by decide)
      have em := maxF_app0 lenR rs fun q hq => len_nn q (wf_mem hw.2 hq)
      have e : lc__law_length_1 (s__law_length n) [.dat (.tuple [.str wOne, .tuple (rs.map encR)]), .dat (.str wOne), .un, .un] = .ok (.list (rs.map fun r => .int (lenR r))) [.dat (.tuple [.str wOne, .tuple (rs.map encR)]), .dat (.str wOne), .un, .un] := by
        unfold lc__law_length_1
        exact lc_map rs encR _ (by simp! [at1, itemsOf]) (by simp) (fun q hq => by simp! [elF, wipeE, gN, ih q (by have := dep_mem hq; omega) (wf_mem hw.2 hq)]) (wf_len hw.1)
      simp [m__law_length, encR, lenR, Bt.a_bnd, Bt.a_ret, Bt.a_stuck, Bt.a_liftS, Bt.a_liftN, Bt.a_mOp, Bt.a_mOpF, Bt.a_mChain, Bt.a_mD, Bt.a_mR, Bt.a_mV, Bt.a_mFrz, Bt.a_rsvD, Bt.a_rsvR, Bt.a_rsvs0, Bt.a_rsvs1, Bt.a_mCons, Bt.a_mConsD, Bt.a_mTup, Bt.a_mLst, Bt.a_mLstF, Bt.a_mIf, Bt.a_mIfS, Bt.a_ite, Bt.a_mAnd, Bt.a_mOr, Bt.a_mNot, Bt.a_mAndV, Bt.a_mOrV, Bt.a_mNotV, Bt.a_asB, Bt.a_mNeg, Bt.a_mB, Bt.a_mBF, Bt.a_mIsi, Bt.a_mCall, Bt.a_mCallK, Bt.a_mCallO, Bt.a_mCallKO, Bt.a_mCallB, Bt.a_thawD, Bt.a_thawL, Bt.a_mRetS, Bt.a_mDat, Bt.a_mObj, Bt.a_mLstO, Bt.a_mSetS, Bt.a_mGive, Bt.a_mAsL, Bt.a_asL, Bt.a_mRev, Bt.a_mDfl, Bt.a_mRng3, Bt.a_mPutAug, Bt.a_mPop, Bt.a_mSeq, Bt.a_mNil, Bt.a_mRet, Bt.a_mExpr, Bt.a_mSet, Bt.a_gN, Bt.a_gTup, Bt.a_gCons, Bt.a_gNil, Bt.a_mItL, Bt.a_mItT, Bt.a_mIt, Bt.a_mPart0, Bt.a_mPart1, Bt.a_mSl, Bt.a_mOwn, Bt.a_mApp, Bt.a_mPut, Bt.a_mAug, Bt.a_mRng1, Bt.a_mRng2, Bt.a_mZip, Bt.a_mEnum, Bt.a_mFor, Bt.a_mFn, Bt.a_mLenScr, Bt.a_mIxScr, Bt.a_mDGet, Bt.a_mDGet2, Bt.a_mDIn, Bt.a_mDPut, Bt.a_mDAug, Bt.a_mOwnO, Bt.a_mDict, Bt.a_mDNew, Bt.a_mSortD, Bt.a_mRaise0, Bt.a_mRaise1, Bt.a_mTry, Bt.a_mIsx, Bt.a_mFld, Bt.a_mMeth, Bt.a_mExt, Bt.a_mExtB, Bt.a_mNew0, Bt.a_mNewN, Bt.a_mNew1, Bt.a_mIsxO, Bt.a_mIsVE, Bt.a_mPar, Bt.a_mRaiseN, Bt.a_mTry0, Bt.a_mZipE, Bt.a_mLrg2, Bt.a_mLrg1, Bt.argSl, Bt.apartA, Bt.isOwn, Bt.putB, Bt.okAsg, Bt.parBack, Bt.slD, Bt.addD, Bt.subD, Bt.mulD, Bt.fdivD, Bt.modD, Bt.powD, Bt.ltD, Bt.leD, Bt.gtD, Bt.geD, Bt.isD, Bt.isntD, Bt.isNone, Bt.ixD, Bt.lenF, Bt.intF, Bt.minF, Bt.tupleF, Bt.listF, Bt.notX_none, Bt.notX_bool, Bt.notX_int, Bt.notX_str, Bt.notX_list, Bt.notX_tuple, Bt.isi_none, Bt.isi_bool, Bt.isi_int, Bt.isi_str, Bt.isi_list, Bt.isi_tuple, Bt.tyIs, Bt.pkD, Bt.addL, Bt.mulL, Bt.listL, Bt.revD, Bt.borSl, Bt.flatD, Bt.isDic, Bt.dkOf, Bt.keyOf, Bt.isCls_x, Bt.isCls_n, Bt.xOf_0, Bt.xOf_1, Bt.isSub_0, Bt.lift_some, Bt.ll0, Bt.ll1, Bt.ll2, Bt.ll3, Bt.ll4, Bt.ll5, Bt.ll6, Bt.ll7, Bt.ll8, Bt.ll9, Bt.ll10, Bt.ll11, Bt.ll12, Bt.ll13, Bt.ll14, Bt.ll15, Bt.ll16, gN, at0, e, em, hl1, lim1, lim2, encRs_map, sumF_map, lenSum_eq, lenMax_eq, ew_none_none, ew_none_call, ew_none_all, ew_none_one, ew_none_within, ew_none_calls, ew_call_none, ew_call_call, ew_call_all, ew_call_one, ew_call_within, ew_call_calls, ew_all_none, ew_all_call, ew_all_all, ew_all_one, ew_all_within, ew_all_calls, ew_one_none, ew_one_call, ew_one_all, ew_one_one, ew_one_within, ew_one_calls, ew_within_none, ew_within_call, ew_within_all, ew_within_one, ew_within_within, ew_within_calls, ew_calls_none, ew_calls_call, ew_calls_all, ew_calls_one, ew_calls_within, ew_calls_calls, iw_none_all, iw_none_within, iw_call_all, iw_call_within, iw_all_all, iw_all_within, iw_one_all, iw_one_within, iw_within_all, iw_within_within, iw_calls_all, iw_calls_within]
theorem l_row : ∀ (n : Nat) (r : Rt) (b : Option Int) (c : Nat), dep r ≤ n → wfR r → BdR r → BdB b → c ≤ 10000 → ∃ sl, s__law_row n [.dat (encR r), .dat (encB b), .dat (.int (c : Nat))] = .ok sl [.dat (encR r), .dat (encB b), .dat (.int (c : Nat))] ∧ IsRow sl (rowL (rowF b r) c) := by
  intro n
  induction n with
  | zero => intro r b c h; cases r <;> simp [dep] at h
  | succ n ih =>
    intro r b c hd hw hB hb hc
    rw [r__law_row]
    have hL : c + 1 ≤ LIM := Nat.le_trans (by omega : c + 1 ≤ 100000) (Nat.le_refl _)
    cases r with
    | none =>
      refine ⟨.dat (.list (rowL (fun _ => 0) c)), ?_, fun _ => by rw [rowF]; rfl⟩
      simp! [m__law_row, encR, gN, at0, rpk c hc, rep1, lim1, ew_none_none, ew_none_call, ew_none_all, ew_none_one, ew_none_within, ew_none_calls, ew_call_none, ew_call_call, ew_call_all, ew_call_one, ew_call_within, ew_call_calls, ew_all_none, ew_all_call, ew_all_all, ew_all_one, ew_all_within, ew_all_calls, ew_one_none, ew_one_call, ew_one_all, ew_one_one, ew_one_within, ew_one_calls, ew_within_none, ew_within_call, ew_within_all, ew_within_one, ew_within_within, ew_within_calls, ew_calls_none, ew_calls_call, ew_calls_all, ew_calls_one, ew_calls_within, ew_calls_calls, iw_none_all, iw_none_within, iw_call_all, iw_call_within, iw_all_all, iw_all_within, iw_one_all, iw_one_within, iw_within_all, iw_within_within, iw_calls_all, iw_calls_within]
    | call x m t =>
      simp only [wfR] at hw
      have hq := hB (x, m, t) (by simp [callsR])
      have o2 := cut_bd hw.2.2.1 hq.1 hb
      have e : lc__law_row_1 (s__law_row n) [.dat (encR (.call x m t)), .dat (encB b), .dat (.int (c : Nat)), .dat (.str wCall), .un, .un, .dat (.int (cutI m b)), .un, .un, .un, .un, .un] = .ok (.list (rowL (rowF b (.call x m t)) c)) [.dat (encR (.call x m t)), .dat (encB b), .dat (.int (c : Nat)), .dat (.str wCall), .un, .un, .dat (.int (cutI m b)), .un, .un, .un, .un, .un] := by
        unfold lc__law_row_1 rowL
        refine lc_map (List.range (c + 1)) (fun i => .int (i : Nat)) _ (by simp! [rgN c (by omega), rangeN]) (by simp) (fun j hj => ?_) (by rw [List.length_range]; exact hL)
        have hj' : j ≤ c := by have := List.mem_range.mp hj; omega
        have o1 : okI (min t (j : Int)) = true := okI_of (by omega) (by omega)
        simp! [elF, wipeE, gN, encR, at3', o1, o2, rowF]
      refine ⟨(.ow (.l (rowL (rowF b (.call x m t)) c))), ?_, fun _ => rfl⟩
      rw [encR] at e ⊢
      cases b with
      | none => simp only [cutI, encB] at e ⊢; simp! [m__law_row, gN, at0, at2', e, ew_none_none, ew_none_call, ew_none_all, ew_none_one, ew_none_within, ew_none_calls, ew_call_none, ew_call_call, ew_call_all, ew_call_one, ew_call_within, ew_call_calls, ew_all_none, ew_all_call, ew_all_all, ew_all_one, ew_all_within, ew_all_calls, ew_one_none, ew_one_call, ew_one_all, ew_one_one, ew_one_within, ew_one_calls, ew_within_none, ew_within_call, ew_within_all, ew_within_one, ew_within_within, ew_within_calls, ew_calls_none, ew_calls_call, ew_calls_all, ew_calls_one, ew_calls_within, ew_calls_calls, iw_none_all, iw_none_within, iw_call_all, iw_call_within, iw_all_all, iw_all_within, iw_one_all, iw_one_within, iw_within_all, iw_within_within, iw_calls_all, iw_calls_within]
      | some b => simp only [cutI, encB] at e ⊢; simp! [m__law_row, gN, at0, at2', e, ew_none_none, ew_none_call, ew_none_all, ew_none_one, ew_none_within, ew_none_calls, ew_call_none, ew_call_call, ew_call_all, ew_call_one, ew_call_within, ew_call_calls, ew_all_none, ew_all_call, ew_all_all, ew_all_one, ew_all_within, ew_all_calls, ew_one_none, ew_one_call, ew_one_all, ew_one_one, ew_one_within, ew_one_calls, ew_within_none, ew_within_call, ew_within_all, ew_within_one, ew_within_within, ew_within_calls, ew_calls_none, ew_calls_call, ew_calls_all, ew_calls_one, ew_calls_within, ew_calls_calls, iw_none_all, iw_none_within, iw_call_all, iw_call_within, iw_all_all, iw_all_within, iw_one_all, iw_one_within, iw_within_all, iw_within_within, iw_calls_all, iw_calls_within]
    | within k q =>
      simp only [wfR] at hw
      simp only [dep] at hd
      obtain ⟨sl, e1, e2⟩ := ih q b c (by omega) hw.2 (fun z hz => hB z (by rw [callsR]; exact hz)) hb hc
      have e : lc__law_row_2 (s__law_row n) [.dat (encR (.within k q)), .dat (encB b), .dat (.int (c : Nat)), .dat (.str wWithin), .un, .un, .un, .un, .un, .un, .un, .un] = .ok (.list (rowL (rowF b (.within k q)) c)) [.dat (encR (.within k q)), .dat (encB b), .dat (.int (c : Nat)), .dat (.str wWithin), .un, .un, .un, .un, .un, .un, .un, .un] := by
        unfold lc__law_row_2
        have hi : mIt (mCall (s__law_row n) [] (mCons (mD (mOp ixD (mR 0) (mD (Bt.ret (.int 2))))) (mCons (mR 1) (mCons (mR 2) (Bt.ret []))))) [.dat (encR (.within k q)), .dat (encB b), .dat (.int (c : Nat)), .dat (.str wWithin), .un, .un, .un, .un, .un, .un, .un, .un] = .ok (rowL (rowF b q) c) [.dat (encR (.within k q)), .dat (encB b), .dat (.int (c : Nat)), .dat (.str wWithin), .un, .un, .un, .un, .un, .un, .un, .un] := by
          rw [encR]
          simp! [at2', e1, e2 _, itemsOf]
        unfold rowL at hi ⊢
        refine lc_map (List.range (c + 1)) (fun i => .int (rowF b q i)) _ hi (by simp) (fun j hj => ?_) (by rw [List.length_range]; exact hL)
        rw [encR]
        simp! [elF, wipeE, gN, at1, rowF]
      refine ⟨(.ow (.l (rowL (rowF b (.within k q)) c))), ?_, fun _ => rfl⟩
      rw [encR] at e ⊢
      simp! [m__law_row, gN, at0, e, ew_none_none, ew_none_call, ew_none_all, ew_none_one, ew_none_within, ew_none_calls, ew_call_none, ew_call_call, ew_call_all, ew_call_one, ew_call_within, ew_call_calls, ew_all_none, ew_all_call, ew_all_all, ew_all_one, ew_all_within, ew_all_calls, ew_one_none, ew_one_call, ew_one_all, ew_one_one, ew_one_within, ew_one_calls, ew_within_none, ew_within_call, ew_within_all, ew_within_one, ew_within_within, ew_within_calls, ew_calls_none, ew_calls_call, ew_calls_all, ew_calls_one, ew_calls_within, ew_calls_calls, iw_none_all, iw_none_within, iw_call_all, iw_call_within, iw_all_all, iw_all_within, iw_one_all, iw_one_within, iw_within_all, iw_within_within, iw_calls_all, iw_calls_within]
    | calls k q =>
      simp only [wfR] at hw
      simp only [dep] at hd
      obtain ⟨sl, e1, e2⟩ := ih q b c (by omega) hw.2 (fun z hz => hB z (by rw [callsR]; exact hz)) hb hc
      have e : lc__law_row_3 (s__law_row n) [.dat (encR (.calls k q)), .dat (encB b), .dat (.int (c : Nat)), .dat (.str wCalls), .dat (.list (rowL (rowF b q) c)), .un, .un, .un, .un, .un, .un, .un] = .ok (.list (rowL (rowF b (.calls k q)) c)) [.dat (encR (.calls k q)), .dat (encB b), .dat (.int (c : Nat)), .dat (.str wCalls), .dat (.list (rowL (rowF b q) c)), .un, .un, .un, .un, .un, .un, .un] := by
        unfold lc__law_row_3
        have hi : mRng1 (mCons (mD (mOp addD (mR 2) (mD (Bt.ret (.int 1))))) (Bt.ret [])) [.dat (encR (.calls k q)), .dat (encB b), .dat (.int (c : Nat)), .dat (.str wCalls), .dat (.list (rowL (rowF b q) c)), .un, .un, .un, .un, .un, .un, .un] = .ok ((List.range (c + 1)).map fun (i : Nat) => .int (i : Int)) [.dat (encR (.calls k q)), .dat (encB b), .dat (.int (c : Nat)), .dat (.str wCalls), .dat (.list (rowL (rowF b q) c)), .un, .un, .un, .un, .un, .un, .un] := by
          simp! [rgN c (by omega), rangeN]
        rw [show rowL (rowF b (.calls k q)) c = (List.range (c + 1)).map fun j => .int (rowF b (.calls k q) j) from rfl]
        refine lc_map (List.range (c + 1)) (fun i => .int (i : Nat)) _ hi (by simp) (fun j hj => ?_) (by rw [List.length_range]; exact hL)
        have hj' : j ≤ c := by have := List.mem_range.mp hj; omega
        have ej : min (j : Int) k = ((min j k.toNat : Nat) : Int) := by omega
        rw [encR]
        simp! [elF, wipeE, gN, at1, ej, row_at (f := rowF b q) (show min j k.toNat ≤ c by omega), rowF]
      refine ⟨(.ow (.l (rowL (rowF b (.calls k q)) c))), ?_, fun _ => rfl⟩
      rw [encR] at e ⊢
      simp! [m__law_row, gN, at0, at1, at2', e1, e2 _, e, ew_none_none, ew_none_call, ew_none_all, ew_none_one, ew_none_within, ew_none_calls, ew_call_none, ew_call_call, ew_call_all, ew_call_one, ew_call_within, ew_call_calls, ew_all_none, ew_all_call, ew_all_all, ew_all_one, ew_all_within, ew_all_calls, ew_one_none, ew_one_call, ew_one_all, ew_one_one, ew_one_within, ew_one_calls, ew_within_none, ew_within_call, ew_within_all, ew_within_one, ew_within_within, ew_within_calls, ew_calls_none, ew_calls_call, ew_calls_all, ew_calls_one, ew_calls_within, ew_calls_calls, iw_none_all, iw_none_within, iw_call_all, iw_call_within, iw_all_all, iw_all_within, iw_one_all, iw_one_within, iw_within_all, iw_within_within, iw_calls_all, iw_calls_within]
    | all rs =>
      simp only [wfR] at hw
      simp only [dep] at hd
      let st : (Nat → Int) → En := fun f => [.dat (.tuple [.str wAll, .tuple (rs.map encR)]), .dat (encB b), .dat (.int (c : Nat)), .dat (.str wAll), .dat (.list (rowL f c)), .un, .un, .un, .un, .un, .un, .un]
      have e : fr__law_row_1 (s__law_row n) (st fun _ => 0) = .ok .nx (st (rs.foldl (fun f r => conv f (rowF b r)) fun _ => 0)) := by
        unfold fr__law_row_1
        refine (for_fold rs encR st (fun f r => conv f (rowF b r)) (fun _ p => ∀ q ∈ p, q ∈ rs) (by simp! [st, at1, itemsOf]) (fun q hq => hq) (fun q p f hI => ⟨?_, fun z hz => hI z (List.mem_cons_of_mem _ hz)⟩)).1
        have hq := hI q List.mem_cons_self
        obtain ⟨sl, e1, e2⟩ := ih q b c (by have := dep_mem hq; omega) (wf_mem hw.2 hq) (bd_all hB hq) hb hc
        have e4 : ∀ j, j ≤ c → lc__law_row_5 (s__law_row n) [.dat (.tuple [.str wAll, .tuple (rs.map encR)]), .dat (encB b), .dat (.int (c : Nat)), .dat (.str wAll), .dat (.list (rowL f c)), .dat (encR q), .un, .dat (.list (rowL (rowF b q) c)), .dat (.int (j : Nat)), .un, .un, .un] = .ok (.list ((List.range (j + 1)).map fun i => .int (f i + rowF b q (j - i)))) [.dat (.tuple [.str wAll, .tuple (rs.map encR)]), .dat (encB b), .dat (.int (c : Nat)), .dat (.str wAll), .dat (.list (rowL f c)), .dat (encR q), .un, .dat (.list (rowL (rowF b q) c)), .dat (.int (j : Nat)), .un, .un, .un] := by
          intro j hj
          unfold lc__law_row_5
          refine lc_map (List.range (j + 1)) (fun i => .int (i : Nat)) _ (by simp! [rgN j (by omega), rangeN]) (by simp) (fun i hi => ?_) (by rw [List.length_range]; exact Nat.le_trans (by omega : j + 1 ≤ 100000) (Nat.le_refl _))
          have hi' : i ≤ j := by have := List.mem_range.mp hi; omega
          have ei : ((j : Int) - (i : Int)) = ((j - i : Nat) : Int) := by omega
          simp! [elF, wipeE, gN, row_at (f := f) (show i ≤ c by omega), ei, row_at (f := rowF b q) (show j - i ≤ c by omega)]
        have e3 : lc__law_row_6 (s__law_row n) [.dat (.tuple [.str wAll, .tuple (rs.map encR)]), .dat (encB b), .dat (.int (c : Nat)), .dat (.str wAll), .dat (.list (rowL f c)), .dat (encR q), .un, .dat (.list (rowL (rowF b q) c)), .un, .un, .un, .un] = .ok (.list (rowL (conv f (rowF b q)) c)) [.dat (.tuple [.str wAll, .tuple (rs.map encR)]), .dat (encB b), .dat (.int (c : Nat)), .dat (.str wAll), .dat (.list (rowL f c)), .dat (encR q), .un, .dat (.list (rowL (rowF b q) c)), .un, .un, .un, .un] := by
          unfold lc__law_row_6
          rw [show rowL (conv f (rowF b q)) c = (List.range (c + 1)).map fun j => .int (conv f (rowF b q) j) from rfl]
          refine lc_map (List.range (c + 1)) (fun i => .int (i : Nat)) _ (by simp! [rgN c (by omega), rangeN]) (by simp) (fun j hj => ?_) (by rw [List.length_range]; exact hL)
          have hj' : j ≤ c := by have := List.mem_range.mp hj; omega
          have e5 := e4 j hj'
          have e6 : maxF [.list ((List.range (j + 1)).map fun i => .int (f i + rowF b q (j - i)))] = some (.int (conv f (rowF b q) j)) := maxF_map (fun i => f i + rowF b q (j - i)) _ (by simp)
          simp [elF, wipeE, gN, Bt.a_bnd, Bt.a_ret, Bt.a_stuck, Bt.a_liftS, Bt.a_liftN, Bt.a_mOp, Bt.a_mOpF, Bt.a_mChain, Bt.a_mD, Bt.a_mR, Bt.a_mV, Bt.a_mFrz, Bt.a_rsvD, Bt.a_rsvR, Bt.a_rsvs0, Bt.a_rsvs1, Bt.a_mCons, Bt.a_mConsD, Bt.a_mTup, Bt.a_mLst, Bt.a_mLstF, Bt.a_mIf, Bt.a_mIfS, Bt.a_ite, Bt.a_mAnd, Bt.a_mOr, Bt.a_mNot, Bt.a_mAndV, Bt.a_mOrV, Bt.a_mNotV, Bt.a_asB, Bt.a_mNeg, Bt.a_mB, Bt.a_mBF, Bt.a_mIsi, Bt.a_mCall, Bt.a_mCallK, Bt.a_mCallO, Bt.a_mCallKO, Bt.a_mCallB, Bt.a_thawD, Bt.a_thawL, Bt.a_mRetS, Bt.a_mDat, Bt.a_mObj, Bt.a_mLstO, Bt.a_mSetS, Bt.a_mGive, Bt.a_mAsL, Bt.a_asL, Bt.a_mRev, Bt.a_mDfl, Bt.a_mRng3, Bt.a_mPutAug, Bt.a_mPop, Bt.a_mSeq, Bt.a_mNil, Bt.a_mRet, Bt.a_mExpr, Bt.a_mSet, Bt.a_gN, Bt.a_gTup, Bt.a_gCons, Bt.a_gNil, Bt.a_mItL, Bt.a_mItT, Bt.a_mIt, Bt.a_mPart0, Bt.a_mPart1, Bt.a_mSl, Bt.a_mOwn, Bt.a_mApp, Bt.a_mPut, Bt.a_mAug, Bt.a_mRng1, Bt.a_mRng2, Bt.a_mZip, Bt.a_mEnum, Bt.a_mFor, Bt.a_mFn, Bt.a_mLenScr, Bt.a_mIxScr, Bt.a_mDGet, Bt.a_mDGet2, Bt.a_mDIn, Bt.a_mDPut, Bt.a_mDAug, Bt.a_mOwnO, Bt.a_mDict, Bt.a_mDNew, Bt.a_mSortD, Bt.a_mRaise0, Bt.a_mRaise1, Bt.a_mTry, Bt.a_mIsx, Bt.a_mFld, Bt.a_mMeth, Bt.a_mExt, Bt.a_mExtB, Bt.a_mNew0, Bt.a_mNewN, Bt.a_mNew1, Bt.a_mIsxO, Bt.a_mIsVE, Bt.a_mPar, Bt.a_mRaiseN, Bt.a_mTry0, Bt.a_mZipE, Bt.a_mLrg2, Bt.a_mLrg1, Bt.argSl, Bt.apartA, Bt.isOwn, Bt.putB, Bt.okAsg, Bt.parBack, Bt.slD, Bt.addD, Bt.subD, Bt.mulD, Bt.fdivD, Bt.modD, Bt.powD, Bt.ltD, Bt.leD, Bt.gtD, Bt.geD, Bt.isD, Bt.isntD, Bt.isNone, Bt.ixD, Bt.lenF, Bt.intF, Bt.minF, Bt.tupleF, Bt.listF, Bt.notX_none, Bt.notX_bool, Bt.notX_int, Bt.notX_str, Bt.notX_list, Bt.notX_tuple, Bt.isi_none, Bt.isi_bool, Bt.isi_int, Bt.isi_str, Bt.isi_list, Bt.isi_tuple, Bt.tyIs, Bt.pkD, Bt.addL, Bt.mulL, Bt.listL, Bt.revD, Bt.borSl, Bt.flatD, Bt.isDic, Bt.dkOf, Bt.keyOf, Bt.isCls_x, Bt.isCls_n, Bt.xOf_0, Bt.xOf_1, Bt.isSub_0, Bt.lift_some, Bt.ll0, Bt.ll1, Bt.ll2, Bt.ll3, Bt.ll4, Bt.ll5, Bt.ll6, Bt.ll7, Bt.ll8, Bt.ll9, Bt.ll10, Bt.ll11, Bt.ll12, Bt.ll13, Bt.ll14, Bt.ll15, Bt.ll16, e5, e6]
        refine ⟨[.dat (.tuple [.str wAll, .tuple (rs.map encR)]), .dat (encB b), .dat (.int (c : Nat)), .dat (.str wAll), .dat (.list (rowL f c)), .dat (encR q), .un, .un, .un, .un, .un, .un], [.dat (.tuple [.str wAll, .tuple (rs.map encR)]), .dat (encB b), .dat (.int (c : Nat)), .dat (.str wAll), .dat (.list (rowL (conv f (rowF b q)) c)), .dat (encR q), .un, .dat (.list (rowL (rowF b q) c)), .un, .un, .un, .un], by simp [st, gN], .inl ?_, by simp [st, wipeE]⟩
        simp! [lp__law_row_1, gN, e1, e2 _, e3, ew_none_none, ew_none_call, ew_none_all, ew_none_one, ew_none_within, ew_none_calls, ew_call_none, ew_call_call, ew_call_all, ew_call_one, ew_call_within, ew_call_calls, ew_all_none, ew_all_call, ew_all_all, ew_all_one, ew_all_within, ew_all_calls, ew_one_none, ew_one_call, ew_one_all, ew_one_one, ew_one_within, ew_one_calls, ew_within_none, ew_within_call, ew_within_all, ew_within_one, ew_within_within, ew_within_calls, ew_calls_none, ew_calls_call, ew_calls_all, ew_calls_one, ew_calls_within, ew_calls_calls, iw_none_all, iw_none_within, iw_call_all, iw_call_within, iw_all_all, iw_all_within, iw_one_all, iw_one_within, iw_within_all, iw_within_within, iw_calls_all, iw_calls_within]
      refine ⟨.dat (.list (rowL (rowF b (.all rs)) c)), ?_, fun _ => rfl⟩
      rw [rowF, rowAll_eq, encR, encRs_map]
      simp only [st] at e
      simp! [m__law_row, gN, at0, rpk c hc, rep1, e, lim1, ew_none_none, ew_none_call, ew_none_all, ew_none_one, ew_none_within, ew_none_calls, ew_call_none, ew_call_call, ew_call_all, ew_call_one, ew_call_within, ew_call_calls, ew_all_none, ew_all_call, ew_all_all, ew_all_one, ew_all_within, ew_all_calls, ew_one_none, ew_one_call, ew_one_all, ew_one_one, ew_one_within, ew_one_calls, ew_within_none, ew_within_call, ew_within_all, ew_within_one, ew_within_within, ew_within_calls, ew_calls_none, ew_calls_call, ew_calls_all, ew_calls_one, ew_calls_within, ew_calls_calls, iw_none_all, iw_none_within, iw_call_all, iw_call_within, iw_all_all, iw_all_within, iw_one_all, iw_one_within, iw_within_all, iw_within_within, iw_calls_all, iw_calls_within]
    | one rs =>
      simp only [wfR] at hw
      simp only [dep] at hd
      let st : (Nat → Int) → En := fun f => [.dat (.tuple [.str wOne, .tuple (rs.map encR)]), .dat (encB b), .dat (.int (c : Nat)), .dat (.str wOne), .dat (.list (rowL f c)), .un, .un, .un, .un, .un, .un, .un]
      have e : fr__law_row_1 (s__law_row n) (st fun _ => 0) = .ok .nx (st (rs.foldl (fun f r => pmax f (rowF b r)) fun _ => 0)) := by
        unfold fr__law_row_1
        refine (for_fold rs encR st (fun f r => pmax f (rowF b r)) (fun _ p => ∀ q ∈ p, q ∈ rs) (by simp! [st, at1, itemsOf]) (fun q hq => hq) (fun q p f hI => ⟨?_, fun z hz => hI z (List.mem_cons_of_mem _ hz)⟩)).1
        have hq := hI q List.mem_cons_self
        obtain ⟨sl, e1, e2⟩ := ih q b c (by have := dep_mem hq; omega) (wf_mem hw.2 hq) (bd_one hB hq) hb hc
        have e3 : lc__law_row_4 (s__law_row n) [.dat (.tuple [.str wOne, .tuple (rs.map encR)]), .dat (encB b), .dat (.int (c : Nat)), .dat (.str wOne), .dat (.list (rowL f c)), .dat (encR q), .un, .dat (.list (rowL (rowF b q) c)), .un, .un, .un, .un] = .ok (.list (rowL (pmax f (rowF b q)) c)) [.dat (.tuple [.str wOne, .tuple (rs.map encR)]), .dat (encB b), .dat (.int (c : Nat)), .dat (.str wOne), .dat (.list (rowL f c)), .dat (encR q), .un, .dat (.list (rowL (rowF b q) c)), .un, .un, .un, .un] := by
          unfold lc__law_row_4
          rw [show rowL (pmax f (rowF b q)) c = (List.range (c + 1)).map fun j => .int (pmax f (rowF b q) j) from rfl]
          refine lc_map (List.range (c + 1)) (fun j => .tuple [.int (f j), .int (rowF b q j)]) _ (by simp! [row_len, zip_row]) (by simp) (fun j hj => ?_) (by rw [List.length_range]; exact hL)
          simp! [elF, wipeE, gN, maxT2, pmax]
        refine ⟨[.dat (.tuple [.str wOne, .tuple (rs.map encR)]), .dat (encB b), .dat (.int (c : Nat)), .dat (.str wOne), .dat (.list (rowL f c)), .dat (encR q), .un, .un, .un, .un, .un, .un], [.dat (.tuple [.str wOne, .tuple (rs.map encR)]), .dat (encB b), .dat (.int (c : Nat)), .dat (.str wOne), .dat (.list (rowL (pmax f (rowF b q)) c)), .dat (encR q), .un, .dat (.list (rowL (rowF b q) c)), .un, .un, .un, .un], by simp [st, gN], .inl ?_, by simp [st, wipeE]⟩
        simp! [lp__law_row_1, gN, e1, e2 _, e3, ew_none_none, ew_none_call, ew_none_all, ew_none_one, ew_none_within, ew_none_calls, ew_call_none, ew_call_call, ew_call_all, ew_call_one, ew_call_within, ew_call_calls, ew_all_none, ew_all_call, ew_all_all, ew_all_one, ew_all_within, ew_all_calls, ew_one_none, ew_one_call, ew_one_all, ew_one_one, ew_one_within, ew_one_calls, ew_within_none, ew_within_call, ew_within_all, ew_within_one, ew_within_within, ew_within_calls, ew_calls_none, ew_calls_call, ew_calls_all, ew_calls_one, ew_calls_within, ew_calls_calls, iw_none_all, iw_none_within, iw_call_all, iw_call_within, iw_all_all, iw_all_within, iw_one_all, iw_one_within, iw_within_all, iw_within_within, iw_calls_all, iw_calls_within]
      refine ⟨.dat (.list (rowL (rowF b (.one rs)) c)), ?_, fun _ => rfl⟩
      rw [rowF, rowOne_eq, encR, encRs_map]
      simp only [st] at e
      simp! [m__law_row, gN, at0, rpk c hc, rep1, e, lim1, ew_none_none, ew_none_call, ew_none_all, ew_none_one, ew_none_within, ew_none_calls, ew_call_none, ew_call_call, ew_call_all, ew_call_one, ew_call_within, ew_call_calls, ew_all_none, ew_all_call, ew_all_all, ew_all_one, ew_all_within, ew_all_calls, ew_one_none, ew_one_call, ew_one_all, ew_one_one, ew_one_within, ew_one_calls, ew_within_none, ew_within_call, ew_within_all, ew_within_one, ew_within_within, ew_within_calls, ew_calls_none, ew_calls_call, ew_calls_all, ew_calls_one, ew_calls_within, ew_calls_calls, iw_none_all, iw_none_within, iw_call_all, iw_call_within, iw_all_all, iw_all_within, iw_one_all, iw_one_within, iw_within_all, iw_within_within, iw_calls_all, iw_calls_within]
end Lw
namespace Lw
open PySem L2 Bt
theorem l_top : ∀ (n : Nat) (r : Rt) (b : Option Int), dep r ≤ n → n ≤ 30 → wfR r → BdR r → OkB b → totC (callsR r) ≤ 10000 → s__law_top n [.dat (encR r), .dat (encB b)] = .ok (.dat (.int (topR b r))) [.dat (encR r), .dat (encB b)] := by
  intro n
  induction n with
  | zero => intro r b h; cases r <;> simp [dep] at h
  | succ n ih =>
    intro r b hd hn hw hB hb ht
    rw [r__law_top]
    cases r with
    | none => simp! [m__law_top, encR, topR, gN, at0, ew_none_none, ew_none_call, ew_none_all, ew_none_one, ew_none_within, ew_none_calls, ew_call_none, ew_call_call, ew_call_all, ew_call_one, ew_call_within, ew_call_calls, ew_all_none, ew_all_call, ew_all_all, ew_all_one, ew_all_within, ew_all_calls, ew_one_none, ew_one_call, ew_one_all, ew_one_one, ew_one_within, ew_one_calls, ew_within_none, ew_within_call, ew_within_all, ew_within_one, ew_within_within, ew_within_calls, ew_calls_none, ew_calls_call, ew_calls_all, ew_calls_one, ew_calls_within, ew_calls_calls, iw_none_all, iw_none_within, iw_call_all, iw_call_within, iw_all_all, iw_all_within, iw_one_all, iw_one_within, iw_within_all, iw_within_within, iw_calls_all, iw_calls_within]
    | call x m t =>
      simp only [wfR] at hw
      have hq := hB (x, m, t) (by simp [callsR])
      have h2 : t ≤ 10 ^ 100 := hq.2
      have o2 := cut_bd hw.2.2.1 hq.1 hb.bd
      have o1 : okI t = true := okI_of (by omega) (by omega)
      cases b with
      | none => simp only [cutI, encB, topR] at o2 ⊢; simp! [m__law_top, encR, gN, at0, at2', at3', o1, o2, ew_none_none, ew_none_call, ew_none_all, ew_none_one, ew_none_within, ew_none_calls, ew_call_none, ew_call_call, ew_call_all, ew_call_one, ew_call_within, ew_call_calls, ew_all_none, ew_all_call, ew_all_all, ew_all_one, ew_all_within, ew_all_calls, ew_one_none, ew_one_call, ew_one_all, ew_one_one, ew_one_within, ew_one_calls, ew_within_none, ew_within_call, ew_within_all, ew_within_one, ew_within_within, ew_within_calls, ew_calls_none, ew_calls_call, ew_calls_all, ew_calls_one, ew_calls_within, ew_calls_calls, iw_none_all, iw_none_within, iw_call_all, iw_call_within, iw_all_all, iw_all_within, iw_one_all, iw_one_within, iw_within_all, iw_within_within, iw_calls_all, iw_calls_within]
      | some b => simp only [cutI, encB, topR] at o2 ⊢; simp! [m__law_top, encR, gN, at0, at2', at3', o1, o2, ew_none_none, ew_none_call, ew_none_all, ew_none_one, ew_none_within, ew_none_calls, ew_call_none, ew_call_call, ew_call_all, ew_call_one, ew_call_within, ew_call_calls, ew_all_none, ew_all_call, ew_all_all, ew_all_one, ew_all_within, ew_all_calls, ew_one_none, ew_one_call, ew_one_all, ew_one_one, ew_one_within, ew_one_calls, ew_within_none, ew_within_call, ew_within_all, ew_within_one, ew_within_within, ew_within_calls, ew_calls_none, ew_calls_call, ew_calls_all, ew_calls_one, ew_calls_within, ew_calls_calls, iw_none_all, iw_none_within, iw_call_all, iw_call_within, iw_all_all, iw_all_within, iw_one_all, iw_one_within, iw_within_all, iw_within_within, iw_calls_all, iw_calls_within]
    | within k q =>
      simp only [dep] at hd
      simp only [wfR] at hw
      rw [callsR] at ht
      simp! [m__law_top, encR, topR, gN, at0, at1, at2', ih q b (by omega) (by omega) hw.2 (fun z hz => hB z (by rw [callsR]; exact hz)) hb ht, ew_none_none, ew_none_call, ew_none_all, ew_none_one, ew_none_within, ew_none_calls, ew_call_none, ew_call_call, ew_call_all, ew_call_one, ew_call_within, ew_call_calls, ew_all_none, ew_all_call, ew_all_all, ew_all_one, ew_all_within, ew_all_calls, ew_one_none, ew_one_call, ew_one_all, ew_one_one, ew_one_within, ew_one_calls, ew_within_none, ew_within_call, ew_within_all, ew_within_one, ew_within_within, ew_within_calls, ew_calls_none, ew_calls_call, ew_calls_all, ew_calls_one, ew_calls_within, ew_calls_calls, iw_none_all, iw_none_within, iw_call_all, iw_call_within, iw_all_all, iw_all_within, iw_one_all, iw_one_within, iw_within_all, iw_within_within, iw_calls_all, iw_calls_within]
    | calls k q =>
      simp only [dep] at hd
      simp only [wfR] at hw
      rw [callsR] at ht
      have hl := len_tot q hw.2
      have hl0 := len_nn q hw.2
      obtain ⟨sl, e1, e2⟩ := l_row 30 q b (min k (lenR q)).toNat (by omega) hw.2 (fun z hz => hB z (by rw [callsR]; exact hz)) hb.bd (by omega)
      have ec : (((min k (lenR q)).toNat : Nat) : Int) = min k (lenR q) := by omega
      rw [ec] at e1
      simp! [m__law_top, encR, topR, gN, at0, at1, at2', l_length 30 q (by omega) hw.2, e1, e2 _, row_last, ew_none_none, ew_none_call, ew_none_all, ew_none_one, ew_none_within, ew_none_calls, ew_call_none, ew_call_call, ew_call_all, ew_call_one, ew_call_within, ew_call_calls, ew_all_none, ew_all_call, ew_all_all, ew_all_one, ew_all_within, ew_all_calls, ew_one_none, ew_one_call, ew_one_all, ew_one_one, ew_one_within, ew_one_calls, ew_within_none, ew_within_call, ew_within_all, ew_within_one, ew_within_within, ew_within_calls, ew_calls_none, ew_calls_call, ew_calls_all, ew_calls_one, ew_calls_within, ew_calls_calls, iw_none_all, iw_none_within, iw_call_all, iw_call_within, iw_all_all, iw_all_within, iw_one_all, iw_one_within, iw_within_all, iw_within_within, iw_calls_all, iw_calls_within]
    | all rs =>
      simp only [dep] at hd
      simp only [wfR] at hw
      rw [callsR, callsRs_flat] at ht
      have hl1 : rs.length + 1 ≤ LIM := Nat.le_trans (Nat.succ_le_succ hw.1) (by decide)
      have em := maxF_app0 (topR b) rs fun q hq => top_nn b hb q (wf_mem hw.2 hq)
      have e : lc__law_top_1 (s__law_top n) [.dat (.tuple [.str wAll, .tuple (rs.map encR)]), .dat (encB b), .dat (.str wAll), .un, .un] = .ok (.list (rs.map fun r => .int (topR b r))) [.dat (.tuple [.str wAll, .tuple (rs.map encR)]), .dat (encB b), .dat (.str wAll), .un, .un] := by
        unfold lc__law_top_1
        exact lc_map rs encR _ (by simp! [at1, itemsOf]) (by simp) (fun q hq => by simp! [elF, wipeE, gN, ih q b (by have := dep_mem hq; omega) (by omega) (wf_mem hw.2 hq) (bd_all hB hq) hb (Int.le_trans (tot_part hw.2 hq) ht)]) (wf_len hw.1)
      simp [m__law_top, encR, topR, Bt.a_bnd, Bt.a_ret, Bt.a_stuck, Bt.a_liftS, Bt.a_liftN, Bt.a_mOp, Bt.a_mOpF, Bt.a_mChain, Bt.a_mD, Bt.a_mR, Bt.a_mV, Bt.a_mFrz, Bt.a_rsvD, Bt.a_rsvR, Bt.a_rsvs0, Bt.a_rsvs1, Bt.a_mCons, Bt.a_mConsD, Bt.a_mTup, Bt.a_mLst, Bt.a_mLstF, Bt.a_mIf, Bt.a_mIfS, Bt.a_ite, Bt.a_mAnd, Bt.a_mOr, Bt.a_mNot, Bt.a_mAndV, Bt.a_mOrV, Bt.a_mNotV, Bt.a_asB, Bt.a_mNeg, Bt.a_mB, Bt.a_mBF, Bt.a_mIsi, Bt.a_mCall, Bt.a_mCallK, Bt.a_mCallO, Bt.a_mCallKO, Bt.a_mCallB, Bt.a_thawD, Bt.a_thawL, Bt.a_mRetS, Bt.a_mDat, Bt.a_mObj, Bt.a_mLstO, Bt.a_mSetS, Bt.a_mGive, Bt.a_mAsL, Bt.a_asL, Bt.a_mRev, Bt.a_mDfl, Bt.a_mRng3, Bt.a_mPutAug, Bt.a_mPop, Bt.a_mSeq, Bt.a_mNil, Bt.a_mRet, Bt.a_mExpr, Bt.a_mSet, Bt.a_gN, Bt.a_gTup, Bt.a_gCons, Bt.a_gNil, Bt.a_mItL, Bt.a_mItT, Bt.a_mIt, Bt.a_mPart0, Bt.a_mPart1, Bt.a_mSl, Bt.a_mOwn, Bt.a_mApp, Bt.a_mPut, Bt.a_mAug, Bt.a_mRng1, Bt.a_mRng2, Bt.a_mZip, Bt.a_mEnum, Bt.a_mFor, Bt.a_mFn, Bt.a_mLenScr, Bt.a_mIxScr, Bt.a_mDGet, Bt.a_mDGet2, Bt.a_mDIn, Bt.a_mDPut, Bt.a_mDAug, Bt.a_mOwnO, Bt.a_mDict, Bt.a_mDNew, Bt.a_mSortD, Bt.a_mRaise0, Bt.a_mRaise1, Bt.a_mTry, Bt.a_mIsx, Bt.a_mFld, Bt.a_mMeth, Bt.a_mExt, Bt.a_mExtB, Bt.a_mNew0, Bt.a_mNewN, Bt.a_mNew1, Bt.a_mIsxO, Bt.a_mIsVE, Bt.a_mPar, Bt.a_mRaiseN, Bt.a_mTry0, Bt.a_mZipE, Bt.a_mLrg2, Bt.a_mLrg1, Bt.argSl, Bt.apartA, Bt.isOwn, Bt.putB, Bt.okAsg, Bt.parBack, Bt.slD, Bt.addD, Bt.subD, Bt.mulD, Bt.fdivD, Bt.modD, Bt.powD, Bt.ltD, Bt.leD, Bt.gtD, Bt.geD, Bt.isD, Bt.isntD, Bt.isNone, Bt.ixD, Bt.lenF, Bt.intF, Bt.minF, Bt.tupleF, Bt.listF, Bt.notX_none, Bt.notX_bool, Bt.notX_int, Bt.notX_str, Bt.notX_list, Bt.notX_tuple, Bt.isi_none, Bt.isi_bool, Bt.isi_int, Bt.isi_str, Bt.isi_list, Bt.isi_tuple, Bt.tyIs, Bt.pkD, Bt.addL, Bt.mulL, Bt.listL, Bt.revD, Bt.borSl, Bt.flatD, Bt.isDic, Bt.dkOf, Bt.keyOf, Bt.isCls_x, Bt.isCls_n, Bt.xOf_0, Bt.xOf_1, Bt.isSub_0, Bt.lift_some, Bt.ll0, Bt.ll1, Bt.ll2, Bt.ll3, Bt.ll4, Bt.ll5, Bt.ll6, Bt.ll7, Bt.ll8, Bt.ll9, Bt.ll10, Bt.ll11, Bt.ll12, Bt.ll13, Bt.ll14, Bt.ll15, Bt.ll16, gN, at0, e, em, hl1, lim1, encRs_map, sumF_map, topSum_eq, topMax_eq, ew_none_none, ew_none_call, ew_none_all, ew_none_one, ew_none_within, ew_none_calls, ew_call_none, ew_call_call, ew_call_all, ew_call_one, ew_call_within, ew_call_calls, ew_all_none, ew_all_call, ew_all_all, ew_all_one, ew_all_within, ew_all_calls, ew_one_none, ew_one_call, ew_one_all, ew_one_one, ew_one_within, ew_one_calls, ew_within_none, ew_within_call, ew_within_all, ew_within_one, ew_within_within, ew_within_calls, ew_calls_none, ew_calls_call, ew_calls_all, ew_calls_one, ew_calls_within, ew_calls_calls, iw_none_all, iw_none_within, iw_call_all, iw_call_within, iw_all_all, iw_all_within, iw_one_all, iw_one_within, iw_within_all, iw_within_within, iw_calls_all, iw_calls_within]
    | one rs =>
      simp only [dep] at hd
      simp only [wfR] at hw
      rw [callsR, callsRs_flat] at ht
      have hl1 : rs.length + 1 ≤ LIM := Nat.le_trans (Nat.succ_le_succ hw.1) (by decide)
      have em := maxF_app0 (topR b) rs fun q hq => top_nn b hb q (wf_mem hw.2 hq)
      have e : lc__law_top_1 (s__law_top n) [.dat (.tuple [.str wOne, .tuple (rs.map encR)]), .dat (encB b), .dat (.str wOne), .un, .un] = .ok (.list (rs.map fun r => .int (topR b r))) [.dat (.tuple [.str wOne, .tuple (rs.map encR)]), .dat (encB b), .dat (.str wOne), .un, .un] := by
        unfold lc__law_top_1
        exact lc_map rs encR _ (by simp! [at1, itemsOf]) (by simp) (fun q hq => by simp! [elF, wipeE, gN, ih q b (by have := dep_mem hq; omega) (by omega) (wf_mem hw.2 hq) (bd_one hB hq) hb (Int.le_trans (tot_part hw.2 hq) ht)]) (wf_len hw.1)
      simp [m__law_top, encR, topR, Bt.a_bnd, Bt.a_ret, Bt.a_stuck, Bt.a_liftS, Bt.a_liftN, Bt.a_mOp, Bt.a_mOpF, Bt.a_mChain, Bt.a_mD, Bt.a_mR, Bt.a_mV, Bt.a_mFrz, Bt.a_rsvD, Bt.a_rsvR, Bt.a_rsvs0, Bt.a_rsvs1, Bt.a_mCons, Bt.a_mConsD, Bt.a_mTup, Bt.a_mLst, Bt.a_mLstF, Bt.a_mIf, Bt.a_mIfS, Bt.a_ite, Bt.a_mAnd, Bt.a_mOr, Bt.a_mNot, Bt.a_mAndV, Bt.a_mOrV, Bt.a_mNotV, Bt.a_asB, Bt.a_mNeg, Bt.a_mB, Bt.a_mBF, Bt.a_mIsi, Bt.a_mCall, Bt.a_mCallK, Bt.a_mCallO, Bt.a_mCallKO, Bt.a_mCallB, Bt.a_thawD, Bt.a_thawL, Bt.a_mRetS, Bt.a_mDat, Bt.a_mObj, Bt.a_mLstO, Bt.a_mSetS, Bt.a_mGive, Bt.a_mAsL, Bt.a_asL, Bt.a_mRev, Bt.a_mDfl, Bt.a_mRng3, Bt.a_mPutAug, Bt.a_mPop, Bt.a_mSeq, Bt.a_mNil, Bt.a_mRet, Bt.a_mExpr, Bt.a_mSet, Bt.a_gN, Bt.a_gTup, Bt.a_gCons, Bt.a_gNil, Bt.a_mItL, Bt.a_mItT, Bt.a_mIt, Bt.a_mPart0, Bt.a_mPart1, Bt.a_mSl, Bt.a_mOwn, Bt.a_mApp, Bt.a_mPut, Bt.a_mAug, Bt.a_mRng1, Bt.a_mRng2, Bt.a_mZip, Bt.a_mEnum, Bt.a_mFor, Bt.a_mFn, Bt.a_mLenScr, Bt.a_mIxScr, Bt.a_mDGet, Bt.a_mDGet2, Bt.a_mDIn, Bt.a_mDPut, Bt.a_mDAug, Bt.a_mOwnO, Bt.a_mDict, Bt.a_mDNew, Bt.a_mSortD, Bt.a_mRaise0, Bt.a_mRaise1, Bt.a_mTry, Bt.a_mIsx, Bt.a_mFld, Bt.a_mMeth, Bt.a_mExt, Bt.a_mExtB, Bt.a_mNew0, Bt.a_mNewN, Bt.a_mNew1, Bt.a_mIsxO, Bt.a_mIsVE, Bt.a_mPar, Bt.a_mRaiseN, Bt.a_mTry0, Bt.a_mZipE, Bt.a_mLrg2, Bt.a_mLrg1, Bt.argSl, Bt.apartA, Bt.isOwn, Bt.putB, Bt.okAsg, Bt.parBack, Bt.slD, Bt.addD, Bt.subD, Bt.mulD, Bt.fdivD, Bt.modD, Bt.powD, Bt.ltD, Bt.leD, Bt.gtD, Bt.geD, Bt.isD, Bt.isntD, Bt.isNone, Bt.ixD, Bt.lenF, Bt.intF, Bt.minF, Bt.tupleF, Bt.listF, Bt.notX_none, Bt.notX_bool, Bt.notX_int, Bt.notX_str, Bt.notX_list, Bt.notX_tuple, Bt.isi_none, Bt.isi_bool, Bt.isi_int, Bt.isi_str, Bt.isi_list, Bt.isi_tuple, Bt.tyIs, Bt.pkD, Bt.addL, Bt.mulL, Bt.listL, Bt.revD, Bt.borSl, Bt.flatD, Bt.isDic, Bt.dkOf, Bt.keyOf, Bt.isCls_x, Bt.isCls_n, Bt.xOf_0, Bt.xOf_1, Bt.isSub_0, Bt.lift_some, Bt.ll0, Bt.ll1, Bt.ll2, Bt.ll3, Bt.ll4, Bt.ll5, Bt.ll6, Bt.ll7, Bt.ll8, Bt.ll9, Bt.ll10, Bt.ll11, Bt.ll12, Bt.ll13, Bt.ll14, Bt.ll15, Bt.ll16, gN, at0, e, em, hl1, lim1, encRs_map, sumF_map, topSum_eq, topMax_eq, ew_none_none, ew_none_call, ew_none_all, ew_none_one, ew_none_within, ew_none_calls, ew_call_none, ew_call_call, ew_call_all, ew_call_one, ew_call_within, ew_call_calls, ew_all_none, ew_all_call, ew_all_all, ew_all_one, ew_all_within, ew_all_calls, ew_one_none, ew_one_call, ew_one_all, ew_one_one, ew_one_within, ew_one_calls, ew_within_none, ew_within_call, ew_within_all, ew_within_one, ew_within_within, ew_within_calls, ew_calls_none, ew_calls_call, ew_calls_all, ew_calls_one, ew_calls_within, ew_calls_calls, iw_none_all, iw_none_within, iw_call_all, iw_call_within, iw_all_all, iw_all_within, iw_one_all, iw_one_within, iw_within_all, iw_within_within, iw_calls_all, iw_calls_within]
theorem GdR.ltop {r : Rt} (h : GdR r) (b : Option Int) (hb : OkB b) : s__law_top 30 [.dat (encR r), .dat (encB b)] = .ok (.dat (.int (topR b r))) [.dat (encR r), .dat (encB b)] := l_top 30 r b (by have := h.dp; omega) (by omega) h.wf h.bd hb h.tt
theorem GdR.ltopN {r : Rt} (h : GdR r) : s__law_top 30 [.dat (encR r), .dat .none] = .ok (.dat (.int (topR none r))) [.dat (encR r), .dat .none] := h.ltop none trivial
theorem GdR.ltopI {r : Rt} (h : GdR r) (b : Int) (h1 : 1 ≤ b) (h2 : b ≤ 10 ^ 100) : s__law_top 30 [.dat (encR r), .dat (.int b)] = .ok (.dat (.int (topR (some b) r))) [.dat (encR r), .dat (.int b)] := h.ltop (some b) ⟨h1, h2⟩
def holdsB (p : Pile) (r : Rt) : Bool := (p.all fun q => !(decide (1 < q.1) && decide (L p q.1 < topR (some q.1) r))) && decide (topR none r ≤ S p)
theorem holds_ok {p : Pile} {r : Rt} (hp : Gd p) (h : GdR r) : s__law_holds [.dat (enc p), .dat (encR r)] = .ok (.dat (.bool (holdsB p r))) [.dat (enc p), .dat (encR r)] := by
  have hi : mIt (mV 0) [.dat (enc p), .dat (encR r), .un, .un] = .ok (p.map encL) [.dat (enc p), .dat (encR r), .un, .un] := by simp! [enc, itemsOf]
  have hs : ∀ q ∈ p, ∃ E1, gTupM 2 (gConsM (gN 2) (gConsM (gN 3) gNilM)) (encL q) [.dat (enc p), .dat (encR r), .un, .un] = some E1 ∧ lp__law_holds_1 E1 = .ok (if (decide (1 < q.1) && decide (L p q.1 < topR (some q.1) r)) = true then .rt (.dat (.bool false)) else .nx) [.dat (enc p), .dat (encR r), .dat (.int q.1), .dat (.int q.2)] ∧ wipeE [.dat (enc p), .dat (encR r), .dat (.int q.1), .dat (.int q.2)] [2, 3] = [.dat (enc p), .dat (encR r), .un, .un] := by
    intro q hq
    have w1 := hp.w1 q hq
    have w2 := hp.w2 q hq
    have a1 := h.ltopI q.1 (by omega) (by omega)
    refine ⟨[.dat (enc p), .dat (encR r), .dat (.int q.1), .dat (.int q.2)], by simp [encL, gTupM, gConsM, gNilM, gN], ?_, by simp [wipeE]⟩
    by_cases c1 : 1 < q.1
    · by_cases c2 : L p q.1 < topR (some q.1) r
      · simp! [lp__law_holds_1, a1, law_under_ok hp, c1, c2]
      · simp! [lp__law_holds_1, a1, law_under_ok hp, c1, c2]
    · simp! [lp__law_holds_1, c1]
  have key := for_find (ws := [2, 3]) p encL (fun q => decide (1 < q.1) && decide (L p q.1 < topR (some q.1) r)) (.dat (.bool false)) (fun q => [.dat (enc p), .dat (encR r), .dat (.int q.1), .dat (.int q.2)]) hi hs
  unfold holdsB
  cases ef : p.find? (fun q => decide (1 < q.1) && decide (L p q.1 < topR (some q.1) r)) with
  | some q =>
    rw [ef] at key
    have e : fr__law_holds_1 [.dat (enc p), .dat (encR r), .un, .un] = .ok (.rt (.dat (.bool false))) [.dat (enc p), .dat (encR r), .dat (.int q.1), .dat (.int q.2)] := key
    have hq := List.find?_some ef
    have ha : (p.all fun q => !(decide (1 < q.1) && decide (L p q.1 < topR (some q.1) r))) = false := by
      rw [List.all_eq_false]
      exact ⟨q, List.mem_of_find?_eq_some ef, by simp only [hq]; simp⟩
    rw [ha]
    simp! [s__law_holds, m__law_holds, e]
  | none =>
    rw [ef] at key
    have e : fr__law_holds_1 [.dat (enc p), .dat (encR r), .un, .un] = .ok .nx [.dat (enc p), .dat (encR r), .un, .un] := key
    have ha : (p.all fun q => !(decide (1 < q.1) && decide (L p q.1 < topR (some q.1) r))) = true := by
      rw [List.all_eq_true]
      intro q hq
      have := List.find?_eq_none.mp ef q hq
      simp only [Bool.not_eq_true] at this
      rw [this]; rfl
    rw [ha]
    simp! [s__law_holds, m__law_holds, e, h.ltopN, sum_of_ok hp]
theorem holdsB_iff {p : Pile} {r : Rt} : holdsB p r = true ↔ (∀ q ∈ p, 1 < q.1 → topR (some q.1) r ≤ L p q.1) ∧ topR none r ≤ S p := by
  unfold holdsB
  rw [Bool.and_eq_true, List.all_eq_true, decide_eq_true_eq]
  refine and_congr_left fun _ => forall_congr' fun q => forall_congr' fun _ => ?_
  by_cases c1 : 1 < q.1 <;> simp [c1] <;> omega
end Lw
namespace Lw
open PySem L2 Bt
mutual
def GnR (z : Int) : Rt → Prop
  | .none => True
  | .call x m t => nameS x = true ∧ PyData.strOk x = true ∧ 1 ≤ m ∧ m ≤ z ∧ 1 ≤ t ∧ t ≤ 2
  | .all rs => rs.length ≤ 3 ∧ GnRs z rs
  | .one rs => rs.length ≤ 3 ∧ GnRs z rs
  | .within n r => 1 ≤ n ∧ n ≤ 2 * z ∧ GnR z r
  | .calls n r => 1 ≤ n ∧ n ≤ 3 ∧ GnR z r
def GnRs (z : Int) : List Rt → Prop
  | [] => True
  | r :: rs => GnR z r ∧ GnRs z rs
end
theorem gn_app {z : Int} {a : List Rt} {r : Rt} (h : GnRs z a) (hr : GnR z r) : GnRs z (a ++ [r]) := by
  induction a with
  | nil => exact ⟨hr, trivial⟩
  | cons q qs ih =>
    rw [GnRs] at h
    exact ⟨h.1, ih h.2⟩
def NmOk (sp : List Str) : Prop := ∀ x ∈ sp, nameS x = true ∧ PyData.strOk x = true
theorem eq_nil {sp : List Str} (h : NmOk sp) : eqD (.list (sp.map .str)) (.list []) = some (.bool sp.isEmpty) := by
  have s1 : Shp 2 (.list (sp.map .str)) := shp_list fun d hd => by
    obtain ⟨x, hx, rfl⟩ := List.mem_map.mp hd
    exact shp_str x (by simpa [PyData.canLay0] using (h x hx).2)
  rw [eqD_of s1 shp_nil]
  cases sp <;> simp [PyData.eqv, PyData.eqvAll]
def RightP (z : Int) (k : Nat) (sp : List Str) (r : Rt) (sp' : List Str) : Prop := GnR z r ∧ dep r ≤ k + 1 ∧ namesR r ++ sp' = sp
theorem namesR_all (rs : List Rt) : namesR (.all rs) = rs.flatMap namesR := by
  unfold namesR
  rw [callsR, callsRs_flat, List.map_flatMap]
theorem namesR_one (rs : List Rt) : namesR (.one rs) = rs.flatMap namesR := by
  unfold namesR
  rw [callsR, callsRs_flat, List.map_flatMap]
theorem deps_le {rs : List Rt} {k : Nat} (h : ∀ r ∈ rs, dep r ≤ k) : deps rs ≤ k := by
  induction rs with
  | nil => simp [deps]
  | cons q qs ih =>
    rw [deps]
    have := h q List.mem_cons_self
    have := ih fun r hr => h r (List.mem_cons_of_mem _ hr)
    omega
theorem atW (n : Int) (h0 : 4 ≤ n) (h1 : n < 7) : ∃ w, (w = wAll ∨ w = wOne) ∧ atI [PyData.str wAll, .str wOne, .str wAll] (n - 4) = some (.str w) := by
  have : n = 4 ∨ n = 5 ∨ n = 6 := by omega
  rcases this with rfl | rfl | rfl
  · exact ⟨wAll, .inl rfl, rfl⟩
  · exact ⟨wOne, .inr rfl, rfl⟩
  · exact ⟨wAll, .inl rfl, rfl⟩
theorem gen_call (ih : M Sl) (k z N : Int) (x : Str) (xs : List Str) (hz : 1 ≤ z) (hz2 : z ≤ 10 ^ 10) (hsp : NmOk (x :: xs)) (hlen : (x :: xs).length ≤ 1000) (hc : k < 1 ∨ N % 7 < 2) :
    mFn [4, 5] 3 (m__law_right ih) [(.ow (.l [.int N])), .dat (.int k), (.ow (.l ((x :: xs).map .str))), .dat (.int z)] = .ok (.dat (encR (.call x (1 + N / 7 % z) (1 + N / 7 / z % 2 * (if N % 7 = 1 then 1 else 0))))) [(.ow (.l [.int (N / 7 / z / 2)])), .dat (.int k), (.ow (.l (xs.map .str))), .dat (.int z)] := by
  have t1 := take_ok N 7 (by omega) (okS (by omega) (by omega))
  have t2 := take_ok (N / 7) z (by omega) (okS (by omega) (by omega))
  have t3 := take_ok (N / 7 / z) 2 (by omega) (okS (by omega) (by omega))
  have en := eq_nil hsp
  simp only [List.map_cons, List.isEmpty_cons] at en
  have b1 : 0 ≤ N / 7 / z % 2 := Int.emod_nonneg _ (by omega)
  have b2 : N / 7 / z % 2 < 2 := Int.emod_lt_of_pos _ (by omega)
  have o1 : okI (N / 7 / z % 2) = true := okS (by omega) (by omega)
  have o2 : okI 1 = true := okS (by omega) (by omega)
  have o3 : okI 0 = true := okS (by omega) (by omega)
  have hl4 : 4 ≤ LIM := by decide
  have hxl : xs.length + 1 ≤ LIM := Nat.le_trans (by simpa using hlen) (by decide : 1000 ≤ LIM)
  have hix : ixN (xs.length + 1) 0 = some 0 := by unfold ixN; rw [if_pos (by omega), if_pos (by omega)]; rfl
  by_cases hk : k < 1
  · by_cases hw : N % 7 = 1
    · simp! [m__law_right, gN, t1, t2, t3, en, encR, hk, hw, eqD_int, at0, o1, o2, o3, hl4, hix, hxl]
    · simp! [m__law_right, gN, t1, t2, t3, en, encR, hk, hw, eqD_int, at0, o1, o2, o3, hl4, hix, hxl]
  · have hw2 : N % 7 < 2 := by omega
    by_cases hw : N % 7 = 1
    · simp! [m__law_right, gN, t1, t2, t3, en, encR, hk, hw, hw2, eqD_int, at0, o1, o2, o3, hl4, hix, hxl]
    · simp! [m__law_right, gN, t1, t2, t3, en, encR, hk, hw, hw2, eqD_int, at0, o1, o2, o3, hl4, hix, hxl]
theorem gn_call {z N : Int} {x : Str} {xs : List Str} (hz : 1 ≤ z) (hsp : NmOk (x :: xs)) : GnR z (.call x (1 + N / 7 % z) (1 + N / 7 / z % 2 * (if N % 7 = 1 then 1 else 0))) := by
  have a1 : 0 ≤ N / 7 % z := Int.emod_nonneg _ (by omega)
  have a2 : N / 7 % z < z := Int.emod_lt_of_pos _ (by omega)
  have b1 : 0 ≤ N / 7 / z % 2 := Int.emod_nonneg _ (by omega)
  have b2 : N / 7 / z % 2 < 2 := Int.emod_lt_of_pos _ (by omega)
  obtain ⟨h1, h2⟩ := hsp x List.mem_cons_self
  refine ⟨h1, h2, by omega, by omega, ?_, ?_⟩ <;> split <;> omega
theorem gen_ok (z : Int) (hz : 1 ≤ z) (hz2 : z ≤ 10 ^ 10) : ∀ (k n : Nat) (N : Int) (sp : List Str), k < n → NmOk sp → sp.length ≤ 1000 → ∃ r N' sp', s__law_right n [(.ow (.l [.int N])), .dat (.int (k : Nat)), (.ow (.l (sp.map .str))), .dat (.int z)] = .ok (.dat (encR r)) [(.ow (.l [.int N'])), .dat (.int (k : Nat)), (.ow (.l (sp'.map .str))), .dat (.int z)] ∧ RightP z k sp r sp' := by
  intro k
  induction k with
  | zero =>
    intro n N sp hn hsp hlen
    obtain ⟨m, rfl⟩ : ∃ m, n = m + 1 := ⟨n - 1, by omega⟩
    rw [r__law_right]
    have t7 := take_ok N 7 (by omega) (okS (by omega) (by omega))
    cases sp with
    | nil =>
      refine ⟨.none, N / 7, [], ?_, by simp [GnR], by simp [dep], by simp [namesR, callsR]⟩
      have en := eq_nil hsp
      simp only [List.map_nil, List.isEmpty_nil] at en
      simp! [m__law_right, gN, t7, en, encR, lim1, LIM]
    | cons x xs =>
      refine ⟨_, _, xs, gen_call _ _ z N x xs hz hz2 hsp hlen (.inl (by omega)), ?_, by simp [dep], by simp [namesR, callsR]⟩
      exact gn_call hz hsp
  | succ k ih =>
    intro n N sp hn hsp hlen
    obtain ⟨m, rfl⟩ : ∃ m, n = m + 1 := ⟨n - 1, by omega⟩
    rw [r__law_right]
    have t7 := take_ok N 7 (by omega) (okS (by omega) (by omega))
    cases sp with
    | nil =>
      refine ⟨.none, N / 7, [], ?_, by simp [GnR], by simp [dep], by simp [namesR, callsR]⟩
      have en := eq_nil hsp
      simp only [List.map_nil, List.isEmpty_nil] at en
      simp! [m__law_right, gN, t7, en, encR, lim1]
    | cons x xs =>
      by_cases hw : N % 7 < 2
      · exact ⟨_, _, xs, gen_call _ _ z N x xs hz hz2 hsp hlen (.inr hw), gn_call hz hsp, by simp [dep], by simp [namesR, callsR]⟩
      have en := eq_nil hsp
      simp only [List.map_cons, List.isEmpty_cons] at en
      have nk : ¬ ((k : Int) + 1 < 1) := by omega
      have ks : ((k : Int) + 1 - 1) = (k : Int) := by omega
      have o2 : okI 2 = true := okS (by omega) (by omega)
      have oz : okI z = true := okS (by omega) (by omega)
      have hl3 : 3 ≤ LIM := by decide
      have hl2 : 2 ≤ LIM := by decide
      by_cases h2 : N % 7 = 2
      · have tz := take_ok (N / 7) (2 * z) (by omega) (okS (by omega) (by omega))
        obtain ⟨r, N', sp', e1, g1, g2, g3⟩ := ih m (N / 7 / (2 * z)) (x :: xs) (by omega) hsp hlen
        simp only [List.map_cons] at e1
        have a1 : 0 ≤ N / 7 % (2 * z) := Int.emod_nonneg _ (by omega)
        have a2 : N / 7 % (2 * z) < 2 * z := Int.emod_lt_of_pos _ (by omega)
        refine ⟨.within (1 + N / 7 % (2 * z)) r, N', sp', ?_, ⟨by omega, by omega, g1⟩, by rw [dep]; omega, by simpa [namesR, callsR] using g3⟩
        simp! [m__law_right, gN, t7, tz, en, encR, nk, hw, h2, ks, eqD_int, o2, oz, e1, hl3]
      by_cases h3 : N % 7 = 3
      · have tz := take_ok (N / 7) 3 (by omega) (okS (by omega) (by omega))
        obtain ⟨r, N', sp', e1, g1, g2, g3⟩ := ih m (N / 7 / 3) (x :: xs) (by omega) hsp hlen
        simp only [List.map_cons] at e1
        have a1 : 0 ≤ N / 7 % 3 := Int.emod_nonneg _ (by omega)
        have a2 : N / 7 % 3 < 3 := Int.emod_lt_of_pos _ (by omega)
        refine ⟨.calls (1 + N / 7 % 3) r, N', sp', ?_, ⟨by omega, by omega, g1⟩, by rw [dep]; omega, by simpa [namesR, callsR] using g3⟩
        simp! [m__law_right, gN, t7, tz, en, encR, nk, hw, h2, h3, ks, eqD_int, o2, oz, e1, hl3]
      have tz := take_ok (N / 7) 3 (by omega) (okS (by omega) (by omega))
      have a1 : 0 ≤ N / 7 % 3 := Int.emod_nonneg _ (by omega)
      have a2 : N / 7 % 3 < 3 := Int.emod_lt_of_pos _ (by omega)
      have w1 : 0 ≤ N % 7 := Int.emod_nonneg _ (by omega)
      have w2 : N % 7 < 7 := Int.emod_lt_of_pos _ (by omega)
      have hi : mRng1 (mCons (mD (mOp addD (mD (Bt.ret (.int 1))) (mD (mCall s__law_take [] (mCons (mR 0) (mCons (mD (Bt.ret (.int 3))) (Bt.ret []))))))) (Bt.ret [])) [(.ow (.l [.int (N / 7)])), .dat (.int ((k : Int) + 1)), (.ow (.l ((x :: xs).map .str))), .dat (.int z), .dat (.int (N % 7)), .un, .un] = .ok (rangeD 0 (1 + N / 7 % 3)) [(.ow (.l [.int (N / 7 / 3)])), .dat (.int ((k : Int) + 1)), (.ow (.l ((x :: xs).map .str))), .dat (.int z), .dat (.int (N % 7)), .un, .un] := by
        have rg : rgOk (1 + N / 7 % 3) = true := rgOk_iff.mpr (by omega)
        simp! [tz, rg]
      let I : List D → En → List D → Prop := fun ds E acc => ∃ (M : Int) (sp' : List Str) (rs : List Rt) (y : Sl), E = [(.ow (.l [.int M])), .dat (.int ((k : Int) + 1)), (.ow (.l (sp'.map .str))), .dat (.int z), .dat (.int (N % 7)), .un, y] ∧ acc = rs.map encR ∧ GnRs z rs ∧ (∀ r ∈ rs, dep r ≤ k + 1) ∧ rs.flatMap namesR ++ sp' = x :: xs ∧ rs.length + ds.length ≤ 3
      have hI0 : I (rangeD 0 (1 + N / 7 % 3)) [(.ow (.l [.int (N / 7 / 3)])), .dat (.int ((k : Int) + 1)), (.ow (.l ((x :: xs).map .str))), .dat (.int z), .dat (.int (N % 7)), .un, .un] [] := by
        refine ⟨_, x :: xs, [], .un, rfl, rfl, ?_, ?_, rfl, ?_⟩
        · simp [GnRs]
        · intro r hr; cases hr
        · rw [rangeD_length]; simp; omega
      obtain ⟨E', acc', hI, el⟩ := lc_inv (vs := [6]) (g := gN 6) (mt := Bt.ret true) (me := mCall (s__law_right m) [] (mCons (mR 0) (mCons (mD (mOp subD (mR 1) (mD (Bt.ret (.int 1))))) (mCons (mR 2) (mCons (mR 3) (Bt.ret [])))))) I hi hI0 (by rw [rangeD_length]; exact Nat.le_trans (by omega : _ ≤ 3) hl3) (fun d ds E acc h => by
        obtain ⟨M, sp1, rs, y, rfl, rfl, g1, g2, g3, g4⟩ := h
        have hsp1 : NmOk sp1 := fun q hq => hsp q (by rw [← g3]; exact List.mem_append_right _ hq)
        have hl1 : sp1.length ≤ 1000 := by have := congrArg List.length g3; rw [List.length_append] at this; omega
        obtain ⟨r, N', sp', e1, q1, q2, q3⟩ := ih m M sp1 (by omega) hsp1 hl1
        refine ⟨[(.ow (.l [.int M])), .dat (.int ((k : Int) + 1)), (.ow (.l (sp1.map .str))), .dat (.int z), .dat (.int (N % 7)), .un, .dat d], by simp [gN, wipeE], .inl ⟨_, encR r, [(.ow (.l [.int N'])), .dat (.int ((k : Int) + 1)), (.ow (.l (sp'.map .str))), .dat (.int z), .dat (.int (N % 7)), .un, .dat d], rfl, by simp! [ks, e1], N', sp', rs ++ [r], .dat d, rfl, by simp, gn_app g1 q1, fun a ha => ?_, ?_, ?_⟩⟩
        · rcases List.mem_append.mp ha with ha | ha
          · exact g2 a ha
          · rw [List.mem_singleton.mp ha]; exact q2
        · rw [List.flatMap_append, List.append_assoc]
          simp only [List.flatMap_cons, List.flatMap_nil, List.append_nil]
          rw [q3, g3]
        · rw [List.length_append, List.length_singleton]; rw [List.length_cons] at g4; omega)
      obtain ⟨M, sp', rs, y, rfl, rfl, g1, g2, g3, g4⟩ := hI
      have el' : lc__law_right_1 (s__law_right m) [(.ow (.l [.int (N / 7)])), .dat (.int ((k : Int) + 1)), (.ow (.l ((x :: xs).map .str))), .dat (.int z), .dat (.int (N % 7)), .un, .un] = .ok (.list (rs.map encR)) [(.ow (.l [.int M])), .dat (.int ((k : Int) + 1)), (.ow (.l (sp'.map .str))), .dat (.int z), .dat (.int (N % 7)), .un, .un] := by
        unfold lc__law_right_1
        rw [el]
        simp [backE]
      obtain ⟨w, hwd, eat⟩ := atW (N % 7) (by omega) w2
      have hrl : rs.length ≤ 3 := by simpa using g4
      refine ⟨if w = wAll then .all rs else .one rs, M, sp', ?_, ?_, ?_, ?_⟩
      · simp only [List.map_cons] at el'
        rcases hwd with rfl | rfl
        · simp! [m__law_right, gN, t7, en, nk, hw, h2, h3, eqD_int, el', eat, encR, encRs_map, hl3, hl2]
        · have : ¬ wOne = wAll := of_decide_eq_false dw_one_all
          simp! [m__law_right, gN, t7, en, nk, hw, h2, h3, eqD_int, el', eat, encR, encRs_map, hl3, hl2, this]
      · split
        · exact ⟨hrl, g1⟩
        · exact ⟨hrl, g1⟩
      · have := deps_le g2
        split <;> rw [dep] <;> omega
      · split
        · rw [namesR_all]; exact g3
        · rw [namesR_one]; exact g3
end Lw
namespace Lw
open PySem L2 Bt
structure Sz where
  z : Int
  w : Int
  t : Int
  c : Int
def Sz.up (s : Sz) : Sz := ⟨s.z + 1, s.w + 1, s.t + 1, s.c + 1⟩
mutual
def CrR (s : Sz) : Rt → Prop
  | .none => True
  | .call x m t => nameS x = true ∧ PyData.strOk x = true ∧ 1 ≤ m ∧ m ≤ s.z ∧ 1 ≤ t ∧ t ≤ s.t
  | .all rs => rs.length ≤ 3 ∧ CrRs s rs
  | .one rs => rs.length ≤ 3 ∧ CrRs s rs
  | .within n r => 1 ≤ n ∧ n ≤ s.w ∧ CrR s r
  | .calls n r => 1 ≤ n ∧ n ≤ s.c ∧ CrR s r
def CrRs (s : Sz) : List Rt → Prop
  | [] => True
  | r :: rs => CrR s r ∧ CrRs s rs
end
theorem crs_iff {s : Sz} {rs : List Rt} : CrRs s rs ↔ ∀ r ∈ rs, CrR s r := by
  induction rs with
  | nil => simp [CrRs]
  | cons q qs ih => rw [CrRs, ih]; simp
theorem gns_iff {z : Int} {rs : List Rt} : GnRs z rs ↔ ∀ r ∈ rs, GnR z r := by
  induction rs with
  | nil => simp [GnRs]
  | cons q qs ih => rw [GnRs, ih]; simp
def Sz.le (s u : Sz) : Prop := s.z ≤ u.z ∧ s.w ≤ u.w ∧ s.t ≤ u.t ∧ s.c ≤ u.c
theorem Sz.le_up (s : Sz) : s.le s.up := by unfold Sz.le Sz.up; dsimp only; refine ⟨?_, ?_, ?_, ?_⟩ <;> omega
theorem CrR.mono {s u : Sz} (h : s.le u) (r : Rt) : CrR s r → CrR u r := by
  obtain ⟨h1, h2, h3, h4⟩ := h
  induction r using Rt.ind with
  | h0 => intro _; trivial
  | h1 x m t => intro h; simp only [CrR] at h ⊢; refine ⟨h.1, h.2.1, h.2.2.1, ?_, h.2.2.2.2.1, ?_⟩ <;> omega
  | h2 rs ih => intro h; simp only [CrR, crs_iff] at h ⊢; exact ⟨h.1, fun r hr => ih r hr (h.2 r hr)⟩
  | h3 rs ih => intro h; simp only [CrR, crs_iff] at h ⊢; exact ⟨h.1, fun r hr => ih r hr (h.2 r hr)⟩
  | h4 n r ih => intro h; simp only [CrR] at h ⊢; exact ⟨h.1, by omega, ih h.2.2⟩
  | h5 n r ih => intro h; simp only [CrR] at h ⊢; exact ⟨h.1, by omega, ih h.2.2⟩
theorem gn_cr {z : Int} (r : Rt) : GnR z r → CrR ⟨z, 2 * z, 2, 3⟩ r := by
  induction r using Rt.ind with
  | h0 => intro _; trivial
  | h1 x m t => intro h; exact h
  | h2 rs ih => intro h; simp only [CrR, GnR, crs_iff, gns_iff] at h ⊢; exact ⟨h.1, fun r hr => ih r hr (h.2 r hr)⟩
  | h3 rs ih => intro h; simp only [CrR, GnR, crs_iff, gns_iff] at h ⊢; exact ⟨h.1, fun r hr => ih r hr (h.2 r hr)⟩
  | h4 n r ih => intro h; simp only [CrR, GnR] at h ⊢; exact ⟨h.1, h.2.1, ih h.2.2⟩
  | h5 n r ih => intro h; simp only [CrR, GnR] at h ⊢; exact ⟨h.1, h.2.1, ih h.2.2⟩
theorem CrR.wf {s : Sz} (r : Rt) : CrR s r → wfR r := by
  induction r using Rt.ind with
  | h0 => intro _; trivial
  | h1 x m t => intro h; simp only [CrR, wfR] at h ⊢; exact ⟨h.1, h.2.1, h.2.2.1, h.2.2.2.2.1⟩
  | h2 rs ih => intro h; simp only [CrR, wfR, crs_iff] at h ⊢; exact ⟨by omega, wfRs_of fun r hr => ih r hr (h.2 r hr)⟩
  | h3 rs ih => intro h; simp only [CrR, wfR, crs_iff] at h ⊢; exact ⟨by omega, wfRs_of fun r hr => ih r hr (h.2 r hr)⟩
  | h4 n r ih => intro h; simp only [CrR, wfR] at h ⊢; exact ⟨h.1, ih h.2.2⟩
  | h5 n r ih => intro h; simp only [CrR, wfR] at h ⊢; exact ⟨h.1, ih h.2.2⟩
theorem CrR.calls {s : Sz} (r : Rt) : CrR s r → ∀ q ∈ callsR r, 1 ≤ q.2.1 ∧ q.2.1 ≤ s.z ∧ 1 ≤ q.2.2 ∧ q.2.2 ≤ s.t := by
  induction r using Rt.ind with
  | h0 => intro _ q hq; simp [callsR] at hq
  | h1 x m t => intro h q hq; simp only [CrR] at h; simp only [callsR, List.mem_singleton] at hq; subst hq; exact h.2.2
  | h2 rs ih =>
    intro h q hq
    simp only [CrR, crs_iff] at h
    rw [callsR, callsRs_flat] at hq
    obtain ⟨r, hr, hq⟩ := List.mem_flatMap.mp hq
    exact ih r hr (h.2 r hr) q hq
  | h3 rs ih =>
    intro h q hq
    simp only [CrR, crs_iff] at h
    rw [callsR, callsRs_flat] at hq
    obtain ⟨r, hr, hq⟩ := List.mem_flatMap.mp hq
    exact ih r hr (h.2 r hr) q hq
  | h4 n r ih => intro h q hq; simp only [CrR] at h; exact ih h.2.2 q (by simpa [callsR] using hq)
  | h5 n r ih => intro h q hq; simp only [CrR] at h; exact ih h.2.2 q (by simpa [callsR] using hq)
theorem totC_le {l : List (Str × Int × Int)} {b : Int} (h : ∀ q ∈ l, q.2.2 ≤ b) : totC l ≤ l.length * b := by
  induction l with
  | nil => simp [totC]
  | cons q qs ih =>
    have h1 := h q List.mem_cons_self
    have h2 := ih fun r hr => h r (List.mem_cons_of_mem _ hr)
    have e : totC (q :: qs) = q.2.2 + totC qs := by simp [totC]
    rw [e, List.length_cons, Int.natCast_add, Int.add_mul]
    omega
theorem names_len (r : Rt) : (namesR r).length = (callsR r).length := by rw [namesR, List.length_map]
theorem CrR.gd {s : Sz} {r : Rt} (h : CrR s r) (hz : s.z ≤ 100) (ht : s.t ≤ 100) (hd : dep r ≤ 6) (hn : (namesR r).Nodup) (hl : (namesR r).length ≤ 10) : GdR r := by
  rw [names_len] at hl
  have hc := h.calls
  refine ⟨h.wf, hd, by omega, hn, fun q hq => ?_, ?_⟩
  · have := hc q hq
    have e : (100 : Int) ≤ 10 ^ 100 := by decide
    omega
  · have h1 := totC_le (b := 100) fun q hq => by have := hc q hq; omega
    have h2 : ((callsR r).length : Int) * 100 ≤ 10 * 100 := Int.mul_le_mul_of_nonneg_right (by omega) (by omega)
    omega
end Lw
namespace Lw
open PySem L2 Bt
section
variable {c a : Int}
end
end Lw
namespace Lw
open PySem L2 Bt
end Lw
namespace Lw
open PySem L2 Bt
def B2 : Option Int → Prop
  | none => True
  | some b => 2 ≤ b ∧ b ≤ 10 ^ 100
theorem B2.ok {b : Option Int} (h : B2 b) : OkB b := by
  cases b with
  | none => trivial
  | some b => simp only [B2] at h; simp only [OkB]; omega
end Lw
namespace Lw
open PySem L2 Bt
theorem callsA (qs : List Rt) : callsR (.all qs) = qs.flatMap callsR := by rw [callsR, callsRs_flat]
theorem callsO (qs : List Rt) : callsR (.one qs) = qs.flatMap callsR := by rw [callsR, callsRs_flat]
theorem calls_part {rs : List Rt} {r : Rt} (hr : r ∈ rs) : (callsR r).length ≤ (rs.flatMap callsR).length := by
  induction rs with
  | nil => cases hr
  | cons q qs ih =>
    rw [List.flatMap_cons, List.length_append]
    rcases List.mem_cons.mp hr with rfl | hr
    · omega
    · have := ih hr; omega
end Lw
namespace Lw
open PySem L2 Bt
section
variable {b : Option Int}
end
end Lw
namespace Lw
open PySem L2 Bt
structure ChP (s : Sz) (r r' : Rt) : Prop where
  cr : CrR s.up r'
  dp : dep r' ≤ dep r
  nm : (namesR r').Sublist (namesR r)
theorem ChP.refl {s : Sz} {r : Rt} (h : CrR s r) : ChP s r r := ⟨h.mono s.le_up, Nat.le_refl _, List.Sublist.refl _⟩
end Lw
namespace Lw
open PySem L2 Bt
end Lw
namespace Lw
open PySem L2 Bt
end Lw
namespace Lw
open PySem L2 Bt
end Lw
namespace Lw
open PySem L2 Bt
end Lw
namespace Lw
open PySem L2 Bt
theorem names_parts (r : Rt) (h : ∀ y m t, r ≠ .call y m t) : namesR r = (partsR r).flatMap namesR := by
  cases r with
  | call y m t => exact absurd rfl (h y m t)
  | none => rfl
  | within n q => simp [partsR, namesR, callsR]
  | calls n q => simp [partsR, namesR, callsR]
  | all rs => rw [show partsR (.all rs) = rs from rfl]; unfold namesR; rw [callsA, List.map_flatMap]
  | one rs => rw [show partsR (.one rs) = rs from rfl]; unfold namesR; rw [callsO, List.map_flatMap]
theorem part_calls {r q : Rt} (hq : q ∈ partsR r) : (callsR q).length ≤ (callsR r).length := by
  cases r with
  | none => simp [partsR] at hq
  | call y m t => simp [partsR] at hq
  | within n z => rw [show partsR (.within n z) = [z] from rfl, List.mem_singleton] at hq; subst hq; rw [callsR]; exact Nat.le_refl _
  | calls n z => rw [show partsR (.calls n z) = [z] from rfl, List.mem_singleton] at hq; subst hq; rw [callsR]; exact Nat.le_refl _
  | all rs => rw [callsA]; exact calls_part hq
  | one rs => rw [callsO]; exact calls_part hq
end Lw
namespace Lw
open PySem L2 Bt
theorem namesA (rs : List Rt) : namesR (.all rs) = rs.flatMap namesR := names_parts (.all rs) fun _ _ _ => by simp
theorem namesO (rs : List Rt) : namesR (.one rs) = rs.flatMap namesR := names_parts (.one rs) fun _ _ _ => by simp
theorem namesW (n : Int) (r : Rt) : namesR (.within n r) = namesR r := by simp [namesR, callsR]
theorem namesCs (n : Int) (r : Rt) : namesR (.calls n r) = namesR r := by simp [namesR, callsR]
end Lw
namespace Lw
open PySem L2 Bt
structure BhR (r : Rt) : Prop where
  wf : wfR r
  cl : (callsR r).length ≤ 1000
  nd : (namesR r).Nodup
theorem nd_part : ∀ {rs : List Rt}, (rs.flatMap namesR).Nodup → ∀ q ∈ rs, (namesR q).Nodup
  | [], _, q, h => by simp at h
  | a :: l, hn, q, hq => by
    rw [List.flatMap_cons] at hn
    obtain ⟨n1, n2, n3⟩ := List.nodup_append.mp hn
    rcases List.mem_cons.mp hq with rfl | hq
    · exact n1
    · exact nd_part n2 q hq
theorem BhR.part {r q : Rt} (h : BhR r) (hq : q ∈ partsR r) : BhR q := by
  refine ⟨wf_part h.wf hq, Nat.le_trans (part_calls hq) h.cl, ?_⟩
  cases r with
  | none => simp [partsR] at hq
  | call y m t => simp [partsR] at hq
  | within n z => rw [show partsR (.within n z) = [z] from rfl, List.mem_singleton] at hq; subst hq; have := h.nd; rw [namesW] at this; exact this
  | calls n z => rw [show partsR (.calls n z) = [z] from rfl, List.mem_singleton] at hq; subst hq; have := h.nd; rw [namesCs] at this; exact this
  | all rs => have := h.nd; rw [namesA] at this; exact nd_part this q hq
  | one rs => have := h.nd; rw [namesO] at this; exact nd_part this q hq
end Lw
namespace Lw
open PySem L2 Bt
end Lw
namespace Lw
open PySem L2 Bt
end Lw
namespace Lw
open PySem L2 Bt
end Lw
namespace Lw
open PySem L2 Bt
end Lw
namespace Lw
open PySem L2 Bt
end Lw
namespace Lw
open PySem L2 Bt
end Lw
namespace Lw
open PySem L2 Bt
end Lw
namespace Lw
open PySem L2 Bt
end Lw
namespace Lw
open PySem L2 Bt
def bnds (p : Pile) : List (Option Int × Int) := ((p.filter fun q => decide (1 < q.1)).map fun q => (some q.1, L p q.1)) ++ [(none, S p)]
def enB (q : Option Int × Int) : D := .tuple [encB q.1, .int q.2]
def fls (p : Pile) (r : Rt) : List (Option Int × Int) := (bnds p).filter fun x => decide (x.2 < topR x.1 r)
theorem bounds_ok {p : Pile} (h : Gd p) : s_bounds_of [.dat (enc p)] = .ok (.dat (.list ((bnds p).map enB))) [.dat (enc p)] := by
  have l2 : 2 ≤ LIM := by decide
  have l1 : 1 ≤ LIM := by decide
  have e : lc_bounds_of_1 [.dat (enc p), .un, .un, .un] = .ok (.list ((p.filter fun q => decide (1 < q.1)).map fun q => enB (some q.1, L p q.1))) [.dat (enc p), .un, .un, .un] := by
    unfold lc_bounds_of_1
    refine lc_if p encL (fun q => decide (1 < q.1)) (fun q => enB (some q.1, L p q.1)) (by simp! [enc, itemsOf]) (by simp) (fun q hq => ?_) (gd_lim h)
    have e1 := less_of_ok h q.1
    by_cases c : 1 < q.1
    · simp! [elF, wipeE, encL, gTupM, gConsM, gNilM, gN, c, e1, l2, enB, encB]
    · simp! [elF, wipeE, encL, gTupM, gConsM, gNilM, gN, c]
  have e2 := sum_of_ok h
  have hl : (p.filter fun q => decide (1 < q.1)).length + 1 ≤ LIM := by
    have := List.length_filter_le (fun q : Int × Int => decide (1 < q.1)) p
    exact Nat.le_trans (by have := h.len; omega : _ ≤ 1001) (by decide)
  have e3 : (bnds p).map enB = ((p.filter fun q => decide (1 < q.1)).map fun q => enB (some q.1, L p q.1)) ++ [.tuple [.none, .int (S p)]] := by
    unfold bnds
    rw [List.map_append, List.map_map]
    rfl
  rw [e3]
  simp! [s_bounds_of, m_bounds_of, gN, e, e2, l1, l2, hl]
theorem failing_ok {p : Pile} {r : Rt} (h : Gd p) (hr : GdR r) : s_failing [.dat (enc p), .dat (encR r)] = .ok ((.ow (.l ((fls p r).map enB)))) [.dat (enc p), .dat (encR r)] := by
  have l2 : 2 ≤ LIM := by decide
  have e0 := bounds_ok h
  have hlen : (bnds p).length ≤ 1001 := by
    unfold bnds
    rw [List.length_append, List.length_map]
    have := List.length_filter_le (fun q : Int × Int => decide (1 < q.1)) p
    have := h.len
    simp
    omega
  have e : lc_failing_1 [.dat (enc p), .dat (encR r), .un, .un] = .ok (.list ((fls p r).map enB)) [.dat (enc p), .dat (encR r), .un, .un] := by
    unfold lc_failing_1 fls
    refine lc_if (bnds p) enB (fun x => decide (x.2 < topR x.1 r)) enB (by simp! [e0, itemsOf]) (by simp) (fun q hq => ?_) (Nat.le_trans hlen (by decide))
    have hb : OkB q.1 := by
      rcases List.mem_append.mp hq with hq | hq
      · obtain ⟨z, hz, rfl⟩ := List.mem_map.mp hq
        have hz2 := (List.mem_filter.mp hz).1
        have := h.w1 z hz2
        have := h.w2 z hz2
        have x : (10 : Int) ^ 13 ≤ 10 ^ 100 := by decide
        simp only [OkB]
        omega
      · rw [List.mem_singleton.mp hq]; trivial
    have e1 := hr.most q.1 hb
    unfold enB
    generalize encB q.1 = B at *
    by_cases c : q.2 < topR q.1 r
    · simp! [elF, wipeE, gTupM, gConsM, gNilM, gN, c, e1, l2]
    · simp! [elF, wipeE, gTupM, gConsM, gNilM, gN, c, e1]
  simp! [s_failing, m_failing, e]
theorem fls_nil {p : Pile} {r : Rt} : fls p r = [] ↔ holdsB p r = true := by
  rw [holdsB_iff]
  unfold fls bnds
  rw [List.filter_eq_nil_iff]
  constructor
  · intro h
    refine ⟨fun q hq h1 => ?_, ?_⟩
    · have := h (some q.1, L p q.1) (List.mem_append_left _ (List.mem_map.mpr ⟨q, List.mem_filter.mpr ⟨hq, by simpa using h1⟩, rfl⟩))
      simp at this
      exact this
    · have := h (none, S p) (List.mem_append_right _ (by simp))
      simp at this
      exact this
  · rintro ⟨h1, h2⟩ x hx
    rcases List.mem_append.mp hx with hx | hx
    · obtain ⟨q, hq, rfl⟩ := List.mem_map.mp hx
      obtain ⟨hq1, hq2⟩ := List.mem_filter.mp hq
      have := h1 q hq1 (by simpa using hq2)
      simp
      exact this
    · rw [List.mem_singleton.mp hx]
      simp
      exact h2
end Lw
namespace Lw
open PySem L2 Bt
end Lw
namespace Lw
open PySem L2 Bt
end Lw
namespace Lw
open PySem L2 Bt
end Lw
namespace Lw
open PySem L2 Bt
end Lw
namespace Lw
open PySem L2 Bt
abbrev Cl := List (Str × Int × Int)
inductive Wk : Cl → Cl → Prop
  | nil : Wk [] []
  | skip {l l' : Cl} (a : Str × Int × Int) : Wk l l' → Wk l (a :: l')
  | take {l l' : Cl} (a b : Str × Int × Int) : Wk l l' → b.1 = a.1 → b.2.1 = a.2.1 → b.2.2 ≤ a.2.2 → Wk (b :: l) (a :: l')
theorem Wk.refl : ∀ l : Cl, Wk l l
  | [] => .nil
  | a :: l => .take a a (Wk.refl l) rfl rfl (Int.le_refl _)
theorem Wk.none : ∀ l : Cl, Wk [] l
  | [] => .nil
  | a :: l => .skip a (Wk.none l)
theorem Wk.len {a b : Cl} (h : Wk a b) : a.length ≤ b.length := by
  induction h with
  | nil => exact Nat.le_refl _
  | skip z _ ih => rw [List.length_cons]; omega
  | take z w _ e1 e2 e3 ih => rw [List.length_cons, List.length_cons]; omega
theorem Wk.names {a b : Cl} (h : Wk a b) : (a.map (·.1)).Sublist (b.map (·.1)) := by
  induction h with
  | nil => exact List.Sublist.refl _
  | skip z _ ih => rw [List.map_cons]; exact ih.cons _
  | take z w _ e1 e2 e3 ih => rw [List.map_cons, List.map_cons, e1]; exact ih.cons₂ _
theorem Wk.mem {a b : Cl} (h : Wk a b) : ∀ q ∈ a, ∃ p ∈ b, q.1 = p.1 ∧ q.2.1 = p.2.1 ∧ q.2.2 ≤ p.2.2 := by
  induction h with
  | nil => intro q hq; simp at hq
  | skip z _ ih => intro q hq; obtain ⟨p, h1, h2⟩ := ih q hq; exact ⟨p, List.mem_cons_of_mem _ h1, h2⟩
  | take z w _ e1 e2 e3 ih =>
    intro q hq
    rcases List.mem_cons.mp hq with rfl | hq
    · exact ⟨z, List.mem_cons_self, e1, e2, e3⟩
    · obtain ⟨p, h1, h2⟩ := ih q hq; exact ⟨p, List.mem_cons_of_mem _ h1, h2⟩
theorem Wk.tot {a b : Cl} (h : Wk a b) (h1 : ∀ q ∈ b, 1 ≤ q.2.2) : totC a ≤ totC b := by
  induction h with
  | nil => exact Int.le_refl _
  | skip z _ ih =>
    have h2 := h1 z List.mem_cons_self
    have h3 := ih fun q hq => h1 q (List.mem_cons_of_mem _ hq)
    unfold totC at *
    rw [List.map_cons, List.sum_cons]
    omega
  | take z w _ e1 e2 e3 ih =>
    have h3 := ih fun q hq => h1 q (List.mem_cons_of_mem _ hq)
    unfold totC at *
    rw [List.map_cons, List.sum_cons, List.map_cons, List.sum_cons]
    omega
end Lw
namespace Lw
open PySem L2 Bt
theorem calls_t (r : Rt) : wfR r → ∀ q ∈ callsR r, 1 ≤ q.2.2 := by
  induction r using Rt.ind with
  | h0 => intro _ q hq; simp [callsR] at hq
  | h1 y m t => intro h q hq; simp only [wfR] at h; simp only [callsR, List.mem_singleton] at hq; subst hq; exact h.2.2.2
  | h2 rs ih => intro h q hq; simp only [wfR] at h; rw [callsA] at hq; obtain ⟨z, hz, hq⟩ := List.mem_flatMap.mp hq; exact ih z hz (wf_mem h.2 hz) q hq
  | h3 rs ih => intro h q hq; simp only [wfR] at h; rw [callsO] at hq; obtain ⟨z, hz, hq⟩ := List.mem_flatMap.mp hq; exact ih z hz (wf_mem h.2 hz) q hq
  | h4 n r ih => intro h q hq; simp only [wfR] at h; rw [callsR] at hq; exact ih h.2 q hq
  | h5 n r ih => intro h q hq; simp only [wfR] at h; rw [callsR] at hq; exact ih h.2 q hq
theorem GdR.wk {r r' : Rt} (h : GdR r) (k : Wk (callsR r') (callsR r)) (hw : wfR r') (hd : dep r' ≤ dep r) : GdR r' :=
  ⟨hw, Nat.le_trans hd h.dp, Nat.le_trans k.len h.cl, h.nd.sublist k.names, fun q hq => by
    obtain ⟨p, hp, _, e2, e3⟩ := k.mem q hq
    have := h.bd p hp
    exact ⟨by omega, by omega⟩, Int.le_trans (k.tot (calls_t r h.wf)) h.tt⟩
end Lw
namespace Lw
open PySem L2 Bt
variable {b : Option Int}
end Lw
namespace Lw
open PySem L2 Bt
end Lw
namespace Lw
open PySem L2 Bt
variable {b : Option Int}
end Lw
namespace Lw
open PySem L2 Bt
theorem cnt_cons (q : Int × Int) (c : Pile) (w : Int) : cnt (q :: c) w = if q.1 = w then q.2 else cnt c w := by
  unfold cnt
  by_cases z : q.1 = w
  · rw [if_pos z, List.find?_cons_of_pos (by simpa using z)]; rfl
  · rw [if_neg z, List.find?_cons_of_neg (by simpa using z)]
theorem cnt_none : ∀ {c : Pile} {w : Int}, has c w = false → cnt c w = 0
  | [], _, _ => rfl
  | q :: c, w, h => by
    unfold has at h
    rw [List.any_cons, Bool.or_eq_false_iff] at h
    rw [cnt_cons, if_neg (by simpa using h.1)]
    exact cnt_none h.2
def T (f : Int → Int) (c : Pile) : Int := (c.map fun q => f q.1 * q.2).sum
theorem T_cons (f : Int → Int) (q : Int × Int) (c : Pile) : T f (q :: c) = f q.1 * q.2 + T f c := by simp [T]
end Lw
namespace Lw
open PySem L2 Bt
theorem T_tstep (f : Int → Int) {c : Pile} (hd : c.Pairwise fun a b => a.1 ≠ b.1) {x : Int × Int} (hx : ∃ q ∈ c, q.1 = x.1) : T f (tstep c x) = T f c - f x.1 * x.2 := by
  induction c with
  | nil => obtain ⟨q, hq, _⟩ := hx; cases hq
  | cons q c ih =>
    have hp := List.pairwise_cons.mp hd
    have e : tstep (q :: c) x = (if q.1 = x.1 then (q.1, q.2 - x.2) else q) :: tstep c x := rfl
    rw [e, T_cons, T_cons]
    by_cases z : q.1 = x.1
    · have hn : tstep c x = c := by
        unfold tstep
        rw [List.map_congr_left (g := id) fun y hy => by rw [if_neg (fun w => hp.1 y hy (by rw [z, w]))]; rfl]
        simp
      rw [if_pos z, hn, z]
      dsimp only
      rw [Int.mul_sub]
      omega
    · rw [if_neg z, ih hp.2 (by
        obtain ⟨y, hy, e2⟩ := hx
        rcases List.mem_cons.mp hy with rfl | hy
        · exact absurd e2 z
        · exact ⟨y, hy, e2⟩)]
      omega
theorem fold_take (f : Int → Int) : ∀ (o c : Pile), c.Pairwise (fun a b => a.1 ≠ b.1) → o.Pairwise (fun a b => a.1 ≠ b.1) → (∀ q ∈ c, 0 ≤ q.2) → (∀ x ∈ o, ∃ q ∈ c, q.1 = x.1 ∧ x.2 ≤ q.2) →
    T f (o.foldl tstep c) = T f c - T f o ∧ (∀ q ∈ o.foldl tstep c, 0 ≤ q.2) ∧ ∀ q ∈ o.foldl tstep c, ∃ y ∈ c, y.1 = q.1 ∧ q.2 = y.2 - cnt o q.1
  | [], c, _, _, h0, _ => ⟨by simp [T], h0, fun q hq => ⟨q, hq, rfl, by simp [cnt]⟩⟩
  | x :: o, c, hc, ho, h0, hs => by
    have hp := List.pairwise_cons.mp ho
    obtain ⟨y, hy, e1, e2⟩ := hs x List.mem_cons_self
    have hc2 : (tstep c x).Pairwise fun a b => a.1 ≠ b.1 := by
      have : ((tstep c x).map (·.1)).Pairwise (· ≠ ·) := by rw [tstep_keys]; exact List.pairwise_map.mpr hc
      exact List.pairwise_map.mp this
    have hcx : ∀ q ∈ c, q.1 = x.1 → q = y := fun q hq e => by
      have := cnt_mem hc q hq
      have h2 := cnt_mem hc y hy
      rw [e] at this
      rw [e1] at h2
      exact Prod.ext (by rw [e, e1]) (by rw [← this, ← h2])
    have h02 : ∀ q ∈ tstep c x, 0 ≤ q.2 := fun q hq => by
      unfold tstep at hq
      obtain ⟨z, hz, rfl⟩ := List.mem_map.mp hq
      by_cases c1 : z.1 = x.1
      · rw [if_pos c1, hcx z hz c1]; dsimp only; omega
      · rw [if_neg c1]; exact h0 z hz
    have hs2 : ∀ w ∈ o, ∃ q ∈ tstep c x, q.1 = w.1 ∧ w.2 ≤ q.2 := fun w hw => by
      obtain ⟨q, hq, f1, f2⟩ := hs w (List.mem_cons_of_mem _ hw)
      refine ⟨q, ?_, f1, f2⟩
      unfold tstep
      exact List.mem_map.mpr ⟨q, hq, by rw [if_neg (by rw [f1]; exact fun e => hp.1 w hw e.symm)]⟩
    obtain ⟨g1, g2, g3⟩ := fold_take f o (tstep c x) hc2 hp.2 h02 hs2
    rw [List.foldl_cons]
    refine ⟨?_, g2, fun q hq => ?_⟩
    · rw [g1, T_tstep f hc ⟨y, hy, e1⟩, T_cons]; omega
    · obtain ⟨z, hz, f1, f2⟩ := g3 q hq
      unfold tstep at hz
      obtain ⟨v, hv, rfl⟩ := List.mem_map.mp hz
      by_cases c1 : v.1 = x.1
      · rw [if_pos c1] at f1 f2
        dsimp only at f1 f2
        refine ⟨v, hv, f1, ?_⟩
        have hn : cnt o q.1 = 0 := by
          unfold cnt
          rw [List.find?_eq_none.mpr fun w hw => by
            simp only [decide_eq_true_eq]
            intro e
            exact hp.1 w hw (by rw [e, ← f1, c1])]
          rfl
        have hx1 : cnt (x :: o) q.1 = x.2 := by
          unfold cnt
          rw [List.find?_cons_of_pos (by simp; rw [← f1, c1])]
          rfl
        rw [f2, hn, hx1]
        omega
      · rw [if_neg c1] at f1 f2
        refine ⟨v, hv, f1, ?_⟩
        have hx1 : cnt (x :: o) q.1 = cnt o q.1 := by
          unfold cnt
          rw [List.find?_cons_of_neg (by simp; intro e; exact c1 (by rw [f1, e]))]
        rw [f2, hx1]
theorem up_neC {p : Pile} (h : p.Pairwise fun a b => a.1 < b.1) : p.Pairwise fun a b => a.1 ≠ b.1 := h.imp fun h e => by omega
theorem takeP_len {p o : Pile} : (takeP p o).length ≤ p.length := by
  have key : ∀ (o c : Pile), (o.foldl tstep c).length = c.length := by
    intro o
    induction o with
    | nil => intro c; rfl
    | cons x o ih => intro c; rw [List.foldl_cons, ih]; unfold tstep; rw [List.length_map]
  unfold takeP
  exact Nat.le_trans (List.length_filter_le _ _) (Nat.le_of_eq (key o p))
theorem takeP_gdC {p o : Pile} (h : Gd p) (ho : o.Pairwise fun a b => a.1 < b.1) (hs : ∀ x ∈ o, ∃ q ∈ p, q.1 = x.1 ∧ x.2 ≤ q.2) (hn : ∀ x ∈ o, 0 ≤ x.2) : Gd (takeP p o) := by
  obtain ⟨_, _, g3⟩ := fold_take (fun w => w) o p (up_neC h.up) (up_neC ho) (fun q hq => by have := h.m1 q hq; omega) hs
  have hk : (o.foldl tstep p).map (·.1) = p.map (·.1) := by
    have key : ∀ (o c : Pile), (o.foldl tstep c).map (·.1) = c.map (·.1) := by
      intro o
      induction o with
      | nil => intro c; rfl
      | cons x o ih => intro c; rw [List.foldl_cons, ih, tstep_keys]
    exact key o p
  have hup : (o.foldl tstep p).Pairwise fun a b => a.1 < b.1 := by
    have : ((o.foldl tstep p).map (·.1)).Pairwise (· < ·) := by rw [hk]; exact List.pairwise_map.mpr h.up
    exact List.pairwise_map.mp this
  have hcn : ∀ w, 0 ≤ cnt o w := fun w => by
    unfold cnt
    cases e : o.find? fun q => decide (q.1 = w) with
    | none => simp
    | some q => simpa using hn q (List.mem_of_find?_eq_some e)
  have hm : ∀ q ∈ takeP p o, ∃ y ∈ p, y.1 = q.1 ∧ 0 < q.2 ∧ q.2 ≤ y.2 := fun q hq => by
    unfold takeP at hq
    rw [List.mem_filter] at hq
    obtain ⟨y, hy, e1, e2⟩ := g3 q hq.1
    have := hcn q.1
    exact ⟨y, hy, e1, of_decide_eq_true hq.2, by omega⟩
  refine ⟨fun q hq => ?_, fun q hq => ?_, fun q hq => ?_, fun q hq => ?_, hup.filter _, by have := takeP_len (p := p) (o := o); have := h.len; omega⟩
  · obtain ⟨y, hy, e, _, _⟩ := hm q hq; rw [← e]; exact h.w1 y hy
  · obtain ⟨y, hy, e, _, _⟩ := hm q hq; rw [← e]; exact h.w2 y hy
  · obtain ⟨y, hy, e, h1, _⟩ := hm q hq; omega
  · obtain ⟨y, hy, e, _, h1⟩ := hm q hq; have := h.m2 y hy; omega
end Lw
namespace Lw
open PySem L2 Bt
end Lw
namespace Lw
open PySem L2 Bt
end Lw
namespace Lw
open PySem L2 Bt
def PartP (p o : Pile) : Prop := (∀ x ∈ o, 1 ≤ x.2 ∧ ∃ q ∈ p, q.1 = x.1 ∧ x.2 ≤ q.2) ∧ o.Pairwise fun a b => a.1 < b.1
theorem S_cons' (q : Int × Int) (r : Pile) : S (q :: r) = q.1 * q.2 + S r := by simp [S]
theorem S_nnP {o : Pile} (h : ∀ x ∈ o, 1 ≤ x.1 ∧ 1 ≤ x.2) : 0 ≤ S o := by
  induction o with
  | nil => simp [S]
  | cons q o ih =>
    rw [S_cons']
    have := h q List.mem_cons_self
    have := ih fun x hx => h x (List.mem_cons_of_mem _ hx)
    have := Int.mul_nonneg (show 0 ≤ q.1 by omega) (show 0 ≤ q.2 by omega)
    omega
theorem part_le : ∀ {p o : Pile}, Gd p → PartP p o → S o ≤ S p
  | [], o, _, h => by
    cases o with
    | nil => exact Int.le_refl _
    | cons x o => obtain ⟨_, q, hq, _⟩ := h.1 x List.mem_cons_self; cases hq
  | q :: r, o, hp, h => by
    have hup := List.pairwise_cons.mp hp.up
    have w1 := hp.w1 q List.mem_cons_self
    have m1 := hp.m1 q List.mem_cons_self
    cases o with
    | nil =>
      have : 0 ≤ S (q :: r) := S_nnP fun x hx => ⟨hp.w1 x hx, hp.m1 x hx⟩
      simpa [S] using this
    | cons x o =>
      have ho := List.pairwise_cons.mp h.2
      obtain ⟨x1, y, hy, e1, e2⟩ := h.1 x List.mem_cons_self
      have rest : ∀ z ∈ o, q.1 < z.1 → ∃ t ∈ r, t.1 = z.1 ∧ z.2 ≤ t.2 := fun z hz hlt => by
        obtain ⟨_, t, ht, f1, f2⟩ := h.1 z (List.mem_cons_of_mem _ hz)
        rcases List.mem_cons.mp ht with rfl | ht
        · omega
        · exact ⟨t, ht, f1, f2⟩
      by_cases c : x.1 = q.1
      · have e3 : x.2 ≤ q.2 := by
          rcases List.mem_cons.mp hy with rfl | hy
          · exact e2
          · have := hup.1 y hy; omega
        have ih := part_le (p := r) (o := o) (gd_tail hp) ⟨fun z hz => ⟨(h.1 z (List.mem_cons_of_mem _ hz)).1, rest z hz (by have := ho.1 z hz; omega)⟩, ho.2⟩
        rw [S_cons', S_cons', c]
        have := Int.mul_le_mul_of_nonneg_left e3 (show 0 ≤ q.1 by omega)
        omega
      · have hyr : y ∈ r := by
          rcases List.mem_cons.mp hy with rfl | hy
          · exact absurd e1.symm c
          · exact hy
        have hlt : q.1 < x.1 := by have := hup.1 y hyr; omega
        have ih := part_le (p := r) (o := x :: o) (gd_tail hp) ⟨fun z hz => ⟨(h.1 z hz).1, by
          rcases List.mem_cons.mp hz with rfl | hz
          · exact ⟨y, hyr, e1, e2⟩
          · exact rest z hz (by have := ho.1 z hz; omega)⟩, h.2⟩
        rw [S_cons' q r]
        have := Int.mul_nonneg (show 0 ≤ q.1 by omega) (show 0 ≤ q.2 by omega)
        omega
end Lw
namespace Lw
open PySem L2 Bt
end Lw
namespace Lw
open PySem L2 Bt
noncomputable def srtP (os : List Pile) : List D := if os.length < 2 then os.map enc else sortT (os.map enc)
theorem srtP_piles (os : List Pile) : ∃ qs : List Pile, srtP os = qs.map enc ∧ qs.Perm os := by
  have hp : (srtP os).Perm (os.map enc) := by
    unfold srtP
    split
    · exact .refl _
    · exact List.mergeSort_perm _ _
  have key : ∀ (ds : List D) (os : List Pile), ds.Perm (os.map enc) → ∃ qs : List Pile, ds = qs.map enc ∧ qs.Perm os := by
    intro ds
    induction ds with
    | nil => intro os h; have := h.length_eq; simp at this; exact ⟨[], rfl, by rw [List.eq_nil_of_length_eq_zero this.symm]⟩
    | cons d ds ih =>
      intro os h
      obtain ⟨o, ho, rfl⟩ := List.mem_map.mp (h.mem_iff.mp List.mem_cons_self)
      obtain ⟨l1, l2, rfl⟩ := List.append_of_mem ho
      have h' : ds.Perm ((l1 ++ l2).map enc) := by
        rw [List.map_append, List.map_cons] at h
        have := h.trans List.perm_middle
        rw [List.map_append]
        exact (List.perm_cons _).mp this
      obtain ⟨qs, e, hq⟩ := ih (l1 ++ l2) h'
      exact ⟨o :: qs, by rw [List.map_cons, e], (List.Perm.cons _ hq).trans List.perm_middle.symm⟩
  exact key _ _ hp
end Lw
namespace Lw
open PySem L2 Bt
def lng64 (f : List Pile) (q : Int × Int) : List Pile := f.flatMap fun o => (List.range (q.2 + 1).toNat).map fun u => o ++ lotOf q.1 u
def win (p : Pile) : List Pile := p.foldl lng64 [[]]
def prod64 : Pile → Nat
  | [] => 1
  | q :: r => (q.2 + 1).toNat * prod64 r
theorem prod64_pos : ∀ {p : Pile}, (∀ q ∈ p, 1 ≤ q.2) → 1 ≤ prod64 p
  | [], _ => by simp [prod64]
  | q :: r, h => by
    have h1 := h q List.mem_cons_self
    have h2 := prod64_pos (p := r) fun x hx => h x (List.mem_cons_of_mem _ hx)
    rw [prod64]
    exact Nat.mul_pos (by omega) h2
theorem lng64_len (q : Int × Int) : ∀ f : List Pile, (lng64 f q).length = f.length * (q.2 + 1).toNat
  | [] => by simp [lng64]
  | o :: l => by
    have ih := lng64_len q l
    unfold lng64 at ih ⊢
    rw [List.flatMap_cons, List.length_append, List.length_map, List.length_range, List.length_cons, Nat.add_mul, Nat.one_mul]
    omega
structure Pt64 (p : Pile) (k : Int) (o : Pile) : Prop where
  i : ∀ x ∈ o, x.1 < k ∧ 1 ≤ x.2 ∧ ∃ q ∈ p, q.1 = x.1 ∧ x.2 ≤ q.2
  u : o.Pairwise fun a b => a.1 < b.1
theorem Pt64.mono {p : Pile} {k k' : Int} {o : Pile} (h : Pt64 p k o) (hk : k ≤ k') : Pt64 p k' o := ⟨fun x hx => by obtain ⟨h1, h3⟩ := h.i x hx; exact ⟨by omega, h3⟩, h.u⟩
theorem Pt64.part {p : Pile} {k : Int} {o : Pile} (h : Pt64 p k o) : PartP p o := ⟨fun x hx => (h.i x hx).2, h.u⟩
theorem gd_len64 {o : Pile} (h : ∀ x ∈ o, 1 ≤ x.1 ∧ 1 ≤ x.2) : (o.length : Int) ≤ S o := by
  induction o with
  | nil => simp [S]
  | cons x o ih =>
    have h1 := h x List.mem_cons_self
    have h2 := ih fun y hy => h y (List.mem_cons_of_mem _ hy)
    have h3 := Int.mul_le_mul h1.1 h1.2 (by omega) (by omega)
    rw [S_cons', List.length_cons]
    omega
theorem part_gd64 {p o : Pile} (h : Gd p) (hs : S p ≤ 200) (ho : PartP p o) : Gd o ∧ o.length ≤ 200 := by
  have h1 : ∀ x ∈ o, 1 ≤ x.1 ∧ x.1 ≤ 10 ^ 13 ∧ x.2 ≤ 10 ^ 13 := fun x hx => by
    obtain ⟨_, q, hq, e, hl⟩ := ho.1 x hx
    have := h.w1 q hq
    have := h.w2 q hq
    have := h.m2 q hq
    omega
  have hl := gd_len64 (o := o) fun x hx => ⟨(h1 x hx).1, (ho.1 x hx).1⟩
  have := part_le h ho
  exact ⟨⟨fun x hx => (h1 x hx).1, fun x hx => (h1 x hx).2.1, fun x hx => (ho.1 x hx).1, fun x hx => (h1 x hx).2.2, ho.2, by omega⟩, by omega⟩
theorem part_sub64 {p o : Pile} (ho : PartP p o) : ∀ x ∈ o, ∃ q ∈ p, q.1 = x.1 ∧ x.2 ≤ q.2 := fun x hx => (ho.1 x hx).2
theorem part_tg64 {p o : Pile} (h : Gd p) (ho : PartP p o) : Gd (takeP p o) := takeP_gdC h ho.2 (part_sub64 ho) fun x hx => by have := (ho.1 x hx).1; omega
theorem Pt64.add {p : Pile} {k : Int} {o : Pile} (h : Pt64 p k o) {q : Int × Int} (hq : q ∈ p) (hk : k ≤ q.1) {u : Nat} (hu : (u : Int) ≤ q.2) : Pt64 p (q.1 + 1) (o ++ lotOf q.1 u) := by
  refine ⟨fun x hx => ?_, ?_⟩
  · rcases List.mem_append.mp hx with hx | hx
    · obtain ⟨a1, a3⟩ := h.i x hx
      exact ⟨by omega, a3⟩
    · unfold lotOf at hx
      split at hx
      · rw [List.mem_singleton.mp hx]
        exact ⟨by dsimp only; omega, by dsimp only; omega, q, hq, rfl, hu⟩
      · cases hx
  · unfold lotOf
    split
    · refine List.pairwise_append.mpr ⟨h.u, List.pairwise_singleton _ _, fun x hx y hy => ?_⟩
      rw [List.mem_singleton.mp hy]
      have := (h.i x hx).1
      dsimp only
      omega
    · rw [List.append_nil]
      exact h.u
theorem lng64_ok {p : Pile} {q : Int × Int} (hq : q ∈ p) {k : Int} (hk : k ≤ q.1) {found : List Pile} (h : ∀ o ∈ found, Pt64 p k o) : ∀ o ∈ lng64 found q, Pt64 p (q.1 + 1) o := fun o ho => by
  unfold lng64 at ho
  obtain ⟨z, hz, ho⟩ := List.mem_flatMap.mp ho
  obtain ⟨u, hu, rfl⟩ := List.mem_map.mp ho
  have := List.mem_range.mp hu
  exact (h z hz).add hq hk (by omega)
theorem win_head : ∀ (p : Pile) (f : List Pile), (∀ q ∈ p, 1 ≤ q.2) → ∃ r, p.foldl lng64 ([] :: f) = [] :: r
  | [], f, _ => ⟨f, rfl⟩
  | q :: p, f, h => by
    have h1 := h q List.mem_cons_self
    rw [List.foldl_cons]
    have : ∃ r, lng64 ([] :: f) q = [] :: r := by
      unfold lng64
      rw [List.flatMap_cons, show (q.2 + 1).toNat = q.2.toNat + 1 by omega, List.range_succ_eq_map, List.map_cons]
      exact ⟨_, rfl⟩
    obtain ⟨r, e⟩ := this
    rw [e]
    exact win_head p r fun x hx => h x (List.mem_cons_of_mem _ hx)
theorem win_ok {p : Pile} (h : Gd p) : (∀ o ∈ win p, PartP p o) ∧ (win p).length = prod64 p := by
  have key : ∀ (r : Pile) (f : List Pile) (k : Int), (∀ o ∈ f, Pt64 p k o) → (∀ q ∈ r, k ≤ q.1 ∧ q ∈ p) → (r.Pairwise fun a b => a.1 < b.1) → (∀ o ∈ r.foldl lng64 f, PartP p o) ∧ (r.foldl lng64 f).length = f.length * prod64 r := by
    intro r
    induction r with
    | nil => intro f k hf _ _; exact ⟨fun o ho => (hf o ho).part, by simp [prod64]⟩
    | cons q r ih =>
      intro f k hf hr hu
      obtain ⟨hk, hq⟩ := hr q List.mem_cons_self
      obtain ⟨u1, u2⟩ := List.pairwise_cons.mp hu
      obtain ⟨i1, i2⟩ := ih (lng64 f q) (q.1 + 1) (lng64_ok hq hk hf) (fun x hx => ⟨by have := u1 x hx; omega, (hr x (List.mem_cons_of_mem _ hx)).2⟩) u2
      rw [List.foldl_cons]
      refine ⟨i1, ?_⟩
      rw [i2, lng64_len, prod64, Nat.mul_assoc]
  obtain ⟨k1, k2⟩ := key p [[]] 1 (fun o ho => by rw [List.mem_singleton.mp ho]; exact ⟨by simp, by simp⟩) (fun q hq => ⟨h.w1 q hq, hq⟩) h.up
  exact ⟨k1, by unfold win; rw [k2]; simp⟩
theorem alike64 : ∀ (p q : Pile), PySem.W.alikeAll (p.map encL) (q.map encL) = true
  | [], _ => by simp [PySem.W.alikeAll]
  | x :: p, [] => by simp [PySem.W.alikeAll]
  | x :: p, y :: q => by
    rw [List.map_cons, List.map_cons, PySem.W.alikeAll, alike64 p q]
    simp [encL, PySem.W.alike, PySem.W.alikeAll]
theorem sortD64 {r : List Pile} : SortD ((([] : Pile) :: r).map enc) := by
  refine ⟨fun d hd d' hd' => ?_, .inr ⟨⟨r.map enc, rfl⟩, fun d hd => ?_⟩, fun d hd => ?_⟩
  · obtain ⟨o, _, rfl⟩ := List.mem_map.mp hd
    obtain ⟨o', _, rfl⟩ := List.mem_map.mp hd'
    unfold enc
    rw [PySem.W.alike]
    exact alike64 o o'
  · obtain ⟨o, _, rfl⟩ := List.mem_map.mp hd
    exact ⟨_, rfl⟩
  · obtain ⟨o, _, rfl⟩ := List.mem_map.mp hd
    have s := shp_enc o
    exact ⟨s.lay, Nat.le_trans s.dep (by omega)⟩
theorem srt64 {p : Pile} (h : Gd p) : sortedF [.list ((win p).map enc)] = some (.list (srtP (win p))) := by
  obtain ⟨r, e⟩ := win_head p [] h.m1
  have e' : win p = [] :: r := e
  rw [e']
  have ei : intsOf ((([] : Pile) :: r).map enc) = none := rfl
  unfold srtP
  by_cases c : (([] : Pile) :: r).length < 2
  · rw [if_pos c]
    unfold sortedF
    dsimp only
    rw [ei]
    dsimp only
    rw [if_pos (by rw [List.length_map]; exact c)]
  · rw [if_neg c]
    unfold sortedF
    dsimp only
    rw [ei]
    dsimp only
    rw [if_neg (by rw [List.length_map]; exact c), if_pos (@decide_eq_true _ (Classical.propDecidable _) sortD64)]
theorem rngU64 (n : Nat) : rangeD 0 (n : Int) = (List.range n).map fun (k : Nat) => .int (k : Int) := by
  unfold rangeD
  rw [show ((n : Int) - 0).toNat = n by omega]
  exact List.map_congr_left fun k _ => by rw [Int.zero_add]
theorem enc_lot {o : Pile} {w : Int} {u : Nat} (c0 : 0 < u) : enc (o ++ lotOf w u) = .tuple (o.map encL ++ [.tuple [.int w, .int (u : Int)]]) := by
  unfold lotOf enc
  rw [if_pos c0]
  simp [encL]
theorem enc_lot0 {o : Pile} {w : Int} : enc (o ++ lotOf w 0) = .tuple (o.map encL) := by
  unfold lotOf enc
  rw [if_neg (by omega)]
  simp
theorem within_turn {p : Pile} (h : Gd p) (hs : S p ≤ 200) (P : D) {q : Int × Int} (hq : q ∈ p) {f : List Pile} (hf : ∀ o ∈ f, PartP p o) (hl : (lng64 f q).length ≤ 10000) :
    lc_k64_within_by_1 [.dat P, .dat (.list (f.map enc)), .dat (.int q.1), .dat (.int q.2), .un, .un] = .ok (.list ((lng64 f q).map enc)) [.dat P, .dat (.list (f.map enc)), .dat (.int q.1), .dat (.int q.2), .un, .un] := by
  have h1 := h.w1 q hq
  have h2 := h.w2 q hq
  have h3 := h.m1 q hq
  have ho1 : q.2 ≤ 200 := by
    have : PartP p [q] := ⟨fun x hx => by rw [List.mem_singleton.mp hx]; exact ⟨h3, q, hq, rfl, Int.le_refl _⟩, List.pairwise_singleton _ _⟩
    have := part_le h this
    have hm : 1 * q.2 ≤ q.1 * q.2 := Int.mul_le_mul_of_nonneg_right h1 (by omega)
    rw [S_cons'] at this
    rw [show S ([] : Pile) = 0 by simp [S]] at this
    omega
  have hm : (lng64 f q).map enc = (f.flatMap fun o => (List.range (q.2 + 1).toNat).map fun u => (o, u)).map fun z => enc (z.1 ++ lotOf q.1 z.2) := by
    unfold lng64
    rw [List.map_flatMap, List.map_flatMap]
    simp only [List.map_map]
    rfl
  rw [hm]
  unfold lc_k64_within_by_1
  have ow : okI q.1 = true := okS (by omega) (by omega)
  have om : okI (q.2 + 1) = true := okS (by omega) (by omega)
  refine lc2_map f enc (fun o => (List.range (q.2 + 1).toNat).map fun u => (o, u)) (fun z => .int (z.2 : Nat)) (fun z => enc (z.1 ++ lotOf q.1 z.2)) (by simp! [itemsOf]) (by simp) (by simp) (fun o ho => ?_) ?_
  · have po := (part_gd64 h hs (hf o ho)).2
    refine ⟨[.dat P, .dat (.list (f.map enc)), .dat (.int q.1), .dat (.int q.2), .dat (enc o), .un], by simp [gN, wipeE], rfl, ?_, by simp [wipeE], fun z hz => ?_⟩
    · have e1 : rangeD 0 (q.2 + 1) = (List.range (q.2 + 1).toNat).map fun (k : Nat) => .int (k : Int) := by
        have := rngU64 (q.2 + 1).toNat
        rw [show (((q.2 + 1).toNat : Nat) : Int) = q.2 + 1 by omega] at this
        exact this
      simp! [rg_ok (show -1000000 ≤ q.2 + 1 by omega) (show q.2 + 1 ≤ 1000000 by omega), e1, List.map_map, Function.comp_def]
    · obtain ⟨u, hu, rfl⟩ := List.mem_map.mp hz
      have hu := List.mem_range.mp hu
      have ou : okI (u : Int) = true := okS (by omega) (by omega)
      have l1 : 1 ≤ LIM := by decide
      have l2 : 2 ≤ LIM := by decide
      have hLI : LIM = 100000 := rfl
      have r0 : repT 1 0 = true := repT_iff.mpr (by omega)
      have r1 : repT 1 1 = true := repT_iff.mpr (by omega)
      by_cases c0 : 0 < u
      · have c0' : (0 : Int) < (u : Int) := by omega
        have hl2 : o.length + 1 ≤ LIM := by omega
        dsimp only
        rw [enc_lot c0]
        have ee : enc o = .tuple (o.map encL) := rfl
        rw [ee]
        simp! [elF, wipeE, gN, ow, ou, c0, c0', r1, l1, l2, hl2]
      · have u0 : u = 0 := by omega
        subst u0
        have hl2 : o.length ≤ LIM := by omega
        have oz : okI 0 = true := okS (by omega) (by omega)
        dsimp only
        rw [enc_lot0]
        have ee : enc o = .tuple (o.map encL) := rfl
        rw [ee]
        simp! [elF, wipeE, gN, ow, oz, r0, l1, l2, hl2]
  · have : (f.flatMap fun o => (List.range (q.2 + 1).toNat).map fun u => (o, u)).length = (lng64 f q).length := by
      have := congrArg List.length hm
      rw [List.length_map, List.length_map] at this
      exact this.symm
    rw [this]
    exact Nat.le_trans hl (by decide)
def Iw (p : Pile) (f : List Pile) (r : Pile) : Prop := ∃ k : Int, 1 ≤ k ∧ f.length * prod64 r ≤ 10000 ∧ (∀ o ∈ f, Pt64 p k o) ∧ (∀ q ∈ r, k ≤ q.1 ∧ q ∈ p) ∧ (r.Pairwise fun a b => a.1 < b.1)
theorem Iw.start {p : Pile} (h : Gd p) (hl : prod64 p ≤ 10000) : Iw p [[]] p := ⟨1, by omega, by simpa using hl, fun o ho => by rw [List.mem_singleton.mp ho]; exact ⟨by simp, by simp⟩, fun q hq => ⟨h.w1 q hq, hq⟩, h.up⟩
theorem Iw.next {p : Pile} (h : Gd p) {f : List Pile} {q : Int × Int} {r : Pile} (hI : Iw p f (q :: r)) : q ∈ p ∧ (∀ o ∈ f, PartP p o) ∧ (lng64 f q).length ≤ 10000 ∧ Iw p (lng64 f q) r := by
  obtain ⟨k, k1, k2, k3, k4, k6⟩ := hI
  obtain ⟨hk, hq⟩ := k4 q List.mem_cons_self
  have hup := List.pairwise_cons.mp k6
  have e : (lng64 f q).length * prod64 r ≤ 10000 := by
    rw [lng64_len, Nat.mul_assoc]
    exact k2
  have hp1 : 1 ≤ prod64 r := prod64_pos fun x hx => h.m1 x (k4 x (List.mem_cons_of_mem _ hx)).2
  have w1 := h.w1 q hq
  exact ⟨hq, fun o ho => (k3 o ho).part, Nat.le_trans (Nat.le_mul_of_pos_right _ hp1) e, q.1 + 1, by omega, e, lng64_ok hq hk k3, fun x hx => ⟨by have := hup.1 x hx; omega, (k4 x (List.mem_cons_of_mem _ hx)).2⟩, hup.2⟩
theorem within_prog {p : Pile} (h : Gd p) (hs : S p ≤ 200) (hl : prod64 p ≤ 10000) : s_k64_within_by [.dat (enc p)] = .ok (.dat (.list (srtP (win p)))) [.dat (enc p)] := by
  let st : List Pile → En := fun f => [.dat (enc p), .dat (.list (f.map enc)), .un, .un, .un, .un]
  have e := (for_fold (ws := [2, 3]) (mi := mIt (mV 0)) (g := gTupM 2 (gConsM (gN 2) (gConsM (gN 3) gNilM))) (mb := lp_k64_within_by_1) (E0 := st [[]]) (s := ([[]] : List Pile)) p encL st lng64 (Iw p) (by simp! [st, itemsOf, enc]) (Iw.start h hl) (fun q r f hI => by
    obtain ⟨hq, hf, hln, hn⟩ := hI.next h
    have et := within_turn h hs (enc p) hq hf hln
    refine ⟨⟨[.dat (enc p), .dat (.list (f.map enc)), .dat (.int q.1), .dat (.int q.2), .un, .un], [.dat (enc p), .dat (.list ((lng64 f q).map enc)), .dat (.int q.1), .dat (.int q.2), .un, .un], by simp [st, gN, gTupM, gConsM, gNilM, encL], .inl ?_, by simp [st, wipeE]⟩, hn⟩
    generalize enc p = P at *
    simp! [lp_k64_within_by_1, gN, et])).1
  have e' : fr_k64_within_by_1 (st [[]]) = .ok .nx (st (win p)) := e
  have es := srt64 h
  have l0 : 0 ≤ LIM := Nat.zero_le _
  have l1 : 1 ≤ LIM := by decide
  simp only [st] at e'
  generalize (win p).map enc = Y at *
  have e0 : ([[]] : List Pile).map enc = [.tuple []] := rfl
  rw [e0] at e'
  generalize srtP (win p) = Z at *
  generalize enc p = P at *
  simp! [s_k64_within_by, m_k64_within_by, gN, l0, l1, e', es]
theorem lw_in (P : D) {w : Int} (w1 : 1 ≤ w) (w2 : w ≤ 10 ^ 13) (F : D) {n : Nat} (hn : n ≤ 1001) {o : Pile} (hol : o.length ≤ 200) (acc : List Pile) (hacc : acc.length + n ≤ 20000) :
    fr_k64__law_within_1 [.dat P, .dat F, .dat (.int w), .dat (.int ((n : Int) - 1)), (.ow (.l (acc.map enc))), .dat (enc o), .un] = .ok .nx [.dat P, .dat F, .dat (.int w), .dat (.int ((n : Int) - 1)), (.ow (.l ((acc ++ (List.range n).map fun u => o ++ lotOf w u).map enc))), .dat (enc o), .un] := by
  let st : List Pile → En := fun acc => [.dat P, .dat F, .dat (.int w), .dat (.int ((n : Int) - 1)), (.ow (.l (acc.map enc))), .dat (enc o), .un]
  have ok1 : okI ((n : Int) - 1 + 1) = true := okS (by omega) (by omega)
  have e := (for_fold (ws := [6]) (mi := mRng1 (mCons (mD (mOp addD (mR 3) (mD (Bt.ret (.int 1))))) (Bt.ret []))) (g := gN 6) (mb := lp_k64__law_within_1) (E0 := st acc) (s := acc) (List.range n) (fun (u : Nat) => .int (u : Int)) st (fun acc u => acc ++ [o ++ lotOf w u]) (fun acc rest => acc.length + rest.length ≤ 20000 ∧ ∀ u ∈ rest, u ≤ 1001)
    (by
      have e2 : rangeD 0 (n : Int) = (List.range n).map fun (k : Nat) => .int (k : Int) := rngU64 n
      simp! [st, rg_ok (show -1000000 ≤ (n : Int) by omega) (show (n : Int) ≤ 1000000 by omega), ok1, e2])
    ⟨by rw [List.length_range]; omega, fun u hu => by have := List.mem_range.mp hu; omega⟩ (fun u rest acc hI => by
      obtain ⟨hI, hu⟩ := hI
      have u1 := hu u List.mem_cons_self
      rw [List.length_cons] at hI
      have ow : okI w = true := okS (by omega) (by omega)
      have ou : okI (u : Int) = true := okS (by omega) (by omega)
      have l1 : 1 ≤ LIM := by decide
      have l2 : 2 ≤ LIM := by decide
      have hLI : LIM = 100000 := rfl
      have r0 : repT 1 0 = true := repT_iff.mpr (by omega)
      have r1 : repT 1 1 = true := repT_iff.mpr (by omega)
      have hl : acc.length < LIM := by omega
      refine ⟨⟨[.dat P, .dat F, .dat (.int w), .dat (.int ((n : Int) - 1)), (.ow (.l (acc.map enc))), .dat (enc o), .dat (.int (u : Int))], [.dat P, .dat F, .dat (.int w), .dat (.int ((n : Int) - 1)), (.ow (.l ((acc ++ [o ++ lotOf w u]).map enc))), .dat (enc o), .dat (.int (u : Int))], by simp [st, gN], .inl ?_, by simp [st, wipeE]⟩, by rw [List.length_append, List.length_singleton]; omega, fun v hv => hu v (List.mem_cons_of_mem _ hv)⟩
      by_cases c0 : 0 < u
      · have hl2 : o.length + 1 ≤ LIM := by omega
        have c0' : (0 : Int) < (u : Int) := by omega
        rw [List.map_append, List.map_cons, List.map_nil, enc_lot c0]
        have ee : enc o = .tuple (o.map encL) := rfl
        rw [ee]
        simp! [lp_k64__law_within_1, gN, ow, ou, c0, c0', r1, l1, l2, hl2, hl]
      · have u0 : u = 0 := by omega
        subst u0
        have hl2 : o.length ≤ LIM := by omega
        rw [List.map_append, List.map_cons, List.map_nil, enc_lot0]
        have ee : enc o = .tuple (o.map encL) := rfl
        rw [ee]
        have oz : okI 0 = true := okS (by omega) (by omega)
        simp! [lp_k64__law_within_1, gN, ow, oz, r0, l1, l2, hl2, hl])).1
  have ef : ∀ (l : List Nat) (b : List Pile), l.foldl (fun acc u => acc ++ [o ++ lotOf w u]) b = b ++ l.map fun u => o ++ lotOf w u := by
    intro l
    induction l with
    | nil => intro b; simp
    | cons u l ih => intro b; rw [List.foldl_cons, ih, List.map_cons, List.append_assoc]; rfl
  rw [ef] at e
  exact e
theorem lw_mid {p : Pile} (h : Gd p) (hs : S p ≤ 200) (P : D) {q : Int × Int} (hq : q ∈ p) {f : List Pile} (hf : ∀ o ∈ f, PartP p o) (hl : (lng64 f q).length ≤ 10000) :
    fr_k64__law_within_2 [.dat P, .dat (.list (f.map enc)), .dat (.int q.1), .dat (.int q.2), (.ow (.l [])), .un, .un] = .ok .nx [.dat P, .dat (.list (f.map enc)), .dat (.int q.1), .dat (.int q.2), (.ow (.l ((lng64 f q).map enc))), .un, .un] := by
  have h1 := h.w1 q hq
  have h2 := h.w2 q hq
  have h3 := h.m1 q hq
  have ho1 : q.2 ≤ 200 := by
    have : PartP p [q] := ⟨fun x hx => by rw [List.mem_singleton.mp hx]; exact ⟨h3, q, hq, rfl, Int.le_refl _⟩, List.pairwise_singleton _ _⟩
    have := part_le h this
    have hm : 1 * q.2 ≤ q.1 * q.2 := Int.mul_le_mul_of_nonneg_right h1 (by omega)
    rw [S_cons'] at this
    rw [show S ([] : Pile) = 0 by simp [S]] at this
    omega
  rw [lng64_len] at hl
  let st : List Pile → En := fun acc => [.dat P, .dat (.list (f.map enc)), .dat (.int q.1), .dat (.int q.2), (.ow (.l (acc.map enc))), .un, .un]
  have e := (for_fold (ws := [5, 6]) (mi := mIt (mV 1)) (g := gN 5) (mb := lp_k64__law_within_2) (E0 := st []) (s := ([] : List Pile)) f enc st (fun acc o => acc ++ (List.range (q.2 + 1).toNat).map fun u => o ++ lotOf q.1 u) (fun acc rest => acc.length + rest.length * ((q.2 + 1).toNat) ≤ 10000 ∧ ∀ o ∈ rest, PartP p o) (by simp! [st, itemsOf]) ⟨by simpa using hl, hf⟩ (fun o rest acc hI => by
    obtain ⟨hI, hu⟩ := hI
    have po := (part_gd64 h hs (hu o List.mem_cons_self)).2
    rw [List.length_cons, Nat.add_mul, Nat.one_mul] at hI
    have ei := lw_in P h1 h2 (.list (f.map enc)) (n := (q.2 + 1).toNat) (by omega) po acc (by omega)
    rw [show (((q.2 + 1).toNat : Nat) : Int) - 1 = q.2 by omega] at ei
    refine ⟨⟨[.dat P, .dat (.list (f.map enc)), .dat (.int q.1), .dat (.int q.2), (.ow (.l (acc.map enc))), .dat (enc o), .un], [.dat P, .dat (.list (f.map enc)), .dat (.int q.1), .dat (.int q.2), (.ow (.l ((acc ++ (List.range (q.2 + 1).toNat).map fun u => o ++ lotOf q.1 u).map enc))), .dat (enc o), .un], by simp [st, gN], .inl ?_, by simp [st, wipeE]⟩, ?_, fun v hv => hu v (List.mem_cons_of_mem _ hv)⟩
    · unfold lp_k64__law_within_2
      rw [Bt.a_mSeq, ei]
      rfl
    · rw [List.length_append, List.length_map, List.length_range]
      omega)).1
  have ef : ∀ (l b : List Pile), l.foldl (fun acc o => acc ++ (List.range (q.2 + 1).toNat).map fun u => o ++ lotOf q.1 u) b = b ++ lng64 l q := by
    intro l
    induction l with
    | nil => intro b; simp [lng64]
    | cons u l ih => intro b; rw [List.foldl_cons, ih]; unfold lng64; rw [List.flatMap_cons, List.append_assoc]
  rw [ef, List.nil_append] at e
  exact e
theorem within_law {p : Pile} (h : Gd p) (hs : S p ≤ 200) (hl : prod64 p ≤ 10000) : s_k64__law_within [.dat (enc p)] = .ok (.dat (.list (srtP (win p)))) [.dat (enc p)] := by
  let st : List Pile → En := fun f => [.dat (enc p), .dat (.list (f.map enc)), .un, .un, .un, .un, .un]
  have e := (for_fold (ws := [2, 3, 4, 5, 6]) (mi := mIt (mV 0)) (g := gTupM 2 (gConsM (gN 2) (gConsM (gN 3) gNilM))) (mb := lp_k64__law_within_3) (E0 := st [[]]) (s := ([[]] : List Pile)) p encL st lng64 (Iw p) (by simp! [st, itemsOf, enc]) (Iw.start h hl) (fun q r f hI => by
    obtain ⟨hq, hf, hln, hn⟩ := hI.next h
    have em := lw_mid h hs (enc p) hq hf hln
    refine ⟨⟨[.dat (enc p), .dat (.list (f.map enc)), .dat (.int q.1), .dat (.int q.2), .un, .un, .un], [.dat (enc p), .dat (.list ((lng64 f q).map enc)), .dat (.int q.1), .dat (.int q.2), .dat (.list ((lng64 f q).map enc)), .un, .un], by simp [st, gN, gTupM, gConsM, gNilM, encL], .inl ?_, by simp [st, wipeE]⟩, hn⟩
    have l0 : 0 ≤ LIM := Nat.zero_le _
    generalize enc p = P at *
    simp! [lp_k64__law_within_3, gN, l0, em])).1
  have e' : fr_k64__law_within_3 (st [[]]) = .ok .nx (st (win p)) := e
  have es := srt64 h
  have l0 : 0 ≤ LIM := Nat.zero_le _
  have l1 : 1 ≤ LIM := by decide
  simp only [st] at e'
  generalize (win p).map enc = Y at *
  have e0 : ([[]] : List Pile).map enc = [.tuple []] := rfl
  rw [e0] at e'
  generalize srtP (win p) = Z at *
  generalize enc p = P at *
  simp! [s_k64__law_within, m_k64__law_within, gN, l0, l1, e', es]
end Lw
namespace Lw
open PySem L2 Bt
end Lw
namespace Lw
open PySem L2 Bt
end Lw
namespace Lw
open PySem L2 Bt
theorem tk (n s : Int) (h : 0 < s) (h2 : s ≤ 10 ^ 12) : s__law_take [(.ow (.l [.int n])), .dat (.int s)] = .ok (.dat (.int (n % s))) [(.ow (.l [.int (n / s)])), .dat (.int s)] := take_ok n s h (okS (by omega) (by omega))
end Lw
namespace Lw
open PySem L2 Bt
theorem perm_sum {a b : List Int} (h : a.Perm b) : a.sum = b.sum := by
  induction h with
  | nil => rfl
  | cons x _ ih => rw [List.sum_cons, List.sum_cons, ih]
  | swap x y l => simp only [List.sum_cons]; omega
  | trans _ _ h1 h2 => rw [h1, h2]
theorem coins_S : ∀ {p : Pile}, (∀ q ∈ p, 1 ≤ q.2) → (coinsOf p).sum = S p
  | [], _ => rfl
  | q :: p, h => by
    have ih := coins_S (p := p) fun x hx => h x (List.mem_cons_of_mem _ hx)
    have h1 := h q List.mem_cons_self
    rw [show q :: p = [(q.1, q.2)] ++ p from rfl, coins_append, coins_one, List.sum_append, ih, List.sum_replicate_int]
    unfold S
    rw [List.map_append, List.sum_append]
    simp
    rw [Int.max_eq_left (by omega), Int.mul_comm]
theorem heap_S {ns : List Int} (h : ∀ n ∈ ns, (1 : Int) ≤ n) : S (heapOf ns) = ns.sum := by
  have hi := heap_HI ns
  rw [← coins_S hi.one, hi.coins, perm_sum (sortI_perm ns)]
end Lw
namespace Lw
open PySem L2 Bt
theorem cnt_nn64 {c : Pile} (h : ∀ q ∈ c, 0 ≤ q.2) (w : Int) : 0 ≤ cnt c w := by
  induction c with
  | nil => exact Int.le_refl _
  | cons q c ih =>
    rw [cnt_cons]
    split
    · exact h q List.mem_cons_self
    · exact ih fun x hx => h x (List.mem_cons_of_mem _ hx)
theorem cnt_le64 {c : Pile} {b : Int} (hb : 0 ≤ b) (h : ∀ q ∈ c, q.2 ≤ b) (w : Int) : cnt c w ≤ b := by
  induction c with
  | nil => exact hb
  | cons q c ih =>
    rw [cnt_cons]
    split
    · exact h q List.mem_cons_self
    · exact ih fun x hx => h x (List.mem_cons_of_mem _ hx)
theorem fold_left64 : ∀ (o : Pile), o.Pairwise (fun a b => a.1 ≠ b.1) → ∀ p : Pile, o.foldl tstep p = p.map fun q => (q.1, q.2 - cnt o q.1)
  | [], _, p => by simp [cnt]
  | x :: o, h, p => by
    obtain ⟨h1, h2⟩ := List.pairwise_cons.mp h
    have hx : cnt o x.1 = 0 := cnt_none (has_false fun y hy e => h1 y hy e.symm)
    rw [List.foldl_cons, fold_left64 o h2]
    unfold tstep
    rw [List.map_map]
    refine List.map_congr_left fun q _ => ?_
    rw [cnt_cons]
    by_cases c : q.1 = x.1
    · simp only [Function.comp_apply, c, if_true, hx, Int.sub_zero]
    · simp only [Function.comp_apply, if_neg c, if_neg (fun z => c (Eq.symm z) : ¬ x.1 = q.1)]
theorem takeP_eq64 {p o : Pile} (ho : o.Pairwise fun a b => a.1 < b.1) : takeP p o = (p.map fun q => (q.1, q.2 - cnt o q.1)).filter fun q => decide (0 < q.2) := by
  unfold takeP
  rw [fold_left64 o (up_ne ho)]
theorem left64 {p o : Pile} (hp : Gd p) (ho : Gd o) : s_k64__law_left [.dat (enc p), .dat (enc o)] = .ok (.dat (enc (takeP p o))) [.dat (enc p), .dat (enc o)] := by
  have hl := gd_lim hp
  have hb : ∀ w, -(10 ^ 13) ≤ cnt o w ∧ cnt o w ≤ 10 ^ 13 := fun w => ⟨by have := cnt_nn64 (c := o) (fun q hq => by have := ho.m1 q hq; omega) w; omega, cnt_le64 (by omega) (fun q hq => ho.m2 q hq) w⟩
  have l2 : 2 ≤ LIM := by decide
  obtain ⟨l, hle⟩ : ∃ l : Pile, l = p.map fun q => (q.1, q.2 - cnt o q.1) := ⟨_, rfl⟩
  have hll : l.length ≤ LIM := by rw [hle, List.length_map]; exact hl
  have e1 : lc_k64__law_left_1 [.dat (enc p), .dat (enc o), (.ow (.d (o.map kv))), .un, .un, .un, .un] = .ok (.list (l.map encL)) [.dat (enc p), .dat (enc o), (.ow (.d (o.map kv))), .un, .un, .un, .un] := by
    unfold lc_k64__law_left_1
    rw [hle, List.map_map]
    refine lc_map p encL (encL ∘ fun q => (q.1, q.2 - cnt o q.1)) (by simp! [enc, itemsOf]) (by simp) (fun q hq => ?_) hl
    have o1 := gd_ok1 hp hq
    have o2 := gd_ok2 hp hq
    have o3 : okI (q.2 - cnt o q.1) = true := by have := hb q.1; have := hp.m1 q hq; have := hp.m2 q hq; exact okS (by omega) (by omega)
    have ev : (valD (o.map kv) (.inl q.1)).getD (.int 0) = .int (cnt o q.1) := by
      rw [val_kv]
      cases eh : has o q.1 with
      | true => rfl
      | false => rw [cnt_none eh]; rfl
    simp! [elF, wipeE, encL, gTupM, gConsM, gNilM, gN, ev, o1, o2, o3, l2]
  have e2 : lc_k64__law_left_2 [.dat (enc p), .dat (enc o), (.ow (.d (o.map kv))), .dat (.list (l.map encL)), .un, .un, .un] = .ok (.list ((takeP p o).map encL)) [.dat (enc p), .dat (enc o), (.ow (.d (o.map kv))), .dat (.list (l.map encL)), .un, .un, .un] := by
    unfold lc_k64__law_left_2
    rw [takeP_eq64 ho.up, ← hle]
    refine lc_if l encL (fun q => decide (0 < q.2)) encL (by simp! [itemsOf]) (by simp) (fun q hq => ?_) hll
    by_cases c : 0 < q.2 <;> simp! [elF, wipeE, encL, gN, at1, c]
  have hd := dict_enc ho
  have hl2 : (takeP p o).length ≤ LIM := Nat.le_trans takeP_len hl
  rw [show enc (takeP p o) = .tuple ((takeP p o).map encL) from rfl]
  simp! [s_k64__law_left, m_k64__law_left, gN, hd, e1, e2, hl2]
theorem forGo_find64 {α : Type} {ws : List Nat} {g : MG} {mb : M Fl} {E : En} {en : α → D} (c : α → Bool) (r : α → Sl) (st : α → En) : ∀ (p : List α), (∀ q ∈ p, ∃ E1, g (en q) E = some E1 ∧ mb E1 = .ok (if c q = true then .rt (r q) else .nx) (st q) ∧ (c q = false → wipeE (st q) ws = E)) → forGo ws g mb (p.map en) E = match p.find? c with | some q => .ok (.rt (r q)) (st q) | none => .ok .nx E
  | [], _ => rfl
  | q :: p, h => by
    obtain ⟨E1, h1, h2, h3⟩ := h q List.mem_cons_self
    rw [List.map_cons]
    unfold forGo
    rw [h1]
    dsimp only
    rw [h2, List.find?_cons]
    cases e : c q with
    | true => simp
    | false =>
      simp only [Bool.false_eq_true, if_false]
      rw [h3 e]
      exact forGo_find64 c r st p fun x hx => h x (List.mem_cons_of_mem _ hx)
theorem for_find64 {α : Type} {ws : List Nat} {mi : M (List D)} {g : MG} {mb : M Fl} {E0 E : En} (p : List α) (en : α → D) (c : α → Bool) (r : α → Sl) (st : α → En) (hi : mi E0 = .ok (p.map en) E) (h : ∀ q ∈ p, ∃ E1, g (en q) E = some E1 ∧ mb E1 = .ok (if c q = true then .rt (r q) else .nx) (st q) ∧ (c q = false → wipeE (st q) ws = E)) :
    mFor ws mi g mb E0 = match p.find? c with | some q => .ok (.rt (r q)) (st q) | none => .ok .nx E := by
  unfold mFor bnd
  rw [hi]
  exact forGo_find64 c r st p h
noncomputable def srw (p : Pile) : List Pile := Classical.choose (srtP_piles (win p))
theorem srw_eq (p : Pile) : srtP (win p) = (srw p).map enc := (Classical.choose_spec (srtP_piles (win p))).1
theorem srw_perm (p : Pile) : (srw p).Perm (win p) := (Classical.choose_spec (srtP_piles (win p))).2
def ok64 (p : Pile) (r q : Rt) (o : Pile) : Bool := holdsB o q && holdsB (takeP p o) r
noncomputable def res64 (p : Pile) (r q : Rt) : D := match (srw p).find? (ok64 p r q) with
  | some o => .tuple [enc (takeP p o), enc o]
  | none => .none
theorem served64 {p : Pile} {r : Rt} (h : Gd p) (hr : GdR r) : s_is_served [.dat (enc p), .dat (encR r)] = .ok (.dat (.bool (holdsB p r))) [.dat (enc p), .dat (encR r)] := by
  have e1 := failing_ok h hr
  have hl : ((((fls p r).map enB).length : Nat) : Int) = (((fls p r).length : Nat) : Int) := by rw [List.length_map]
  have hb : decide (((fls p r).length : Int) = 0) = holdsB p r := by
    cases c : holdsB p r with
    | true => rw [fls_nil.mpr c]; rfl
    | false =>
      have : fls p r ≠ [] := fun z => by rw [fls_nil.mp z] at c; cases c
      have : 0 < (fls p r).length := List.length_pos_iff.mpr this
      exact decide_eq_false (by omega)
  generalize hR : (fls p r).map enB = R at *
  generalize enc p = P at *
  generalize encR r = Q at *
  rw [← hb]
  simp! [s_is_served, m_is_served, e1, eqD_int, hl]
theorem loop64 {p : Pile} (h : Gd p) (hs : S p ≤ 200) (hl : prod64 p ≤ 2000) {r q : Rt} (hr : GdR r) (hq : GdR q) (w : D) :
    (∃ E', fr_k64_can_part_2 [.dat (enc p), .dat (encR r), .dat (encR q), .dat w, .un, .un, .un, .un] = .ok (.rt (.dat (res64 p r q))) E' ∧ (∃ x y, E' = [.dat (enc p), .dat (encR r), .dat (encR q), .dat w, x, .un, .un, y])) ∨ (res64 p r q = .none ∧ fr_k64_can_part_2 [.dat (enc p), .dat (encR r), .dat (encR q), .dat w, .un, .un, .un, .un] = .ok .nx [.dat (enc p), .dat (encR r), .dat (encR q), .dat w, .un, .un, .un, .un]) := by
  have hw := within_prog h hs (Nat.le_trans hl (by decide))
  rw [srw_eq] at hw
  have wo := (win_ok h).1
  have key := for_find64 (ws := [4, 7]) (mi := mIt (mCall s_k64_within_by [] (mCons (mR 0) (Bt.ret [])))) (g := gN 4) (mb := lp_k64_can_part_2) (E0 := [.dat (enc p), .dat (encR r), .dat (encR q), .dat w, .un, .un, .un, .un]) (E := [.dat (enc p), .dat (encR r), .dat (encR q), .dat w, .un, .un, .un, .un]) (srw p) enc (ok64 p r q) (fun o => .dat (.tuple [enc (takeP p o), enc o])) (fun o => [.dat (enc p), .dat (encR r), .dat (encR q), .dat w, .dat (enc o), .un, .un, .dat (enc (takeP p o))])
    (by
      generalize (srw p).map enc = Y at *
      simp! [hw, itemsOf]) (fun o ho => by
      have po := wo o ((srw_perm p).mem_iff.mp ho)
      have go := (part_gd64 h hs po).1
      have gt := part_tg64 h po
      have e1 := take_by_ok h go (by have := gd_len64 (o := p) fun x hx => ⟨h.w1 x hx, h.m1 x hx⟩; omega) (part_sub64 po)
      have e2 := served64 go hq
      have e3 := served64 gt hr
      have l2 : 2 ≤ LIM := by decide
      refine ⟨_, rfl, ?_, fun _ => by simp [wipeE]⟩
      unfold ok64
      cases c1 : holdsB o q with
      | false => rw [c1] at e2; simp! [lp_k64_can_part_2, gN, e1, e2, e3]
      | true =>
        rw [c1] at e2
        cases c2 : holdsB (takeP p o) r with
        | false => rw [c2] at e3; simp! [lp_k64_can_part_2, gN, e1, e2, e3]
        | true => rw [c2] at e3; simp! [lp_k64_can_part_2, gN, e1, e2, e3, l2])
  have e : fr_k64_can_part_2 [.dat (enc p), .dat (encR r), .dat (encR q), .dat w, .un, .un, .un, .un] = _ := key
  rw [e]
  unfold res64
  cases (srw p).find? (ok64 p r q) with
  | none => exact .inr ⟨rfl, rfl⟩
  | some o => exact .inl ⟨_, rfl, _, _, rfl⟩
theorem pow_S : ∀ {p : Pile}, Gd p → prod64 p ≤ 2 ^ (S p).toNat
  | [], _ => by rw [prod64]; exact Nat.one_le_two_pow
  | q :: r, h => by
    have w1 := h.w1 q List.mem_cons_self
    have m1 := h.m1 q List.mem_cons_self
    have gr : Gd r := ⟨fun x hx => h.w1 x (List.mem_cons_of_mem _ hx), fun x hx => h.w2 x (List.mem_cons_of_mem _ hx), fun x hx => h.m1 x (List.mem_cons_of_mem _ hx), fun x hx => h.m2 x (List.mem_cons_of_mem _ hx), (List.pairwise_cons.mp h.up).2, by have := h.len; rw [List.length_cons] at this; omega⟩
    have ih := pow_S gr
    have s0 : 0 ≤ S r := S_nnP fun x hx => ⟨gr.w1 x hx, gr.m1 x hx⟩
    have hm : 1 * q.2 ≤ q.1 * q.2 := Int.mul_le_mul_of_nonneg_right w1 (by omega)
    rw [S_cons', prod64, show (q.1 * q.2 + S r).toNat = (q.1 * q.2).toNat + (S r).toNat by omega, Nat.pow_add]
    refine Nat.mul_le_mul ?_ ih
    have k : q.2.toNat < 2 ^ q.2.toNat := Nat.lt_two_pow_self
    have k2 : 2 ^ q.2.toNat ≤ 2 ^ (q.1 * q.2).toNat := Nat.pow_le_pow_right (by omega) (by omega)
    omega
theorem ways64 {p : Pile} (h : Gd p) (hs : S p ≤ 200) (x1 x2 : D) : fr_k64_can_part_1 [.dat (enc p), .dat x1, .dat x2, .dat (.int 1), .un, .un, .un, .un] = .ok .nx [.dat (enc p), .dat x1, .dat x2, .dat (.int (prod64 p : Nat)), .un, .un, .un, .un] := by
  let st : Nat → En := fun w => [.dat (enc p), .dat x1, .dat x2, .dat (.int (w : Nat)), .un, .un, .un, .un]
  have hb := pow_S h
  have hb2 : 2 ^ (S p).toNat ≤ 2 ^ 200 := Nat.pow_le_pow_right (by omega) (by omega)
  have e := (for_fold (ws := [5, 6]) (mi := mIt (mV 0)) (g := gTupM 2 (gConsM (gN 5) (gConsM (gN 6) gNilM))) (mb := lp_k64_can_part_1) (E0 := st 1) (s := 1) p encL st (fun w q => w * (q.2 + 1).toNat) (fun w r => w * prod64 r ≤ 2 ^ 200 ∧ ∀ q ∈ r, q ∈ p) (by simp! [st, itemsOf, enc]) ⟨by omega, fun q hq => hq⟩ (fun q r w hI => by
    obtain ⟨h1, h2⟩ := hI
    have hq := h2 q List.mem_cons_self
    have m1 := h.m1 q hq
    have m2 := h.m2 q hq
    rw [prod64, ← Nat.mul_assoc] at h1
    have hp1 : 1 ≤ prod64 r := prod64_pos fun x hx => h.m1 x (h2 x (List.mem_cons_of_mem _ hx))
    have hw1 : w * (q.2 + 1).toNat ≤ 2 ^ 200 := Nat.le_trans (Nat.le_mul_of_pos_right _ hp1) h1
    have hw0 : w ≤ 2 ^ 200 := Nat.le_trans (Nat.le_mul_of_pos_right _ (by omega)) hw1
    have hbig : (2 : Nat) ^ 200 ≤ 10 ^ 70 := by decide +kernel
    have hw2 : ((w : Nat) : Int) ≤ ((10 ^ 70 : Nat) : Int) := Int.ofNat_le.mpr (Nat.le_trans hw0 hbig)
    have o1 : okI (w : Int) = true := okI_of (Int.le_trans (by decide +kernel) (Int.natCast_nonneg w)) (Int.le_trans hw2 (by decide +kernel))
    have o2 : okI (q.2 + 1) = true := okS (by omega) (by omega)
    have em : (w : Int) * (q.2 + 1) = ((w * (q.2 + 1).toNat : Nat) : Int) := by
      rw [Int.natCast_mul, show (((q.2 + 1).toNat : Nat) : Int) = q.2 + 1 by omega]
    refine ⟨⟨[.dat (enc p), .dat x1, .dat x2, .dat (.int (w : Nat)), .un, .dat (.int q.1), .dat (.int q.2), .un], [.dat (enc p), .dat x1, .dat x2, .dat (.int ((w * (q.2 + 1).toNat : Nat) : Int)), .un, .dat (.int q.1), .dat (.int q.2), .un], by simp [st, gN, gTupM, gConsM, gNilM, encL], .inl ?_, by simp [st, wipeE]⟩, h1, fun x hx => h2 x (List.mem_cons_of_mem _ hx)⟩
    rw [← em]
    generalize enc p = P at *
    simp! [lp_k64_can_part_1, Bt.a_mAugM, gN, o1, o2])).1
  have ef : ∀ (r : Pile) (w : Nat), r.foldl (fun w q => w * (q.2 + 1).toNat) w = w * prod64 r := by
    intro r
    induction r with
    | nil => intro w; simp [prod64]
    | cons q r ih => intro w; rw [List.foldl_cons, ih, prod64, Nat.mul_assoc]
  rw [ef, Nat.one_mul] at e
  exact e
theorem small64 {p : Pile} (h : Gd p) (hs : S p ≤ 200) : s_look_at_small [.dat (enc p)] = .ok (.dat .none) [.dat (enc p)] := by simp! [s_look_at_small, m_look_at_small, sum_of_ok h, show ¬ 200 < S p by omega]
theorem small64x {p : Pile} (h : Gd p) (hs : 200 < S p) : s_look_at_small [.dat (enc p)] = .ex ⟨7, none⟩ [.dat (enc p)] := by simp! [s_look_at_small, m_look_at_small, sum_of_ok h, hs]
theorem part_ok {p : Pile} (h : Gd p) (hs : S p ≤ 200) (hl : prod64 p ≤ 2000) {r q : Rt} (hr : GdR r) (hq : GdR q) : s_k64_can_part [.dat (enc p), .dat (encR r), .dat (encR q)] = .ok (.dat (res64 p r q)) [.dat (enc p), .dat (encR r), .dat (encR q)] := by
  have e1 := look_pile h
  have e2 := hr.look
  have e3 := hq.look
  have e4 := small64 h hs
  have e5 := ways64 h hs (encR r) (encR q)
  have hn : ¬ ((2000 : Int) < ((prod64 p : Nat) : Int)) := by omega
  rcases loop64 h hs hl hr hq (.int (prod64 p : Nat)) with ⟨E', e6, x, y, rfl⟩ | ⟨e0, e6⟩
  · generalize enc p = P at *
    generalize res64 p r q = Z at *
    generalize encR r = R at *
    generalize encR q = Q at *
    simp! [s_k64_can_part, m_k64_can_part, gN, e1, e2, e3, e4, e5, e6, hn]
  · rw [e0]
    generalize enc p = P at *
    generalize encR r = R at *
    generalize encR q = Q at *
    simp! [s_k64_can_part, m_k64_can_part, gN, e1, e2, e3, e4, e5, e6, hn]
theorem part_big {p : Pile} (h : Gd p) (hb : 200 < S p ∨ 2000 < prod64 p) {r q : Rt} (hr : GdR r) (hq : GdR q) : s_k64_can_part [.dat (enc p), .dat (encR r), .dat (encR q)] = .ex ⟨7, none⟩ [.dat (enc p), .dat (encR r), .dat (encR q)] := by
  have e1 := look_pile h
  have e2 := hr.look
  have e3 := hq.look
  by_cases hs : S p ≤ 200
  · have e4 := small64 h hs
    have e5 := ways64 h hs (encR r) (encR q)
    have hn : (2000 : Int) < ((prod64 p : Nat) : Int) := by omega
    generalize enc p = P at *
    generalize encR r = R at *
    generalize encR q = Q at *
    simp! [s_k64_can_part, m_k64_can_part, gN, e1, e2, e3, e4, e5, hn]
  · have e4 := small64x h (by omega)
    generalize enc p = P at *
    generalize encR r = R at *
    generalize encR q = Q at *
    simp! [s_k64_can_part, m_k64_can_part, gN, e1, e2, e3, e4]
theorem due64 {p : Pile} (h : Gd p) (hs : S p ≤ 200) (hl : prod64 p ≤ 2000) {r q : Rt} (hr : GdR r) (hq : GdR q) : s_k64__law_due [.dat (enc p), .dat (encR r), .dat (encR q)] = .ok (.dat (res64 p r q)) [.dat (enc p), .dat (encR r), .dat (encR q)] := by
  have hw := within_law h hs (Nat.le_trans hl (by decide))
  rw [srw_eq] at hw
  have wo := (win_ok h).1
  have key := for_find64 (ws := [3, 4]) (mi := mIt (mCall s_k64__law_within [] (mCons (mR 0) (Bt.ret [])))) (g := gN 3) (mb := lp_k64__law_due_1) (E0 := [.dat (enc p), .dat (encR r), .dat (encR q), .un, .un]) (E := [.dat (enc p), .dat (encR r), .dat (encR q), .un, .un]) (srw p) enc (ok64 p r q) (fun o => .dat (.tuple [enc (takeP p o), enc o])) (fun o => [.dat (enc p), .dat (encR r), .dat (encR q), .dat (enc o), .dat (enc (takeP p o))])
    (by
      generalize (srw p).map enc = Y at *
      simp! [hw, itemsOf]) (fun o ho => by
      have po := wo o ((srw_perm p).mem_iff.mp ho)
      have go := (part_gd64 h hs po).1
      have gt := part_tg64 h po
      have e1 := left64 h go
      have e2 := holds_ok go hq
      have e3 := holds_ok gt hr
      have l2 : 2 ≤ LIM := by decide
      refine ⟨_, rfl, ?_, fun _ => by simp [wipeE]⟩
      unfold ok64
      cases c1 : holdsB o q with
      | false => rw [c1] at e2; simp! [lp_k64__law_due_1, gN, e1, e2, e3]
      | true =>
        rw [c1] at e2
        cases c2 : holdsB (takeP p o) r with
        | false => rw [c2] at e3; simp! [lp_k64__law_due_1, gN, e1, e2, e3]
        | true => rw [c2] at e3; simp! [lp_k64__law_due_1, gN, e1, e2, e3, l2])
  have e : fr_k64__law_due_1 [.dat (enc p), .dat (encR r), .dat (encR q), .un, .un] = _ := key
  unfold res64
  cases c : (srw p).find? (ok64 p r q) with
  | none =>
    rw [c] at e
    dsimp only at e
    generalize enc p = P at *
    generalize encR r = R at *
    generalize encR q = Q at *
    simp! [s_k64__law_due, m_k64__law_due, gN, e]
  | some o =>
    rw [c] at e
    dsimp only at e ⊢
    generalize enc (takeP p o) = TT at *
    generalize enc o = OO at *
    generalize enc p = P at *
    generalize encR r = R at *
    generalize encR q = Q at *
    simp! [s_k64__law_due, m_k64__law_due, gN, e]
theorem res_ne {p : Pile} {r q : Rt} : neD (res64 p r q) (res64 p r q) = some (.bool false) := by
  unfold res64
  cases (srw p).find? (ok64 p r q) with
  | none => exact neD_self (n := 1) ⟨rfl, by simp [PyData.depth]⟩
  | some o => exact neD_self (n := 5) (shp_tup fun d hd => by
      simp only [List.mem_cons, List.not_mem_nil, or_false] at hd
      rcases hd with rfl | rfl
      · exact ⟨(shp_enc _).lay, Nat.le_trans (shp_enc _).dep (by omega)⟩
      · exact ⟨(shp_enc _).lay, Nat.le_trans (shp_enc _).dep (by omega)⟩)
theorem res_none {p : Pile} {r q : Rt} (h : ∀ o ∈ win p, ok64 p r q o = false) : res64 p r q = .none := by
  unfold res64
  rw [List.find?_eq_none.mpr fun o ho => by rw [h o ((srw_perm p).mem_iff.mp ho)]; simp]
theorem res_one {p o : Pile} {r q : Rt} (ho : o ∈ win p) (h1 : ok64 p r q o = true) (h : ∀ x ∈ win p, ok64 p r q x = true → x = o) : res64 p r q = .tuple [enc (takeP p o), enc o] := by
  unfold res64
  cases e : (srw p).find? (ok64 p r q) with
  | none =>
    have := List.find?_eq_none.mp e o ((srw_perm p).mem_iff.mpr ho)
    rw [h1] at this
    exact absurd rfl this
  | some x =>
    have hx := h x ((srw_perm p).mem_iff.mp (List.mem_of_find?_eq_some e)) (List.find?_some e)
    rw [hx]
end Lw
namespace Lw
open PySem L2 Bt
def nA64 : List Str := [⟨#[97]⟩, ⟨#[98]⟩]
def nC64 : List Str := [⟨#[99]⟩, ⟨#[100]⟩]
theorem nA64_ok : NmOk nA64 := by
  intro x hx
  simp only [nA64, List.mem_cons, List.not_mem_nil, or_false] at hx
  rcases hx with rfl | rfl <;> refine ⟨by decide +kernel, by decide +kernel⟩
theorem nC64_ok : NmOk nC64 := by
  intro x hx
  simp only [nC64, List.mem_cons, List.not_mem_nil, or_false] at hx
  rcases hx with rfl | rfl <;> refine ⟨by decide +kernel, by decide +kernel⟩
theorem lst_ab : lstT [.str (Str.ofString "ab")] = some (nA64.map .str) := by
  have h : (Str.ofString "ab").cps.size ≤ LIM := by decide +kernel
  show (if (Str.ofString "ab").cps.size ≤ LIM then some (signsD (Str.ofString "ab")) else none) = _
  rw [if_pos h]
  rfl
theorem lst_cd : lstT [.str (Str.ofString "cd")] = some (nC64.map .str) := by
  have h : (Str.ofString "cd").cps.size ≤ LIM := by decide +kernel
  show (if (Str.ofString "cd").cps.size ≤ LIM then some (signsD (Str.ofString "cd")) else none) = _
  rw [if_pos h]
  rfl
theorem drawn64 {sp : List Str} (hsp : NmOk sp) (hl : sp.length ≤ 4) (hn : sp.Nodup) {z : Int} (hz : 1 ≤ z) (hz2 : z ≤ 20) (N : Int) : ∃ (r : Rt) (N' : Int) (sp' : List Str), s__law_right 30 [(.ow (.l [.int N])), .dat (.int 2), (.ow (.l (sp.map .str))), .dat (.int z)] = .ok (.dat (encR r)) [(.ow (.l [.int N'])), .dat (.int 2), (.ow (.l (sp'.map .str))), .dat (.int z)] ∧ GdR r ∧ dep r ≤ 5 := by
  obtain ⟨r, N', sp', e, g1, g2, g3⟩ := gen_ok z hz (by omega) 2 30 N sp (by omega) hsp (by omega)
  have hc := gn_cr r g1
  have hs : (namesR r).Sublist sp := by rw [← g3]; exact List.sublist_append_left _ _
  exact ⟨r, N', sp', e, CrR.gd (s := ⟨z, 2 * z, 2, 3⟩) hc (by dsimp only; omega) (by dsimp only; omega) (by omega) (hs.nodup hn) (by have := hs.length_le; omega), by omega⟩
theorem pk64 (n : Int) : ∃ s : Int, (s = 2 ∨ s = 4) ∧ atI [PyData.int 2, .int 4] (n % 2) = some (.int s) := by
  have h0 := Int.emod_nonneg n (show (2 : Int) ≠ 0 by omega)
  have h1 := Int.emod_lt_of_pos n (show (0 : Int) < 2 by omega)
  rcases (by omega : n % 2 = 0 ∨ n % 2 = 1) with e | e <;> rw [e]
  · exact ⟨2, .inl rfl, at0 _ _⟩
  · exact ⟨4, .inr rfl, at1 _ _ _⟩
theorem gd_cases (n : Int) : ∃ q : Rt, GdR q ∧ atI [PyData.tuple [.str wNone], .tuple [.str wAll, .tuple []], .tuple [.str wWithin, .int 3, .tuple [.str wNone]]] (n % 3) = some (encR q) := by
  have h0 := Int.emod_nonneg n (show (3 : Int) ≠ 0 by omega)
  have h1 := Int.emod_lt_of_pos n (show (0 : Int) < 3 by omega)
  rcases (by omega : n % 3 = 0 ∨ n % 3 = 1 ∨ n % 3 = 2) with e | e | e <;> rw [e]
  · refine ⟨.none, ⟨trivial, by simp [dep], by simp [callsR], by simp [namesR, callsR], by simp [BdR, callsR], by simp [callsR, totC]⟩, ?_⟩
    rw [encR]
    exact at0 _ _
  · refine ⟨.all [], ⟨by simp [wfR, wfRs], by simp [dep, deps], by simp [callsR, callsRs], by simp [namesR, callsR, callsRs], by simp [BdR, callsR, callsRs], by simp [callsR, callsRs, totC]⟩, ?_⟩
    rw [encR]
    exact at1 _ _ _
  · refine ⟨.within 3 .none, ⟨by simp [wfR], by simp [dep], by simp [callsR], by simp [namesR, callsR], by simp [BdR, callsR], by simp [callsR, totC]⟩, ?_⟩
    rw [encR, encR]
    exact at2' _ _ _ _
theorem gd_within {r : Rt} (h : GdR r) (hd : dep r ≤ 5) {n : Int} (hn : 1 ≤ n) : GdR (.within n r) := ⟨⟨hn, h.wf⟩, by rw [dep]; omega, by rw [callsR]; exact h.cl, by unfold namesR; rw [callsR]; exact h.nd, by unfold BdR; rw [callsR]; exact h.bd, by rw [callsR]; exact h.tt⟩
theorem prod_many : ∀ {p : Pile}, (∀ q ∈ p, 1 ≤ q.2) → prod64 p ≤ 2 ^ (coinsOf p).length
  | [], _ => by rw [prod64]; exact Nat.one_le_two_pow
  | q :: r, h => by
    have m1 := h q List.mem_cons_self
    have ih := prod_many (p := r) fun x hx => h x (List.mem_cons_of_mem _ hx)
    have e : (coinsOf (q :: r)).length = q.2.toNat + (coinsOf r).length := by
      unfold coinsOf
      rw [List.flatMap_cons, List.length_append, List.length_replicate]
    rw [prod64, e, Nat.pow_add]
    have k : q.2.toNat < 2 ^ q.2.toNat := Nat.lt_two_pow_self
    exact Nat.mul_le_mul (by omega) ih
theorem heap64 {ns : List Int} (h : ∀ n ∈ ns, 1 ≤ n ∧ n ≤ 5) (hl : ns.length ≤ 10) : Gd (heapOf ns) ∧ S (heapOf ns) ≤ 200 ∧ prod64 (heapOf ns) ≤ 2000 := by
  refine ⟨heap_gd (fun n hn => by have := h n hn; omega) (by omega), ?_, ?_⟩
  · rw [heap_S fun n hn => (h n hn).1]
    have : ∀ ns : List Int, (∀ n ∈ ns, 1 ≤ n ∧ n ≤ 5) → ns.sum ≤ 5 * ns.length := by
      intro ns
      induction ns with
      | nil => intro _; simp
      | cons a l ih =>
        intro h
        have := h a List.mem_cons_self
        have := ih fun x hx => h x (List.mem_cons_of_mem _ hx)
        rw [List.sum_cons, List.length_cons]
        omega
    have := this ns h
    omega
  · have hH := heap_HI ns
    have h1 := prod_many hH.one
    rw [hH.coins, (sortI_perm ns).length_eq] at h1
    have : 2 ^ ns.length ≤ 2 ^ 10 := Nat.pow_le_pow_right (by omega) hl
    omega
abbrev W64 (ns : List Int) (t : D) (o k a b c p w x y : Sl) : En := [.scr ns, .dat t, .un, .un, .un, .un, o, k, a, b, c, p, w, x, y]
theorem lc64 (ns : List Int) (t : D) (N : Int) (k a b c p w x : Sl) : ∃ (N' : Int) (cs : List Int), (∀ n ∈ cs, (1 : Int) ≤ n ∧ n ≤ 5) ∧ cs.length ≤ 5 ∧ lc_k64_law_1 (W64 ns t ((.ow (.l [.int N]))) k a b c p w x .un) = .ok (.list (cs.map .int)) (W64 ns t ((.ow (.l [.int N']))) k a b c p w x .un) := by
  let I : List D → En → List D → Prop := fun ds E acc => ∃ (M : Int) (cs : List Int) (y : Sl), E = W64 ns t ((.ow (.l [.int M]))) k a b c p w x y ∧ acc = cs.map .int ∧ (∀ n ∈ cs, (1 : Int) ≤ n ∧ n ≤ 5) ∧ cs.length + ds.length ≤ 5
  have t6 := take_ok N 6 (by omega) (okS (by omega) (by omega))
  have a0 := Int.emod_nonneg N (show (6 : Int) ≠ 0 by omega)
  have a1 := Int.emod_lt_of_pos N (show (0 : Int) < 6 by omega)
  have hi : mRng1 (mCons (mD (mCall s__law_take [] (mCons (mR 6) (mCons (mD (Bt.ret (.int 6))) (Bt.ret []))))) (Bt.ret [])) (W64 ns t ((.ow (.l [.int N]))) k a b c p w x .un) = .ok (rangeD 0 (N % 6)) (W64 ns t ((.ow (.l [.int (N / 6)]))) k a b c p w x .un) := by
    simp! [W64, t6, rg_ok (show -1000000 ≤ N % 6 by omega) (show N % 6 ≤ 1000000 by omega)]
  have hI0 : I (rangeD 0 (N % 6)) (W64 ns t ((.ow (.l [.int (N / 6)]))) k a b c p w x .un) [] := ⟨N / 6, [], .un, rfl, rfl, by simp, by rw [rangeD_length]; simp; omega⟩
  obtain ⟨E', acc', hI, el⟩ := lc_inv (vs := [14]) (g := gN 14) (mt := Bt.ret true) (me := mOp addD (mD (Bt.ret (.int 1))) (mD (mCall s__law_take [] (mCons (mR 6) (mCons (mD (Bt.ret (.int 5))) (Bt.ret [])))))) I hi hI0 (by rw [rangeD_length]; exact Nat.le_trans (by omega : _ ≤ 5) (by decide : 5 ≤ LIM)) (fun d ds E acc h => by
    obtain ⟨M, cs, y, rfl, rfl, g1, g2⟩ := h
    have tk := take_ok M 5 (by omega) (okS (by omega) (by omega))
    have a1 : 0 ≤ M % 5 := Int.emod_nonneg _ (by omega)
    have a2 : M % 5 < 5 := Int.emod_lt_of_pos _ (by omega)
    refine ⟨[.scr ns, .dat t, .un, .un, .un, .un, (.ow (.l [.int M])), k, a, b, c, p, w, x, .dat d], by simp [W64, gN, wipeE], .inl ⟨_, .int (1 + M % 5), [.scr ns, .dat t, .un, .un, .un, .un, (.ow (.l [.int (M / 5)])), k, a, b, c, p, w, x, .dat d], rfl, by simp! [tk], M / 5, cs ++ [1 + M % 5], .dat d, rfl, by simp, fun n hn => ?_, ?_⟩⟩
    · rcases List.mem_append.mp hn with hn | hn
      · exact g1 n hn
      · rw [List.mem_singleton.mp hn]; omega
    · rw [List.length_append, List.length_singleton]; rw [List.length_cons] at g2; omega)
  obtain ⟨M, cs, y, rfl, rfl, g1, g2⟩ := hI
  refine ⟨M, cs, g1, by simpa using g2, ?_⟩
  unfold lc_k64_law_1
  rw [el]
  simp [backE, W64]
theorem turn64 (ns : List Int) (t k : D) (N : Int) : ∃ (N' : Int) (a b c p w : Sl), lp_k64_law_1 (W64 ns t ((.ow (.l [.int N]))) (.dat k) .un .un .un .un .un .un .un) = .ok .nx (W64 ns t ((.ow (.l [.int N']))) (.dat k) a b c p w .un .un) := by
  have t2 := take_ok N 2 (by omega) (okS (by omega) (by omega))
  obtain ⟨z, hz, ez⟩ := pk64 N
  have z1 : 1 ≤ z ∧ z ≤ 20 := by rcases hz with rfl | rfl <;> omega
  obtain ⟨r, N1, sp1, e1, gr, dr⟩ := drawn64 nA64_ok (by decide) (by decide +kernel) z1.1 z1.2 (N / 2)
  have t3 := take_ok N1 2 (by omega) (okS (by omega) (by omega))
  obtain ⟨z', hz', ez'⟩ := pk64 N1
  have z2 : 1 ≤ z' ∧ z' ≤ 20 := by rcases hz' with rfl | rfl <;> omega
  obtain ⟨q, N2, sp2, e2, gq, dq⟩ := drawn64 nC64_ok (by decide) (by decide +kernel) z2.1 z2.2 (N1 / 2)
  have t5 := take_ok N2 5 (by omega) (okS (by omega) (by omega))
  have b0 := Int.emod_nonneg N2 (show (5 : Int) ≠ 0 by omega)
  have b1 := Int.emod_lt_of_pos N2 (show (0 : Int) < 5 by omega)
  obtain ⟨N3, cs, c1, c2, el⟩ := lc64 ns t (N2 / 5) (.dat k) (.dat (encR r)) (.dat (encR q)) .un .un .un .un
  have rep : repOk 1 (N2 % 5) = true := repOk_iff.mpr (by omega)
  have ef0 : (List.replicate (N2 % 5).toNat [PyData.int 1]).flatten = ((List.replicate (N2 % 5).toNat (1 : Int)).map PyData.int) := repl_flat _ _
  obtain ⟨cn, hcn⟩ : ∃ cn : List Int, cn = List.replicate (N2 % 5).toNat 1 ++ cs := ⟨_, rfl⟩
  have hcb : ∀ n ∈ cn, 1 ≤ n ∧ n ≤ 5 := fun n hn => by
    rw [hcn] at hn
    rcases List.mem_append.mp hn with hn | hn
    · rw [(List.mem_replicate.mp hn).2]; omega
    · exact c1 n hn
  have hcl : cn.length ≤ 10 := by rw [hcn, List.length_append, List.length_replicate]; omega
  have ecm : List.replicate (N2 % 5).toNat (PyData.int 1) ++ cs.map PyData.int = cn.map .int := by rw [hcn, List.map_append, List.map_replicate]
  have hle : (N2 % 5).toNat + cs.length ≤ LIM := Nat.le_trans (by omega : _ ≤ 10) (by decide)
  obtain ⟨gp, sp, pp⟩ := heap64 hcb hcl
  have eh := heap_ok (.dat (.list (cn.map .int))) cn (.inr rfl) (by omega)
  generalize heapOf cn = hp at *
  have t5b := take_ok N3 5 (by omega) (okS (by omega) (by omega))
  have l1 : 1 ≤ LIM := by decide
  have l2 : 2 ≤ LIM := by decide
  have l3 : 3 ≤ LIM := by decide
  have l0 : 0 ≤ LIM := Nat.zero_le _
  have t3b := take_ok (N3 / 5) 3 (by omega) (okS (by omega) (by omega))
  simp only [W64] at el ⊢
  by_cases c0 : N3 % 5 = 0
  · obtain ⟨q', gq', eq'⟩ := gd_cases (N3 / 5)
    have p1 := part_ok gp sp pp gr gq'
    have p2 := due64 gp sp pp gr gq'
    have p3 := res_ne (p := hp) (r := r) (q := q')
    have w1 : wNone = Str.ofString "none" := rfl
    have w2 : wAll = Str.ofString "all" := rfl
    have w3 : wWithin = Str.ofString "within" := rfl
    rw [w1, w2, w3] at eq'
    refine ⟨N3 / 5 / 3, .dat (encR r), .dat (encR q'), .dat (.list (cn.map .int)), .dat (enc hp), .dat (.int 0), ?_⟩
    generalize res64 hp r q' = Z at *
    generalize encR r = R at *
    generalize encR q = Q at *
    generalize encR q' = Q' at *
    generalize enc hp = P at *
    simp! [lp_k64_law_1, Bt.a_mNewA, Bt.a_mCallNO, Bt.a_mCallN, gN, t2, ez, l0, l1, l2, l3, lst_ab, lst_cd, e1, t3, ez', e2, t5, rep, ef0, el, ecm, hle, eh, t5b, c0, eqD_int, t3b, eq', p1, p2, p3]
  · by_cases c1' : N3 % 5 = 1
    · have gw := gd_within gr dr (n := 1000000000) (by omega)
      have p1 := part_ok gp sp pp gw gq
      have p2 := due64 gp sp pp gw gq
      have p3 := res_ne (p := hp) (r := .within 1000000000 r) (q := q)
      refine ⟨N3 / 5, .dat (encR (.within 1000000000 r)), .dat (encR q), .dat (.list (cn.map .int)), .dat (enc hp), .dat (.int 1), ?_⟩
      have ew : encR (.within 1000000000 r) = .tuple [.str (Str.ofString "within"), .int 1000000000, encR r] := by rw [encR]
      generalize res64 hp (.within 1000000000 r) q = Z at *
      rw [ew] at *
      generalize encR r = R at *
      generalize encR q = Q at *
      generalize enc hp = P at *
      simp! [lp_k64_law_1, Bt.a_mNewA, Bt.a_mCallNO, Bt.a_mCallN, gN, t2, ez, l0, l1, l2, l3, lst_ab, lst_cd, e1, t3, ez', e2, t5, rep, ef0, el, ecm, hle, eh, t5b, c0, c1', eqD_int, p1, p2, p3]
    · have p1 := part_ok gp sp pp gr gq
      have p2 := due64 gp sp pp gr gq
      have p3 := res_ne (p := hp) (r := r) (q := q)
      refine ⟨N3 / 5, .dat (encR r), .dat (encR q), .dat (.list (cn.map .int)), .dat (enc hp), .dat (.int (N3 % 5)), ?_⟩
      generalize res64 hp r q = Z at *
      generalize encR r = R at *
      generalize encR q = Q at *
      generalize enc hp = P at *
      simp! [lp_k64_law_1, Bt.a_mNewA, Bt.a_mCallNO, Bt.a_mCallN, gN, t2, ez, l0, l1, l2, l3, lst_ab, lst_cd, e1, t3, ez', e2, t5, rep, ef0, el, ecm, hle, eh, t5b, c0, c1', eqD_int, p1, p2, p3]
end Lw
namespace Lw
open PySem L2 Bt
theorem turns64 (ns : List Int) (t : D) (M : Int) : ∃ M', fr_k64_law_1 (W64 ns t ((.ow (.l [.int M]))) .un .un .un .un .un .un .un .un) = .ok .nx (W64 ns t ((.ow (.l [.int M']))) .un .un .un .un .un .un .un .un) := by
  obtain ⟨E', ⟨M', rfl⟩, hf⟩ := for_inv (ws := [7, 8, 9, 10, 11, 12]) (mi := mRng1 (mCons (mD (Bt.ret (.int 3))) (Bt.ret []))) (g := gN 7) (mb := lp_k64_law_1) (E0 := W64 ns t ((.ow (.l [.int M]))) .un .un .un .un .un .un .un .un) (fun ds E => ∃ M', E = W64 ns t ((.ow (.l [.int M']))) .un .un .un .un .un .un .un .un) (its := rangeD 0 3) (E := W64 ns t ((.ow (.l [.int M]))) .un .un .un .un .un .un .un .un) (by simp! [rg_ok]) ⟨M, rfl⟩ (fun d ds E hI => by
    obtain ⟨M, rfl⟩ := hI
    obtain ⟨M', a, b, c, p, w, e⟩ := turn64 ns t d M
    exact ⟨_, _, rfl, .inl e, M', rfl⟩)
  exact ⟨M', hf⟩
theorem gd_call {x : Str} (hx : nameS x = true ∧ PyData.strOk x = true) {m t : Int} (h1 : 1 ≤ m) (h2 : m ≤ 10 ^ 12) (h3 : 1 ≤ t) (h4 : t ≤ 100) : GdR (.call x m t) := by
  have c : callsR (.call x m t) = [(x, m, t)] := by rw [callsR]
  refine ⟨⟨hx.1, hx.2, h1, h3⟩, by simp [dep], by rw [c]; simp, by simp [namesR, c], fun q hq => ?_, by rw [c]; simp [totC]; omega⟩
  rw [c] at hq
  rw [List.mem_singleton.mp hq]
  have x12 : (10 : Int) ^ 12 ≤ 10 ^ 100 := by decide
  have x2 : (100 : Int) ≤ 10 ^ 100 := by decide
  dsimp only
  omega
def tA : Str := Str.ofString "a"
def tB : Str := Str.ofString "b"
theorem tA_ok : nameS tA = true ∧ PyData.strOk tA = true := ⟨by decide +kernel, by decide +kernel⟩
theorem tB_ok : nameS tB = true ∧ PyData.strOk tB = true := ⟨by decide +kernel, by decide +kernel⟩
theorem gd_no : GdR .none := ⟨trivial, by simp [dep], by simp [callsR], by simp [namesR, callsR], by simp [BdR, callsR], by simp [callsR, totC]⟩
theorem encN : encR .none = .tuple [.str (Str.ofString "none")] := by rw [encR]
theorem refused64 {p : Pile} (h : Gd p) {r : Rt} (hr : GdR r) : (200 < S p ∨ 2000 < prod64 p → s_k64__law_refused [.dat (enc p), .dat (encR r)] = .ok (.dat (.bool true)) [.dat (enc p), .dat (encR r)]) ∧ (S p ≤ 200 → prod64 p ≤ 2000 → s_k64__law_refused [.dat (enc p), .dat (encR r)] = .ok (.dat (.bool false)) [.dat (enc p), .dat (encR r)]) := by
  have l1 : 1 ≤ LIM := by decide
  have is7 : isSub 7 7 = true := by decide +kernel
  refine ⟨fun hb => ?_, fun h1 h2 => ?_⟩
  · have e := part_big h hb hr gd_no
    rw [encN] at e
    generalize enc p = P at *
    generalize encR r = R at *
    simp! [s_k64__law_refused, m_k64__law_refused, tb_k64__law_refused_1, gN, l1, e, is7]
  · have e := part_ok h h1 h2 hr gd_no
    rw [encN] at e
    generalize res64 p r .none = Z at *
    generalize enc p = P at *
    generalize encR r = R at *
    simp! [s_k64__law_refused, m_k64__law_refused, tb_k64__law_refused_1, gN, l1, e]
theorem great64 {p : Pile} (h : Gd p) (hb : 200 < S p ∨ 2000 < prod64 p) : s_k64__law_great [.dat (enc p)] = .ok (.dat (.bool true)) [.dat (enc p)] := by
  have e1 := (refused64 h gd_no).1 hb
  have e2 := (refused64 h (gd_call tA_ok (m := 1000000000) (t := 1) (by omega) (by omega) (by omega) (by omega))).1 hb
  rw [encN] at e1
  have ec : encR (.call tA 1000000000 1) = .tuple [.str (Str.ofString "call"), .str (Str.ofString "a"), .int 1000000000, .int 1] := by rw [encR]; rfl
  rw [ec] at e2
  have l1 : 1 ≤ LIM := by decide
  have l4 : 4 ≤ LIM := by decide
  generalize enc p = P at *
  simp! [s_k64__law_great, m_k64__law_great, gN, l1, l4, e1, e2]
def P12 : Pile := [(1, 2), (2, 1)]
theorem g12 : Gd P12 := by refine ⟨?_, ?_, ?_, ?_, ?_, by simp [P12]⟩ <;> simp [P12]
theorem gd64_nil : Gd [] := by refine ⟨?_, ?_, ?_, ?_, ?_, by simp⟩ <;> simp
def P11 : Pile := [(1, 1)]
theorem g11 : Gd P11 := by refine ⟨?_, ?_, ?_, ?_, ?_, by simp [P11]⟩ <;> simp [P11]
def Pw64 : Pile := [(1, 22), (2, 11), (3, 7), (4, 5), (5, 4), (6, 3), (7, 2), (8, 2), (9, 2), (10, 1), (11, 1)]
theorem gw64 : Gd Pw64 := by refine ⟨?_, ?_, ?_, ?_, ?_, by simp [Pw64]⟩ <;> simp [Pw64]
def Po64 : Pile := [(1, 1), (2, 1), (3, 1), (4, 1), (5, 1), (6, 1), (7, 1), (8, 1), (9, 1), (10, 1), (11, 1)]
theorem go64 : Gd Po64 := by refine ⟨?_, ?_, ?_, ?_, ?_, by simp [Po64]⟩ <;> simp [Po64]
theorem g201 : Gd [(1, 201)] := by refine ⟨?_, ?_, ?_, ?_, ?_, by simp⟩ <;> simp
theorem g200 : Gd [(1, 200)] := by refine ⟨?_, ?_, ?_, ?_, ?_, by simp⟩ <;> simp
def Pj64 : Pile := [(1, 4), (2, 4), (3, 4), (4, 1), (5, 1), (6, 1), (7, 1)]
theorem gj64 : Gd Pj64 := by refine ⟨?_, ?_, ?_, ?_, ?_, by simp [Pj64]⟩ <;> simp [Pj64]
theorem no_of {p : Pile} {r q : Rt} (h : ((win p).all fun o => !ok64 p r q o) = true) : res64 p r q = .none := res_none fun o ho => by
  have := List.all_eq_true.mp h o ho
  simpa using this
theorem one_of {p o : Pile} {r q : Rt} (h1 : ok64 p r q o = true) (hm : o ∈ win p) (h : ((win p).all fun x => !ok64 p r q x || decide (x = o)) = true) : res64 p r q = .tuple [enc (takeP p o), enc o] := res_one hm h1 fun x hx hk => by
  have := List.all_eq_true.mp h x hx
  rw [hk] at this
  simpa using this
theorem r1 : res64 P12 (.call tA 2 1) (.call tB 2 1) = .none := no_of (by decide +kernel)
theorem r2 : res64 [] (.call tA 2 1) (.call tA 2 1) = .none := no_of (by decide +kernel)
theorem r3 : res64 P12 (.call tA 201 1) (.call tA 2 1) = .none := no_of (by decide +kernel)
theorem r4 : res64 P11 (.call tA 1 1) .none = .tuple [enc (takeP P11 []), enc []] := one_of (by decide +kernel) (by decide +kernel) (by decide +kernel)
theorem r5 : res64 [] .none .none = .tuple [enc (takeP [] []), enc []] := one_of (by decide +kernel) (by decide +kernel) (by decide +kernel)
theorem h1 : holdsB P12 (.all [.call tA 2 1, .call tB 2 1]) = true := by decide +kernel
theorem gd_two : GdR (.all [.call tA 2 1, .call tB 2 1]) := by
  have c : callsR (.all [.call tA 2 1, .call tB 2 1]) = [(tA, 2, 1), (tB, 2, 1)] := by simp [callsR, callsRs]
  refine ⟨⟨by simp, ⟨tA_ok.1, tA_ok.2, by omega, by omega⟩, ⟨tB_ok.1, tB_ok.2, by omega, by omega⟩, trivial⟩, by simp [dep, deps], by rw [c]; simp, by unfold namesR; rw [c]; decide +kernel, fun q hq => ?_, by rw [c]; simp [totC]⟩
  rw [c] at hq
  have x12 : (2 : Int) ≤ 10 ^ 100 := by decide
  simp only [List.mem_cons, List.not_mem_nil, or_false] at hq
  rcases hq with rfl | rfl <;> dsimp only <;> omega
theorem law_true (ns : List Int) (h : ns.length ≤ 63) : ∃ E2, s_k64_law [.scr ns] = .ok (.dat (.bool true)) E2 := by
  have b1 : 0 ≤ max (min (ns.length : Int) 5) 1 := by omega
  obtain ⟨E', ⟨rfl, _⟩, hf⟩ := for_inv (ws := [1, 6, 7, 8, 9, 10, 11, 12]) (mi := mRng1 (mCons (mD (mB maxF (mCons (mD (mB minF (mCons (mD (mLenScr 0)) (mCons (mD (Bt.ret (.int 5))) (Bt.ret []))))) (mCons (mD (Bt.ret (.int 1))) (Bt.ret []))))) (Bt.ret []))) (g := gN 1) (mb := lp_k64_law_2) (E0 := [.scr ns, .un, .un, .un, .un, .un, .un, .un, .un, .un, .un, .un, .un, .un, .un]) (fun ds E => E = [.scr ns, .un, .un, .un, .un, .un, .un, .un, .un, .un, .un, .un, .un, .un, .un] ∧ ∀ d ∈ ds, ∃ i : Int, d = .int i ∧ 0 ≤ i ∧ i ≤ 100) (its := rangeD 0 (max (min (ns.length : Int) 5) 1)) (E := [.scr ns, .un, .un, .un, .un, .un, .un, .un, .un, .un, .un, .un, .un, .un, .un]) (by simp! [rg_ok (show -1000000 ≤ max (min (ns.length : Int) 5) 1 by omega) (show max (min (ns.length : Int) 5) 1 ≤ 1000000 by omega)]) ⟨rfl, fun d hd => by
    obtain ⟨i, rfl, h1, h2⟩ := rangeD_mem hd
    exact ⟨i, rfl, h1, by omega⟩⟩ (fun d ds E h => by
    obtain ⟨rfl, hd⟩ := h
    obtain ⟨i, rfl, i0, i1⟩ := hd d List.mem_cons_self
    obtain ⟨n, hn⟩ := cell_ok ns i i0 i1
    obtain ⟨M, e⟩ := turns64 ns (.int i) n
    have l1 : 1 ≤ LIM := by decide
    simp only [W64] at e
    exact ⟨_, [.scr ns, .dat (.int i), .un, .un, .un, .un, (.ow (.l [.int M])), .un, .un, .un, .un, .un, .un, .un, .un], rfl, .inl (by simp! [lp_k64_law_2, gN, hn, e, l1]), rfl, fun d h' => hd d (List.mem_cons_of_mem _ h')⟩)
  have e : fr_k64_law_2 _ = _ := hf
  have gA := gd_call tA_ok (m := 2) (t := 1) (by omega) (by omega) (by omega) (by omega)
  have gB := gd_call tB_ok (m := 2) (t := 1) (by omega) (by omega) (by omega) (by omega)
  have gA1 := gd_call tA_ok (m := 1) (t := 1) (by omega) (by omega) (by omega) (by omega)
  have gA2 := gd_call tA_ok (m := 201) (t := 1) (by omega) (by omega) (by omega) (by omega)
  have c1 := part_ok g12 (by decide +kernel) (by decide +kernel) gA gB
  have c2 := part_ok gd64_nil (by decide +kernel) (by decide +kernel) gA gA
  have c3 := part_ok g12 (by decide +kernel) (by decide +kernel) gA2 gA
  have c4 := part_ok g11 (by decide +kernel) (by decide +kernel) gA1 gd_no
  have c5 := part_ok gd64_nil (by decide +kernel) (by decide +kernel) gd_no gd_no
  have t4 : takeP P11 [] = P11 := by decide +kernel
  have t5 : takeP [] [] = [] := by decide +kernel
  rw [r1] at c1
  rw [r2] at c2
  rw [r3] at c3
  rw [r4, t4] at c4
  rw [r5, t5] at c5
  have hh := holds_ok g12 gd_two
  rw [h1] at hh
  have f1 := (refused64 g200 gd_no).2 (by decide +kernel) (by decide +kernel)
  have f2 := (refused64 gj64 gd_no).2 (by decide +kernel) (by decide +kernel)
  have k1 := great64 gw64 (.inr (by decide +kernel))
  have k2 := great64 go64 (.inr (by decide +kernel))
  have k3 := great64 g201 (.inl (by decide +kernel))
  have eA : encR (.call tA 2 1) = .tuple [.str (Str.ofString "call"), .str (Str.ofString "a"), .int 2, .int 1] := by rw [encR]; rfl
  have eB : encR (.call tB 2 1) = .tuple [.str (Str.ofString "call"), .str (Str.ofString "b"), .int 2, .int 1] := by rw [encR]; rfl
  have eA1 : encR (.call tA 1 1) = .tuple [.str (Str.ofString "call"), .str (Str.ofString "a"), .int 1, .int 1] := by rw [encR]; rfl
  have eA2 : encR (.call tA 201 1) = .tuple [.str (Str.ofString "call"), .str (Str.ofString "a"), .int 201, .int 1] := by rw [encR]; rfl
  have eT : encR (.all [.call tA 2 1, .call tB 2 1]) = .tuple [.str (Str.ofString "all"), .tuple [.tuple [.str (Str.ofString "call"), .str (Str.ofString "a"), .int 2, .int 1], .tuple [.str (Str.ofString "call"), .str (Str.ofString "b"), .int 2, .int 1]]] := by
    rw [encR, encRs_map, List.map_cons, List.map_cons, List.map_nil, eA, eB]
  have d12 : enc P12 = .tuple [.tuple [.int 1, .int 2], .tuple [.int 2, .int 1]] := rfl
  have d11 : enc P11 = .tuple [.tuple [.int 1, .int 1]] := rfl
  have d0 : enc [] = .tuple [] := rfl
  have dw : enc Pw64 = .tuple [.tuple [.int 1, .int 22], .tuple [.int 2, .int 11], .tuple [.int 3, .int 7], .tuple [.int 4, .int 5], .tuple [.int 5, .int 4], .tuple [.int 6, .int 3], .tuple [.int 7, .int 2], .tuple [.int 8, .int 2], .tuple [.int 9, .int 2], .tuple [.int 10, .int 1], .tuple [.int 11, .int 1]] := rfl
  have d201 : enc [(1, 201)] = .tuple [.tuple [.int 1, .int 201]] := rfl
  have d200 : enc [(1, 200)] = .tuple [.tuple [.int 1, .int 200]] := rfl
  have dj : enc Pj64 = .tuple [.tuple [.int 1, .int 4], .tuple [.int 2, .int 4], .tuple [.int 3, .int 4], .tuple [.int 4, .int 1], .tuple [.int 5, .int 1], .tuple [.int 6, .int 1], .tuple [.int 7, .int 1]] := rfl
  rw [d12, eA, eB] at c1
  rw [d0, eA] at c2
  rw [d12, eA2, eA] at c3
  rw [d11, eA1, encN, d0] at c4
  rw [d0, encN] at c5
  rw [d12, eT] at hh
  rw [d200, encN] at f1
  rw [dj, encN] at f2
  rw [dw] at k1
  have n4 : neD (.tuple [.tuple [.tuple [.int 1, .int 1]], .tuple []]) (.tuple [.tuple [.tuple [.int 1, .int 1]], .tuple []]) = some (.bool false) := neD_self (n := 5) ⟨rfl, by simp [PyData.depth, PyData.depthAll]⟩
  have n5 : neD (.tuple [.tuple [], .tuple []]) (.tuple [.tuple [], .tuple []]) = some (.bool false) := neD_self (n := 5) ⟨rfl, by simp [PyData.depth, PyData.depthAll]⟩
  have l0 : 0 ≤ LIM := by decide
  have l1 : 1 ≤ LIM := by decide
  have l2 : 2 ≤ LIM := by decide
  have l3 : 3 ≤ LIM := by decide
  have l4 : 4 ≤ LIM := by decide
  have l7 : 7 ≤ LIM := by decide
  have l11 : 11 ≤ LIM := by decide
  have e2 : ∀ (a b c d x : Sl), lc_k64_law_2 [.scr ns, .un, a, .un, .un, .un, .un, .un, .un, .un, .un, .un, .un, .un, .un] = .ok (.list (Po64.map encL)) [.scr ns, .un, a, .un, .un, .un, .un, .un, .un, .un, .un, .un, .un, .un, .un] := fun a b c d x => by
    unfold lc_k64_law_2
    have hp : Po64.map encL = ((List.range 11).map fun (i : Nat) => (1 + (i : Int))).map fun w => encL (w, 1) := by
      have : Po64 = ((List.range 11).map fun (i : Nat) => (1 + (i : Int))).map fun w => (w, (1 : Int)) := by decide +kernel
      rw [this, List.map_map]
      rfl
    rw [hp]
    refine lc_map _ PyData.int (fun w => encL (w, 1)) ?_ (by simp) (fun w _ => by simp! [elF, wipeE, gN, encL, l2]) (by simp; decide)
    have rg : rangeD 1 12 = ((List.range 11).map fun (i : Nat) => (1 + (i : Int))).map PyData.int := by
      unfold rangeD
      rw [List.map_map]
      rfl
    simp! [rg_ok (show -1000000 ≤ (1 : Int) by omega) (show (1 : Int) ≤ 1000000 by omega), rg_ok (show -1000000 ≤ (12 : Int) by omega) (show (12 : Int) ≤ 1000000 by omega), rg]
  have e2' := fun a => e2 a .un .un .un .un
  have e3 : ∀ (a b c d : Sl), lc_k64_law_3 [.scr ns, .un, a, .dat (.list [enc Po64, enc [(1, 201)]]), c, d, .un, .un, .un, .un, .un, .un, .un, .un, .un] = .ok (.list [.bool true, .bool true]) [.scr ns, .un, a, .dat (.list [enc Po64, enc [(1, 201)]]), c, d, .un, .un, .un, .un, .un, .un, .un, .un, .un] := fun a b c d => by
    unfold lc_k64_law_3
    refine lc_map [Po64, [(1, 201)]] enc (fun _ => .bool true) (by simp! [itemsOf]) (by simp) (fun w hw => ?_) (by simp; decide)
    simp only [List.mem_cons, List.not_mem_nil, or_false] at hw
    rcases hw with rfl | rfl
    · generalize enc Po64 = X at *
      simp! [elF, wipeE, gN, k2]
    · generalize enc [(1, 201)] = X at *
      simp! [elF, wipeE, gN, k3]
  have e3' := fun a c d => e3 a .un c d
  have ed : enc Po64 = .tuple (Po64.map encL) := rfl
  rw [ed, d201] at e3'
  have ea : allF [.list [.bool true, .bool true]] = some (.bool true) := rfl
  generalize hY : Po64.map encL = Y at *
  have hlen : Y.length ≤ LIM := by rw [← hY]; decide
  refine ⟨[.scr ns], ?_⟩
  simp! [s_k64_law, m_k64_law, gN, e, l0, l1, l2, l3, l4, l7, l11, c1, c2, c3, c4, c5, hh, f1, f2, k1, n4, n5, e2', e3', ea, hlen]
end Lw
namespace Lw
open PySem L2 Bt
def spL (K : PySem.W.Frag) : Sp := fun vs H Q _ => ∃ (a : Addr) (ns : List Int), vs = [.ref a] ∧ SqL K H a (ns.map V.int) ∧ ns.length ≤ 63 ∧ ∀ H', Q (.bl true) H'
theorem all_mk {l : PySem.W.OpenLaw} {w : World} {K : PySem.W.Frag} {h : Heap} {mg : Str → Option Value} {fa : Addr} (X : K.In h) (G : h.Ns mainGlobals mg) (hfa : mg "law" = some (.ref fa))
    {f0 : Addr} {od0 an0 : Option Addr} {sl0 : Array (Option Value)} {oc0 kV0 dc0 pm0 cd0 ct0 : Value} (a0 : PySem.W.nsIn K mainGlobals "is_from" = some (some (.ref f0))) (l0 : K.lookup f0 = some ⟨oc0, od0, .func (PySem.W.fnOf "is_from" "is_from" (defArgs t_is_from) (defBody t_is_from) (defScope t_is_from) .none kV0 dc0 pm0 an0 cd0 ct0), sl0⟩) (c0 : PySem.W.codeIn K cd0 "is_from" = true) (k0 : PySem.W.keepIn K (.ref f0) = true)
    {f1 : Addr} {od1 an1 : Option Addr} {sl1 : Array (Option Value)} {oc1 kV1 dc1 pm1 cd1 ct1 : Value} (a1 : PySem.W.nsIn K mainGlobals "is_lot" = some (some (.ref f1))) (l1 : K.lookup f1 = some ⟨oc1, od1, .func (PySem.W.fnOf "is_lot" "is_lot" (defArgs t_is_lot) (defBody t_is_lot) (defScope t_is_lot) .none kV1 dc1 pm1 an1 cd1 ct1), sl1⟩) (c1 : PySem.W.codeIn K cd1 "is_lot" = true) (k1 : PySem.W.keepIn K (.ref f1) = true)
    {f2 : Addr} {od2 an2 : Option Addr} {sl2 : Array (Option Value)} {oc2 kV2 dc2 pm2 cd2 ct2 : Value} (a2 : PySem.W.nsIn K mainGlobals "is_pile" = some (some (.ref f2))) (l2 : K.lookup f2 = some ⟨oc2, od2, .func (PySem.W.fnOf "is_pile" "is_pile" (defArgs t_is_pile) (defBody t_is_pile) (defScope t_is_pile) .none kV2 dc2 pm2 an2 cd2 ct2), sl2⟩) (c2 : PySem.W.codeIn K cd2 "is_pile" = true) (k2 : PySem.W.keepIn K (.ref f2) = true)
    {f3 : Addr} {od3 an3 : Option Addr} {sl3 : Array (Option Value)} {oc3 kV3 dc3 pm3 cd3 ct3 : Value} (a3 : PySem.W.nsIn K mainGlobals "look_at_pile" = some (some (.ref f3))) (l3 : K.lookup f3 = some ⟨oc3, od3, .func (PySem.W.fnOf "look_at_pile" "look_at_pile" (defArgs t_look_at_pile) (defBody t_look_at_pile) (defScope t_look_at_pile) .none kV3 dc3 pm3 an3 cd3 ct3), sl3⟩) (c3 : PySem.W.codeIn K cd3 "look_at_pile" = true) (k3 : PySem.W.keepIn K (.ref f3) = true)
    {f4 : Addr} {od4 an4 : Option Addr} {sl4 : Array (Option Value)} {oc4 kV4 dc4 pm4 cd4 ct4 : Value} (a4 : PySem.W.nsIn K mainGlobals "sum_of" = some (some (.ref f4))) (l4 : K.lookup f4 = some ⟨oc4, od4, .func (PySem.W.fnOf "sum_of" "sum_of" (defArgs t_sum_of) (defBody t_sum_of) (defScope t_sum_of) .none kV4 dc4 pm4 an4 cd4 ct4), sl4⟩) (c4 : PySem.W.codeIn K cd4 "sum_of" = true) (k4 : PySem.W.keepIn K (.ref f4) = true)
    {f5 : Addr} {od5 an5 : Option Addr} {sl5 : Array (Option Value)} {oc5 kV5 dc5 pm5 cd5 ct5 : Value} (a5 : PySem.W.nsIn K mainGlobals "less_of" = some (some (.ref f5))) (l5 : K.lookup f5 = some ⟨oc5, od5, .func (PySem.W.fnOf "less_of" "less_of" (defArgs t_less_of) (defBody t_less_of) (defScope t_less_of) .none kV5 dc5 pm5 an5 cd5 ct5), sl5⟩) (c5 : PySem.W.codeIn K cd5 "less_of" = true) (k5 : PySem.W.keepIn K (.ref f5) = true)
    {f6 : Addr} {od6 an6 : Option Addr} {sl6 : Array (Option Value)} {oc6 kV6 dc6 pm6 cd6 ct6 : Value} (a6 : PySem.W.nsIn K mainGlobals "look_at_small" = some (some (.ref f6))) (l6 : K.lookup f6 = some ⟨oc6, od6, .func (PySem.W.fnOf "look_at_small" "look_at_small" (defArgs t_look_at_small) (defBody t_look_at_small) (defScope t_look_at_small) .none kV6 dc6 pm6 an6 cd6 ct6), sl6⟩) (c6 : PySem.W.codeIn K cd6 "look_at_small" = true) (k6 : PySem.W.keepIn K (.ref f6) = true)
    {f7 : Addr} {od7 an7 : Option Addr} {sl7 : Array (Option Value)} {oc7 kV7 dc7 pm7 cd7 ct7 : Value} (a7 : PySem.W.nsIn K mainGlobals "from_counts" = some (some (.ref f7))) (l7 : K.lookup f7 = some ⟨oc7, od7, .func (PySem.W.fnOf "from_counts" "from_counts" (defArgs t_from_counts) (defBody t_from_counts) (defScope t_from_counts) .none kV7 dc7 pm7 an7 cd7 ct7), sl7⟩) (c7 : PySem.W.codeIn K cd7 "from_counts" = true) (k7 : PySem.W.keepIn K (.ref f7) = true)
    {f8 : Addr} {od8 an8 : Option Addr} {sl8 : Array (Option Value)} {oc8 kV8 dc8 pm8 cd8 ct8 : Value} (a8 : PySem.W.nsIn K mainGlobals "take_by" = some (some (.ref f8))) (l8 : K.lookup f8 = some ⟨oc8, od8, .func (PySem.W.fnOf "take_by" "take_by" (defArgs t_take_by) (defBody t_take_by) (defScope t_take_by) .none kV8 dc8 pm8 an8 cd8 ct8), sl8⟩) (c8 : PySem.W.codeIn K cd8 "take_by" = true) (k8 : PySem.W.keepIn K (.ref f8) = true)
    {f9 : Addr} {od9 an9 : Option Addr} {sl9 : Array (Option Value)} {oc9 kV9 dc9 pm9 cd9 ct9 : Value} (a9 : PySem.W.nsIn K mainGlobals "is_name" = some (some (.ref f9))) (l9 : K.lookup f9 = some ⟨oc9, od9, .func (PySem.W.fnOf "is_name" "is_name" (defArgs t_is_name) (defBody t_is_name) (defScope t_is_name) .none kV9 dc9 pm9 an9 cd9 ct9), sl9⟩) (c9 : PySem.W.codeIn K cd9 "is_name" = true) (k9 : PySem.W.keepIn K (.ref f9) = true)
    {f10 : Addr} {od10 an10 : Option Addr} {sl10 : Array (Option Value)} {oc10 kV10 dc10 pm10 cd10 ct10 : Value} (a10 : PySem.W.nsIn K mainGlobals "parts_in" = some (some (.ref f10))) (l10 : K.lookup f10 = some ⟨oc10, od10, .func (PySem.W.fnOf "parts_in" "parts_in" (defArgs t_parts_in) (defBody t_parts_in) (defScope t_parts_in) .none kV10 dc10 pm10 an10 cd10 ct10), sl10⟩) (c10 : PySem.W.codeIn K cd10 "parts_in" = true) (k10 : PySem.W.keepIn K (.ref f10) = true)
    {f11 : Addr} {od11 an11 : Option Addr} {sl11 : Array (Option Value)} {oc11 kV11 dc11 pm11 cd11 ct11 : Value} (a11 : PySem.W.nsIn K mainGlobals "is_form" = some (some (.ref f11))) (l11 : K.lookup f11 = some ⟨oc11, od11, .func (PySem.W.fnOf "is_form" "is_form" (defArgs t_is_form) (defBody t_is_form) (defScope t_is_form) .none kV11 dc11 pm11 an11 cd11 ct11), sl11⟩) (c11 : PySem.W.codeIn K cd11 "is_form" = true) (k11 : PySem.W.keepIn K (.ref f11) = true)
    {f12 : Addr} {od12 an12 : Option Addr} {sl12 : Array (Option Value)} {oc12 kV12 dc12 pm12 cd12 ct12 : Value} (a12 : PySem.W.nsIn K mainGlobals "calls_in" = some (some (.ref f12))) (l12 : K.lookup f12 = some ⟨oc12, od12, .func (PySem.W.fnOf "calls_in" "calls_in" (defArgs t_calls_in) (defBody t_calls_in) (defScope t_calls_in) .none kV12 dc12 pm12 an12 cd12 ct12), sl12⟩) (c12 : PySem.W.codeIn K cd12 "calls_in" = true) (k12 : PySem.W.keepIn K (.ref f12) = true)
    {f13 : Addr} {od13 an13 : Option Addr} {sl13 : Array (Option Value)} {oc13 kV13 dc13 pm13 cd13 ct13 : Value} (a13 : PySem.W.nsIn K mainGlobals "names_in" = some (some (.ref f13))) (l13 : K.lookup f13 = some ⟨oc13, od13, .func (PySem.W.fnOf "names_in" "names_in" (defArgs t_names_in) (defBody t_names_in) (defScope t_names_in) .none kV13 dc13 pm13 an13 cd13 ct13), sl13⟩) (c13 : PySem.W.codeIn K cd13 "names_in" = true) (k13 : PySem.W.keepIn K (.ref f13) = true)
    {f14 : Addr} {od14 an14 : Option Addr} {sl14 : Array (Option Value)} {oc14 kV14 dc14 pm14 cd14 ct14 : Value} (a14 : PySem.W.nsIn K mainGlobals "is_right" = some (some (.ref f14))) (l14 : K.lookup f14 = some ⟨oc14, od14, .func (PySem.W.fnOf "is_right" "is_right" (defArgs t_is_right) (defBody t_is_right) (defScope t_is_right) .none kV14 dc14 pm14 an14 cd14 ct14), sl14⟩) (c14 : PySem.W.codeIn K cd14 "is_right" = true) (k14 : PySem.W.keepIn K (.ref f14) = true)
    {f15 : Addr} {od15 an15 : Option Addr} {sl15 : Array (Option Value)} {oc15 kV15 dc15 pm15 cd15 ct15 : Value} (a15 : PySem.W.nsIn K mainGlobals "look_at_right" = some (some (.ref f15))) (l15 : K.lookup f15 = some ⟨oc15, od15, .func (PySem.W.fnOf "look_at_right" "look_at_right" (defArgs t_look_at_right) (defBody t_look_at_right) (defScope t_look_at_right) .none kV15 dc15 pm15 an15 cd15 ct15), sl15⟩) (c15 : PySem.W.codeIn K cd15 "look_at_right" = true) (k15 : PySem.W.keepIn K (.ref f15) = true)
    {f16 : Addr} {od16 an16 : Option Addr} {sl16 : Array (Option Value)} {oc16 kV16 dc16 pm16 cd16 ct16 : Value} (a16 : PySem.W.nsIn K mainGlobals "cut_at" = some (some (.ref f16))) (l16 : K.lookup f16 = some ⟨oc16, od16, .func (PySem.W.fnOf "cut_at" "cut_at" (defArgs t_cut_at) (defBody t_cut_at) (defScope t_cut_at) .none kV16 dc16 pm16 an16 cd16 ct16), sl16⟩) (c16 : PySem.W.codeIn K cd16 "cut_at" = true) (k16 : PySem.W.keepIn K (.ref f16) = true)
    {f17 : Addr} {od17 an17 : Option Addr} {sl17 : Array (Option Value)} {oc17 kV17 dc17 pm17 cd17 ct17 : Value} (a17 : PySem.W.nsIn K mainGlobals "longest_of" = some (some (.ref f17))) (l17 : K.lookup f17 = some ⟨oc17, od17, .func (PySem.W.fnOf "longest_of" "longest_of" (defArgs t_longest_of) (defBody t_longest_of) (defScope t_longest_of) .none kV17 dc17 pm17 an17 cd17 ct17), sl17⟩) (c17 : PySem.W.codeIn K cd17 "longest_of" = true) (k17 : PySem.W.keepIn K (.ref f17) = true)
    {f18 : Addr} {od18 an18 : Option Addr} {sl18 : Array (Option Value)} {oc18 kV18 dc18 pm18 cd18 ct18 : Value} (a18 : PySem.W.nsIn K mainGlobals "shared_out" = some (some (.ref f18))) (l18 : K.lookup f18 = some ⟨oc18, od18, .func (PySem.W.fnOf "shared_out" "shared_out" (defArgs t_shared_out) (defBody t_shared_out) (defScope t_shared_out) .none kV18 dc18 pm18 an18 cd18 ct18), sl18⟩) (c18 : PySem.W.codeIn K cd18 "shared_out" = true) (k18 : PySem.W.keepIn K (.ref f18) = true)
    {f19 : Addr} {od19 an19 : Option Addr} {sl19 : Array (Option Value)} {oc19 kV19 dc19 pm19 cd19 ct19 : Value} (a19 : PySem.W.nsIn K mainGlobals "row_of" = some (some (.ref f19))) (l19 : K.lookup f19 = some ⟨oc19, od19, .func (PySem.W.fnOf "row_of" "row_of" (defArgs t_row_of) (defBody t_row_of) (defScope t_row_of) .none kV19 dc19 pm19 an19 cd19 ct19), sl19⟩) (c19 : PySem.W.codeIn K cd19 "row_of" = true) (k19 : PySem.W.keepIn K (.ref f19) = true)
    {f20 T20 : Addr} {od20 an20 : Option Addr} {sl20 : Array (Option Value)} {oc20 kV20 dc20 pm20 cd20 ct20 : Value} (a20 : PySem.W.nsIn K mainGlobals "most_of" = some (some (.ref f20))) (l20 : K.lookup f20 = some ⟨oc20, od20, .func (PySem.W.fnOf "most_of" "most_of" (defArgs t_most_of) (defBody t_most_of) (defScope t_most_of) (.ref T20) kV20 dc20 pm20 an20 cd20 ct20), sl20⟩) (c20 : PySem.W.codeIn K cd20 "most_of" = true) (k20 : PySem.W.keepIn K (.ref f20) = true) {oT20 : Obj} {nT20 : Nat} (t20 : K.lookup T20 = some oT20) (u20 : oT20.data = .seq ([Value.none] : List Value).toArray nT20)
    {f21 : Addr} {od21 an21 : Option Addr} {sl21 : Array (Option Value)} {oc21 kV21 dc21 pm21 cd21 ct21 : Value} (a21 : PySem.W.nsIn K mainGlobals "bounds_of" = some (some (.ref f21))) (l21 : K.lookup f21 = some ⟨oc21, od21, .func (PySem.W.fnOf "bounds_of" "bounds_of" (defArgs t_bounds_of) (defBody t_bounds_of) (defScope t_bounds_of) .none kV21 dc21 pm21 an21 cd21 ct21), sl21⟩) (c21 : PySem.W.codeIn K cd21 "bounds_of" = true) (k21 : PySem.W.keepIn K (.ref f21) = true)
    {f22 : Addr} {od22 an22 : Option Addr} {sl22 : Array (Option Value)} {oc22 kV22 dc22 pm22 cd22 ct22 : Value} (a22 : PySem.W.nsIn K mainGlobals "failing" = some (some (.ref f22))) (l22 : K.lookup f22 = some ⟨oc22, od22, .func (PySem.W.fnOf "failing" "failing" (defArgs t_failing) (defBody t_failing) (defScope t_failing) .none kV22 dc22 pm22 an22 cd22 ct22), sl22⟩) (c22 : PySem.W.codeIn K cd22 "failing" = true) (k22 : PySem.W.keepIn K (.ref f22) = true)
    {f23 : Addr} {od23 an23 : Option Addr} {sl23 : Array (Option Value)} {oc23 kV23 dc23 pm23 cd23 ct23 : Value} (a23 : PySem.W.nsIn K mainGlobals "is_served" = some (some (.ref f23))) (l23 : K.lookup f23 = some ⟨oc23, od23, .func (PySem.W.fnOf "is_served" "is_served" (defArgs t_is_served) (defBody t_is_served) (defScope t_is_served) .none kV23 dc23 pm23 an23 cd23 ct23), sl23⟩) (c23 : PySem.W.codeIn K cd23 "is_served" = true) (k23 : PySem.W.keepIn K (.ref f23) = true)
    {f24 : Addr} {od24 an24 : Option Addr} {sl24 : Array (Option Value)} {oc24 kV24 dc24 pm24 cd24 ct24 : Value} (a24 : PySem.W.nsIn K mainGlobals "within_by" = some (some (.ref f24))) (l24 : K.lookup f24 = some ⟨oc24, od24, .func (PySem.W.fnOf "within_by" "within_by" (defArgs t_within_by) (defBody t_within_by) (defScope t_within_by) .none kV24 dc24 pm24 an24 cd24 ct24), sl24⟩) (c24 : PySem.W.codeIn K cd24 "within_by" = true) (k24 : PySem.W.keepIn K (.ref f24) = true)
    {f25 : Addr} {od25 an25 : Option Addr} {sl25 : Array (Option Value)} {oc25 kV25 dc25 pm25 cd25 ct25 : Value} (a25 : PySem.W.nsIn K mainGlobals "can_part" = some (some (.ref f25))) (l25 : K.lookup f25 = some ⟨oc25, od25, .func (PySem.W.fnOf "can_part" "can_part" (defArgs t_can_part) (defBody t_can_part) (defScope t_can_part) .none kV25 dc25 pm25 an25 cd25 ct25), sl25⟩) (c25 : PySem.W.codeIn K cd25 "can_part" = true) (k25 : PySem.W.keepIn K (.ref f25) = true)
    {f26 : Addr} {od26 an26 : Option Addr} {sl26 : Array (Option Value)} {oc26 kV26 dc26 pm26 cd26 ct26 : Value} (a26 : PySem.W.nsIn K mainGlobals "_law_mixed" = some (some (.ref f26))) (l26 : K.lookup f26 = some ⟨oc26, od26, .func (PySem.W.fnOf "_law_mixed" "_law_mixed" (defArgs t__law_mixed) (defBody t__law_mixed) (defScope t__law_mixed) .none kV26 dc26 pm26 an26 cd26 ct26), sl26⟩) (c26 : PySem.W.codeIn K cd26 "_law_mixed" = true) (k26 : PySem.W.keepIn K (.ref f26) = true)
    {f27 : Addr} {od27 an27 : Option Addr} {sl27 : Array (Option Value)} {oc27 kV27 dc27 pm27 cd27 ct27 : Value} (a27 : PySem.W.nsIn K mainGlobals "_law_cell" = some (some (.ref f27))) (l27 : K.lookup f27 = some ⟨oc27, od27, .func (PySem.W.fnOf "_law_cell" "_law_cell" (defArgs t__law_cell) (defBody t__law_cell) (defScope t__law_cell) .none kV27 dc27 pm27 an27 cd27 ct27), sl27⟩) (c27 : PySem.W.codeIn K cd27 "_law_cell" = true) (k27 : PySem.W.keepIn K (.ref f27) = true)
    {f28 : Addr} {od28 an28 : Option Addr} {sl28 : Array (Option Value)} {oc28 kV28 dc28 pm28 cd28 ct28 : Value} (a28 : PySem.W.nsIn K mainGlobals "_law_take" = some (some (.ref f28))) (l28 : K.lookup f28 = some ⟨oc28, od28, .func (PySem.W.fnOf "_law_take" "_law_take" (defArgs t__law_take) (defBody t__law_take) (defScope t__law_take) .none kV28 dc28 pm28 an28 cd28 ct28), sl28⟩) (c28 : PySem.W.codeIn K cd28 "_law_take" = true) (k28 : PySem.W.keepIn K (.ref f28) = true)
    {f29 : Addr} {od29 an29 : Option Addr} {sl29 : Array (Option Value)} {oc29 kV29 dc29 pm29 cd29 ct29 : Value} (a29 : PySem.W.nsIn K mainGlobals "_law_sum" = some (some (.ref f29))) (l29 : K.lookup f29 = some ⟨oc29, od29, .func (PySem.W.fnOf "_law_sum" "_law_sum" (defArgs t__law_sum) (defBody t__law_sum) (defScope t__law_sum) .none kV29 dc29 pm29 an29 cd29 ct29), sl29⟩) (c29 : PySem.W.codeIn K cd29 "_law_sum" = true) (k29 : PySem.W.keepIn K (.ref f29) = true)
    {f30 : Addr} {od30 an30 : Option Addr} {sl30 : Array (Option Value)} {oc30 kV30 dc30 pm30 cd30 ct30 : Value} (a30 : PySem.W.nsIn K mainGlobals "_law_under" = some (some (.ref f30))) (l30 : K.lookup f30 = some ⟨oc30, od30, .func (PySem.W.fnOf "_law_under" "_law_under" (defArgs t__law_under) (defBody t__law_under) (defScope t__law_under) .none kV30 dc30 pm30 an30 cd30 ct30), sl30⟩) (c30 : PySem.W.codeIn K cd30 "_law_under" = true) (k30 : PySem.W.keepIn K (.ref f30) = true)
    {f31 : Addr} {od31 an31 : Option Addr} {sl31 : Array (Option Value)} {oc31 kV31 dc31 pm31 cd31 ct31 : Value} (a31 : PySem.W.nsIn K mainGlobals "_law_heap" = some (some (.ref f31))) (l31 : K.lookup f31 = some ⟨oc31, od31, .func (PySem.W.fnOf "_law_heap" "_law_heap" (defArgs t__law_heap) (defBody t__law_heap) (defScope t__law_heap) .none kV31 dc31 pm31 an31 cd31 ct31), sl31⟩) (c31 : PySem.W.codeIn K cd31 "_law_heap" = true) (k31 : PySem.W.keepIn K (.ref f31) = true)
    {f32 : Addr} {od32 an32 : Option Addr} {sl32 : Array (Option Value)} {oc32 kV32 dc32 pm32 cd32 ct32 : Value} (a32 : PySem.W.nsIn K mainGlobals "_law_length" = some (some (.ref f32))) (l32 : K.lookup f32 = some ⟨oc32, od32, .func (PySem.W.fnOf "_law_length" "_law_length" (defArgs t__law_length) (defBody t__law_length) (defScope t__law_length) .none kV32 dc32 pm32 an32 cd32 ct32), sl32⟩) (c32 : PySem.W.codeIn K cd32 "_law_length" = true) (k32 : PySem.W.keepIn K (.ref f32) = true)
    {f33 : Addr} {od33 an33 : Option Addr} {sl33 : Array (Option Value)} {oc33 kV33 dc33 pm33 cd33 ct33 : Value} (a33 : PySem.W.nsIn K mainGlobals "_law_row" = some (some (.ref f33))) (l33 : K.lookup f33 = some ⟨oc33, od33, .func (PySem.W.fnOf "_law_row" "_law_row" (defArgs t__law_row) (defBody t__law_row) (defScope t__law_row) .none kV33 dc33 pm33 an33 cd33 ct33), sl33⟩) (c33 : PySem.W.codeIn K cd33 "_law_row" = true) (k33 : PySem.W.keepIn K (.ref f33) = true)
    {f34 : Addr} {od34 an34 : Option Addr} {sl34 : Array (Option Value)} {oc34 kV34 dc34 pm34 cd34 ct34 : Value} (a34 : PySem.W.nsIn K mainGlobals "_law_top" = some (some (.ref f34))) (l34 : K.lookup f34 = some ⟨oc34, od34, .func (PySem.W.fnOf "_law_top" "_law_top" (defArgs t__law_top) (defBody t__law_top) (defScope t__law_top) .none kV34 dc34 pm34 an34 cd34 ct34), sl34⟩) (c34 : PySem.W.codeIn K cd34 "_law_top" = true) (k34 : PySem.W.keepIn K (.ref f34) = true)
    {f35 : Addr} {od35 an35 : Option Addr} {sl35 : Array (Option Value)} {oc35 kV35 dc35 pm35 cd35 ct35 : Value} (a35 : PySem.W.nsIn K mainGlobals "_law_holds" = some (some (.ref f35))) (l35 : K.lookup f35 = some ⟨oc35, od35, .func (PySem.W.fnOf "_law_holds" "_law_holds" (defArgs t__law_holds) (defBody t__law_holds) (defScope t__law_holds) .none kV35 dc35 pm35 an35 cd35 ct35), sl35⟩) (c35 : PySem.W.codeIn K cd35 "_law_holds" = true) (k35 : PySem.W.keepIn K (.ref f35) = true)
    {f36 : Addr} {od36 an36 : Option Addr} {sl36 : Array (Option Value)} {oc36 kV36 dc36 pm36 cd36 ct36 : Value} (a36 : PySem.W.nsIn K mainGlobals "_law_right" = some (some (.ref f36))) (l36 : K.lookup f36 = some ⟨oc36, od36, .func (PySem.W.fnOf "_law_right" "_law_right" (defArgs t__law_right) (defBody t__law_right) (defScope t__law_right) .none kV36 dc36 pm36 an36 cd36 ct36), sl36⟩) (c36 : PySem.W.codeIn K cd36 "_law_right" = true) (k36 : PySem.W.keepIn K (.ref f36) = true)
    {f37 : Addr} {od37 an37 : Option Addr} {sl37 : Array (Option Value)} {oc37 kV37 dc37 pm37 cd37 ct37 : Value} (a37 : PySem.W.nsIn K mainGlobals "_law_left" = some (some (.ref f37))) (l37 : K.lookup f37 = some ⟨oc37, od37, .func (PySem.W.fnOf "_law_left" "_law_left" (defArgs t__law_left) (defBody t__law_left) (defScope t__law_left) .none kV37 dc37 pm37 an37 cd37 ct37), sl37⟩) (c37 : PySem.W.codeIn K cd37 "_law_left" = true) (k37 : PySem.W.keepIn K (.ref f37) = true)
    {f38 : Addr} {od38 an38 : Option Addr} {sl38 : Array (Option Value)} {oc38 kV38 dc38 pm38 cd38 ct38 : Value} (a38 : PySem.W.nsIn K mainGlobals "_law_within" = some (some (.ref f38))) (l38 : K.lookup f38 = some ⟨oc38, od38, .func (PySem.W.fnOf "_law_within" "_law_within" (defArgs t__law_within) (defBody t__law_within) (defScope t__law_within) .none kV38 dc38 pm38 an38 cd38 ct38), sl38⟩) (c38 : PySem.W.codeIn K cd38 "_law_within" = true) (k38 : PySem.W.keepIn K (.ref f38) = true)
    {f39 : Addr} {od39 an39 : Option Addr} {sl39 : Array (Option Value)} {oc39 kV39 dc39 pm39 cd39 ct39 : Value} (a39 : PySem.W.nsIn K mainGlobals "_law_due" = some (some (.ref f39))) (l39 : K.lookup f39 = some ⟨oc39, od39, .func (PySem.W.fnOf "_law_due" "_law_due" (defArgs t__law_due) (defBody t__law_due) (defScope t__law_due) .none kV39 dc39 pm39 an39 cd39 ct39), sl39⟩) (c39 : PySem.W.codeIn K cd39 "_law_due" = true) (k39 : PySem.W.keepIn K (.ref f39) = true)
    {f40 : Addr} {od40 an40 : Option Addr} {sl40 : Array (Option Value)} {oc40 kV40 dc40 pm40 cd40 ct40 : Value} (a40 : PySem.W.nsIn K mainGlobals "_law_refused" = some (some (.ref f40))) (l40 : K.lookup f40 = some ⟨oc40, od40, .func (PySem.W.fnOf "_law_refused" "_law_refused" (defArgs t__law_refused) (defBody t__law_refused) (defScope t__law_refused) .none kV40 dc40 pm40 an40 cd40 ct40), sl40⟩) (c40 : PySem.W.codeIn K cd40 "_law_refused" = true) (k40 : PySem.W.keepIn K (.ref f40) = true)
    {f41 : Addr} {od41 an41 : Option Addr} {sl41 : Array (Option Value)} {oc41 kV41 dc41 pm41 cd41 ct41 : Value} (a41 : PySem.W.nsIn K mainGlobals "_law_great" = some (some (.ref f41))) (l41 : K.lookup f41 = some ⟨oc41, od41, .func (PySem.W.fnOf "_law_great" "_law_great" (defArgs t__law_great) (defBody t__law_great) (defScope t__law_great) .none kV41 dc41 pm41 an41 cd41 ct41), sl41⟩) (c41 : PySem.W.codeIn K cd41 "_law_great" = true) (k41 : PySem.W.keepIn K (.ref f41) = true)
    {f42 : Addr} {od42 an42 : Option Addr} {sl42 : Array (Option Value)} {oc42 kV42 dc42 pm42 cd42 ct42 : Value} (a42 : PySem.W.nsIn K mainGlobals "law" = some (some (.ref f42))) (l42 : K.lookup f42 = some ⟨oc42, od42, .func (PySem.W.fnOf "law" "law" (defArgs t_law) (defBody t_law) (defScope t_law) .none kV42 dc42 pm42 an42 cd42 ct42), sl42⟩) (c42 : PySem.W.codeIn K cd42 "law" = true) (k42 : PySem.W.keepIn K (.ref f42) = true)
    (z_all : PySem.W.nsIn K mainGlobals "all" = some none)
    (z_bool : PySem.W.nsIn K mainGlobals "bool" = some none)
    (z_dict : PySem.W.nsIn K mainGlobals "dict" = some none)
    (z_int : PySem.W.nsIn K mainGlobals "int" = some none)
    (z_isinstance : PySem.W.nsIn K mainGlobals "isinstance" = some none)
    (z_len : PySem.W.nsIn K mainGlobals "len" = some none)
    (z_list : PySem.W.nsIn K mainGlobals "list" = some none)
    (z_max : PySem.W.nsIn K mainGlobals "max" = some none)
    (z_min : PySem.W.nsIn K mainGlobals "min" = some none)
    (z_range : PySem.W.nsIn K mainGlobals "range" = some none)
    (z_sorted : PySem.W.nsIn K mainGlobals "sorted" = some none)
    (z_str : PySem.W.nsIn K mainGlobals "str" = some none)
    (z_sum : PySem.W.nsIn K mainGlobals "sum" = some none)
    (z_tuple : PySem.W.nsIn K mainGlobals "tuple" = some none)
    (z_zip : PySem.W.nsIn K mainGlobals "zip" = some none)
    {t_DEEPEST} (g_DEEPEST : PySem.W.nsIn K mainGlobals "DEEPEST" = some (some (.int 6 t_DEEPEST)))
    {n_FRAMES : Addr} {o_FRAMES : Obj} {m_FRAMES : Nat} {t_FRAMES_0} {t_FRAMES_1} (g_FRAMES : PySem.W.nsIn K mainGlobals "FRAMES" = some (some (.ref n_FRAMES))) (h_FRAMES : K.lookup n_FRAMES = some o_FRAMES) (u_FRAMES_1 : o_FRAMES.cls = .type "tuple") (u_FRAMES_2 : o_FRAMES.dict = none) (u_FRAMES_3 : o_FRAMES.data = .seq ([Value.str (Str.ofString "within") t_FRAMES_0, Value.str (Str.ofString "calls") t_FRAMES_1] : List Value).toArray m_FRAMES)
    {t_LETTERS} (g_LETTERS : PySem.W.nsIn K mainGlobals "LETTERS" = some (some (.str (Str.ofString "abcdefghijklmnopqrstuvwxyz") t_LETTERS)))
    {t_LONGEST_NAME} (g_LONGEST_NAME : PySem.W.nsIn K mainGlobals "LONGEST_NAME" = some (some (.int 8 t_LONGEST_NAME)))
    {t_MOST_WITHIN} (g_MOST_WITHIN : PySem.W.nsIn K mainGlobals "MOST_WITHIN" = some (some (.int 2000 t_MOST_WITHIN)))
    {n_SETS : Addr} {o_SETS : Obj} {m_SETS : Nat} {t_SETS_0} {t_SETS_1} (g_SETS : PySem.W.nsIn K mainGlobals "SETS" = some (some (.ref n_SETS))) (h_SETS : K.lookup n_SETS = some o_SETS) (u_SETS_1 : o_SETS.cls = .type "tuple") (u_SETS_2 : o_SETS.dict = none) (u_SETS_3 : o_SETS.data = .seq ([Value.str (Str.ofString "all") t_SETS_0, Value.str (Str.ofString "one") t_SETS_1] : List Value).toArray m_SETS)
    {t_SMALL} (g_SMALL : PySem.W.nsIn K mainGlobals "SMALL" = some (some (.int 200 t_SMALL)))
    {X_NoCoins : Addr} (ux_NoCoins : PySem.W.nsIn K mainGlobals "NoCoins" = some (some (.ref X_NoCoins)))
    {X_NoPile : Addr} (ux_NoPile : PySem.W.nsIn K mainGlobals "NoPile" = some (some (.ref X_NoPile)))
    {X_NoRight : Addr} (ux_NoRight : PySem.W.nsIn K mainGlobals "NoRight" = some (some (.ref X_NoRight)))
    {X_TillError : Addr} (ux_TillError : PySem.W.nsIn K mainGlobals "TillError" = some (some (.ref X_TillError)))
    {X_TooGreat : Addr} (ux_TooGreat : PySem.W.nsIn K mainGlobals "TooGreat" = some (some (.ref X_TooGreat)))
    (vx_ok : xAllB K = true)
    {fxNoCoins : Addr} {odxNoCoins anxNoCoins : Option Addr} {slxNoCoins : Array (Option Value)} {ocxNoCoins kVxNoCoins dcxNoCoins pmxNoCoins cdxNoCoins ctxNoCoins : Value} (ax_NoCoins : PySem.W.findIn K (.ref X_NoCoins) "__init__" = some (some (.ref fxNoCoins))) (lx_NoCoins : K.lookup fxNoCoins = some ⟨ocxNoCoins, odxNoCoins, .func (PySem.W.fnOf "__init__" "NoCoins.__init__" (defArgs tx_NoCoins) (defBody tx_NoCoins) (defScope tx_NoCoins) .none kVxNoCoins dcxNoCoins pmxNoCoins anxNoCoins cdxNoCoins ctxNoCoins), slxNoCoins⟩) (cx_NoCoins : PySem.W.codeIn K cdxNoCoins "NoCoins.__init__" = true) (kx_NoCoins : PySem.W.keepIn K (.ref fxNoCoins) = true) (yx_NoCoins : PySem.W.typeIn K (.ref fxNoCoins) = some (.type "function"))
    : ∃ fd : FuncData, (∀ (s : Shared) (v : Value), BindsTo s fd ⟨[v], []⟩ [("_law_script", v)]) ∧ ∀ base : Heap, K.In base → base.Ns mainGlobals mg → FnOk l.prog w K mg base CX0 69 fa fd ["_law_script"] (spL K) := by
  have e := hfa.symm.trans (PySem.W.mg_of X G a42)
  cases e
  have F0 := fun_mk (st := t_is_from) l0 c0 k0
  have F1 := fun_mk (st := t_is_lot) l1 c1 k1
  have F2 := fun_mk (st := t_is_pile) l2 c2 k2
  have F3 := fun_mk (st := t_look_at_pile) l3 c3 k3
  have F4 := fun_mk (st := t_sum_of) l4 c4 k4
  have F5 := fun_mk (st := t_less_of) l5 c5 k5
  have F6 := fun_mk (st := t_look_at_small) l6 c6 k6
  have F7 := fun_mk (st := t_from_counts) l7 c7 k7
  have F8 := fun_mk (st := t_take_by) l8 c8 k8
  have F9 := fun_mk (st := t_is_name) l9 c9 k9
  have F10 := fun_mk (st := t_parts_in) l10 c10 k10
  have F11 := fun_mk (st := t_is_form) l11 c11 k11
  have F12 := fun_mk (st := t_calls_in) l12 c12 k12
  have F13 := fun_mk (st := t_names_in) l13 c13 k13
  have F14 := fun_mk (st := t_is_right) l14 c14 k14
  have F15 := fun_mk (st := t_look_at_right) l15 c15 k15
  have F16 := fun_mk (st := t_cut_at) l16 c16 k16
  have F17 := fun_mk (st := t_longest_of) l17 c17 k17
  have F18 := fun_mk (st := t_shared_out) l18 c18 k18
  have F19 := fun_mk (st := t_row_of) l19 c19 k19
  have F20 : FunD K "most_of" "most_of" (defArgs t_most_of) (defBody t_most_of) (defScope t_most_of) [.non] [] f20 (PySem.W.fnOf "most_of" "most_of" (defArgs t_most_of) (defBody t_most_of) (defScope t_most_of) (.ref T20) kV20 dc20 pm20 an20 cd20 ct20) := by
    refine ⟨⟨_, _, _, _, _, _, _, _, _, _, rfl, l20, c20, .inr ⟨by decide, _, _, _, _, rfl, t20, u20, (.cons rfl .nil)⟩, .inl rfl⟩, k20⟩
  have F21 := fun_mk (st := t_bounds_of) l21 c21 k21
  have F22 := fun_mk (st := t_failing) l22 c22 k22
  have F23 := fun_mk (st := t_is_served) l23 c23 k23
  have F24 := fun_mk (st := t_within_by) l24 c24 k24
  have F25 := fun_mk (st := t_can_part) l25 c25 k25
  have F26 := fun_mk (st := t__law_mixed) l26 c26 k26
  have F27 := fun_mk (st := t__law_cell) l27 c27 k27
  have F28 := fun_mk (st := t__law_take) l28 c28 k28
  have F29 := fun_mk (st := t__law_sum) l29 c29 k29
  have F30 := fun_mk (st := t__law_under) l30 c30 k30
  have F31 := fun_mk (st := t__law_heap) l31 c31 k31
  have F32 := fun_mk (st := t__law_length) l32 c32 k32
  have F33 := fun_mk (st := t__law_row) l33 c33 k33
  have F34 := fun_mk (st := t__law_top) l34 c34 k34
  have F35 := fun_mk (st := t__law_holds) l35 c35 k35
  have F36 := fun_mk (st := t__law_right) l36 c36 k36
  have F37 := fun_mk (st := t__law_left) l37 c37 k37
  have F38 := fun_mk (st := t__law_within) l38 c38 k38
  have F39 := fun_mk (st := t__law_due) l39 c39 k39
  have F40 := fun_mk (st := t__law_refused) l40 c40 k40
  have F41 := fun_mk (st := t__law_great) l41 c41 k41
  have F42 := fun_mk (st := t_law) l42 c42 k42
  have FX_NoCoins := fun_mk (x := "__init__") (qual := "NoCoins.__init__") (st := tx_NoCoins) lx_NoCoins cx_NoCoins kx_NoCoins
  have BX_NoCoins := FX_NoCoins.binds (ps := ["self", "worth"]) fun _ _ _ _ _ _ us hl => match us, hl with | [_, _], _ => rfl
  have B0 := F0.binds (ps := ["thing", "least"]) fun _ _ _ _ _ _ us hl => match us, hl with | [_, _], _ => rfl
  have B1 := F1.binds (ps := ["thing"]) fun _ _ _ _ _ _ us hl => match us, hl with | [_], _ => rfl
  have B2 := F2.binds (ps := ["thing"]) fun _ _ _ _ _ _ us hl => match us, hl with | [_], _ => rfl
  have B3 := F3.binds (ps := ["thing"]) fun _ _ _ _ _ _ us hl => match us, hl with | [_], _ => rfl
  have B4 := F4.binds (ps := ["pile"]) fun _ _ _ _ _ _ us hl => match us, hl with | [_], _ => rfl
  have B5 := F5.binds (ps := ["pile", "worth"]) fun _ _ _ _ _ _ us hl => match us, hl with | [_, _], _ => rfl
  have B6 := F6.binds (ps := ["pile"]) fun _ _ _ _ _ _ us hl => match us, hl with | [_], _ => rfl
  have B7 := F7.binds (ps := ["counts"]) fun _ _ _ _ _ _ us hl => match us, hl with | [_], _ => rfl
  have B8 := F8.binds (ps := ["pile", "other"]) fun _ _ _ _ _ _ us hl => match us, hl with | [_, _], _ => rfl
  have B9 := F9.binds (ps := ["thing"]) fun _ _ _ _ _ _ us hl => match us, hl with | [_], _ => rfl
  have B10 := F10.binds (ps := ["right"]) fun _ _ _ _ _ _ us hl => match us, hl with | [_], _ => rfl
  have B11 := F11.binds (ps := ["thing", "deep"]) fun _ _ _ _ _ _ us hl => match us, hl with | [_, _], _ => rfl
  have B12 := F12.binds (ps := ["right"]) fun _ _ _ _ _ _ us hl => match us, hl with | [_], _ => rfl
  have B13 := F13.binds (ps := ["right"]) fun _ _ _ _ _ _ us hl => match us, hl with | [_], _ => rfl
  have B14 := F14.binds (ps := ["thing"]) fun _ _ _ _ _ _ us hl => match us, hl with | [_], _ => rfl
  have B15 := F15.binds (ps := ["thing"]) fun _ _ _ _ _ _ us hl => match us, hl with | [_], _ => rfl
  have B16 := F16.binds (ps := ["most", "below"]) fun _ _ _ _ _ _ us hl => match us, hl with | [_, _], _ => rfl
  have B17 := F17.binds (ps := ["right"]) fun _ _ _ _ _ _ us hl => match us, hl with | [_], _ => rfl
  have B18 := F18.binds (ps := ["one", "other", "calls"]) fun _ _ _ _ _ _ us hl => match us, hl with | [_, _, _], _ => rfl
  have B19 := F19.binds (ps := ["right", "below", "calls"]) fun _ _ _ _ _ _ us hl => match us, hl with | [_, _, _], _ => rfl
  have B20 : Binds K (PySem.W.fnOf "most_of" "most_of" (defArgs t_most_of) (defBody t_most_of) (defScope t_most_of) (.ref T20) kV20 dc20 pm20 an20 cd20 ct20) ["right", "below"] [] := by
    obtain ⟨ds, hv, hb⟩ := F20.binds1 (ps := ["right", "below"]) 2 1 (by decide) (by decide) (fun T kV doc pm an cdv ct us its hu hi => by match us, hu, its, hi with | [_, _], _, [_], _ => exact ⟨_, rfl, rfl⟩)
    cases hv; exact hb
  have B21 := F21.binds (ps := ["pile"]) fun _ _ _ _ _ _ us hl => match us, hl with | [_], _ => rfl
  have B22 := F22.binds (ps := ["pile", "right"]) fun _ _ _ _ _ _ us hl => match us, hl with | [_, _], _ => rfl
  have B23 := F23.binds (ps := ["pile", "right"]) fun _ _ _ _ _ _ us hl => match us, hl with | [_, _], _ => rfl
  have B24 := F24.binds (ps := ["pile"]) fun _ _ _ _ _ _ us hl => match us, hl with | [_], _ => rfl
  have B25 := F25.binds (ps := ["pile", "one", "other"]) fun _ _ _ _ _ _ us hl => match us, hl with | [_, _, _], _ => rfl
  have B26 := F26.binds (ps := ["_law_cell_here", "_law_k"]) fun _ _ _ _ _ _ us hl => match us, hl with | [_, _], _ => rfl
  have B27 := F27.binds (ps := ["_law_script", "_law_k"]) fun _ _ _ _ _ _ us hl => match us, hl with | [_, _], _ => rfl
  have B28 := F28.binds (ps := ["_law_pile", "_law_size"]) fun _ _ _ _ _ _ us hl => match us, hl with | [_, _], _ => rfl
  have B29 := F29.binds (ps := ["_law_pile"]) fun _ _ _ _ _ _ us hl => match us, hl with | [_], _ => rfl
  have B30 := F30.binds (ps := ["_law_pile", "_law_bound"]) fun _ _ _ _ _ _ us hl => match us, hl with | [_, _], _ => rfl
  have B31 := F31.binds (ps := ["_law_coins_here"]) fun _ _ _ _ _ _ us hl => match us, hl with | [_], _ => rfl
  have B32 := F32.binds (ps := ["_law_right_here"]) fun _ _ _ _ _ _ us hl => match us, hl with | [_], _ => rfl
  have B33 := F33.binds (ps := ["_law_right_here", "_law_bound", "_law_many"]) fun _ _ _ _ _ _ us hl => match us, hl with | [_, _, _], _ => rfl
  have B34 := F34.binds (ps := ["_law_right_here", "_law_bound"]) fun _ _ _ _ _ _ us hl => match us, hl with | [_, _], _ => rfl
  have B35 := F35.binds (ps := ["_law_pile", "_law_right_here"]) fun _ _ _ _ _ _ us hl => match us, hl with | [_, _], _ => rfl
  have B36 := F36.binds (ps := ["_law_digits", "_law_deep", "_law_spare", "_law_size"]) fun _ _ _ _ _ _ us hl => match us, hl with | [_, _, _, _], _ => rfl
  have B37 := F37.binds (ps := ["_law_pile", "_law_paying"]) fun _ _ _ _ _ _ us hl => match us, hl with | [_, _], _ => rfl
  have B38 := F38.binds (ps := ["_law_pile"]) fun _ _ _ _ _ _ us hl => match us, hl with | [_], _ => rfl
  have B39 := F39.binds (ps := ["_law_pile", "_law_one", "_law_other"]) fun _ _ _ _ _ _ us hl => match us, hl with | [_, _, _], _ => rfl
  have B40 := F40.binds (ps := ["_law_pile", "_law_one"]) fun _ _ _ _ _ _ us hl => match us, hl with | [_, _], _ => rfl
  have B41 := F41.binds (ps := ["_law_pile"]) fun _ _ _ _ _ _ us hl => match us, hl with | [_], _ => rfl
  have C : Fx K mg ⟨f0, _, f1, _, f2, _, f3, _, f4, _, f5, _, f6, _, f7, _, f8, _, f9, _, f10, _, f11, _, f12, _, f13, _, f14, _, f15, _, f16, _, f17, _, f18, _, f19, _, f20, _, f21, _, f22, _, f23, _, f24, _, f25, _, f26, _, f27, _, f28, _, f29, _, f30, _, f31, _, f32, _, f33, _, f34, _, f35, _, f36, _, f37, _, f38, _, f39, _, f40, _, f41, _, fa, _, n_FRAMES, n_SETS, X_NoCoins, X_NoPile, X_NoRight, X_TillError, X_TooGreat, fxNoCoins, _⟩ := ⟨PySem.W.mg_none_of X G z_all, PySem.W.mg_none_of X G z_bool, PySem.W.mg_none_of X G z_dict, PySem.W.mg_none_of X G z_int, PySem.W.mg_none_of X G z_isinstance, PySem.W.mg_none_of X G z_len, PySem.W.mg_none_of X G z_list, PySem.W.mg_none_of X G z_max, PySem.W.mg_none_of X G z_min, PySem.W.mg_none_of X G z_range, PySem.W.mg_none_of X G z_sorted, PySem.W.mg_none_of X G z_str, PySem.W.mg_none_of X G z_sum, PySem.W.mg_none_of X G z_tuple, PySem.W.mg_none_of X G z_zip, ⟨_, PySem.W.mg_of X G g_DEEPEST⟩, gtup_mk [.str (Str.ofString "within"), .str (Str.ofString "calls")] (PySem.W.mg_of X G g_FRAMES) h_FRAMES u_FRAMES_1 u_FRAMES_2 u_FRAMES_3 (Nat.le_of_ble_eq_true rfl) (.cons (relS _ _) (.cons (relS _ _) .nil)) (fun _ => (.cons (.str _) (.cons (.str _) .nil))), ⟨_, PySem.W.mg_of X G g_LETTERS⟩, ⟨_, PySem.W.mg_of X G g_LONGEST_NAME⟩, ⟨_, PySem.W.mg_of X G g_MOST_WITHIN⟩, gtup_mk [.str (Str.ofString "all"), .str (Str.ofString "one")] (PySem.W.mg_of X G g_SETS) h_SETS u_SETS_1 u_SETS_2 u_SETS_3 (Nat.le_of_ble_eq_true rfl) (.cons (relS _ _) (.cons (relS _ _) .nil)) (fun _ => (.cons (.str _) (.cons (.str _) .nil))), ⟨_, PySem.W.mg_of X G g_SMALL⟩, vx_ok, ⟨ux_NoCoins, PySem.W.mg_of X G ux_NoCoins⟩, ⟨ux_NoPile, PySem.W.mg_of X G ux_NoPile⟩, ⟨ux_NoRight, PySem.W.mg_of X G ux_NoRight⟩, ⟨ux_TillError, PySem.W.mg_of X G ux_TillError⟩, ⟨ux_TooGreat, PySem.W.mg_of X G ux_TooGreat⟩, FX_NoCoins, ax_NoCoins, yx_NoCoins, BX_NoCoins, F0, PySem.W.mg_of X G a0, k0, B0, F1, PySem.W.mg_of X G a1, k1, B1, F2, PySem.W.mg_of X G a2, k2, B2, F3, PySem.W.mg_of X G a3, k3, B3, F4, PySem.W.mg_of X G a4, k4, B4, F5, PySem.W.mg_of X G a5, k5, B5, F6, PySem.W.mg_of X G a6, k6, B6, F7, PySem.W.mg_of X G a7, k7, B7, F8, PySem.W.mg_of X G a8, k8, B8, F9, PySem.W.mg_of X G a9, k9, B9, F10, PySem.W.mg_of X G a10, k10, B10, F11, PySem.W.mg_of X G a11, k11, B11, F12, PySem.W.mg_of X G a12, k12, B12, F13, PySem.W.mg_of X G a13, k13, B13, F14, PySem.W.mg_of X G a14, k14, B14, F15, PySem.W.mg_of X G a15, k15, B15, F16, PySem.W.mg_of X G a16, k16, B16, F17, PySem.W.mg_of X G a17, k17, B17, F18, PySem.W.mg_of X G a18, k18, B18, F19, PySem.W.mg_of X G a19, k19, B19, F20, PySem.W.mg_of X G a20, k20, B20, F21, PySem.W.mg_of X G a21, k21, B21, F22, PySem.W.mg_of X G a22, k22, B22, F23, PySem.W.mg_of X G a23, k23, B23, F24, PySem.W.mg_of X G a24, k24, B24, F25, PySem.W.mg_of X G a25, k25, B25, F26, PySem.W.mg_of X G a26, k26, B26, F27, PySem.W.mg_of X G a27, k27, B27, F28, PySem.W.mg_of X G a28, k28, B28, F29, PySem.W.mg_of X G a29, k29, B29, F30, PySem.W.mg_of X G a30, k30, B30, F31, PySem.W.mg_of X G a31, k31, B31, F32, PySem.W.mg_of X G a32, k32, B32, F33, PySem.W.mg_of X G a33, k33, B33, F34, PySem.W.mg_of X G a34, k34, B34, F35, PySem.W.mg_of X G a35, k35, B35, F36, PySem.W.mg_of X G a36, k36, B36, F37, PySem.W.mg_of X G a37, k37, B37, F38, PySem.W.mg_of X G a38, k38, B38, F39, PySem.W.mg_of X G a39, k39, B39, F40, PySem.W.mg_of X G a40, k40, B40, F41, PySem.W.mg_of X G a41, k41, B41, F42, PySem.W.mg_of X G a42, k42⟩
  exact ⟨_, fun s v => .of_eq rfl, fun base _ _ => (ok_law C).imp fun vs H Q E hs => by
    obtain ⟨a, ns, rfl, hS, hl, q⟩ := hs
    obtain ⟨E2, hT⟩ := law_true ns hl
    refine ⟨rfl, [], [], [.scr ns], ⟨rfl, fun p hp => (by cases hp), fun i s e => ?_, fun i j ds es p e1 _ _ _ => ?_, fun x hx => (by cases hx), fun i ds p e1 _ x hx => (by cases hx)⟩, ?_⟩
    · match i, e with
      | 0, e => cases e; exact ⟨a, rfl, (show SqL K (Mask [] H) a _ from (show Mask [] H = H from rfl) ▸ hS)⟩
    · match i, e1 with
      | 0, e1 => cases e1
    · rw [hT]
      intro O2 v H2 R2 l2
      cases R2.2
      exact q H2⟩
end Lw
open PySem PySem.W PyProof.Rows
set_option maxHeartbeats 0 in
theorem PySem.Challenge.cw_blindtill_k64_what_can_be_parted_holds : PySem.Challenge.rw_blindtill_k64_what_can_be_parted.Holds := by
  w_on; o_law; k_head; (case hw => w_witness2)
  k_fill
  refine L2.walk_of (l := PySem.Challenge.rw_blindtill_k64_what_can_be_parted) (n := 63) (k := 69) (x := "_law_script") (CX := fun _ => L2.CX0) (sp := fun w => Lw.spL _) rfl (by decide) rfl ⟨rfl, by decide, by decide⟩ (fun w h Y => PySem.W.kIn_of Y) ?F (fun _ _ a ns hl _ hS => ⟨a, ns, rfl, hS, hl, fun _ => rfl⟩) (fun _ _ _ _ _ h => h)
  case F =>
    intro w mg fa h KX G hmg
    refine' Lw.all_mk KX G hmg ?a0 ?l0 ?c0 ?k0 ?a1 ?l1 ?c1 ?k1 ?a2 ?l2 ?c2 ?k2 ?a3 ?l3 ?c3 ?k3 ?a4 ?l4 ?c4 ?k4 ?a5 ?l5 ?c5 ?k5 ?a6 ?l6 ?c6 ?k6 ?a7 ?l7 ?c7 ?k7 ?a8 ?l8 ?c8 ?k8 ?a9 ?l9 ?c9 ?k9 ?a10 ?l10 ?c10 ?k10 ?a11 ?l11 ?c11 ?k11 ?a12 ?l12 ?c12 ?k12 ?a13 ?l13 ?c13 ?k13 ?a14 ?l14 ?c14 ?k14 ?a15 ?l15 ?c15 ?k15 ?a16 ?l16 ?c16 ?k16 ?a17 ?l17 ?c17 ?k17 ?a18 ?l18 ?c18 ?k18 ?a19 ?l19 ?c19 ?k19 ?a20 ?l20 ?c20 ?k20 ?t20 ?u20 ?a21 ?l21 ?c21 ?k21 ?a22 ?l22 ?c22 ?k22 ?a23 ?l23 ?c23 ?k23 ?a24 ?l24 ?c24 ?k24 ?a25 ?l25 ?c25 ?k25 ?a26 ?l26 ?c26 ?k26 ?a27 ?l27 ?c27 ?k27 ?a28 ?l28 ?c28 ?k28 ?a29 ?l29 ?c29 ?k29 ?a30 ?l30 ?c30 ?k30 ?a31 ?l31 ?c31 ?k31 ?a32 ?l32 ?c32 ?k32 ?a33 ?l33 ?c33 ?k33 ?a34 ?l34 ?c34 ?k34 ?a35 ?l35 ?c35 ?k35 ?a36 ?l36 ?c36 ?k36 ?a37 ?l37 ?c37 ?k37 ?a38 ?l38 ?c38 ?k38 ?a39 ?l39 ?c39 ?k39 ?a40 ?l40 ?c40 ?k40 ?a41 ?l41 ?c41 ?k41 ?a42 ?l42 ?c42 ?k42 ?z_all ?z_bool ?z_dict ?z_int ?z_isinstance ?z_len ?z_list ?z_max ?z_min ?z_range ?z_sorted ?z_str ?z_sum ?z_tuple ?z_zip ?g_DEEPEST ?g_FRAMES ?h_FRAMES ?u_FRAMES_1 ?u_FRAMES_2 ?u_FRAMES_3 ?g_LETTERS ?g_LONGEST_NAME ?g_MOST_WITHIN ?g_SETS ?h_SETS ?u_SETS_1 ?u_SETS_2 ?u_SETS_3 ?g_SMALL ?ux_NoCoins ?ux_NoPile ?ux_NoRight ?ux_TillError ?ux_TooGreat ?vx_ok ?ax_NoCoins ?lx_NoCoins ?cx_NoCoins ?kx_NoCoins ?yx_NoCoins
    (case a0 => k_is)
    (case l0 => k_is)
    (case c0 => k_is)
    (case k0 => k_is)
    (case a1 => k_is)
    (case l1 => k_is)
    (case c1 => k_is)
    (case k1 => k_is)
    (case a2 => k_is)
    (case l2 => k_is)
    (case c2 => k_is)
    (case k2 => k_is)
    (case a3 => k_is)
    (case l3 => k_is)
    (case c3 => k_is)
    (case k3 => k_is)
    (case a4 => k_is)
    (case l4 => k_is)
    (case c4 => k_is)
    (case k4 => k_is)
    (case a5 => k_is)
    (case l5 => k_is)
    (case c5 => k_is)
    (case k5 => k_is)
    (case a6 => k_is)
    (case l6 => k_is)
    (case c6 => k_is)
    (case k6 => k_is)
    (case a7 => k_is)
    (case l7 => k_is)
    (case c7 => k_is)
    (case k7 => k_is)
    (case a8 => k_is)
    (case l8 => k_is)
    (case c8 => k_is)
    (case k8 => k_is)
    (case a9 => k_is)
    (case l9 => k_is)
    (case c9 => k_is)
    (case k9 => k_is)
    (case a10 => k_is)
    (case l10 => k_is)
    (case c10 => k_is)
    (case k10 => k_is)
    (case a11 => k_is)
    (case l11 => k_is)
    (case c11 => k_is)
    (case k11 => k_is)
    (case a12 => k_is)
    (case l12 => k_is)
    (case c12 => k_is)
    (case k12 => k_is)
    (case a13 => k_is)
    (case l13 => k_is)
    (case c13 => k_is)
    (case k13 => k_is)
    (case a14 => k_is)
    (case l14 => k_is)
    (case c14 => k_is)
    (case k14 => k_is)
    (case a15 => k_is)
    (case l15 => k_is)
    (case c15 => k_is)
    (case k15 => k_is)
    (case a16 => k_is)
    (case l16 => k_is)
    (case c16 => k_is)
    (case k16 => k_is)
    (case a17 => k_is)
    (case l17 => k_is)
    (case c17 => k_is)
    (case k17 => k_is)
    (case a18 => k_is)
    (case l18 => k_is)
    (case c18 => k_is)
    (case k18 => k_is)
    (case a19 => k_is)
    (case l19 => k_is)
    (case c19 => k_is)
    (case k19 => k_is)
    (case a20 => k_is)
    (case l20 => k_is)
    (case c20 => k_is)
    (case k20 => k_is)
    (case t20 => k_is)
    (case u20 => rfl)
    (case a21 => k_is)
    (case l21 => k_is)
    (case c21 => k_is)
    (case k21 => k_is)
    (case a22 => k_is)
    (case l22 => k_is)
    (case c22 => k_is)
    (case k22 => k_is)
    (case a23 => k_is)
    (case l23 => k_is)
    (case c23 => k_is)
    (case k23 => k_is)
    (case a24 => k_is)
    (case l24 => k_is)
    (case c24 => k_is)
    (case k24 => k_is)
    (case a25 => k_is)
    (case l25 => k_is)
    (case c25 => k_is)
    (case k25 => k_is)
    (case a26 => k_is)
    (case l26 => k_is)
    (case c26 => k_is)
    (case k26 => k_is)
    (case a27 => k_is)
    (case l27 => k_is)
    (case c27 => k_is)
    (case k27 => k_is)
    (case a28 => k_is)
    (case l28 => k_is)
    (case c28 => k_is)
    (case k28 => k_is)
    (case a29 => k_is)
    (case l29 => k_is)
    (case c29 => k_is)
    (case k29 => k_is)
    (case a30 => k_is)
    (case l30 => k_is)
    (case c30 => k_is)
    (case k30 => k_is)
    (case a31 => k_is)
    (case l31 => k_is)
    (case c31 => k_is)
    (case k31 => k_is)
    (case a32 => k_is)
    (case l32 => k_is)
    (case c32 => k_is)
    (case k32 => k_is)
    (case a33 => k_is)
    (case l33 => k_is)
    (case c33 => k_is)
    (case k33 => k_is)
    (case a34 => k_is)
    (case l34 => k_is)
    (case c34 => k_is)
    (case k34 => k_is)
    (case a35 => k_is)
    (case l35 => k_is)
    (case c35 => k_is)
    (case k35 => k_is)
    (case a36 => k_is)
    (case l36 => k_is)
    (case c36 => k_is)
    (case k36 => k_is)
    (case a37 => k_is)
    (case l37 => k_is)
    (case c37 => k_is)
    (case k37 => k_is)
    (case a38 => k_is)
    (case l38 => k_is)
    (case c38 => k_is)
    (case k38 => k_is)
    (case a39 => k_is)
    (case l39 => k_is)
    (case c39 => k_is)
    (case k39 => k_is)
    (case a40 => k_is)
    (case l40 => k_is)
    (case c40 => k_is)
    (case k40 => k_is)
    (case a41 => k_is)
    (case l41 => k_is)
    (case c41 => k_is)
    (case k41 => k_is)
    (case a42 => k_is)
    (case l42 => k_is)
    (case c42 => k_is)
    (case k42 => k_is)
    (case z_all => k_is)
    (case z_bool => k_is)
    (case z_dict => k_is)
    (case z_int => k_is)
    (case z_isinstance => k_is)
    (case z_len => k_is)
    (case z_list => k_is)
    (case z_max => k_is)
    (case z_min => k_is)
    (case z_range => k_is)
    (case z_sorted => k_is)
    (case z_str => k_is)
    (case z_sum => k_is)
    (case z_tuple => k_is)
    (case z_zip => k_is)
    (case g_DEEPEST => k_is)
    (case g_FRAMES => k_is)
    (case h_FRAMES => k_is)
    (case u_FRAMES_1 => rfl)
    (case u_FRAMES_2 => rfl)
    (case u_FRAMES_3 => rfl)
    (case g_LETTERS => k_is)
    (case g_LONGEST_NAME => k_is)
    (case g_MOST_WITHIN => k_is)
    (case g_SETS => k_is)
    (case h_SETS => k_is)
    (case u_SETS_1 => rfl)
    (case u_SETS_2 => rfl)
    (case u_SETS_3 => rfl)
    (case g_SMALL => k_is)
    (case ux_NoCoins => first | k_is | kernel_rfl | decide +kernel)
    (case ux_NoPile => first | k_is | kernel_rfl | decide +kernel)
    (case ux_NoRight => first | k_is | kernel_rfl | decide +kernel)
    (case ux_TillError => first | k_is | kernel_rfl | decide +kernel)
    (case ux_TooGreat => first | k_is | kernel_rfl | decide +kernel)
    (case vx_ok => first | k_is | kernel_rfl | decide +kernel)
    (case ax_NoCoins => first | k_is | kernel_rfl | decide +kernel)
    (case lx_NoCoins => first | k_is | kernel_rfl | decide +kernel)
    (case cx_NoCoins => first | k_is | kernel_rfl | decide +kernel)
    (case kx_NoCoins => first | k_is | kernel_rfl | decide +kernel)
    (case yx_NoCoins => first | k_is | kernel_rfl | decide +kernel)
