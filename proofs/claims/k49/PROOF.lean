import PyProof.Rows.All
import Wide.All
import OpenK.AllK
import Wide.FinOn
import HandS.ForMost
import HandS.TupAny
import HandS.TupMul
import KE.KDictPairs
import HandS.Walk
import HandS.Wide
import HandS.IsInst
import HandS.Exc
import HandS.WordsExc
import HandS.Zip
import HandS.SortInts
import HandS.Style
import HandS.Defaults
import HandS.TupLe
import HandS.Text
import KE.SortCalls
import KE.LtData
import PyProof.FactsAll.tuple
import KE.DataMinMax
import HandS.CallSlots
import HandS.More
import HandS.SortKw
import HandS.WideBits
import KE.KRevSl
import KE.KUnpackStar
import HandS.ExcOwn
import HandS.ExcValue
import HandS.ExcInit
import HandS.ExcField
import HandS.ExcIs
import KE.KExcIs
import HandS.ExcBuiltin
import PyProof.ExcAttrAll.ValueError
import HandS.Ends
import PyProof.ReprRoads
import PyProof.CallStr
import HandS.RaiseMore
import HandS.SetKeys
import HandS.SetBool
import KE.GoesEnumKw
import KE.KItemsList
import HandS.Conv
import HandS.TryOnly
import PyProof.ListStr
import HandS.WordsDict
import KE.GoesMore
import HandS.MapObj
import KE.KDictZip
import HandS.Deep
import HandS.Strs
import PySem.Challenge.RW_blindtill_k49_tills_in_every_company
set_option Elab.async false
set_option linter.all false
set_option maxRecDepth 100000
set_option maxHeartbeats 1000000
set_option autoImplicit false
namespace Bt
open PySem L2
section
variable {X : Cx} {es : List Expr} {t : TA} {pos : Pos}
def tTupP (t : TA) : TE := fun σ H Q => t σ H fun xs H1 => xs.length ≤ sizeLine ∧ ∀ p o, H1 p = none → o.dict = none → Q (.ref p) (upd H1 p (.frz o (.tup xs)))
theorem laidP {pins : List (Addr × Obj)} {σ : L2.St} {H : Hp} {s : Shared} {xs : List V} {its : List Value} {tk : Nat} (I : Inv X pins σ H s) (z : xs.length ≤ sizeLine) (r : Vals xs its) :
    Inv X pins σ (upd H s.heap.objs.size (.frz { cls := .type "tuple", data := .seq its.toArray } (.tup xs))) { s with heap := s.heap.push { cls := .type "tuple", data := .seq its.toArray }, toks := tk } :=
  I.laid (t' := tk) (fun _ _ e => Heap.get?_push_of_some _ e) (Nat.le_refl _) ⟨Heap.get?_push_size _ rfl, z, its, r, _, Heap.get?_push_size _ rfl, rfl, _, rfl⟩
theorem pe_tupP {k : Nat} (h : PA X es t) : PE X (.Tuple es k pos) (tTupP t) := by
  refine ⟨fun pins s σ H Q I hq => wpAny_Tuple_spliced (thn (h.run pos pins s σ H _ I hq) fun us s1 ⟨xs, H1, I1, r, z, q⟩ => ⟨by rw [← r.length]; exact z, ?_⟩)⟩
  exact ⟨.ref s1.heap.objs.size, _, laidP (tk := s1.toks) I1 z r, rfl, q _ _ (I1.hok.fresh (Nat.le_refl _)) rfl⟩
def rTupP (K : PySem.W.Frag) : List V → Hp → VK → Prop := fun xs H Q => ∃ p ys, xs = [.ref p] ∧ ((SqL K H p ys ∧ ∀ l o, H l = none → o.dict = none → Q (.ref l) (upd H l (.frz o (.tup ys)))) ∨ (SqT K H p ys ∧ Q (.ref p) H))
theorem call_tupP : CallR X (.type "tuple") (rTupP X.K) := by
  intro pins s σ H xs us Q I r h
  obtain ⟨p, ys, rfl, h⟩ := h
  obtain ⟨u, rfl, rx⟩ := vals1 r
  cases rx
  rcases h with ⟨hq, q⟩ | ⟨hq, q⟩
  · obtain ⟨its, r', pl, hz⟩ := I.list hq
    have hlen := r'.length
    refine PySem.call_tuple_list pl.isList (fun h' kp => ?_) (by simp only [List.size_toArray]; omega)
    have I1 : Inv X pins σ H { s with heap := h' } := I.kept (t' := s.toks) kp
    exact ⟨.ref h'.objs.size, _, laidP (tk := s.toks) I1 hz r', rfl, q _ _ (I1.hok.fresh (Nat.le_refl _)) rfl⟩
  · obtain ⟨its, r', pl, hz⟩ := I.tuple hq
    exact PySem.call_tuple_same pl ⟨.ref p, H, I, rfl, q⟩
def rSlP (K : PySem.W.Frag) : V → Option Int → Option Int → Hp → VK → Prop := fun x lo hi H Q => ∃ a xs, x = .ref a ∧ SqT K H a xs ∧
  (HT.sIx xs.length 0 lo = 0 ∧ HT.sIx xs.length xs.length hi = xs.length → Q (.ref a) H) ∧ (¬ (HT.sIx xs.length 0 lo = 0 ∧ HT.sIx xs.length xs.length hi = xs.length) → ∀ p o, H p = none → o.dict = none → Q (.ref p) (upd H p (.frz o (.tup (cutV xs lo hi)))))
theorem sl_tupP : SlR X (rSlP X.K) := by
  intro pins s σ H x v vl vu lo hi sl Q I rx hs pl pu h
  obtain ⟨a, xs, rfl, hx, q1, q2⟩ := h
  by_cases hw : HT.sIx xs.length 0 lo = 0 ∧ HT.sIx xs.length xs.length hi = xs.length
  · exact sl_tupA pins s σ H _ v vl vu lo hi sl Q I rx hs pl pu ⟨a, xs, rfl, hx, q1, fun n => absurd hw n⟩
  · cases rx
    obtain ⟨its, r, ht, hz⟩ := I.tuple hx
    have hlen : its.toArray.size = xs.length := by rw [List.size_toArray]; exact r.length.symm
    refine ⟨"tuple", _, PyProof.Rows.slot_tuple_getitem.lookup, ht.typeIs, HT.getItem_tuple_cut ht hs pl pu (by rw [hlen]; exact hw) ?_ (by rw [hlen]; exact hz)⟩
    rw [hlen]
    exact ⟨.ref s.heap.objs.size, _, laidP (tk := s.toks) I (Nat.le_trans (cutV_length xs lo hi) hz) ((r.drop (HT.sIx xs.length 0 lo)).take (HT.sIx xs.length xs.length hi - HT.sIx xs.length 0 lo)), rfl, q2 hw _ _ (I.hok.fresh (Nat.le_refl _)) rfl⟩
def rCatP (K : PySem.W.Frag) : R2 := fun x y H Q => ∃ a b xs ys, x = .ref a ∧ y = .ref b ∧ SqT K H a xs ∧ SqT K H b ys ∧ xs.length + ys.length ≤ sizeLine ∧
  (xs = [] → Q (.ref b) H) ∧ (xs ≠ [] → ys = [] → Q (.ref a) H) ∧ (xs ≠ [] → ys ≠ [] → ∀ p o, H p = none → o.dict = none → Q (.ref p) (upd H p (.frz o (.tup (xs ++ ys)))))
theorem op_catP : OpR X (binaryOp .Add) (rCatP X.K) := by
  intro pins s σ H x y v u Q I rx ry h
  obtain ⟨a, b, xs, ys, rfl, rfl, ha, hb, hz, q0, q1, q2⟩ := h
  by_cases hx : xs = []
  · exact op_catA pins s σ H _ _ v u Q I rx ry ⟨a, b, xs, ys, rfl, rfl, ha, hb, hz, q0, fun n => absurd hx n, fun n => absurd hx n⟩
  · cases rx
    cases ry
    obtain ⟨its, r1, p1, _⟩ := I.tuple ha
    obtain ⟨its2, r2, p2, _⟩ := I.tuple hb
    refine HT.cat_tup p1 p2 (fun z => hx (r1.nil_iff.mp z)) (fun z => ⟨.ref a, H, I, rfl, q1 hx (r2.nil_iff.mp z)⟩) (fun z => ?_) (by rw [← r1.length, ← r2.length]; exact hz)
    exact ⟨.ref s.heap.objs.size, _, laidP (tk := s.toks) I (by rw [List.length_append]; exact hz) (r1.append r2), rfl, q2 hx (fun w => z (r2.nil_iff.mpr w)) _ _ (I.hok.fresh (Nat.le_refl _)) rfl⟩
end
end Bt
namespace Bt
open PySem L2

abbrev D := PyData
inductive Ob where
  | l (ds : List D)
  | d (kvs : List (Key × D))
inductive Sl where
  | un
  | dat (d : D)
  | ow (o : Ob)
  | scr (ns : List Int)
abbrev En := List Sl
def xNames : List Str := ["TillError", "NoPile", "NoRight", "NoName", "NoNumber", "NoWorths", "NoParts", "TooGreat", "NoTill", "Taken", "NoPromise", "NoPlace", "NoCall", "NoCoins", "NoPay", "Unserved", "Stuck"]
def xName (c : Nat) : Str := xNames.getD c "?"
def xFld (c : Nat) : Str := if c = 12 then "place" else if c = 14 then "rest" else "worth"
structure Exc where
  cls : Nat
  fld : Option D
inductive Res (α : Type) where
  | ok (a : α) (E : En)
  | ex (x : Exc) (E : En)
  | bad
abbrev M (α : Type) := En → Res α
section monad
variable {α β : Type}
def ret (a : α) : M α := fun E => .ok a E
def bnd (m : M α) (f : α → M β) : M β := fun E => match m E with
  | .ok a E' => f a E'
  | .ex x E' => .ex x E'
  | .bad => .bad
def stuck : M α := fun _ => .bad
def lift (o : Option α) : M α := fun E => match o with
  | some a => .ok a E
  | none => .bad
def Sat (r : Res α) (k : α → En → Prop) (w : Exc → En → Prop) : Prop := match r with
  | .ok a E => k a E
  | .ex x E => w x E
  | .bad => False
theorem Sat.mono {r : Res α} {k k' : α → En → Prop} {w w' : Exc → En → Prop} (h : Sat r k w) (hk : ∀ a E, k a E → k' a E) (hw : ∀ x E, w x E → w' x E) : Sat r k' w' := by
  cases r with
  | ok a E => exact hk a E h
  | ex x E => exact hw x E h
  | bad => exact h
theorem Sat.bnd {m : M α} {f : α → M β} {E : En} {k : β → En → Prop} {w : Exc → En → Prop} (h : Sat (bnd m f E) k w) : Sat (m E) (fun a E' => Sat (f a E') k w) w := by
  unfold Bt.bnd at h
  cases e : m E with
  | ok a E1 => rw [e] at h; exact h
  | ex x E1 => rw [e] at h; exact h
  | bad => rw [e] at h; exact h
theorem Sat.lift {o : Option α} {E : En} {k : α → En → Prop} {w : Exc → En → Prop} (h : Sat (lift o E) k w) : ∃ a, o = some a ∧ k a E := by
  cases o with
  | none => exact h.elim
  | some a => exact ⟨a, rfl, h⟩
end monad

def Mask (O : List Addr) (H : Hp) : Hp := fun a => if a ∈ O then none else H a
def Trk (O : List Addr) (H : Hp) : Prop := ∀ p ∈ O, H p ≠ none
def Le (O : List Addr) (H : Hp) (O' : List Addr) (H' : Hp) : Prop := Same (Mask O H) (Mask O' H')
theorem Le.refl (O : List Addr) (H : Hp) : Le O H O H := Same.refl _
theorem Le.trans {O O1 O2 : List Addr} {H H1 H2 : Hp} (a : Le O H O1 H1) (b : Le O1 H1 O2 H2) : Le O H O2 H2 := Same.trans a b
theorem mask_in {O : List Addr} {H : Hp} {a : Addr} (h : a ∈ O) : Mask O H a = none := if_pos h
theorem mask_out {O : List Addr} {H : Hp} {a : Addr} (h : a ∉ O) : Mask O H a = H a := if_neg h
theorem mask_some {O : List Addr} {H : Hp} {a : Addr} {o : HO} (h : Mask O H a = some o) : a ∉ O ∧ H a = some o := by
  by_cases q : a ∈ O
  · rw [mask_in q] at h; cases h
  · rw [mask_out q] at h; exact ⟨q, h⟩
theorem mask_le (O : List Addr) (H : Hp) : Same (Mask O H) H := fun _ _ h => (mask_some h).2
theorem trk_fresh {O : List Addr} {H : Hp} {p : Addr} (t : Trk O H) (h : H p = none) : p ∉ O := fun q => t p q h

structure Grow (O : List Addr) (H H' : Hp) : Prop where
  le : Same (Mask O H) (Mask O H')
  keep : ∀ p ∈ O, H' p = H p
theorem Grow.refl (O : List Addr) (H : Hp) : Grow O H H := ⟨Same.refl _, fun _ _ => rfl⟩
theorem Grow.trans {O : List Addr} {H H1 H2 : Hp} (a : Grow O H H1) (b : Grow O H1 H2) : Grow O H H2 := ⟨a.le.trans b.le, fun p q => (b.keep p q).trans (a.keep p q)⟩
theorem Grow.new {O : List Addr} {H : Hp} {p : Addr} {o : HO} (t : Trk O H) (h : H p = none) : Grow O H (upd H p o) := by
  have np := trk_fresh t h
  refine ⟨fun a x e => ?_, fun q hq => upd_ne (fun z => np (z ▸ hq))⟩
  obtain ⟨n, e⟩ := mask_some e
  rw [mask_out n, upd_ne (ne_of_none e h)]
  exact e
theorem Grow.trk {O : List Addr} {H H' : Hp} (g : Grow O H H') (t : Trk O H) : Trk O H' := fun p q => by rw [g.keep p q]; exact t p q

def SqP (K : PySem.W.Frag) (G : Hp) (a : Addr) (xs : List V) : Prop :=
  (∃ o, G a = some (.frz o (.tup xs)) ∧ o.dict = none) ∨ ∃ (o : Obj) (its : Array Value) (n : Nat), K.lookup a = some o ∧ o.cls = .type "tuple" ∧ o.dict = none ∧ o.data = .seq its n ∧ its.size ≤ sizeLine ∧ Vals xs its.toList
theorem SqP.t {K : PySem.W.Frag} {G : Hp} {a : Addr} {xs : List V} (h : SqP K G a xs) : SqT K G a xs := by
  rcases h with ⟨o, h, _⟩ | ⟨o, its, n, h1, h2, _, h3, h4, h5⟩
  · exact .inl (.inr ⟨o, h⟩)
  · exact .inr ⟨o, its, n, h1, h2, h3, h4, h5⟩
theorem SqP.mono {K : PySem.W.Frag} {G G' : Hp} {a : Addr} {xs : List V} (e : Same G G') (h : SqP K G a xs) : SqP K G' a xs := by
  rcases h with ⟨o, h, d⟩ | h
  · exact .inl ⟨o, e _ _ h, d⟩
  · exact .inr h
def ExT (cls : Value) (dd : Option Addr) (a : Addr) : HO := .ext fun h => ∃ (oe : Obj) (vs : Array Value), h.get? a = some oe ∧ Zc cls dd oe ∧ oe.data = .fields vs
mutual
inductive Rp (K : PySem.W.Frag) (G : Hp) : V → D → Prop
  | non : Rp K G .non .none
  | bl (b : Bool) : Rp K G (.bl b) (.bool b)
  | int (i : Int) : Rp K G (.int i) (.int i)
  | str (x : Str) : Rp K G (.str x) (.str x)
  | lst {a : Addr} {xs : List V} {ds : List D} : G a = some (.lst xs) → RpAll K G xs ds → Rp K G (.ref a) (.list ds)
  | tup {a : Addr} {xs : List V} {ds : List D} : SqP K G a xs → RpAll K G xs ds → Rp K G (.ref a) (.tuple ds)
  | exc0 {a C : Addr} {c : Nat} : G a = some (ExT (.ref C) none a) → PySem.W.nsIn K mainGlobals (xName c) = some (some (.ref C)) → c < 17 → Rp K G (.ref a) (.dict [(.int c, .none)])
  | exc1 {a q C : Addr} {c : Nat} {v : V} {d : D} : G a = some (ExT (.ref C) (some q) a) → PySem.W.nsIn K mainGlobals (xName c) = some (some (.ref C)) → c < 17 → G q = some (.xd [(xFld c, v)]) → Rp K G v d → Rp K G (.ref a) (.dict [(.int c, .none), (.none, d)])
inductive RpAll (K : PySem.W.Frag) (G : Hp) : List V → List D → Prop
  | nil : RpAll K G [] []
  | cons {v : V} {vs : List V} {d : D} {ds : List D} : Rp K G v d → RpAll K G vs ds → RpAll K G (v :: vs) (d :: ds)
end
theorem sqT_mono {K : PySem.W.Frag} {G G' : Hp} {a : Addr} {xs : List V} (e : Same G G') (h : SqT K G a xs) : SqT K G' a xs := by
  rcases h with (h | ⟨o, h⟩) | h
  · exact .inl (.inl (e _ _ h))
  · exact .inl (.inr ⟨o, e _ _ h⟩)
  · exact .inr h
mutual
theorem Rp.mono {K : PySem.W.Frag} {G G' : Hp} (e : Same G G') : ∀ {v : V} {d : D}, Rp K G v d → Rp K G' v d
  | _, _, .non => .non
  | _, _, .bl b => .bl b
  | _, _, .int i => .int i
  | _, _, .str x => .str x
  | _, _, .lst h r => .lst (e _ _ h) (RpAll.mono e r)
  | _, _, .tup h r => .tup (h.mono e) (RpAll.mono e r)
  | _, _, .exc0 h n l => .exc0 (e _ _ h) n l
  | _, _, .exc1 h n l q r => .exc1 (e _ _ h) n l (e _ _ q) (Rp.mono e r)
theorem RpAll.mono {K : PySem.W.Frag} {G G' : Hp} (e : Same G G') : ∀ {vs : List V} {ds : List D}, RpAll K G vs ds → RpAll K G' vs ds
  | _, _, .nil => .nil
  | _, _, .cons h r => .cons (Rp.mono e h) (RpAll.mono e r)
end
mutual
theorem Rp.dp {K : PySem.W.Frag} {G : Hp} : ∀ {v : V} {d : D}, Rp K G v d → d.canLay0 = true → Dp K G v d
  | _, _, .non, _ => .non
  | _, _, .bl b, _ => .bl b
  | _, _, .int i, _ => .int i
  | _, _, .str x, _ => .str x
  | _, _, .lst h r, c => .lst (.inl (.inl h)) (RpAll.dp r (by simpa only [PyData.canLay0] using c))
  | _, _, .tup h r, c => .tup h.t (RpAll.dp r (by simpa only [PyData.canLay0] using c))
  | _, _, .exc0 _ _ _, c => by simp [PyData.canLay0] at c
  | _, _, .exc1 _ _ _ _ _, c => by simp [PyData.canLay0] at c
theorem RpAll.dp {K : PySem.W.Frag} {G : Hp} : ∀ {vs : List V} {ds : List D}, RpAll K G vs ds → PyData.canLayAll0 ds = true → DpAll K G vs ds
  | _, _, .nil, _ => .nil
  | _, _, .cons h r, c => by
    simp only [PyData.canLayAll0, Bool.and_eq_true] at c
    exact .cons (Rp.dp h c.1) (RpAll.dp r c.2)
end
section
variable {K : PySem.W.Frag} {G : Hp} {vs ws : List V} {ds es : List D}
theorem RpAll.length : ∀ {vs : List V} {ds : List D}, RpAll K G vs ds → vs.length = ds.length
  | _, _, .nil => rfl
  | _, _, .cons _ r => by rw [List.length_cons, List.length_cons, RpAll.length r]
theorem RpAll.get : ∀ {vs : List V} {ds : List D} {i : Nat} {v : V}, RpAll K G vs ds → vs[i]? = some v → ∃ d, ds[i]? = some d ∧ Rp K G v d
  | _, _, _, _, .nil, e => by simp at e
  | _, _, 0, _, .cons h _, e => by simp at e; subst e; exact ⟨_, rfl, h⟩
  | _, _, i + 1, v, .cons _ r, e => by
    obtain ⟨d, h1, h2⟩ := RpAll.get (i := i) (v := v) r (by simpa using e)
    exact ⟨d, by simpa using h1, h2⟩
theorem RpAll.get' : ∀ {vs : List V} {ds : List D} {i : Nat} {d : D}, RpAll K G vs ds → ds[i]? = some d → ∃ v, vs[i]? = some v ∧ Rp K G v d
  | _, _, _, _, .nil, e => by simp at e
  | _, _, 0, _, .cons h _, e => by simp at e; subst e; exact ⟨_, rfl, h⟩
  | _, _, i + 1, d, .cons _ r, e => by
    obtain ⟨v, h1, h2⟩ := RpAll.get' (i := i) (d := d) r (by simpa using e)
    exact ⟨v, by simpa using h1, h2⟩
theorem RpAll.append : ∀ {vs ws : List V} {ds es : List D}, RpAll K G vs ds → RpAll K G ws es → RpAll K G (vs ++ ws) (ds ++ es)
  | _, _, _, _, .nil, s => s
  | _, _, _, _, .cons h r, s => .cons h (RpAll.append r s)
theorem RpAll.one {v : V} {d : D} (h : Rp K G v d) : RpAll K G [v] [d] := .cons h .nil
theorem RpAll.take : ∀ {vs : List V} {ds : List D} (n : Nat), RpAll K G vs ds → RpAll K G (vs.take n) (ds.take n)
  | _, _, 0, _ => .nil
  | _, _, _ + 1, .nil => .nil
  | _, _, n + 1, .cons h r => .cons h (RpAll.take n r)
theorem RpAll.drop : ∀ {vs : List V} {ds : List D} (n : Nat), RpAll K G vs ds → RpAll K G (vs.drop n) (ds.drop n)
  | _, _, 0, r => r
  | _, _, _ + 1, .nil => .nil
  | _, _, n + 1, .cons _ r => RpAll.drop n r
theorem RpAll.set {v : V} {d : D} (h : Rp K G v d) : ∀ {vs : List V} {ds : List D} (n : Nat), RpAll K G vs ds → RpAll K G (vs.set n v) (ds.set n d)
  | _, _, _, .nil => .nil
  | _, _, 0, .cons _ r => .cons h r
  | _, _, n + 1, .cons q r => .cons q (RpAll.set h n r)
theorem RpAll.reverse : ∀ {vs : List V} {ds : List D}, RpAll K G vs ds → RpAll K G vs.reverse ds.reverse
  | _, _, .nil => .nil
  | _, _, .cons h r => by rw [List.reverse_cons, List.reverse_cons]; exact RpAll.append (RpAll.reverse r) (.one h)
theorem RpAll.repeat (r : RpAll K G vs ds) : ∀ n : Nat, RpAll K G (List.replicate n vs).flatten (List.replicate n ds).flatten
  | 0 => .nil
  | n + 1 => by rw [List.replicate_succ, List.replicate_succ, List.flatten_cons, List.flatten_cons]; exact RpAll.append r (RpAll.repeat r n)
theorem RpAll.ints : ∀ {vs : List V} {ns : List Int}, RpAll K G vs (ns.map .int) → vs = ns.map V.int
  | _, [], r => by cases r; rfl
  | _, n :: ns, r => by
    cases r with
    | cons h r => cases h; rw [RpAll.ints r]; rfl
theorem RpAll.bools : ∀ {vs : List V} {ns : List Bool}, RpAll K G vs (ns.map .bool) → vs = ns.map V.bl
  | _, [], r => by cases r; rfl
  | _, n :: ns, r => by
    cases r with
    | cons h r => cases h; rw [RpAll.bools r]; rfl
end

def RpKV (K : PySem.W.Frag) (G : Hp) : List (Key × V) → List (Key × D) → Prop := Paired fun p q => p.1 = q.1 ∧ Rp K G p.2 q.2
theorem RpKV.mono {K : PySem.W.Frag} {G G' : Hp} (e : Same G G') : ∀ {xs : List (Key × V)} {ys : List (Key × D)}, RpKV K G xs ys → RpKV K G' xs ys
  | _, _, .nil => .nil
  | _, _, .cons h r => .cons ⟨h.1, h.2.mono e⟩ (RpKV.mono e r)
def RpO (K : PySem.W.Frag) (G : Hp) : HO → Ob → Prop
  | .lst vs, .l ds => RpAll K G vs ds
  | .dK kvs, .d es => RpKV K G kvs es
  | _, _ => False
theorem RpO.mono {K : PySem.W.Frag} {G G' : Hp} (e : Same G G') {h : HO} {o : Ob} (r : RpO K G h o) : RpO K G' h o := by
  cases h <;> cases o <;> first | exact False.elim r | exact RpAll.mono e r | exact RpKV.mono e r
theorem RpO.lst {K : PySem.W.Frag} {G : Hp} {h : HO} {ds : List D} (r : RpO K G h (.l ds)) : ∃ vs, h = .lst vs ∧ RpAll K G vs ds := by
  cases h <;> first | exact ⟨_, rfl, r⟩ | exact False.elim r
theorem RpO.dct {K : PySem.W.Frag} {G : Hp} {h : HO} {es : List (Key × D)} (r : RpO K G h (.d es)) : ∃ vs, h = .dK vs ∧ RpKV K G vs es := by
  cases h <;> first | exact ⟨_, rfl, r⟩ | exact False.elim r
def RpB (b : Bool) (K : PySem.W.Frag) (G : Hp) (v : V) (d : D) : Prop := Rp K G v d ∨ (b = true ∧ ∃ a xs ds, v = .ref a ∧ d = .tuple ds ∧ SqT K G a xs ∧ RpAll K G xs ds)
theorem RpB.mono {b : Bool} {K : PySem.W.Frag} {G G' : Hp} {v : V} {d : D} (e : Same G G') (h : RpB b K G v d) : RpB b K G' v d := by
  rcases h with h | ⟨hb, a, xs, ds, h1, h2, h3, h4⟩
  · exact .inl (h.mono e)
  · exact .inr ⟨hb, a, xs, ds, h1, h2, sqT_mono e h3, h4.mono e⟩
theorem RpB.tup {b : Bool} {K : PySem.W.Frag} {G : Hp} {v : V} {ds : List D} (h : RpB b K G v (.tuple ds)) : ∃ a xs, v = .ref a ∧ SqT K G a xs ∧ RpAll K G xs ds := by
  rcases h with h | ⟨hb, a, xs, ds, h1, h2, h3, h4⟩
  · cases h with
    | tup h r => exact ⟨_, _, rfl, h.t, r⟩
  · cases h2; exact ⟨a, xs, h1, h3, h4⟩
theorem RpB.rp {K : PySem.W.Frag} {G : Hp} {v : V} {d : D} (h : RpB false K G v d) : Rp K G v d := by
  rcases h with h | ⟨hb, _⟩
  · exact h
  · cases hb
def SlOk (K : PySem.W.Frag) (O : List Addr) (H : Hp) : Sl → Option (Option V) → Prop
  | .un, _ => True
  | .dat d, o => ∃ v, o = some (some v) ∧ Rp K (Mask O H) v d
  | .ow ob, o => ∃ p ho, o = some (some (.ref p)) ∧ p ∈ O ∧ H p = some ho ∧ RpO K (Mask O H) ho ob
  | .scr ns, o => ∃ a, o = some (some (.ref a)) ∧ SqL K (Mask O H) a (ns.map V.int)
abbrev Frm := List (Addr × HO)
structure Rel (K : PySem.W.Frag) (F : Frm) (O : List Addr) (E : En) (σ : St) (H : Hp) : Prop where
  len : E.length = σ.length
  trk : Trk O H
  slot : ∀ (i : Nat) (s : Sl), E[i]? = some s → SlOk K O H s σ[i]?
  apart : ∀ (i j : Nat) (ds es : Ob) (p : Addr), E[i]? = some (.ow ds) → E[j]? = some (.ow es) → σ[i]? = some (some (.ref p)) → σ[j]? = some (some (.ref p)) → i = j
  frm : ∀ x ∈ F, x.1 ∈ O ∧ H x.1 = some x.2
  fap : ∀ (i : Nat) (ds : Ob) (p : Addr), E[i]? = some (.ow ds) → σ[i]? = some (some (.ref p)) → ∀ x ∈ F, x.1 ≠ p
theorem SlOk.grow {K : PySem.W.Frag} {O : List Addr} {H H' : Hp} (g : Grow O H H') : ∀ {s : Sl} {o : Option (Option V)}, SlOk K O H s o → SlOk K O H' s o
  | .un, _, _ => trivial
  | .dat d, o, ⟨v, e, r⟩ => ⟨v, e, r.mono g.le⟩
  | .ow ds, o, ⟨p, vs, e, hp, hh, r⟩ => ⟨p, vs, e, hp, by rw [g.keep p hp]; exact hh, r.mono g.le⟩
  | .scr ns, o, ⟨a, e, r⟩ => ⟨a, e, g.le.seq r⟩
theorem Rel.grow {K : PySem.W.Frag} {F : Frm} {O : List Addr} {E : En} {σ : St} {H H' : Hp} (R : Rel K F O E σ H) (g : Grow O H H') : Rel K F O E σ H' :=
  ⟨R.len, g.trk R.trk, fun i s e => (R.slot i s e).grow g, R.apart, fun x hx => ⟨(R.frm x hx).1, by rw [g.keep _ (R.frm x hx).1]; exact (R.frm x hx).2⟩, R.fap⟩

theorem Rel.ownL {K : PySem.W.Frag} {F : Frm} {O : List Addr} {E : En} {σ : St} {H : Hp} {i : Nat} {ds : List D} (R : Rel K F O E σ H) (h : E[i]? = some ((.ow (.l ds)))) : ∃ p vs, σ[i]? = some (some (.ref p)) ∧ p ∈ O ∧ H p = some (.lst vs) ∧ RpAll K (Mask O H) vs ds := by
  obtain ⟨p, ho, e, hp, hh, r⟩ := R.slot i _ h
  obtain ⟨vs, rfl, r⟩ := r.lst
  exact ⟨p, vs, e, hp, hh, r⟩
theorem Rel.ownD {K : PySem.W.Frag} {F : Frm} {O : List Addr} {E : En} {σ : St} {H : Hp} {i : Nat} {es : List (Key × D)} (R : Rel K F O E σ H) (h : E[i]? = some ((.ow (.d es)))) : ∃ p vs, σ[i]? = some (some (.ref p)) ∧ p ∈ O ∧ H p = some (.dK vs) ∧ RpKV K (Mask O H) vs es := by
  obtain ⟨p, ho, e, hp, hh, r⟩ := R.slot i _ h
  obtain ⟨vs, rfl, r⟩ := r.dct
  exact ⟨p, vs, e, hp, hh, r⟩
def ExR (K : PySem.W.Frag) (mg : Str → Option Value) (O : List Addr) (H : Hp) (x : Exc) (c : Value) (dd : Option Addr) : Prop :=
  (∃ C : Addr, c = .ref C ∧ PySem.W.nsIn K mainGlobals (xName x.cls) = some (some (.ref C))) ∧ x.cls < 17 ∧ match x.fld with
  | none => dd = none
  | some d => ∃ a v, dd = some a ∧ Mask O H a = some (.xd [(xFld x.cls, v)]) ∧ Rp K (Mask O H) v d

abbrev KD (K : PySem.W.Frag) (F : Frm) (σ : St) (O : List Addr) (H : Hp) (Q : VK) : D → En → Prop := fun d E' => ∀ O' v H', Rel K F O' E' σ H' → Le O H O' H' → Rp K (Mask O' H') v d → Q v H'
abbrev KB (K : PySem.W.Frag) (F : Frm) (σ : St) (O : List Addr) (H : Hp) (Q : Bool → Hp → Prop) : Bool → En → Prop := fun b E' => ∀ O' H', Rel K F O' E' σ H' → Le O H O' H' → Q b H'
abbrev KX (K : PySem.W.Frag) (mg : Str → Option Value) (F : Frm) (σ : St) (O : List Addr) (H : Hp) (W : WX) : Exc → En → Prop := fun x E' => ∀ O' H' c dd, Rel K F O' E' σ H' → Le O H O' H' → ExR K mg O' H' x c dd → W c dd σ H'
theorem KX.le {K : PySem.W.Frag} {mg : Str → Option Value} {F : Frm} {σ : St} {O O1 : List Addr} {H H1 : Hp} {W : WX} (l : Le O H O1 H1) : ∀ x E, KX K mg F σ O H W x E → KX K mg F σ O1 H1 W x E := fun x E h O' H' c dd R l' e => h O' H' c dd R (l.trans l') e

structure SE (X : Cx) (W : WX) (e : Expr) (t : TE) (m : M D) : Prop where
  pe : PE X e t
  rd : ∀ F O E σ H (Q : VK), Rel X.K F O E σ H → Sat (m E) (KD X.K F σ O H Q) (KX X.K X.mg F σ O H W) → t σ H Q
structure STt (X : Cx) (W : WX) (e : Expr) (t : TT) (m : M Bool) : Prop where
  pt : PT X e t
  rd : ∀ F O E σ H (Q : Bool → Hp → Prop), Rel X.K F O E σ H → Sat (m E) (KB X.K F σ O H Q) (KX X.K X.mg F σ O H W) → t σ H Q
structure SW (X : Cx) (W : WX) (e : Expr) (t : TT) (m : M Bool) : Prop where
  pw : PW X e t
  rd : ∀ F O E σ H (Q : Bool → Hp → Prop), Rel X.K F O E σ H → Sat (m E) (KB X.K F σ O H Q) (KX X.K X.mg F σ O H W) → t σ H Q
structure SA (X : Cx) (W : WX) (es : List Expr) (t : TA) (m : M (List D)) : Prop where
  pa : PA X es t
  rd : ∀ F O E σ H (Q : List V → Hp → Prop), Rel X.K F O E σ H → Sat (m E) (fun ds E' => ∀ O' vs H', Rel X.K F O' E' σ H' → Le O H O' H' → RpAll X.K (Mask O' H') vs ds → Q vs H') (KX X.K X.mg F σ O H W) → t σ H Q
end Bt
namespace Bt
open PySem L2

inductive Ag where
  | d (d : D)
  | r (i : Nat)
def AgV (K : PySem.W.Frag) (σ : L2.St) (O : List Addr) (H : Hp) (v : V) : Ag → Prop
  | .d d => Rp K (Mask O H) v d
  | .r i => σ[i]? = some (some v)
theorem AgV.le {K : PySem.W.Frag} {σ : L2.St} {O O' : List Addr} {H H' : Hp} {v : V} {a : Ag} (l : Le O H O' H') (h : AgV K σ O H v a) : AgV K σ O' H' v a := by
  cases a with
  | d d => exact Rp.mono l h
  | r i => exact h
def rsv (E : En) : Ag → Option D
  | .d d => some d
  | .r i => match E[i]? with
    | some (.dat d) => some d
    | some ((.ow (.l ds))) => some (.list ds)
    | _ => none
def Rq (K : PySem.W.Frag) (O : List Addr) (H : Hp) (v : V) (d : D) : Prop :=
  Rp K (Mask O H) v d ∨ ∃ p vs ds, v = .ref p ∧ d = .list ds ∧ H p = some (.lst vs) ∧ RpAll K (Mask O H) vs ds
section
variable {K : PySem.W.Frag} {O : List Addr} {H : Hp} {v : V}
theorem Rel.rsv {F : Frm} {E : En} {σ : L2.St} {a : Ag} {d : D} (R : Rel K F O E σ H) (h : AgV K σ O H v a) (e : rsv E a = some d) : Rq K O H v d := by
  cases a with
  | d d' => cases e; exact .inl h
  | r i =>
    unfold Bt.rsv at e
    dsimp only at e
    cases q : E[i]? with
    | none => rw [q] at e; cases e
    | some s =>
      rw [q] at e
      have z := R.slot i s q
      rw [show σ[i]? = some (some v) from h] at z
      cases s with
      | un => cases e
      | dat d' =>
        cases e
        obtain ⟨w, e1, r⟩ := z
        cases e1
        exact .inl r
      | ow o =>
        cases o with
        | d _ => cases e
        | l ds =>
          cases e
          obtain ⟨p, vs, e1, _, hp, r⟩ := R.ownL q
          rw [show σ[i]? = some (some v) from h] at e1
          cases e1
          exact .inr ⟨p, vs, ds, rfl, rfl, hp, r⟩
      | scr ns => cases e
theorem Rq.int {i : Int} (h : Rq K O H v (.int i)) : v = .int i := by
  rcases h with h | ⟨_, _, _, _, e, _⟩
  · cases h; rfl
  · cases e
theorem Rq.bool {b : Bool} (h : Rq K O H v (.bool b)) : v = .bl b := by
  rcases h with h | ⟨_, _, _, _, e, _⟩
  · cases h; rfl
  · cases e
theorem Rq.str {b : Str} (h : Rq K O H v (.str b)) : v = .str b := by
  rcases h with h | ⟨_, _, _, _, e, _⟩
  · cases h; rfl
  · cases e
theorem Rq.list {ds : List D} (h : Rq K O H v (.list ds)) : ∃ p vs, v = .ref p ∧ H p = some (.lst vs) ∧ RpAll K (Mask O H) vs ds := by
  rcases h with h | ⟨p, vs, _, e, e', h, r⟩
  · cases h with
    | lst h r => exact ⟨_, _, rfl, mask_le O H _ _ h, r⟩
  · cases e'; exact ⟨p, vs, e, h, r⟩
theorem Rq.tuple {ds : List D} (h : Rq K O H v (.tuple ds)) : ∃ p vs, v = .ref p ∧ SqT K H p vs ∧ RpAll K (Mask O H) vs ds ∧ Rp K (Mask O H) v (.tuple ds) := by
  rcases h with h | ⟨_, _, _, _, e, _⟩
  · have h' := h
    cases h with
    | tup h r => exact ⟨_, _, rfl, sqT_mono (mask_le O H) h.t, r, h'⟩
  · cases e
theorem Rq.dp {d : D} (h : Rq K O H v d) (c : d.canLay0 = true) : Dp K H v d := by
  rcases h with h | ⟨p, vs, ds, rfl, rfl, h, r⟩
  · exact (h.mono (mask_le O H)).dp c
  · exact .lst (SqL.of h) ((r.mono (mask_le O H)).dp (by simpa only [PyData.canLay0] using c))
theorem Rq.non {d : D} (h : Rq K O H v d) : decide (v = .non) = (match d with | .none => true | _ => false) := by
  rcases h with h | ⟨p, vs, ds, rfl, rfl, h, r⟩
  · cases h <;> rfl
  · rfl
theorem new_lst {vs : List V} {ds : List D} {p : Addr} (t : Trk O H) (r : RpAll K (Mask O H) vs ds) (hp : H p = none) : Grow O H (upd H p (.lst vs)) ∧ Rp K (Mask O (upd H p (.lst vs))) (.ref p) (.list ds) := by
  have g := Grow.new (o := .lst vs) t hp
  exact ⟨g, .lst (by rw [mask_out (trk_fresh t hp), upd_same]) (r.mono g.le)⟩
theorem new_tup {vs : List V} {ds : List D} {p : Addr} {o : Obj} (t : Trk O H) (r : RpAll K (Mask O H) vs ds) (hp : H p = none) (ho : o.dict = none) : Grow O H (upd H p (.frz o (.tup vs))) ∧ Rp K (Mask O (upd H p (.frz o (.tup vs)))) (.ref p) (.tuple ds) := by
  have g := Grow.new (o := .frz o (.tup vs)) t hp
  exact ⟨g, .tup (.inl ⟨o, by rw [mask_out (trk_fresh t hp), upd_same], ho⟩) (r.mono g.le)⟩
theorem new_tupW {vs : List V} {ds : List D} {p : Addr} (t : Trk O H) (r : RpAll K (Mask O H) vs ds) (hp : H p = none) : Grow O H (upd H p (.tup vs)) ∧ RpB true K (Mask O (upd H p (.tup vs))) (.ref p) (.tuple ds) := by
  have g := Grow.new (o := .tup vs) t hp
  exact ⟨g, .inr ⟨rfl, p, vs, ds, rfl, rfl, .inl (.inl (by rw [mask_out (trk_fresh t hp), upd_same])), r.mono g.le⟩⟩
end
abbrev KA (K : PySem.W.Frag) (F : Frm) (σ : L2.St) (O : List Addr) (H : Hp) (Q : VK) : Ag → En → Prop := fun a E' => ∀ O' v H', Rel K F O' E' σ H' → Le O H O' H' → AgV K σ O' H' v a → Q v H'
abbrev KAs (K : PySem.W.Frag) (F : Frm) (σ : L2.St) (O : List Addr) (H : Hp) (Q : List V → Hp → Prop) : List Ag → En → Prop := fun as E' => ∀ O' vs H', Rel K F O' E' σ H' → Le O H O' H' → Paired (AgV K σ O' H') vs as → Q vs H'
structure SO (X : Cx) (W : WX) (e : Expr) (t : TE) (m : M Ag) : Prop where
  pe : PE X e t
  rd : ∀ F O E σ H (Q : VK), Rel X.K F O E σ H → Sat (m E) (KA X.K F σ O H Q) (KX X.K X.mg F σ O H W) → t σ H Q
structure SOs (X : Cx) (W : WX) (es : List Expr) (t : TA) (m : M (List Ag)) : Prop where
  pa : PA X es t
  rd : ∀ F O E σ H (Q : List V → Hp → Prop), Rel X.K F O E σ H → Sat (m E) (KAs X.K F σ O H Q) (KX X.K X.mg F σ O H W) → t σ H Q
def mD (m : M D) : M Ag := bnd m fun d => ret (.d d)
def mR (i : Nat) : M Ag := fun E => match E[i]? with
  | some (.dat _) => .ok (.r i) E
  | some (.ow _) => .ok (.r i) E
  | some (.scr _) => .ok (.r i) E
  | _ => .bad
def mV (i : Nat) : M D := fun E => match E[i]? with
  | some (.dat d) => .ok d E
  | _ => .bad
section
variable {X : Cx} {W : WX} {e : Expr} {t : TE}
theorem SE.so {m : M D} (h : SE X W e t m) : SO X W e t (mD m) := ⟨h.pe, fun F O E σ H Q R s => h.rd F O E σ H Q R (s.bnd.mono (fun d E' k O' v H' R' l r => k O' v H' R' l r) (fun _ _ k => k))⟩
theorem se_var {i : Nat} {x : Str} {pos : Pos} (h : PE X (.Name x pos) (tVar i)) : SE X W (.Name x pos) (tVar i) (mV i) := by
  refine ⟨h, fun F O E σ H Q R s => ?_⟩
  unfold mV at s
  cases q : E[i]? with
  | none => rw [q] at s; exact s.elim
  | some z =>
    rw [q] at s
    cases z with
    | dat d =>
      obtain ⟨v, e, r⟩ := R.slot i _ q
      exact ⟨v, e, s O v H R (Le.refl O H) r⟩
    | un => exact s.elim
    | ow _ => exact s.elim
    | scr _ => exact s.elim
theorem so_var {i : Nat} {x : Str} {pos : Pos} (h : PE X (.Name x pos) (tVar i)) : SO X W (.Name x pos) (tVar i) (mR i) := by
  refine ⟨h, fun F O E σ H Q R s => ?_⟩
  unfold mR at s
  cases q : E[i]? with
  | none => rw [q] at s; exact s.elim
  | some z =>
    rw [q] at s
    have z0 := R.slot i _ q
    cases z with
    | dat d =>
      obtain ⟨v, e, r⟩ := z0
      exact ⟨v, e, s O v H R (Le.refl O H) e⟩
    | un => exact s.elim
    | ow _ =>
      obtain ⟨p, vs, e, _⟩ := z0
      exact ⟨_, e, s O _ H R (Le.refl O H) e⟩
    | scr _ =>
      obtain ⟨p, e, _⟩ := z0
      exact ⟨_, e, s O _ H R (Le.refl O H) e⟩
theorem sos_nil : SOs X W [] tNil (ret []) := ⟨pa_nil, fun F O E σ H Q R s => s O [] H R (Le.refl O H) .nil⟩
def mCons (m : M Ag) (ms : M (List Ag)) : M (List Ag) := bnd m fun a => bnd ms fun as => ret (a :: as)
theorem sos_cons {es : List Expr} {ts : TA} {m : M Ag} {ms : M (List Ag)} (pa : PE X e t → PA X es ts → PA X (e :: es) (tCons t ts)) (h : SO X W e t m) (hs : SOs X W es ts ms) : SOs X W (e :: es) (tCons t ts) (mCons m ms) := by
  refine ⟨pa h.pe hs.pa, fun F O E σ H Q R s => h.rd F O E σ H _ R (s.bnd.mono (fun a E1 k O1 v H1 R1 l1 av => ?_) (fun _ _ k => k))⟩
  refine hs.rd F O1 E1 σ H1 _ R1 (k.bnd.mono (fun as E2 k2 O2 vs H2 R2 l2 avs => ?_) (KX.le l1))
  exact k2 O2 (v :: vs) H2 R2 (l1.trans l2) (.cons (av.le l2) avs)
end
end Bt
namespace Bt
open PySem L2
section
open PySem.Spec PyProof.Rows
theorem tuple_mul1 (l : Addr) (items : Array Value) (n : Nat) (dd : Option Addr) (sl : Array (Option Value)) (x : Int) (u : Tok) (c0 : (decide (x < -(2 ^ 63)) || decide (x ≥ 2 ^ 63)) = false) (c1 : (items.isEmpty || x == 1) = true) :
    Meets (Builtin.«tuple.__mul__» ⟨[.ref l, .int x u], []⟩) (fun _ R s => s.heap.get? l = some { cls := .type "tuple", dict := dd, data := .seq items n, slots := sl } ∧ R (.ok (.ret (Value.ref l))) s) :=
  .of_wp fun prog w A R s h => by
    obtain ⟨hp, g, d, tk, os⟩ := s
    obtain ⟨hl, h⟩ := h
    have f1 := AutoSeq1.idx_int
    wp_walk using wpAny_loadPart' hl
    repeat (first
      | (refine wpAny_ite_false (decide_eq_false (by rw [c0]; exact Bool.false_ne_true)) ?_; wp_walk using wpAny_loadPart' hl)
      | (refine wpAny_ite_true (decide_eq_true (by rw [c1])) ?_; wp_walk using wpAny_loadPart' hl))
    exact ⟨_, rfl, h⟩
theorem tuple_mul0 (l : Addr) (items : Array Value) (n : Nat) (dd : Option Addr) (sl : Array (Option Value)) (x : Int) (u : Tok) (c0 : (decide (x < -(2 ^ 63)) || decide (x ≥ 2 ^ 63)) = false) (c1 : (items.isEmpty || x == 1) = false) (c2 : (decide (x ≤ 0) || items.isEmpty) = true) :
    Meets (Builtin.«tuple.__mul__» ⟨[.ref l, .int x u], []⟩) (fun _ R s => s.heap.get? l = some { cls := .type "tuple", dict := dd, data := .seq items n, slots := sl } ∧
      R (.ok (.ret (Value.ref s.heap.objs.size))) { s with heap := s.heap.push { cls := Value.type "tuple", data := Data.seq #[] }, toks := s.toks }) :=
  .of_wp fun prog w A R s h => by
    obtain ⟨hp, g, d, tk, os⟩ := s
    obtain ⟨hl, h⟩ := h
    have f1 := AutoSeq1.idx_int
    wp_walk using wpAny_loadPart' hl
    repeat (first
      | (refine wpAny_ite_false (decide_eq_false (by rw [c0]; exact Bool.false_ne_true)) ?_; wp_walk using wpAny_loadPart' hl)
      | (refine wpAny_ite_false (decide_eq_false (by rw [c1]; exact Bool.false_ne_true)) ?_; wp_walk using wpAny_loadPart' hl)
      | (refine wpAny_ite_true (decide_eq_true (by rw [c2])) ?_; wp_walk using wpAny_loadPart' hl))
    exact ⟨_, rfl, h⟩
end
section
open PySem.Spec PyProof.Rows
variable {X : Cx}
def rRepP (K : PySem.W.Frag) : R2 := fun x y H Q => ∃ l k xs, x = .ref l ∧ y = .int k ∧ SqT K H l xs ∧ -1000 ≤ k ∧ k ≤ 1000 ∧ xs.length ≤ 1000 ∧ (xs = [] ∨ k = 1 → Q (.ref l) H) ∧ (xs ≠ [] → k ≠ 1 → ∀ p o, H p = none → o.dict = none → Q (.ref p) (upd H p (.frz o (.tup (List.replicate k.toNat xs).flatten))))
theorem op_repP : OpR X (binaryOp .Mult) (rRepP X.K) := by
  intro pins s σ H x y v u Q I rx ry h
  obtain ⟨l, k, xs, rfl, rfl, hT, h0, h2, hz, q1, q2⟩ := h
  cases rx
  obtain ⟨t, rfl⟩ := ry
  obtain ⟨its, r, ⟨⟨cls, dd, data, sl⟩, ho, hc, n, hd⟩, hs⟩ := I.tuple hT
  simp only at hc hd
  subst hc hd
  have hle : its.length = xs.length := r.length.symm
  have c0 : (decide (k < -(2 ^ 63)) || decide (k ≥ 2 ^ 63)) = false := by
    rw [decide_eq_false (by omega), decide_eq_false (by omega)] <;> rfl
  by_cases hk : xs = [] ∨ k = 1
  · have c1 : (its.toArray.isEmpty || k == 1) = true := by
      rcases hk with rfl | rfl
      · have : its = [] := List.eq_nil_of_length_eq_zero (by rw [hle]; rfl)
        subst this
        rfl
      · simp
    refine wpAny_binaryOp_repeat_ref (T := "tuple") (U := "int") (by decide) ⟨_, ho, rfl⟩ (fun s' => typeIs_int s' k t) noFill_tuple_mul F.fills_int_mul F.slot_int_rmul repeat_tuple F.slot_int_index.lookup
      (call_meets F.slot_int_rmul (typeIs_int s k t) F.entry_int_rmul (F.args_int_rmul_2 _ _) (int_rmul_tuple k t l its.toArray n dd sl)
        ⟨ho, rfl, ⟨_, ho, rfl⟩, call_meets F.slot_tuple_mul ⟨_, ho, rfl⟩ F.entry_tuple_mul (F.args_tuple_mul_2 _ _) (tuple_mul1 l its.toArray n dd sl k t c0 c1) ⟨ho, ?_⟩⟩)
    exact ⟨.ref l, H, I, rfl, q1 hk⟩
  · have hne : xs ≠ [] := fun e => hk (.inl e)
    have hk1 : k ≠ 1 := fun e => hk (.inr e)
    have hn : its ≠ [] := fun e => hne (by
      rw [e] at hle
      exact List.eq_nil_of_length_eq_zero hle.symm)
    have hi : its.toArray.isEmpty = false := by
      cases its with
      | nil => exact absurd rfl hn
      | cons a b => rfl
    have c1 : (its.toArray.isEmpty || k == 1) = false := by
      rw [hi, Bool.false_or]
      exact beq_eq_false_iff_ne.mpr hk1
    by_cases h1 : k ≤ 0
    · have c2 : (decide (k ≤ 0) || its.toArray.isEmpty) = true := by rw [decide_eq_true h1]; rfl
      refine wpAny_binaryOp_repeat_ref (T := "tuple") (U := "int") (by decide) ⟨_, ho, rfl⟩ (fun s' => typeIs_int s' k t) noFill_tuple_mul F.fills_int_mul F.slot_int_rmul repeat_tuple F.slot_int_index.lookup
        (call_meets F.slot_int_rmul (typeIs_int s k t) F.entry_int_rmul (F.args_int_rmul_2 _ _) (int_rmul_tuple k t l its.toArray n dd sl)
          ⟨ho, rfl, ⟨_, ho, rfl⟩, call_meets F.slot_tuple_mul ⟨_, ho, rfl⟩ F.entry_tuple_mul (F.args_tuple_mul_2 _ _) (tuple_mul0 l its.toArray n dd sl k t c0 c1 c2) ⟨ho, ?_⟩⟩)
      have hq := q2 hne hk1
      rw [show k.toNat = 0 by omega, List.replicate_zero, List.flatten_nil] at hq
      exact ⟨.ref s.heap.objs.size, _, laidP (tk := s.toks) (xs := []) (its := []) I (Nat.zero_le _) .nil, rfl, hq _ _ (I.hok.fresh (Nat.le_refl _)) rfl⟩
    · have hsz0 : its.toArray.size = xs.length := by rw [List.size_toArray, hle]
      have hm : ((its.toArray.size : Nat) : Int) * k ≤ 1000000 := by
        rw [hsz0]
        have a1 : ((xs.length : Nat) : Int) * k ≤ 1000 * k := Int.mul_le_mul_of_nonneg_right (by omega) (by omega)
        omega
      have flen : (List.replicate k.toNat its).flatten.length ≤ sizeLine := by
        rw [PyProof.Rows.lm_len_rep_flat, hle, sizeLine_eq]
        have a1 : k.toNat * xs.length ≤ 1000 * 1000 := Nat.mul_le_mul (by omega) hz
        omega
      have c2 : (decide (k ≤ 0) || its.toArray.isEmpty) = false := by
        rw [hi, Bool.or_false]
        exact decide_eq_false (by omega)
      have c4 : Builtin.Tuple.tupleTooMany (((its.toArray.size : Nat) : Int) * k) = false := by
        unfold Builtin.Tuple.tupleTooMany
        rw [sizeLine_eq]
        exact decide_eq_false (by omega)
      refine wpAny_binaryOp_repeat_ref (T := "tuple") (U := "int") (by decide) ⟨_, ho, rfl⟩ (fun s' => typeIs_int s' k t) noFill_tuple_mul F.fills_int_mul F.slot_int_rmul repeat_tuple F.slot_int_index.lookup
        (call_meets F.slot_int_rmul (typeIs_int s k t) F.entry_int_rmul (F.args_int_rmul_2 _ _) (int_rmul_tuple k t l its.toArray n dd sl)
          ⟨ho, rfl, ⟨_, ho, rfl⟩, call_meets F.slot_tuple_mul ⟨_, ho, rfl⟩ F.entry_tuple_mul (F.args_tuple_mul_2 _ _) (tuple_mulW l its.toArray n dd sl k t c0 c1 c2 (by omega) c4 (by rw [size_rep, List.size_toArray]; exact flen)) ⟨ho, ?_⟩⟩)
      rw [size_rep]
      exact ⟨.ref s.heap.objs.size, _, laidP (tk := s.toks) (xs := (List.replicate k.toNat xs).flatten) I (by rw [(r.rep k.toNat).length]; exact flen) (r.rep k.toNat), rfl, q2 hne hk1 _ _ (I.hok.fresh (Nat.le_refl _)) rfl⟩
end
end Bt
namespace Bt
open PySem L2

def okI (i : Int) : Bool := decide (i.natAbs.log2 < 9000)
def LIM : Nat := 100000
theorem lim_le {n : Nat} (h : n ≤ LIM) : n ≤ sizeLine := Nat.le_trans h (by decide)
theorem lim_lt {n : Nat} (h : n < LIM) : n < sizeLine := Nat.lt_of_lt_of_le h (by decide)
noncomputable def repOk (n : Nat) (k : Int) : Bool := @decide (k ≤ 100000 ∧ -100000 ≤ k ∧ n * k.toNat ≤ 100000) (Classical.propDecidable _)
theorem repOk_iff {n : Nat} {k : Int} : repOk n k = true ↔ k ≤ 100000 ∧ -100000 ≤ k ∧ n * k.toNat ≤ 100000 := by
  unfold repOk
  exact @decide_eq_true_iff _ (Classical.propDecidable _)
noncomputable def repT (n : Nat) (k : Int) : Bool := @decide (-1000 ≤ k ∧ k ≤ 1000 ∧ n ≤ 1000) (Classical.propDecidable _)
theorem repT_iff {n : Nat} {k : Int} : repT n k = true ↔ -1000 ≤ k ∧ k ≤ 1000 ∧ n ≤ 1000 := by
  unfold repT
  exact @decide_eq_true_iff _ (Classical.propDecidable _)
def addD : D → D → Option D
  | .int i, .int j => some (.int (i + j))
  | .list a, .list b => if a.length + b.length ≤ LIM then some (.list (a ++ b)) else none
  | .tuple a, .tuple b => if a.length + b.length ≤ LIM then some (.tuple (a ++ b)) else none
  | .str a, .str b => if a.length + b.length ≤ LIM then some (.str (a ++ b)) else none
  | _, _ => none
def subD : D → D → Option D
  | .int i, .int j => some (.int (i - j))
  | _, _ => none
noncomputable def mulD : D → D → Option D
  | .int i, .int j => if okI i && okI j then some (.int (i * j)) else none
  | .list a, .int k => if repOk a.length k then some (.list (List.replicate k.toNat a).flatten) else none
  | .tuple a, .int k => if repT a.length k then some (.tuple (List.replicate k.toNat a).flatten) else none
  | _, _ => none
def fdivD : D → D → Option D
  | .int i, .int j => if decide (0 < j) && okI j then some (.int (i / j)) else none
  | _, _ => none
def modD : D → D → Option D
  | .int i, .int j => if 0 < j then some (.int (i % j)) else none
  | _, _ => none
def powD : D → D → Option D
  | .int i, .int j => if decide (0 ≤ j) && decide (j ≤ 1000000) && decide (i.natAbs < 2 ^ 64) then some (.int (i ^ j.toNat)) else none
  | _, _ => none
def ltD : D → D → Option D
  | .int i, .int j => some (.bool (decide (i < j)))
  | _, _ => none
def leD : D → D → Option D
  | .int i, .int j => some (.bool (decide (i ≤ j)))
  | _, _ => none
def gtD : D → D → Option D
  | .int i, .int j => some (.bool (decide (j < i)))
  | _, _ => none
def geD : D → D → Option D
  | .int i, .int j => some (.bool (decide (j ≤ i)))
  | _, _ => none
def eqD (d e : D) : Option D := if SeqAt.shaped d && SeqAt.shaped e then some (.bool (PyData.eqv d e)) else none
def neD (d e : D) : Option D := if SeqAt.shaped d && SeqAt.shaped e then some (.bool (!PyData.eqv d e)) else none
def isNone : D → Bool
  | .none => true
  | _ => false
def isD (d e : D) : Option D := match e with
  | .none => some (.bool (isNone d))
  | _ => none
def isntD (d e : D) : Option D := match e with
  | .none => some (.bool (!isNone d))
  | _ => none
def flatD : D → Bool
  | .none | .bool _ | .int _ | .str _ => true
  | _ => false
def signOf : D → Option Nat
  | .str x => match x.cps.toList with
    | [c] => some c
    | _ => none
  | _ => none
theorem signOf_eq {d : D} {c : Nat} (h : signOf d = some c) : d = .str ⟨#[c]⟩ := by
  unfold signOf at h
  split at h
  · rename_i x
    split at h
    · rename_i c' e
      cases h
      obtain ⟨a⟩ := x
      have e2 : a.toList = [c] := e
      rw [show a = #[c] from Array.toList_inj.mp (by rw [e2])]
    · cases h
  · cases h
def inD (d e : D) : Option D := match e with
  | .str z => (signOf d).map fun c => .bool (decide (c ∈ z.cps.toList))
  | .list ds => if flatD d && ds.all flatD then some (.bool (ds.any fun y => PyData.eqv y d)) else none
  | .tuple ds => if flatD d && ds.all flatD then some (.bool (ds.any fun y => PyData.eqv y d)) else none
  | _ => none
def ixD : D → D → Option D
  | .list ds, .int i => atI ds i
  | .tuple ds, .int i => atI ds i
  | .str z, .int i => if z.length ≤ LIM then (atI z.cps.toList i).map fun c => .str ⟨#[c]⟩ else none
  | _, _ => none
def cutD (xs : List D) (lo hi : Option Int) : List D := (xs.drop (HT.sIx xs.length 0 lo)).take (HT.sIx xs.length xs.length hi - HT.sIx xs.length 0 lo)

def ROk (K : PySem.W.Frag) (r : R2) (f : D → D → Option D) : Prop := ∀ O H x y d e z Q, Trk O H → Rq K O H x d → Rq K O H y e → f d e = some z → (∀ v H', Grow O H H' → Rp K (Mask O H') v z → Q v H') → r x y H Q
def COk (K : PySem.W.Frag) (r : List V → Hp → VK → Prop) (f : List D → Option D) : Prop := ∀ O H vs ds z Q, Trk O H → Paired (Rq K O H) vs ds → f ds = some z → (∀ v H', Grow O H H' → Rp K (Mask O H') v z → Q v H') → r vs H Q
section
variable {K : PySem.W.Frag}
def rAddS : R2 := fun x y H Q => ∃ i j, x = .str i ∧ y = .str j ∧ i.length + j.length ≤ sizeLine ∧ Q (.str (i ++ j)) H
def rAdd (K : PySem.W.Frag) : R2 := fun x y H Q => (rI0 fun i j => .int (i + j)) x y H Q ∨ (rCat x y H Q ∨ (rCatP K x y H Q ∨ rAddS x y H Q))
theorem op_Add {X : Cx} : OpR X (binaryOp .Add) (rAdd X.K) := op_add.or (op_cat.or (op_catP.or op_add_str))
theorem ok_add : ROk K (rAdd K) addD := by
  intro O H x y d e z Q t hx hy hf q
  unfold addD at hf
  split at hf
  · cases hf
    exact .inl ⟨_, _, hx.int, hy.int, q _ H (Grow.refl O H) (.int _)⟩
  · rename_i a b
    split at hf
    · rename_i hl
      cases hf
      obtain ⟨p, vs, rfl, hp, r1⟩ := hx.list
      obtain ⟨p2, ws, rfl, hp2, r2⟩ := hy.list
      refine .inr (.inl ⟨p, p2, vs, ws, rfl, rfl, hp, hp2, by rw [r1.length, r2.length]; exact lim_le hl, fun l nl => ?_⟩)
      obtain ⟨g, r⟩ := new_lst t (r1.append r2) nl
      exact q _ _ g r
    · cases hf
  · rename_i a b
    split at hf
    · rename_i hl
      cases hf
      obtain ⟨p, vs, rfl, hp, r1, rr1⟩ := hx.tuple
      obtain ⟨p2, ws, rfl, hp2, r2, rr2⟩ := hy.tuple
      refine .inr (.inr (.inl ⟨p, p2, vs, ws, rfl, rfl, hp, hp2, by rw [r1.length, r2.length]; exact lim_le hl, fun e => ?_, fun _ e => ?_, fun _ _ l o nl ho => ?_⟩))
      · subst e
        have ea : a = [] := List.eq_nil_of_length_eq_zero (by rw [← r1.length]; rfl)
        subst ea
        exact q _ _ (Grow.refl O H) rr2
      · subst e
        have ea : b = [] := List.eq_nil_of_length_eq_zero (by rw [← r2.length]; rfl)
        subst ea
        rw [List.append_nil] at q
        exact q _ _ (Grow.refl O H) rr1
      · obtain ⟨g, r⟩ := new_tup t (r1.append r2) nl ho
        exact q _ _ g r
    · cases hf
  · split at hf
    · rename_i hl
      cases hf
      exact .inr (.inr (.inr ⟨_, _, hx.str, hy.str, lim_le hl, q _ H (Grow.refl O H) (.str _)⟩))
    · cases hf
  · cases hf
theorem ok_sub : ROk K (rI0 fun i j => .int (i - j)) subD := by
  intro O H x y d e z Q t hx hy hf q
  unfold subD at hf
  split at hf
  · cases hf
    exact ⟨_, _, hx.int, hy.int, q _ H (Grow.refl O H) (.int _)⟩
  · cases hf
def rMul (K : PySem.W.Frag) : R2 := fun x y H Q => (rI CMulW fun i j => .int (i * j)) x y H Q ∨ (rRep x y H Q ∨ rRepP K x y H Q)
theorem op_Mul {X : Cx} : OpR X (binaryOp .Mult) (rMul X.K) := op_mulW.or (op_rep.or op_repP)
theorem ok_mul : ROk K (rMul K) mulD := by
  intro O H x y d e z Q t hx hy hf q
  unfold mulD at hf
  split at hf
  · split at hf
    · rename_i hl
      cases hf
      rw [Bool.and_eq_true] at hl
      refine .inl ⟨_, _, hx.int, hy.int, ?_, q _ H (Grow.refl O H) (.int _)⟩
      have h1 := of_decide_eq_true hl.1
      have h2 := of_decide_eq_true hl.2
      unfold CMulW
      omega
    · cases hf
  · rename_i a k
    split at hf
    · rename_i hl
      cases hf
      obtain ⟨h1, h2, h3⟩ := repOk_iff.mp hl
      have e0 : LIM = 100000 := rfl
      obtain ⟨p, vs, rfl, hp, r1⟩ := hx.list
      refine .inr (.inl ⟨p, k, vs, rfl, hy.int, hp, by omega, by omega, by rw [r1.length]; exact lim_le h3, fun l nl => ?_⟩)
      obtain ⟨g, r⟩ := new_lst t (r1.repeat k.toNat) nl
      exact q _ _ g r
    · cases hf
  · rename_i a k
    split at hf
    · rename_i hl
      cases hf
      obtain ⟨h1, h2, h3⟩ := repT_iff.mp hl
      obtain ⟨p, vs, rfl, hp, r1, rr⟩ := hx.tuple
      refine .inr (.inr ⟨p, k, vs, rfl, hy.int, hp, h1, h2, by rw [r1.length]; exact h3, fun hk => ?_, fun _ _ l o nl ho => ?_⟩)
      · have e : (List.replicate k.toNat a).flatten = a := by
          rcases hk with rfl | rfl
          · have ea : a = [] := List.eq_nil_of_length_eq_zero (by rw [← r1.length]; rfl)
            subst ea
            simp
          · simp
        rw [e] at q
        exact q _ _ (Grow.refl O H) rr
      · obtain ⟨g, r⟩ := new_tup t (r1.repeat k.toNat) nl ho
        exact q _ _ g r
    · cases hf
  · cases hf
theorem ok_fdiv : ROk K (rI CDivW fun i j => .int (i / j)) fdivD := by
  intro O H x y d e z Q t hx hy hf q
  unfold fdivD at hf
  split at hf
  · split at hf
    · rename_i hl
      cases hf
      rw [Bool.and_eq_true] at hl
      exact ⟨_, _, hx.int, hy.int, ⟨of_decide_eq_true hl.1, of_decide_eq_true hl.2⟩, q _ H (Grow.refl O H) (.int _)⟩
    · cases hf
  · cases hf
theorem ok_mod : ROk K (rI (fun _ j => 0 < j) fun i j => .int (i % j)) modD := by
  intro O H x y d e z Q t hx hy hf q
  unfold modD at hf
  split at hf
  · split at hf
    · rename_i hl
      cases hf
      exact ⟨_, _, hx.int, hy.int, hl, q _ H (Grow.refl O H) (.int _)⟩
    · cases hf
  · cases hf
theorem ok_pow : ROk K (rI CPow fun i j => .int (i ^ j.toNat)) powD := by
  intro O H x y d e z Q t hx hy hf q
  unfold powD at hf
  split at hf
  · split at hf
    · rename_i hl
      cases hf
      rw [Bool.and_eq_true, Bool.and_eq_true] at hl
      exact ⟨_, _, hx.int, hy.int, ⟨of_decide_eq_true hl.1.1, of_decide_eq_true hl.1.2, of_decide_eq_true hl.2⟩, q _ H (Grow.refl O H) (.int _)⟩
    · cases hf
  · cases hf
theorem ok_lt : ROk K (rI0 fun i j => .bl (decide (i < j))) ltD := by
  intro O H x y d e z Q t hx hy hf q
  unfold ltD at hf
  split at hf
  · cases hf
    exact ⟨_, _, hx.int, hy.int, q _ H (Grow.refl O H) (.bl _)⟩
  · cases hf
theorem ok_le : ROk K (rI0 fun i j => .bl (decide (i ≤ j))) leD := by
  intro O H x y d e z Q t hx hy hf q
  unfold leD at hf
  split at hf
  · cases hf
    exact ⟨_, _, hx.int, hy.int, q _ H (Grow.refl O H) (.bl _)⟩
  · cases hf
theorem ok_gt : ROk K (rI0 fun i j => .bl (decide (j < i))) gtD := by
  intro O H x y d e z Q t hx hy hf q
  unfold gtD at hf
  split at hf
  · cases hf
    exact ⟨_, _, hx.int, hy.int, q _ H (Grow.refl O H) (.bl _)⟩
  · cases hf
theorem ok_ge : ROk K (rI0 fun i j => .bl (decide (j ≤ i))) geD := by
  intro O H x y d e z Q t hx hy hf q
  unfold geD at hf
  split at hf
  · cases hf
    exact ⟨_, _, hx.int, hy.int, q _ H (Grow.refl O H) (.bl _)⟩
  · cases hf
theorem ok_eq : ROk K (rEqD K) eqD := by
  intro O H x y d e z Q t hx hy hf q
  unfold eqD at hf
  split at hf
  · rename_i hl
    cases hf
    rw [Bool.and_eq_true] at hl
    exact ⟨d, e, hx.dp (SeqAt.canLay_of_shaped hl.1), hy.dp (SeqAt.canLay_of_shaped hl.2), hl.1, hl.2, q _ H (Grow.refl O H) (.bl _)⟩
  · cases hf
theorem ok_ne : ROk K (rNeD K) neD := by
  intro O H x y d e z Q t hx hy hf q
  unfold neD at hf
  split at hf
  · rename_i hl
    cases hf
    rw [Bool.and_eq_true] at hl
    exact ⟨d, e, hx.dp (SeqAt.canLay_of_shaped hl.1), hy.dp (SeqAt.canLay_of_shaped hl.2), hl.1, hl.2, q _ H (Grow.refl O H) (.bl _)⟩
  · cases hf
theorem Rq.isNone {O : List Addr} {H : Hp} {v : V} {d : D} (h : Rq K O H v d) : decide (v = .non) = Bt.isNone d := by
  rw [h.non]
  cases d <;> rfl
theorem ok_is : ROk K (fun x y H Q => y = .non ∧ Q (.bl (decide (x = .non))) H) isD := by
  intro O H x y d e z Q t hx hy hf q
  unfold isD at hf
  split at hf
  · cases hf
    rcases hy with hy | ⟨_, _, _, _, e, _⟩
    · cases hy
      exact ⟨rfl, q _ H (Grow.refl O H) (by rw [hx.isNone]; exact .bl _)⟩
    · cases e
  · cases hf
theorem Rp.flat {G : Hp} {v : V} {d : D} (h : Rp K G v d) (f : flatD d = true) : flatV v = true := by
  cases h <;> first | rfl | exact absurd f Bool.false_ne_true
theorem Rp.eqv {G : Hp} {v u : V} {d e : D} (h : Rp K G v d) (h2 : Rp K G u e) (f : flatD d = true) (f2 : flatD e = true) : eqV v u = PyData.eqv d e := by
  cases h <;> cases h2 <;> first | exact absurd f Bool.false_ne_true | exact absurd f2 Bool.false_ne_true | rfl | simp [eqV, PyData.eqv]
theorem Rq.rp {O : List Addr} {H : Hp} {v : V} {d : D} (h : Rq K O H v d) (f : flatD d = true) : Rp K (Mask O H) v d := by
  rcases h with h | ⟨_, _, _, _, e, _⟩
  · exact h
  · subst e; exact absurd f Bool.false_ne_true
theorem RpAll.flat {G : Hp} : ∀ {vs : List V} {ds : List D}, RpAll K G vs ds → ds.all flatD = true → vs.all flatV = true
  | _, _, .nil, _ => rfl
  | _, _, .cons h r, f => by
    rw [List.all_cons, Bool.and_eq_true] at f
    rw [List.all_cons, h.flat f.1, RpAll.flat r f.2]
    rfl
theorem RpAll.inV {G : Hp} {x : V} {d : D} (hx : Rp K G x d) (fx : flatD d = true) : ∀ {vs : List V} {ds : List D}, RpAll K G vs ds → ds.all flatD = true → L2.inV x vs = ds.any fun y => PyData.eqv y d
  | _, _, .nil, _ => rfl
  | _, _, .cons h r, f => by
    rw [List.all_cons, Bool.and_eq_true] at f
    have ih := RpAll.inV hx fx r f.2
    unfold L2.inV at ih ⊢
    rw [List.any_cons, List.any_cons, ih, h.eqv hx f.1 fx]
def rInB (K : PySem.W.Frag) : R2 := fun x y H Q => rIn K false x y H Q ∨ ∃ (c : Nat) (z : Str), x = .str ⟨#[c]⟩ ∧ y = .str z ∧ Q (.bl (decide (c ∈ z.cps.toList))) H
theorem ok_in : ROk K (rInB K) inD := by
  intro O H x y d e z Q t hx hy hf q
  unfold inD at hf
  split at hf
  · cases es : signOf d with
    | none => rw [es] at hf; cases hf
    | some c =>
      rw [es] at hf
      cases hf
      have ed := signOf_eq es
      subst ed
      exact .inr ⟨c, _, hx.str, hy.str, q _ H (Grow.refl O H) (.bl _)⟩
  · split at hf
    · rename_i hl
      cases hf
      rw [Bool.and_eq_true] at hl
      obtain ⟨p, vs, rfl, hp, r1⟩ := hy.list
      refine .inl ⟨p, vs, rfl, .inl (SqL.of hp), (hx.rp hl.1).flat hl.1, r1.flat hl.2, ?_⟩
      have := r1.inV (hx.rp hl.1) hl.1 hl.2
      exact q _ H (Grow.refl O H) (by rw [this]; exact .bl _)
    · cases hf
  · split at hf
    · rename_i hl
      cases hf
      rw [Bool.and_eq_true] at hl
      obtain ⟨p, vs, rfl, hp, r1, _⟩ := hy.tuple
      refine .inl ⟨p, vs, rfl, .inr hp, (hx.rp hl.1).flat hl.1, r1.flat hl.2, ?_⟩
      have := r1.inV (hx.rp hl.1) hl.1 hl.2
      exact q _ H (Grow.refl O H) (by rw [this]; exact .bl _)
    · cases hf
  · cases hf
theorem RpAll.atI {G : Hp} {vs : List V} {ds : List D} {i : Int} {d : D} (r : RpAll K G vs ds) (h : L2.atI ds i = some d) : ∃ v, L2.atI vs i = some v ∧ Rp K G v d := by
  unfold L2.atI at h ⊢
  rw [r.length]
  cases e : ixN ds.length i with
  | none => rw [e] at h; cases h
  | some j =>
    rw [e] at h
    obtain ⟨v, h1, h2⟩ := r.get' (show ds[j]? = some d from h)
    exact ⟨v, h1, h2⟩
def rIxB (K : PySem.W.Frag) : R2 := fun x y H Q => rIxL K x y H Q ∨ (rIxT K x y H Q ∨ rIxS x y H Q)
theorem ix_B {X : Cx} : IxR X (rIxB X.K) := ix_list.or (ix_tup.or ix_str)
theorem ok_ix : ROk K (rIxB K) ixD := by
  intro O H x y d e z Q t hx hy hf q
  unfold ixD at hf
  split at hf
  · obtain ⟨p, vs, rfl, hp, r1⟩ := hx.list
    obtain ⟨v, h1, h2⟩ := r1.atI hf
    exact .inl ⟨p, vs, _, v, rfl, hy.int, SqL.of hp, h1, q v H (Grow.refl O H) h2⟩
  · obtain ⟨p, vs, rfl, hp, r1, _⟩ := hx.tuple
    obtain ⟨v, h1, h2⟩ := r1.atI hf
    exact .inr (.inl ⟨p, vs, _, v, rfl, hy.int, hp, h1, q v H (Grow.refl O H) h2⟩)
  · split at hf
    · rename_i w i hl
      cases e1 : L2.atI w.cps.toList i with
      | none => rw [e1] at hf; cases hf
      | some c =>
        rw [e1] at hf
        cases hf
        exact .inr (.inr ⟨w, i, c, hx.str, hy.int, lim_le hl, e1, q _ H (Grow.refl O H) (.str _)⟩)
    · cases hf
  · cases hf
end

def mOp (f : D → D → Option D) (ma mb : M Ag) : M D := bnd ma fun a => bnd mb fun b => fun E => match rsv E a, rsv E b with
  | some x, some y => lift (f x y) E
  | _, _ => .bad
section
variable {X : Cx} {W : WX} {a b c : Expr} {ta tb tc : TE} {ma mb mc : M Ag}
theorem op_rd {r : R2} {f : D → D → Option D} (ha : SO X W a ta ma) (hb : SO X W b tb mb) (hr : ROk X.K r f) : ∀ F O E σ H (Q : VK), Rel X.K F O E σ H → Sat (mOp f ma mb E) (KD X.K F σ O H Q) (KX X.K X.mg F σ O H W) → tOp r ta tb σ H Q := by
  intro F O E σ H Q R s
  refine ha.rd F O E σ H _ R (s.bnd.mono (fun a1 E1 k O1 v H1 R1 l1 av => ?_) (fun _ _ k => k))
  refine hb.rd F O1 E1 σ H1 _ R1 (k.bnd.mono (fun b1 E2 k2 O2 u H2 R2 l2 bv => ?_) (KX.le l1))
  cases ea : rsv E2 a1 with
  | none => rw [ea] at k2; exact k2.elim
  | some x =>
    cases eb : rsv E2 b1 with
    | none => rw [ea, eb] at k2; exact k2.elim
    | some y =>
      rw [ea, eb] at k2
      obtain ⟨z, hz, k3⟩ := Sat.lift k2
      refine hr O2 H2 v u x y z Q R2.trk (R2.rsv (av.le l2) ea) (R2.rsv bv eb) hz fun w H3 g rw3 => ?_
      exact k3 O2 w H3 (R2.grow g) ((l1.trans l2).trans g.le) rw3
theorem se_op {op : Operator} {pos : Pos} {r : R2} {f : D → D → Option D} (ho : OpR X (binaryOp op) r) (hr : ROk X.K r f) (ha : SO X W a ta ma) (hb : SO X W b tb mb) : SE X W (.BinOp a op b pos) (tOp r ta tb) (mOp f ma mb) :=
  ⟨pe_op ho ha.pe hb.pe, op_rd ha hb hr⟩
theorem se_cmp {op : CmpOp} {pos : Pos} {r : R2} {f : D → D → Option D} (ho : OpR X (compareOp op) r) (hr : ROk X.K r f) (hm : behindInMarks op b = false) (ha : SO X W a ta ma) (hb : SO X W b tb mb) : SE X W (.Compare a [op] [b] pos) (tOp r ta tb) (mOp f ma mb) :=
  ⟨pe_cmpR ho ha.pe hb.pe hm, op_rd ha hb hr⟩
theorem se_ix {pos : Pos} (hs : PlainIx b) (ha : SO X W a ta ma) (hb : SO X W b tb mb) : SE X W (.Subscript a b pos) (tOp (rIxB X.K) ta tb) (mOp ixD ma mb) :=
  ⟨pe_ix ix_B ha.pe hb.pe hs, op_rd ha hb ok_ix⟩
def asB : D → M Bool
  | .bool b => ret b
  | _ => stuck
theorem st_val {e : Expr} {t : TE} {m : M D} (h : SE X W e t m) (he : ∀ whole, isTrue e X.env whole = (do let v ← whole; standAt e.pos; holding [v] (truthy v)) := by intro _; rfl) : STt X W e (tB t) (bnd m asB) := by
  refine ⟨pt_val h.pe he, fun F O E σ H Q R s => h.rd F O E σ H _ R (s.bnd.mono (fun d E1 k O1 v H1 R1 l1 r => ?_) (fun _ _ k => k))⟩
  cases d <;> first | (exact k.elim) | skip
  cases r
  exact ⟨_, rfl, k O1 H1 R1 l1⟩
theorem st_cmp {op : CmpOp} {pos : Pos} {r : R2} {f : D → D → Option D} (ho : OpR X (compareOp op) r) (hr : ROk X.K r f) (hm : behindInMarks op b = false) (ha : SO X W a ta ma) (hb : SO X W b tb mb) : STt X W (.Compare a [op] [b] pos) (tTest (tOp r ta tb)) (bnd (mOp f ma mb) asB) := by
  refine ⟨pt_cmpR ho ha.pe hb.pe hm, fun F O E σ H Q R s => op_rd ha hb hr F O E σ H _ R (s.bnd.mono (fun d E1 k O1 v H1 R1 l1 r => ?_) (fun _ _ k => k))⟩
  cases d <;> first | (exact k.elim) | skip
  cases r
  exact ⟨_, rfl, k O1 H1 R1 l1⟩
def mChain (f g : D → D → Option D) (ma mb mc : M Ag) : M D := bnd ma fun a => bnd mb fun b => fun E => match rsv E a, rsv E b with
  | some x, some y => match f x y with
    | some (.bool true) => (bnd mc fun c => fun E => match rsv E b, rsv E c with
      | some y, some z => lift (g y z) E
      | _, _ => .bad) E
    | some (.bool false) => .ok (.bool false) E
    | _ => .bad
  | _, _ => .bad
end
end Bt
namespace Bt
open PySem L2

section
variable {X : Cx} {W : WX} {a b c e : Expr} {ta tb tc t : TE} {ma mb mc m : M D}

theorem se_c {v : V} {d : D} (h : PE X e (tC v)) (r : ∀ G, Rp X.K G v d) : SE X W e (tC v) (ret d) := ⟨h, fun F O E σ H Q R s => s O v H R (Le.refl O H) (r _)⟩
theorem se_int {i : Int} {j : Nat} {pos : Pos} : SE X W (.Constant (.int i) j pos) (tC (.int i)) (ret (.int i)) := se_c pe_int fun _ => .int _
theorem se_bl {i : Bool} {j : Nat} {pos : Pos} : SE X W (.Constant (.bool i) j pos) (tC (.bl i)) (ret (.bool i)) := se_c pe_bl fun _ => .bl _
theorem se_non {j : Nat} {pos : Pos} : SE X W (.Constant .none j pos) (tC .non) (ret .none) := se_c pe_non fun _ => .non
theorem se_str {i : Str} {j : Nat} {pos : Pos} : SE X W (.Constant (.str i) j pos) (tC (.str i)) (ret (.str i)) := se_c pe_str fun _ => .str _
def mNeg (m : M Ag) : M D := bnd m fun a => fun E => match rsv E a with
  | some (.int i) => .ok (.int (-i)) E
  | _ => .bad
theorem se_neg {m : M Ag} {pos : Pos} (h : SO X W e t m) : SE X W (.UnaryOp .USub e pos) (tUn (rU fun i => .int (-i)) t) (mNeg m) := by
  refine ⟨pe_un un_neg h.pe, fun F O E σ H Q R s => h.rd F O E σ H _ R (s.bnd.mono (fun a E1 k O1 v H1 R1 l1 av => ?_) (fun _ _ k => k))⟩
  cases ea : rsv E1 a with
  | none => rw [ea] at k; exact k.elim
  | some x =>
    rw [ea] at k
    have rq := R1.rsv av ea
    cases x <;> first | exact k.elim | skip
    exact ⟨_, rq.int, k O1 _ H1 R1 l1 (.int _)⟩

theorem sa_nil : SA X W [] tNil (ret []) := ⟨pa_nil, fun F O E σ H Q R s => s O [] H R (Le.refl O H) .nil⟩
def mConsD (m : M D) (ms : M (List D)) : M (List D) := bnd m fun a => bnd ms fun as => ret (a :: as)
theorem sa_cons {es : List Expr} {ts : TA} {ms : M (List D)} (h : SE X W e t m) (hs : SA X W es ts ms) (hst : starEach (e :: es) X.env = (false, eval e X.env) :: starEach es X.env := by rfl) : SA X W (e :: es) (tCons t ts) (mConsD m ms) := by
  refine ⟨pa_cons h.pe hs.pa hst, fun F O E σ H Q R s => h.rd F O E σ H _ R (s.bnd.mono (fun a E1 k O1 v H1 R1 l1 r1 => ?_) (fun _ _ k => k))⟩
  refine hs.rd F O1 E1 σ H1 _ R1 (k.bnd.mono (fun as E2 k2 O2 vs H2 R2 l2 r2 => ?_) (KX.le l1))
  exact k2 O2 (v :: vs) H2 R2 (l1.trans l2) (.cons (r1.mono l2) r2)
def mTup (ms : M (List D)) : M D := bnd ms fun ds => fun E => if ds.length ≤ LIM then .ok (.tuple ds) E else .bad
def mLst (ms : M (List D)) : M D := bnd ms fun ds => fun E => if ds.length ≤ LIM then .ok (.list ds) E else .bad
theorem se_tup {es : List Expr} {ts : TA} {ms : M (List D)} {k : Nat} {pos : Pos} (h : SA X W es ts ms) : SE X W (.Tuple es k pos) (tTupP ts) (mTup ms) := by
  refine ⟨pe_tupP h.pa, fun F O E σ H Q R s => h.rd F O E σ H _ R (s.bnd.mono (fun ds E1 k O1 vs H1 R1 l1 r1 => ?_) (fun _ _ k => k))⟩
  split at k
  · rename_i hl
    refine ⟨by rw [r1.length]; exact lim_le hl, fun p o np ho => ?_⟩
    obtain ⟨g, r⟩ := new_tup R1.trk r1 np ho
    exact k O1 _ _ (R1.grow g) (l1.trans g.le) r
  · exact k.elim
theorem se_lst {es : List Expr} {ts : TA} {ms : M (List D)} {pos : Pos} (h : SA X W es ts ms) : SE X W (.List es pos) (tLst ts) (mLst ms) := by
  refine ⟨pe_lst h.pa, fun F O E σ H Q R s => h.rd F O E σ H _ R (s.bnd.mono (fun ds E1 k O1 vs H1 R1 l1 r1 => ?_) (fun _ _ k => k))⟩
  split at k
  · rename_i hl
    refine ⟨by rw [r1.length]; exact lim_le hl, fun p np => ?_⟩
    obtain ⟨g, r⟩ := new_lst R1.trk r1 np
    exact k O1 _ _ (R1.grow g) (l1.trans g.le) r
  · exact k.elim

def mIf {α : Type} (mt : M Bool) (x y : M α) : M α := bnd mt fun b => if b then x else y
theorem se_if {tt : TT} {mt : M Bool} {pos : Pos} (hc : STt X W c tt mt) (ha : SE X W a ta ma) (hb : SE X W b tb mb) : SE X W (.IfExp c a b pos) (tIf tt ta tb) (mIf mt ma mb) := by
  refine ⟨pe_ifExp hc.pt ha.pe hb.pe, fun F O E σ H Q R s => hc.rd F O E σ H _ R (s.bnd.mono (fun b E1 k O1 H1 R1 l1 => ?_) (fun _ _ k => k))⟩
  cases b with
  | true =>
    show ta σ H1 Q
    exact ha.rd F O1 E1 σ H1 Q R1 (Sat.mono k (fun d E2 k2 O2 v H2 R2 l2 r => k2 O2 v H2 R2 (l1.trans l2) r) (KX.le l1))
  | false =>
    show tb σ H1 Q
    exact hb.rd F O1 E1 σ H1 Q R1 (Sat.mono k (fun d E2 k2 O2 v H2 R2 l2 r => k2 O2 v H2 R2 (l1.trans l2) r) (KX.le l1))
def mAnd (x y : M Bool) : M Bool := bnd x fun b => if b then y else ret false
def mOr (x y : M Bool) : M Bool := bnd x fun b => if b then ret true else y
def mNot (x : M Bool) : M Bool := bnd x fun b => ret (!b)
theorem sw_and1 {tt : TT} {mt : M Bool} {pos : Pos} (h : STt X W a tt mt) : SW X W (.BoolOp .And [a] pos) tt mt := ⟨pw_and1 h.pt, h.rd⟩
theorem sw_or1 {tt : TT} {mt : M Bool} {pos : Pos} (h : STt X W a tt mt) : SW X W (.BoolOp .Or [a] pos) tt mt := ⟨pw_or1 h.pt, h.rd⟩
theorem sw_and {rest : List Expr} {tt tu : TT} {mt mu : M Bool} {pos : Pos} (ha : STt X W a tt mt) (hb : SW X W (.BoolOp .And (b :: rest) pos) tu mu) : SW X W (.BoolOp .And (a :: b :: rest) pos) (tAnd tt tu) (mAnd mt mu) := by
  refine ⟨pw_and ha.pt hb.pw, fun F O E σ H Q R s => ha.rd F O E σ H _ R (s.bnd.mono (fun b E1 k O1 H1 R1 l1 => ?_) (fun _ _ k => k))⟩
  cases b with
  | true =>
    show tu σ H1 Q
    exact hb.rd F O1 E1 σ H1 Q R1 (Sat.mono k (fun d E2 k2 O2 H2 R2 l2 => k2 O2 H2 R2 (l1.trans l2)) (KX.le l1))
  | false =>
    show Q false H1
    exact k O1 H1 R1 l1
theorem sw_or {rest : List Expr} {tt tu : TT} {mt mu : M Bool} {pos : Pos} (ha : STt X W a tt mt) (hb : SW X W (.BoolOp .Or (b :: rest) pos) tu mu) : SW X W (.BoolOp .Or (a :: b :: rest) pos) (tOr tt tu) (mOr mt mu) := by
  refine ⟨pw_or ha.pt hb.pw, fun F O E σ H Q R s => ha.rd F O E σ H _ R (s.bnd.mono (fun b E1 k O1 H1 R1 l1 => ?_) (fun _ _ k => k))⟩
  cases b with
  | true =>
    show Q true H1
    exact k O1 H1 R1 l1
  | false =>
    show tu σ H1 Q
    exact hb.rd F O1 E1 σ H1 Q R1 (Sat.mono k (fun d E2 k2 O2 H2 R2 l2 => k2 O2 H2 R2 (l1.trans l2)) (KX.le l1))
theorem SW.st {tt : TT} {mt : M Bool} (h : SW X W e tt mt) : STt X W e tt mt := ⟨h.pw.pt, h.rd⟩
theorem st_not {tt : TT} {mt : M Bool} {pos : Pos} (h : STt X W a tt mt) : STt X W (.UnaryOp .Not a pos) (tNot tt) (mNot mt) :=
  ⟨pt_not h.pt, fun F O E σ H Q R s => h.rd F O E σ H _ R (s.bnd.mono (fun _ _ k O1 H1 R1 l1 => k O1 H1 R1 l1) (fun _ _ k => k))⟩
def mAndV (x y : M D) : M D := bnd x fun d => match d with
  | .bool true => y
  | .bool false => ret (.bool false)
  | _ => stuck
def mOrV (x y : M D) : M D := bnd x fun d => match d with
  | .bool true => ret (.bool true)
  | .bool false => y
  | _ => stuck
def mNotV (x : M D) : M D := bnd x fun d => match d with
  | .bool b => ret (.bool (!b))
  | _ => stuck
theorem se_one {op : BoolOp} {pos : Pos} (h : SE X W a ta ma) : SE X W (.BoolOp op [a] pos) ta ma := ⟨pe_one h.pe, h.rd⟩
theorem se_and {rest : List Expr} {pos : Pos} (ha : SE X W a ta ma) (hb : SE X W (.BoolOp .And (b :: rest) pos) tb mb) : SE X W (.BoolOp .And (a :: b :: rest) pos) (tAndV ta tb) (mAndV ma mb) := by
  refine ⟨pe_and ha.pe hb.pe, fun F O E σ H Q R s => ha.rd F O E σ H _ R (s.bnd.mono (fun d E1 k O1 v H1 R1 l1 r => ?_) (fun _ _ k => k))⟩
  cases d with
  | bool z =>
    cases r
    cases z with
    | true =>
      refine ⟨true, rfl, ?_⟩
      show tb σ H1 Q
      exact hb.rd F O1 E1 σ H1 Q R1 (Sat.mono k (fun d E2 k2 O2 v H2 R2 l2 r => k2 O2 v H2 R2 (l1.trans l2) r) (KX.le l1))
    | false => exact ⟨false, rfl, k O1 _ H1 R1 l1 (.bl _)⟩
  | _ => exact k.elim
theorem se_not {pos : Pos} (ha : SE X W a ta ma) : SE X W (.UnaryOp .Not a pos) (tNotV ta) (mNotV ma) := by
  refine ⟨pe_not ha.pe, fun F O E σ H Q R s => ha.rd F O E σ H _ R (s.bnd.mono (fun d E1 k O1 v H1 R1 l1 r => ?_) (fun _ _ k => k))⟩
  cases d with
  | bool z => cases r; exact ⟨z, rfl, k O1 _ H1 R1 l1 (.bl _)⟩
  | _ => exact k.elim

def mPart : Option (M D) → M (Option Int)
  | none => ret none
  | some m => bnd m fun d => match d with
    | .int i => ret (some i)
    | _ => stuck
structure SP (X : Cx) (W : WX) (e : Option Expr) (t : TO) (m : M (Option Int)) : Prop where
  po : PO X e t
  rd : ∀ F O E σ H (Q : Option Int → Hp → Prop), Rel X.K F O E σ H → Sat (m E) (fun o E' => ∀ O' H', Rel X.K F O' E' σ H' → Le O H O' H' → Q o H') (KX X.K X.mg F σ O H W) → t σ H Q
theorem sp_none : SP X W none tNoPart (mPart none) := ⟨po_none, fun F O E σ H Q R s => s O H R (Le.refl O H)⟩
theorem sp_some (h : SE X W e t m) : SP X W (some e) (tPart t) (mPart (some m)) := by
  refine ⟨po_some h.pe, fun F O E σ H Q R s => h.rd F O E σ H _ R (s.bnd.mono (fun d E1 k O1 v H1 R1 l1 r => ?_) (fun _ _ k => k))⟩
  cases d with
  | int i => cases r; exact ⟨i, rfl, k O1 H1 R1 l1⟩
  | _ => exact k.elim
def slD (lo hi : Option Int) : D → Option D
  | .list ds => some (.list (cutD ds lo hi))
  | .tuple ds => some (.tuple (cutD ds lo hi))
  | _ => none
def mSl (ma : M Ag) (ml mh : M (Option Int)) : M D := bnd ma fun a => bnd ml fun lo => bnd mh fun hi => fun E => match rsv E a with
  | some d => lift (slD lo hi d) E
  | none => .bad
def rSlB (K : PySem.W.Frag) : V → Option Int → Option Int → Hp → VK → Prop := fun x lo hi H Q => rSlL K x lo hi H Q ∨ rSlP K x lo hi H Q
theorem RpAll.cut {K : PySem.W.Frag} {G : Hp} {vs : List V} {ds : List D} (r : RpAll K G vs ds) (lo hi : Option Int) : RpAll K G (cutV vs lo hi) (cutD ds lo hi) := by
  unfold cutV cutD
  rw [r.length]
  exact (r.drop _).take _
theorem cutD_whole {ds : List D} {lo hi : Option Int} (h : HT.sIx ds.length 0 lo = 0 ∧ HT.sIx ds.length ds.length hi = ds.length) : cutD ds lo hi = ds := by
  unfold cutD
  rw [h.1, h.2, List.drop_zero, Nat.sub_zero, List.take_length]
theorem se_sl {lo hi : Option Expr} {tl th : TO} {ml mh : M (Option Int)} {m : M Ag} {p2 pos : Pos} (h : SO X W e t m) (hl : SP X W lo tl ml) (hh : SP X W hi th mh) : SE X W (.Subscript e (.Slice lo hi none p2) pos) (tSl (rSlB X.K) t tl th) (mSl m ml mh) := by
  refine ⟨pe_slice (sl_list.or sl_tupP) h.pe hl.po hh.po, fun F O E σ H Q R s => h.rd F O E σ H _ R (s.bnd.mono (fun a E1 k O1 v H1 R1 l1 av => ?_) (fun _ _ k => k))⟩
  refine hl.rd F O1 E1 σ H1 _ R1 (k.bnd.mono (fun lo E2 k2 O2 H2 R2 l2 => ?_) (KX.le l1))
  refine hh.rd F O2 E2 σ H2 _ R2 (k2.bnd.mono (fun hi E3 k3 O3 H3 R3 l3 => ?_) (KX.le (l1.trans l2)))
  cases ea : rsv E3 a with
  | none => rw [ea] at k3; exact k3.elim
  | some x =>
    rw [ea] at k3
    obtain ⟨z, hz, k4⟩ := Sat.lift k3
    have rq := R3.rsv (av.le (l2.trans l3)) ea
    have ll : Le O H O3 H3 := (l1.trans l2).trans l3
    cases x <;> first | (cases hz; done) | skip
    · cases hz
      obtain ⟨p, vs, rfl, hp, r1⟩ := rq.list
      refine .inl ⟨p, vs, rfl, SqL.of hp, fun q nq => ?_⟩
      obtain ⟨g, r⟩ := new_lst R3.trk (r1.cut lo hi) nq
      exact k4 O3 _ _ (R3.grow g) (ll.trans g.le) r
    · cases hz
      obtain ⟨p, vs, rfl, hp, r1, rr⟩ := rq.tuple
      refine .inr ⟨p, vs, rfl, hp, fun hw => ?_, fun _ q o nq ho => ?_⟩
      · rw [r1.length] at hw
        rw [cutD_whole hw] at k4
        exact k4 O3 _ _ R3 ll rr
      · obtain ⟨g, r⟩ := new_tup R3.trk (r1.cut lo hi) nq ho
        exact k4 O3 _ _ (R3.grow g) (ll.trans g.le) r

def rsvs (E : En) : List Ag → Option (List D)
  | [] => some []
  | a :: as => match rsv E a, rsvs E as with
    | some d, some ds => some (d :: ds)
    | _, _ => none
theorem Rel.rsvs {K : PySem.W.Frag} {F : Frm} {O : List Addr} {H : Hp} {E : En} {σ : L2.St} (R : Rel K F O E σ H) : ∀ {vs : List V} {as : List Ag} {ds : List D}, Paired (AgV K σ O H) vs as → rsvs E as = some ds → Paired (Rq K O H) vs ds
  | _, _, _, .nil, e => by cases e; exact .nil
  | _, _, ds, .cons h r, e => by
    unfold Bt.rsvs at e
    split at e
    · rename_i d ds' e1 e2
      cases e
      exact .cons (R.rsv h e1) (Rel.rsvs R r e2)
    · cases e
def mB (f : List D → Option D) (ms : M (List Ag)) : M D := bnd ms fun as => fun E => match rsvs E as with
  | some ds => lift (f ds) E
  | none => .bad
theorem cb_rd {es : List Expr} {ts : TA} {ms : M (List Ag)} {r : List V → Hp → VK → Prop} {f : List D → Option D} (h : SOs X W es ts ms) (hr : COk X.K r f) : ∀ F O E σ H (Q : VK), Rel X.K F O E σ H → Sat (mB f ms E) (KD X.K F σ O H Q) (KX X.K X.mg F σ O H W) → tCB r ts σ H Q := by
  intro F O E σ H Q R s
  refine h.rd F O E σ H _ R (s.bnd.mono (fun as E1 k O1 vs H1 R1 l1 av => ?_) (fun _ _ k => k))
  cases ea : rsvs E1 as with
  | none => rw [ea] at k; exact k.elim
  | some ds =>
    rw [ea] at k
    obtain ⟨z, hz, k2⟩ := Sat.lift k
    exact hr O1 H1 vs ds z Q R1.trk (R1.rsvs av ea) hz fun w H2 g r2 => k2 O1 w H2 (R1.grow g) (l1.trans g.le) r2
end
end Bt
namespace Bt
open PySem PySem.Calls PyProof.Rows PySem.W PySem.SeqAt
theorem call_tuple_lt {A : Around} {s : Shared} {prog : Program} {w : World} {E : Value → Shared → Prop} {Q : Value → Shared → Prop} {l b : Addr} {items items2 : Array Value} {e r : Nat → Bool} (hl : s.heap.IsTuple l items) (hb : s.heap.IsTuple b items2)
    (he : ∀ j (h1 : j < items.size) (h2 : j < items2.size), EqAt A.in1 s items[j] items2[j] (e j)) (hr : ∀ j (h1 : j < items.size) (h2 : j < items2.size), e j = false → RcLt A.in1 s items[j] items2[j] (r j))
    (h : Q (.bool (firstLt e r (decide (items.size < items2.size)) (List.range (min items.size items2.size)))) s) : wpAny (model prog w) A (call (.builtin "tuple.__lt__") [.ref l, .ref b]) Q E s := by
  obtain ⟨⟨cls, dd, data, sl⟩, ho, hc, n, hd⟩ := id hl
  obtain ⟨⟨cls2, dd2, data2, sl2⟩, ho2, hc2, n2, hd2⟩ := id hb
  simp only at hc hd hc2 hd2
  subst hc hd hc2 hd2
  exact call_meets F.slot_tuple_lt ⟨_, ho, rfl⟩ F.entry_tuple_lt (F.args_tuple_lt_2 _ _) (tuple_ltAt l b items items2 n n2 dd dd2 sl sl2 e r) ⟨ho, ho2, he, hr, h⟩
section
variable {prog : Program} {w : World} {A : Around} {E : Value → Shared → Prop} {s : Shared}
theorem oneLt_tup {xs ys : List PyData} {a b : Value} {as bs : List Addr} {Q : Bool → Shared → Prop} (ra : Reads s.heap a (.tuple xs) as) (rb : Reads s.heap b (.tuple ys) bs) (hal : alikeAll xs ys = true)
    (hu : A.units + min (PyData.tuple xs).depth (PyData.tuple ys).depth < cLine) (hq : Q (dataLt (.tuple xs) (.tuple ys)) s) : wpAny (model prog w) A (oneLt' true a b) Q E s := by
  cases ra with
  | @tuple l o vs n _ as₁ h1 h2 h3 h4 =>
    cases rb with
    | @tuple l' o' vs' n' _ bs₁ k1 k2 k3 k4 =>
      have n1 : vs.size = xs.length := by simpa using ReadsAll.length _ _ _ h4
      have n2 : vs'.size = ys.length := by simpa using ReadsAll.length _ _ _ k4
      rw [dataLt_tuple, ← firstLt_toks xs ys hal, ← n1, ← n2] at hq
      rw [oneLt'_eq]
      simp only [if_true]
      refine wpAny_bind (wpAny_cRoomFor (room_here hu) ?_)
      refine wpAny_bind (wpAny_callSpecialIfBound?_slot (T := "tuple") ⟨_, h1, h2⟩ F.slot_tuple_lt (call_tuple_lt (e := pairEq xs ys) (r := fun j => dataLt (xs.getD j .none) (ys.getD j .none)) ⟨_, h1, h2, _, h3⟩ ⟨_, k1, k2, _, k3⟩ (fun j j1 j2 => ?_) (fun j j1 j2 hj => ?_) ?_))
      · have := eqAt_alikeAll xs ys A.in1 s vs.toList vs'.toList _ _ h4 k4 hal (room_in hu) j (by simpa using j1) (by simpa using j2)
        simpa using this
      · have := rcLt_alikeAll xs ys A.in1 s vs.toList vs'.toList _ _ h4 k4 hal (room_in hu) j (by simpa using j1) (by simpa using j2) hj
        simpa using this
      · exact wpAny_truthy_bool hq
def Sort0 (ds : List PyData) : Prop := (∃ r, ds = .tuple [] :: r) ∧ ∀ d ∈ ds, ∃ xs, d = .tuple xs
theorem firsts_any {M : Model} : ∀ (vs : List Value) {ds : List PyData} {Q : List (Option Value) → Shared → Prop}, EachIs (fun v d => ∃ as, Reads s.heap v d as) vs ds → (∀ d ∈ ds, ∃ xs, d = .tuple xs) → (∀ bs : List (Option Value), bs.length = vs.length → (∀ r, ds = .tuple [] :: r → ∃ bs', bs = none :: bs') → Q bs s) → wpAny M A (vs.mapM firstOfTuple') Q E s
  | [], _, _, .nil, _, h => by rw [List.mapM_nil]; exact wpAny_pure (h [] rfl fun r e => by cases e)
  | v :: vs, d :: ds, Q, .cons ⟨as, r⟩ t, ht, h => by
    rw [List.mapM_cons]
    refine wpAny_bind ?_
    rw [kas_first_eq]
    obtain ⟨xs, rfl⟩ := ht d List.mem_cons_self
    refine wpAny_bind ((looks_reads (M := M) r).here ?_)
    have q : (dataType (.tuple xs) != Value.type "tuple") = false := by simp [dataType]
    rw [q]
    simp only [Bool.false_eq_true, if_false]
    cases r with
    | @tuple a o ws n _ _ ho hc hd hr =>
      refine wpAny_bind (listItems_at ho hd (wpAny_pure ?_))
      refine wpAny_bind (firsts_any vs (Q := fun bs s' => wpAny M A (pure (ws[0]? :: bs)) Q E s') t (fun d hd => ht d (List.mem_cons_of_mem _ hd)) fun bs hl _ => wpAny_pure (h _ (by rw [List.length_cons, List.length_cons, hl]) fun r e => ?_))
      cases e
      have : ws.toList = [] := by cases q : ws.toList with
        | nil => rfl
        | cons f fr => rw [q] at hr; cases hr
      exact ⟨bs, by rw [show ws[0]? = none by rw [← Array.getElem?_toList, this]; rfl]⟩
theorem kind0 {M : Model} {vs : List Value} {ds : List PyData} {Q : SortKind → Shared → Prop} (e : EachIs (fun v d => ∃ as, Reads s.heap v d as) vs ds) (h0 : Sort0 ds) (h : Q oneType' s) : wpAny M A (keyKind' vs.toArray) Q E s := by
  obtain ⟨⟨r, er⟩, ht⟩ := h0
  rw [keyKind'_eq, List.mapM_toArray, map_eq_pure_bind]
  refine wpAny_bind (wpAny_bind (firsts_any vs e ht fun bs hl hb => wpAny_pure ?_))
  obtain ⟨bs', rfl⟩ := hb r er
  rw [if_neg (by simp), if_neg (by simp)]
  rw [oneTypeOnly'_eq, List.mapM_toArray, map_eq_pure_bind]
  refine wpAny_bind (wpAny_bind (wpAny_bind (kas_mapM (r := Value.type "tuple") _ (fun v hv Q' hq => ?_) (wpAny_pure ?_))))
  · obtain ⟨d, hd, as, rd⟩ := e.left v hv
    obtain ⟨xs, rfl⟩ := ht d hd
    exact (looks_reads (M := M) rd).here hq
  · have hall : ((List.map (fun _ => Value.type "tuple") vs).toArray.all fun x => x == Value.type "tuple") = true := by
      simp only [List.all_toArray, List.all_map, List.all_eq_true]
      intro _ _
      exact beq_self_eq_true _
    obtain ⟨v, vr, rfl⟩ : ∃ v vr, vs = v :: vr := by
      cases vs with
      | nil => rw [er] at e; cases e
      | cons v vr => exact ⟨v, vr, rfl⟩
    have h0 : (List.map (fun _ => Value.type "tuple") (v :: vr)).toArray[0]? = some (Value.type "tuple") := by simp
    rw [h0]
    simp only [hall, if_true]
    exact wpAny_pure (wpAny_pure h)
theorem SortsAt.data0 {vs : List Value} {ds : List PyData} (e : EachIs (fun v d => ∃ as, Reads s.heap v d as) vs ds) (hal : AllAlike ds) (hk : Sort0 ds) (hu : ∀ d, d ∈ ds → A.units + d.depth < cLine) : SortsAt prog w A s (dataKind s.heap ds) vs := by
  have room : ∀ {d d' : PyData}, d ∈ ds → A.units + min d.depth d'.depth < cLine := fun {d d'} hd => Nat.lt_of_le_of_lt (Nat.add_le_add_left (Nat.min_le_left _ _) _) (hu d hd)
  refine ⟨fun v hv => ?_, oneType', ?_, fun h2 E Q hq => kind0 e hk hq⟩
  · obtain ⟨d, hd, as, r⟩ := e.left v hv
    exact ⟨_, dataKind_some hal hd r⟩
  · intro E x y a b Q ha hb hq
    obtain ⟨d, as, hd, ra, rfl⟩ := dataKind_inv ha
    obtain ⟨d', as', hd', rb, rfl⟩ := dataKind_inv hb
    have hdd := hal d hd d' hd'
    have hroom := room (d' := d') hd
    obtain ⟨xs, rfl⟩ := hk.2 d hd
    obtain ⟨ys, rfl⟩ := hk.2 d' hd'
    rw [keyLt'_oneType]
    exact oneLt_tup ra rb (by simpa [alike] using hdd) hroom hq
theorem SortsAt.dataB {vs : List Value} {ds : List PyData} (e : EachIs (fun v d => ∃ as, Reads s.heap v d as) vs ds) (hal : AllAlike ds) (hk : Sortable ds ∨ Sort0 ds) (hu : ∀ d, d ∈ ds → A.units + d.depth < cLine) : SortsAt prog w A s (dataKind s.heap ds) vs :=
  hk.elim (fun k => PySem.W.SortsAt.data e hal k hu) (fun k => SortsAt.data0 e hal k hu)
end
end Bt
namespace Bt
open PySem L2
section
variable {X : Cx} {W : WX} {a b c e : Expr} {ta tb tc t : TE} {ma mb mc m : M D}
theorem se_callB {es : List Expr} {ts : TA} {ms : M (List Ag)} {r : List V → Hp → VK → Prop} {f : List D → Option D} {id : String} {x : Str} {p pos : Pos} (hc : CallR X (.builtin id) r) (hr : COk X.K r f) (hg : Gl X x) (hm : X.mg x = none) (hv : bootBuiltins x = some (.builtin id)) (h : SOs X W (e :: es) ts ms)
    (hn : x ≠ "__name__" := by decide) (hdb : (x == ("__debug__" : Str)) = false := by decide) (he : starEach (e :: es) X.env = (false, eval e X.env) :: starEach es X.env := by rfl) (hpl : (backTo pos (starEach es X.env)).any (·.1) = false := by rfl) : SE X W (.Call (.Name x p) (e :: es) [] pos) (tCB r ts) (mB f ms) :=
  ⟨pe_callB hc hg hm hv h.pa hn hdb he hpl, cb_rd h hr⟩
theorem se_callTy {es : List Expr} {ts : TA} {ms : M (List Ag)} {r : List V → Hp → VK → Prop} {f : List D → Option D} {T : String} {x : Str} {p pos : Pos} (hc : CallR X (.type T) r) (hr : COk X.K r f) (hg : Gl X x) (hm : X.mg x = none) (hv : bootBuiltins x = some (.type T)) (h : SOs X W (e :: es) ts ms)
    (hn : x ≠ "__name__" := by decide) (hdb : (x == ("__debug__" : Str)) = false := by decide) (he : starEach (e :: es) X.env = (false, eval e X.env) :: starEach es X.env := by rfl) (hpl : (backTo pos (starEach es X.env)).any (·.1) = false := by rfl) : SE X W (.Call (.Name x p) (e :: es) [] pos) (tCB r ts) (mB f ms) :=
  ⟨pe_callTy hc hg hm hv h.pa hn hdb he hpl, cb_rd h hr⟩
theorem paired1 {α β : Type} {F : α → β → Prop} {xs : List α} {y : β} (h : Paired F xs [y]) : ∃ x, xs = [x] ∧ F x y := by
  cases h with
  | cons h r => cases r; exact ⟨_, rfl, h⟩
theorem paired2 {α β : Type} {F : α → β → Prop} {xs : List α} {y z : β} (h : Paired F xs [y, z]) : ∃ x w, xs = [x, w] ∧ F x y ∧ F w z := by
  cases h with
  | cons h r =>
    cases r with
    | cons h2 r => cases r; exact ⟨_, _, rfl, h, h2⟩
end
def lenF : List D → Option D
  | [.list ds] => some (.int (ds.length : Nat))
  | [.tuple ds] => some (.int (ds.length : Nat))
  | [.str z] => if z.length ≤ LIM then some (.int (z.length : Nat)) else none
  | _ => none
def intsOf : List D → Option (List Int)
  | [] => some []
  | .int i :: ds => (intsOf ds).map (i :: ·)
  | _ => none
def boolsOf : List D → Option (List Bool)
  | [] => some []
  | .bool i :: ds => (boolsOf ds).map (i :: ·)
  | _ => none
theorem intsOf_eq : ∀ {ds : List D} {ns : List Int}, intsOf ds = some ns → ds = ns.map .int
  | [], ns, h => by cases h; rfl
  | d :: ds, ns, h => by
    unfold intsOf at h
    cases d <;> first | (cases h; done) | skip
    dsimp only at h
    cases e : intsOf ds with
    | none => rw [e] at h; cases h
    | some ms => rw [e] at h; cases h; rw [intsOf_eq e]; rfl
theorem boolsOf_eq : ∀ {ds : List D} {ns : List Bool}, boolsOf ds = some ns → ds = ns.map .bool
  | [], ns, h => by cases h; rfl
  | d :: ds, ns, h => by
    unfold boolsOf at h
    cases d <;> first | (cases h; done) | skip
    dsimp only at h
    cases e : boolsOf ds with
    | none => rw [e] at h; cases h
    | some ms => rw [e] at h; cases h; rw [boolsOf_eq e]; rfl
theorem intsOf_map : ∀ ns : List Int, intsOf (ns.map .int) = some ns
  | [] => rfl
  | n :: ns => by show (intsOf (ns.map .int)).map (n :: ·) = _; rw [intsOf_map ns]; rfl
theorem boolsOf_map : ∀ ns : List Bool, boolsOf (ns.map .bool) = some ns
  | [] => rfl
  | n :: ns => by show (boolsOf (ns.map .bool)).map (n :: ·) = _; rw [boolsOf_map ns]; rfl
def minL : List Int → Int
  | [] => 0
  | [x] => x
  | x :: y :: r => min x (minL (y :: r))
def maxL : List Int → Int
  | [] => 0
  | [x] => x
  | x :: y :: r => max x (maxL (y :: r))
theorem minL_le : ∀ {ns : List Int} {y : Int}, y ∈ ns → minL ns ≤ y
  | [], _, h => by cases h
  | [x], y, h => by cases h with
    | head => exact Int.le_refl _
    | tail _ h => cases h
  | x :: z :: r, y, h => by
    show min x (minL (z :: r)) ≤ y
    cases h with
    | head => exact Int.min_le_left _ _
    | tail _ h => exact Int.le_trans (Int.min_le_right _ _) (minL_le h)
theorem maxL_ge : ∀ {ns : List Int} {y : Int}, y ∈ ns → y ≤ maxL ns
  | [], _, h => by cases h
  | [x], y, h => by cases h with
    | head => exact Int.le_refl _
    | tail _ h => cases h
  | x :: z :: r, y, h => by
    show y ≤ max x (maxL (z :: r))
    cases h with
    | head => exact Int.le_max_left _ _
    | tail _ h => exact Int.le_trans (maxL_ge h) (Int.le_max_right _ _)
theorem minL_mem : ∀ {ns : List Int}, ns ≠ [] → minL ns ∈ ns
  | [], h => absurd rfl h
  | [x], _ => List.mem_singleton.mpr rfl
  | x :: z :: r, _ => by
    show min x (minL (z :: r)) ∈ _
    have ih := minL_mem (ns := z :: r) (List.cons_ne_nil _ _)
    by_cases h : x ≤ minL (z :: r)
    · rw [Int.min_eq_left h]; exact List.mem_cons_self
    · rw [Int.min_eq_right (by omega)]; exact List.mem_cons_of_mem _ ih
theorem maxL_mem : ∀ {ns : List Int}, ns ≠ [] → maxL ns ∈ ns
  | [], h => absurd rfl h
  | [x], _ => List.mem_singleton.mpr rfl
  | x :: z :: r, _ => by
    show max x (maxL (z :: r)) ∈ _
    have ih := maxL_mem (ns := z :: r) (List.cons_ne_nil _ _)
    by_cases h : maxL (z :: r) ≤ x
    · rw [Int.max_eq_left h]; exact List.mem_cons_self
    · rw [Int.max_eq_right (by omega)]; exact List.mem_cons_of_mem _ ih
theorem minL_uniq {ns : List Int} {m : Int} (h1 : m ∈ ns) (h2 : ∀ y ∈ ns, m ≤ y) : m = minL ns :=
  Int.le_antisymm (h2 _ (minL_mem (List.ne_nil_of_mem h1))) (minL_le h1)
theorem maxL_uniq {ns : List Int} {m : Int} (h1 : m ∈ ns) (h2 : ∀ y ∈ ns, y ≤ m) : m = maxL ns :=
  Int.le_antisymm (maxL_ge h1) (h2 _ (maxL_mem (List.ne_nil_of_mem h1)))
def sumF : List D → Option D
  | [.list ds] => (intsOf ds).map fun ns => .int ns.sum
  | _ => none
def allF : List D → Option D
  | [.list ds] => (boolsOf ds).map fun bs => .bool (bs.all id)
  | _ => none
def minF : List D → Option D
  | [.list ds] => match intsOf ds with
    | some (n :: ns) => some (.int (minL (n :: ns)))
    | _ => none
  | [.int i, .int j] => some (.int (min i j))
  | _ => none
def maxF : List D → Option D
  | [.list ds] => match intsOf ds with
    | some (n :: ns) => some (.int (maxL (n :: ns)))
    | _ => none
  | [.int i, .int j] => some (.int (max i j))
  | _ => none
def intF : List D → Option D
  | [.int i] => some (.int i)
  | [.bool b] => some (.int (if b then 1 else 0))
  | _ => none
def tupleF : List D → Option D
  | [.list ds] => some (.tuple ds)
  | [.tuple ds] => some (.tuple ds)
  | _ => none
def listF : List D → Option D
  | [.list ds] => some (.list ds)
  | [.tuple ds] => some (.list ds)
  | _ => none
def sortI (ns : List Int) : List Int := ns.mergeSort (fun a b => decide (a ≤ b))
def leT (x y : D) : Bool := PySem.W.sortLe (PyProof.Rows.listOrd PyProof.Rows.itemOrd) false PySem.W.keyToks x y
def sortT (ds : List D) : List D := ds.mergeSort leT
def SortD (ds : List D) : Prop := PySem.W.AllAlike ds ∧ (PySem.W.Sortable ds ∨ Sort0 ds) ∧ ∀ d ∈ ds, d.canLay0 = true ∧ d.depth ≤ 40
noncomputable def sortedF : List D → Option D
  | [.list ds] => match intsOf ds with
    | some ns => some (.list ((sortI ns).map .int))
    | none => if ds.length < 2 then some (.list ds) else if @decide (SortD ds) (Classical.propDecidable _) then some (.list (sortT ds)) else none
  | _ => none
section
variable {K : PySem.W.Frag}
theorem ok_len : COk K (fun xs H Q => ∃ x n, xs = [x] ∧ LenV K x H n ∧ Q (.int n) H) lenF := by
  intro O H vs ds z Q t hp hf q
  unfold lenF at hf
  split at hf
  · cases hf
    obtain ⟨v, rfl, rq⟩ := paired1 hp
    obtain ⟨p, vs, rfl, h1, r1⟩ := rq.list
    exact ⟨_, _, rfl, .inl ⟨vs, SqL.of h1, rfl⟩, q _ H (Grow.refl O H) (by rw [r1.length]; exact .int _)⟩
  · cases hf
    obtain ⟨v, rfl, rq⟩ := paired1 hp
    obtain ⟨p, vs, rfl, h1, r1, _⟩ := rq.tuple
    exact ⟨_, _, rfl, .inr ⟨vs, h1, rfl⟩, q _ H (Grow.refl O H) (by rw [r1.length]; exact .int _)⟩
  · split at hf
    · rename_i hl
      cases hf
      obtain ⟨v, rfl, rq⟩ := paired1 hp
      cases rq.str
      exact ⟨_, _, rfl, ⟨lim_le hl, rfl⟩, q _ H (Grow.refl O H) (.int _)⟩
    · cases hf
  · cases hf
theorem ok_sum : COk K (rSum K) sumF := by
  intro O H vs ds z Q t hp hf q
  unfold sumF at hf
  split at hf
  · rename_i ds
    obtain ⟨v, rfl, rq⟩ := paired1 hp
    obtain ⟨p, vs, rfl, h1, r1⟩ := rq.list
    cases e : intsOf ds with
    | none => rw [e] at hf; cases hf
    | some ns =>
      rw [e] at hf
      cases hf
      rw [intsOf_eq e] at r1
      exact ⟨p, ns, rfl, by rw [← r1.ints]; exact SqL.of h1, q _ H (Grow.refl O H) (.int _)⟩
  · cases hf
theorem ok_all : COk K (rAll K) allF := by
  intro O H vs ds z Q t hp hf q
  unfold allF at hf
  split at hf
  · rename_i ds
    obtain ⟨v, rfl, rq⟩ := paired1 hp
    obtain ⟨p, vs, rfl, h1, r1⟩ := rq.list
    cases e : boolsOf ds with
    | none => rw [e] at hf; cases hf
    | some ns =>
      rw [e] at hf
      cases hf
      rw [boolsOf_eq e] at r1
      exact ⟨p, ns, rfl, by rw [← r1.bools]; exact SqL.of h1, q _ H (Grow.refl O H) (.bl _)⟩
  · cases hf
def rMin2 : List V → Hp → VK → Prop := fun xs H Q => ∃ i j, xs = [.int i, .int j] ∧ Q (.int (if j < i then j else i)) H
def rMax2 : List V → Hp → VK → Prop := fun xs H Q => ∃ i j, xs = [.int i, .int j] ∧ Q (.int (if j > i then j else i)) H
def rMinB (K : PySem.W.Frag) : List V → Hp → VK → Prop := fun xs H Q => rMin K xs H Q ∨ rMin2 xs H Q
def rMaxB (K : PySem.W.Frag) : List V → Hp → VK → Prop := fun xs H Q => rMax K xs H Q ∨ rMax2 xs H Q
theorem call_minB {X : Cx} (hc : X.calm = true) : CallR X (.builtin "min") (rMinB X.K) := (cr_min hc).or (call_min2 hc)
theorem call_maxB {X : Cx} (hc : X.calm = true) : CallR X (.builtin "max") (rMaxB X.K) := (cr_max hc).or (call_max2 hc)
theorem ok_min : COk K (rMinB K) minF := by
  intro O H vs ds z Q t hp hf q
  unfold minF at hf
  split at hf
  · rename_i ds
    obtain ⟨v, rfl, rq⟩ := paired1 hp
    obtain ⟨p, vs, rfl, h1, r1⟩ := rq.list
    split at hf
    · rename_i n ns e
      cases hf
      rw [intsOf_eq e] at r1
      refine .inl ⟨p, n :: ns, rfl, by rw [← r1.ints]; exact SqL.of h1, Nat.succ_pos _, fun m h2 h3 => q _ H (Grow.refl O H) (by rw [minL_uniq h2 h3]; exact .int _)⟩
    · cases hf
  · cases hf
    obtain ⟨v, u, rfl, r1, r2⟩ := paired2 hp
    cases r1.int
    cases r2.int
    refine .inr ⟨_, _, rfl, q _ H (Grow.refl O H) ?_⟩
    rename_i i j
    have : (if j < i then j else i) = min i j := by
      by_cases h : j < i
      · rw [if_pos h, Int.min_eq_right (by omega)]
      · rw [if_neg h, Int.min_eq_left (by omega)]
    rw [this]
    exact .int _
  · cases hf
theorem ok_max : COk K (rMaxB K) maxF := by
  intro O H vs ds z Q t hp hf q
  unfold maxF at hf
  split at hf
  · rename_i ds
    obtain ⟨v, rfl, rq⟩ := paired1 hp
    obtain ⟨p, vs, rfl, h1, r1⟩ := rq.list
    split at hf
    · rename_i n ns e
      cases hf
      rw [intsOf_eq e] at r1
      refine .inl ⟨p, n :: ns, rfl, by rw [← r1.ints]; exact SqL.of h1, Nat.succ_pos _, fun m h2 h3 => q _ H (Grow.refl O H) (by rw [maxL_uniq h2 h3]; exact .int _)⟩
    · cases hf
  · cases hf
    obtain ⟨v, u, rfl, r1, r2⟩ := paired2 hp
    cases r1.int
    cases r2.int
    refine .inr ⟨_, _, rfl, q _ H (Grow.refl O H) ?_⟩
    rename_i i j
    have : (if j > i then j else i) = max i j := by
      by_cases h : j > i
      · rw [if_pos h, Int.max_eq_right (by omega)]
      · rw [if_neg h, Int.max_eq_left (by omega)]
    rw [this]
    exact .int _
  · cases hf
theorem ok_tuple : COk K (rTupP K) tupleF := by
  intro O H vs ds z Q t hp hf q
  unfold tupleF at hf
  split at hf
  · cases hf
    obtain ⟨v, rfl, rq⟩ := paired1 hp
    obtain ⟨p, vs, rfl, h1, r1⟩ := rq.list
    refine ⟨p, vs, rfl, .inl ⟨SqL.of h1, fun l o nl ho => ?_⟩⟩
    obtain ⟨g, r⟩ := new_tup t r1 nl ho
    exact q _ _ g r
  · cases hf
    obtain ⟨v, rfl, rq⟩ := paired1 hp
    obtain ⟨p, vs, rfl, h1, r1, rr⟩ := rq.tuple
    exact ⟨p, vs, rfl, .inr ⟨h1, q _ _ (Grow.refl O H) rr⟩⟩
  · cases hf
theorem sortI_uniq {ns ms : List Int} (h1 : ms.Perm ns) (h2 : ms.Pairwise (· ≤ ·)) : ms = sortI ns := by
  have p1 : (sortI ns).Pairwise (fun a b => decide (a ≤ b) = true) := List.pairwise_mergeSort (fun a b c h1 h2 => by simp at *; omega) (fun a b => by simp; omega) ns
  have p2 : (sortI ns).Perm ns := List.mergeSort_perm ns _
  refine List.Perm.eq_of_pairwise (le := fun a b => a ≤ b) (fun a b _ _ h1 h2 => Int.le_antisymm h1 h2) h2 (p1.imp fun h => of_decide_eq_true h) (h1.trans p2.symm)
theorem RpAll.of_ints (G : Hp) : ∀ ns : List Int, RpAll K G (ns.map V.int) (ns.map .int)
  | [] => .nil
  | n :: ns => .cons (.int n) (RpAll.of_ints G ns)
def rSort1 (K : PySem.W.Frag) : List V → Hp → VK → Prop := fun vs H Q => ∃ (a : Addr) (xs : List V), vs = [V.ref a] ∧ SqL K H a xs ∧ xs.length < 2 ∧ ∀ p, H p = none → Q (.ref p) (upd H p (.lst xs))
theorem cr_sort1 {X : Cx} : CallR X (.builtin "sorted") (rSort1 X.K) := by
  intro pins s σ H vs us Q I r h
  obtain ⟨a, xs, rfl, hs, h2, q⟩ := h
  obtain ⟨its, rv, hl, hz⟩ := I.list hs
  rw [Vals.ref1 r]
  have hle := rv.length
  refine SrtO.sorted_ord SrtO.swo_int hl.isList (by rw [← rv.length]; exact hz) (fun k => absurd k (by omega)) fun out _ hb => ?_
  have eo : out = its := by
    have e := hb.perm.length_eq
    match its, out, hb.perm, e, (show its.length < 2 by omega) with
    | [], [], _, _, _ => rfl
    | [x], [y], p, _, _ => rw [List.perm_singleton.mp p]
    | [], _ :: _, _, e, _ => simp at e
    | _ :: _ :: _, _, _, _, k => simp at k; omega
    | [_], [], _, e, _ => simp at e
    | [_], _ :: _ :: _, _, e, _ => simp at e
  subst eo
  obtain ⟨ep, he'⟩ := PyProof.Rows.sortedAll_at s.heap out out.toArray
  exact ⟨.ref _, upd H (s.heap.objs.size + 1) (.lst xs), I.laid (t' := s.toks) (fun _ _ => PyProof.Rows.sortedAll_old) (Nat.le_succ _) ⟨hz, out, ep, rv, he'⟩, rfl, q _ (I.hok.fresh (Nat.le_succ _))⟩
def leZ (x y : V × D) : Bool := leT x.2 y.2
def rSortT (K : PySem.W.Frag) : List V → Hp → VK → Prop := fun vs H Q => ∃ (a : Addr) (zs : List (V × D)), vs = [V.ref a] ∧ SqL K H a (zs.map (·.1)) ∧ (∀ z ∈ zs, Dp K H z.1 z.2) ∧ SortD (zs.map (·.2)) ∧ ∀ p, H p = none → Q (.ref p) (upd H p (.lst ((zs.mergeSort leZ).map (·.1))))
theorem each_zs {P : V × D → Prop} : ∀ {zs : List (V × D)} {us : List Value}, Vals (zs.map (·.1)) us → (∀ z ∈ zs, P z) → PySem.W.EachIs (fun u z => RelV z.1 u ∧ P z) us zs
  | [], _, .nil, _ => .nil
  | z :: zs, _, .cons r t, h => .cons ⟨r, h z List.mem_cons_self⟩ (each_zs t fun y hy => h y (List.mem_cons_of_mem _ hy))
theorem vals_zs {P : V × D → Prop} : ∀ {zs : List (V × D)} {us : List Value}, PySem.W.EachIs (fun u z => RelV z.1 u ∧ P z) us zs → Vals (zs.map (·.1)) us
  | _, _, .nil => .nil
  | _, _, .cons r t => .cons r.1 (vals_zs t)
theorem each_snd {R : Value → D → Prop} {S : Value → V × D → Prop} (h : ∀ u z, S u z → R u z.2) : ∀ {zs : List (V × D)} {us : List Value}, PySem.W.EachIs S us zs → PySem.W.EachIs R us (zs.map (·.2))
  | _, _, .nil => .nil
  | _, _, .cons r t => .cons (h _ _ r) (each_snd h t)
theorem cr_sortT {X : Cx} (hu : X.A.units + 64 < cLine) : CallR X (.builtin "sorted") (rSortT X.K) := by
  intro pn s σ H vs us Q J r h
  obtain ⟨a, zs, rfl, hs, hd, hS, q⟩ := h
  obtain ⟨its, rv, hl, hz⟩ := J.list hs
  rw [Vals.ref1 r]
  have hlen := rv.length
  rw [List.length_map] at hlen hz
  have hz' : its.length ≤ sizeLine := by rw [← hlen]; exact hz
  obtain ⟨al, so, dp⟩ := hS
  have e0 : PySem.W.EachIs (fun u z => RelV z.1 u ∧ ∃ (u : Value) (as : List Addr), RelV z.1 u ∧ PySem.Reads s.heap u z.2 as) its zs := each_zs rv fun z hz => by
    obtain ⟨u, _, ru⟩ : ∃ u, u ∈ its ∧ RelV z.1 u := by
      obtain ⟨i, hi⟩ := List.getElem?_of_mem hz
      obtain ⟨u, hu1, hu2⟩ := rv.get (i := i) (x := z.1) (by rw [List.getElem?_map, hi]; rfl)
      exact ⟨u, List.mem_of_getElem? hu1, hu2⟩
    obtain ⟨as, rd⟩ := Dp.reads J z.2 z.1 u (hd z hz) ru
    exact ⟨u, as, ru, rd⟩
  have e1 : PySem.W.EachIs (fun u z => RelV z.1 u ∧ Dp X.K H z.1 z.2) its zs := each_zs rv hd
  have keep : ∀ b o, s.heap.get? b = some o → (PySem.W.sortingHeap (PySem.W.copyHeap s.heap its) (s.heap.objs.size + 1) its).get? b = some o := fun b o e => PySem.W.sorting_copy_old e
  have e2 : PySem.W.EachIs (fun u z => RelV z.1 u ∧ ∃ as, PySem.Reads (PySem.W.sortingHeap (PySem.W.copyHeap s.heap its) (s.heap.objs.size + 1) its) u z.2 as) its zs := e1.mono fun u z hz => by
    obtain ⟨as, rd⟩ := Dp.reads J z.2 z.1 u hz.2 hz.1
    exact ⟨hz.1, as, PySem.W.reads_keeps keep rd⟩
  have e3 : PySem.W.EachIs (fun u d => ∃ as, PySem.Reads (PySem.W.sortingHeap (PySem.W.copyHeap s.heap its) (s.heap.objs.size + 1) its) u d as) its (zs.map (·.2)) := each_snd (fun _ _ h => h.2) e2
  refine PySem.W.sorted_vals hl.isList (SortsAt.dataB e3 al so fun d hd => by
    have := (dp d hd).2
    show X.A.units + 1 + 1 + _ < _
    omega) hz' ?_
  have ek : PySem.W.EachIs (fun u z => (PySem.W.dataKind (PySem.W.sortingHeap (PySem.W.copyHeap s.heap its) (s.heap.objs.size + 1) its) (zs.map (·.2))).keyOf u = some (PySem.W.keyToks z.2)) its zs := by
    have : PySem.W.EachIs (fun u z => (∃ as, PySem.Reads (PySem.W.sortingHeap (PySem.W.copyHeap s.heap its) (s.heap.objs.size + 1) its) u z.2 as) ∧ z ∈ zs) its zs := by
      refine (PySem.W.each_mem e2).mono fun u z h => ⟨h.1.2, h.2⟩
    refine this.mono fun u z h => ?_
    obtain ⟨⟨as, rd⟩, hz⟩ := h
    exact PySem.W.dataKind_some al (List.mem_map.mpr ⟨z, hz, rfl⟩) rd
  have e4 := PySem.W.sortVals_each (κ := PySem.W.dataKind (PySem.W.sortingHeap (PySem.W.copyHeap s.heap its) (s.heap.objs.size + 1) its) (zs.map (·.2))) (rev := false) (fun z : V × D => PySem.W.keyToks z.2) e1 ek
  have v4 := vals_zs e4
  obtain ⟨ep, he'⟩ := PyProof.Rows.sortedAll_at s.heap its (PySem.W.sortVals (PySem.W.dataKind (PySem.W.sortingHeap (PySem.W.copyHeap s.heap its) (s.heap.objs.size + 1) its) (zs.map (·.2))) false its its).toArray
  have hl2 : ((zs.mergeSort leZ).map (·.1)).length ≤ sizeLine := by
    rw [List.length_map, (List.mergeSort_perm _ _).length_eq]
    exact hz
  exact ⟨.ref _, upd H (s.heap.objs.size + 1) (.lst ((zs.mergeSort leZ).map (·.1))), J.laid (t' := s.toks) (fun _ _ => PyProof.Rows.sortedAll_old) (Nat.le_succ _) ⟨hl2, _, ep, v4, he'⟩, rfl, q _ (J.hok.fresh (Nat.le_succ _))⟩
theorem RpAll.zip {G : Hp} : ∀ {vs : List V} {ds : List D}, RpAll K G vs ds → ∀ z ∈ vs.zip ds, Rp K G z.1 z.2
  | _, _, .nil => by simp
  | _, _, .cons h r => fun z hz => by
    rcases List.mem_cons.mp hz with rfl | hz
    · exact h
    · exact RpAll.zip r z hz
theorem RpAll.ofZ {G : Hp} : ∀ {zs : List (V × D)}, (∀ z ∈ zs, Rp K G z.1 z.2) → RpAll K G (zs.map (·.1)) (zs.map (·.2))
  | [], _ => .nil
  | z :: zs, h => .cons (h z List.mem_cons_self) (RpAll.ofZ fun y hy => h y (List.mem_cons_of_mem _ hy))
theorem zip_fst : ∀ {vs : List V} {ds : List D}, vs.length = ds.length → (vs.zip ds).map (·.1) = vs ∧ (vs.zip ds).map (·.2) = ds
  | [], [], _ => ⟨rfl, rfl⟩
  | v :: vs, d :: ds, h => by
    obtain ⟨e1, e2⟩ := zip_fst (vs := vs) (ds := ds) (by simpa using h)
    simp [e1, e2]
  | [], _ :: _, h => by simp at h
  | _ :: _, [], h => by simp at h
def rSortB (K : PySem.W.Frag) : List V → Hp → VK → Prop := fun vs H Q => rSortedI K vs H Q ∨ rSort1 K vs H Q ∨ rSortT K vs H Q
theorem ok_sorted : COk K (rSortB K) sortedF := by
  intro O H vs ds z Q t hp hf q
  unfold sortedF at hf
  split at hf
  · rename_i ds
    obtain ⟨v, rfl, rq⟩ := paired1 hp
    obtain ⟨p, vs, rfl, h1, r1⟩ := rq.list
    cases e : intsOf ds with
    | none =>
      rw [e] at hf
      dsimp only at hf
      split at hf
      · rename_i hl
        cases hf
        refine .inr (.inl ⟨p, vs, rfl, SqL.of h1, by rw [r1.length]; exact hl, fun l nl => ?_⟩)
        obtain ⟨g, r⟩ := new_lst t r1 nl
        exact q _ _ g r
      · split at hf
        · rename_i hS
          cases hf
          have hS := @of_decide_eq_true _ (Classical.propDecidable _) hS
          obtain ⟨z1, z2⟩ := zip_fst r1.length
          have rz := RpAll.zip r1
          refine .inr (.inr ⟨p, vs.zip ds, rfl, by rw [z1]; exact SqL.of h1, fun z hz => ?_, by rw [z2]; exact hS, fun l nl => ?_⟩)
          · have hm : z.2 ∈ ds := by rw [← z2]; exact List.mem_map.mpr ⟨z, hz, rfl⟩
            exact ((rz z hz).mono (mask_le O H)).dp (hS.2.2 _ hm).1
          · have rm : RpAll K (Mask O H) (((vs.zip ds).mergeSort leZ).map (·.1)) (sortT ds) := by
              have e : sortT ds = ((vs.zip ds).mergeSort leZ).map (·.2) := by
                unfold sortT
                rw [List.map_mergeSort (r := leZ) (s := leT) (f := fun z : V × D => z.2) (fun a _ b _ => rfl), z2]
              rw [e]
              exact RpAll.ofZ fun z hz => rz z ((List.mergeSort_perm _ _).mem_iff.mp hz)
            obtain ⟨g, r⟩ := new_lst t rm nl
            exact q _ _ g r
        · cases hf
    | some ns =>
      rw [e] at hf
      cases hf
      rw [intsOf_eq e] at r1
      refine .inl ⟨p, ns, rfl, by rw [← r1.ints]; exact SqL.of h1, fun ns' l h2 h3 nl => ?_⟩
      rw [← sortI_uniq h2 h3] at q
      obtain ⟨g, r⟩ := new_lst t (RpAll.of_ints (K := K) (Mask O H) ns') nl
      exact q _ _ g r
  · cases hf
end
def tyName : D → String
  | .none => "NoneType"
  | .bool _ => "bool"
  | .int _ => "int"
  | .str _ => "str"
  | .list _ => "list"
  | .tuple _ => "tuple"
  | .dict _ => "dict"
def tyIs (T n : String) : Bool := T == n || (T == "int" && n == "bool")
def isiD (T : String) (d : D) : Bool := tyIs T (tyName d)
def notX : D → Bool
  | .dict _ => false
  | _ => true
def mIsi (T : String) (m : M Ag) : M D := bnd m fun a => fun E => match rsv E a with
  | some d => if notX d then .ok (.bool (isiD T d)) E else .bad
  | none => .bad
theorem Rq.ty {K : PySem.W.Frag} {O : List Addr} {H : Hp} {v : V} {d : D} (h : Rq K O H v d) (nx : notX d = true) : TyX K H v (.type (tyName d)) := by
  cases d with
  | none => rcases h with h | ⟨_, _, _, _, e, _⟩ <;> first | (cases h; exact .base .non) | cases e
  | bool b => cases h.bool; exact .base (.bl _)
  | int b => cases h.int; exact .base (.int _)
  | str b => cases h.str; exact .base (.str _)
  | list b =>
    obtain ⟨p, vs, rfl, h1, r1⟩ := h.list
    exact .base (.lst h1)
  | tuple b =>
    obtain ⟨p, vs, rfl, h1, r1, _⟩ := h.tuple
    rcases h1 with (h1 | ⟨o, h1⟩) | ⟨o, its, n, hk, hc, _⟩
    · exact .base (.tup h1)
    · exact .fTuple h1
    · exact .kTuple hk hc
  | dict b => exact absurd nx Bool.false_ne_true
def tyAll : List String := ["NoneType", "bool", "int", "str", "list", "tuple", "dict"]
theorem tyName_mem (d : D) : tyName d ∈ tyAll := by cases d <;> simp [tyName, tyAll]
section
variable {X : Cx} {W : WX} {e : Expr} {t : TE}
theorem se_isi {T : String} {x : Str} {m : M Ag} {p p2 pos : Pos} (hg : Gl X "isinstance") (hm : X.mg "isinstance" = none) (h : SO X W e t m) (hT : PE X (.Name x p2) (tC (.ty T))) (hk : tyAll.all (fun n => kitB n T == some (tyIs T n)) = true)
    (hst : starEach [e, .Name x p2] X.env = (false, eval e X.env) :: starEach [.Name x p2] X.env := by rfl) (hst2 : starEach [.Name x p2] X.env = (false, eval (.Name x p2) X.env) :: starEach [] X.env := by rfl) (hpl : (backTo pos (starEach [.Name x p2] X.env)).any (·.1) = false := by rfl) :
    SE X W (.Call (.Name "isinstance" p) [e, .Name x p2] [] pos) (tCB (rIsi X.K) (tCons t (tCons (tC (.ty T)) tNil))) (mIsi T m) := by
  refine ⟨pe_callB call_isi hg hm (by decide +kernel) (pa_cons h.pe (pa_cons hT pa_nil hst2) hst) (by decide) (by decide) hst hpl, fun F O E σ H Q R s => h.rd F O E σ H _ R (s.bnd.mono (fun a E1 k O1 v H1 R1 l1 av => ?_) (fun _ _ k => k))⟩
  cases ea : rsv E1 a with
  | none => rw [ea] at k; exact k.elim
  | some d =>
    rw [ea] at k
    have hh := (List.all_eq_true.mp hk) _ (tyName_mem d)
    dsimp only at k
    split at k
    · rename_i nx
      exact ⟨v, .ty T, .type (tyName d), .type T, isiD T d, rfl, .ty T, (R1.rsv av ea).ty nx, kit_ty (by unfold isiD; simpa using hh), k O1 _ H1 R1 l1 (.bl _)⟩
    · exact k.elim
end
end Bt
namespace Bt
open PySem L2

section
variable {K : PySem.W.Frag} {F : Frm} {O : List Addr} {E : En} {σ : L2.St} {H : Hp}
theorem Rel.set {i : Nat} {v : V} {d : D} (R : Rel K F O E σ H) (r : Rp K (Mask O H) v d) (hi : i < E.length) : Rel K F O (E.set i (.dat d)) (σ.set i (some v)) H := by
  refine ⟨by rw [List.length_set, List.length_set]; exact R.len, R.trk, fun j s e => ?_, fun j k ds es p e1 e2 e3 e4 => ?_, R.frm, fun j ds p e1 e2 => ?_⟩
  · by_cases h : i = j
    · subst h
      rw [List.getElem?_set_self hi] at e
      cases e
      rw [List.getElem?_set_self (by rw [← R.len]; exact hi)]
      exact ⟨v, rfl, r⟩
    · rw [List.getElem?_set_ne h] at e
      rw [List.getElem?_set_ne h]
      exact R.slot j s e
  · by_cases h1 : i = j
    · subst h1; rw [List.getElem?_set_self hi] at e1; cases e1
    · by_cases h2 : i = k
      · subst h2; rw [List.getElem?_set_self hi] at e2; cases e2
      · rw [List.getElem?_set_ne h1] at e1 e3
        rw [List.getElem?_set_ne h2] at e2 e4
        exact R.apart j k ds es p e1 e2 e3 e4
  · by_cases h1 : i = j
    · subst h1; rw [List.getElem?_set_self hi] at e1; cases e1
    · rw [List.getElem?_set_ne h1] at e1 e2
      exact R.fap j ds p e1 e2
theorem Rel.un {i : Nat} {o : Option V} (R : Rel K F O E σ H) : Rel K F O (E.set i .un) (σ.set i o) H := by
  refine ⟨by rw [List.length_set, List.length_set]; exact R.len, R.trk, fun j s e => ?_, fun j k ds es p e1 e2 e3 e4 => ?_, R.frm, fun j ds p e1 e2 => ?_⟩
  · by_cases h : i = j
    · subst h
      by_cases hi : i < E.length
      · rw [List.getElem?_set_self hi] at e
        cases e
        trivial
      · rw [List.getElem?_eq_none (by rw [List.length_set]; omega)] at e; cases e
    · rw [List.getElem?_set_ne h] at e
      rw [List.getElem?_set_ne h]
      exact R.slot j s e
  · by_cases h1 : i = j
    · subst h1
      by_cases hi : i < E.length
      · rw [List.getElem?_set_self hi] at e1; cases e1
      · rw [List.getElem?_eq_none (by rw [List.length_set]; omega)] at e1; cases e1
    · by_cases h2 : i = k
      · subst h2
        by_cases hi : i < E.length
        · rw [List.getElem?_set_self hi] at e2; cases e2
        · rw [List.getElem?_eq_none (by rw [List.length_set]; omega)] at e2; cases e2
      · rw [List.getElem?_set_ne h1] at e1 e3
        rw [List.getElem?_set_ne h2] at e2 e4
        exact R.apart j k ds es p e1 e2 e3 e4
  · by_cases h1 : i = j
    · subst h1
      by_cases hi : i < E.length
      · rw [List.getElem?_set_self hi] at e1; cases e1
      · rw [List.getElem?_eq_none (by rw [List.length_set]; omega)] at e1; cases e1
    · rw [List.getElem?_set_ne h1] at e1 e2
      exact R.fap j ds p e1 e2
theorem Rel.forget {i : Nat} (R : Rel K F O E σ H) : Rel K F O (E.set i .un) σ H := by
  have o' : ∀ {j : Nat} {es : Ob}, (E.set i Sl.un)[j]? = some (.ow es) → E[j]? = some (.ow es) := fun {j es} e => by
    by_cases h : i = j
    · subst h
      by_cases hi : i < E.length
      · rw [List.getElem?_set_self hi] at e; cases e
      · rw [List.getElem?_eq_none (by rw [List.length_set]; omega)] at e; cases e
    · rw [List.getElem?_set_ne h] at e; exact e
  refine ⟨by rw [List.length_set]; exact R.len, R.trk, fun j s e => ?_, fun j k ds es p e1 e2 e3 e4 => R.apart j k ds es p (o' e1) (o' e2) e3 e4, R.frm, fun j ds p e1 e2 => R.fap j ds p (o' e1) e2⟩
  by_cases h : i = j
  · subst h
    by_cases hi : i < E.length
    · rw [List.getElem?_set_self hi] at e
      cases e
      trivial
    · rw [List.getElem?_eq_none (by rw [List.length_set]; omega)] at e; cases e
  · rw [List.getElem?_set_ne h] at e
    exact R.slot j s e
def wipeE (E : En) : List Nat → En
  | [] => E
  | v :: vs => (wipeE E vs).set v .un
theorem Rel.wipe (R : Rel K F O E σ H) : ∀ vs : List Nat, Rel K F O (wipeE E vs) (L2.wipe σ vs) H
  | [] => R
  | v :: vs => (Rel.wipe R vs).un
theorem Rel.forgets (R : Rel K F O E σ H) : ∀ vs : List Nat, Rel K F O (wipeE E vs) σ H
  | [] => R
  | v :: vs => (Rel.forgets R vs).forget
theorem wipeE_length (E : En) : ∀ vs : List Nat, (wipeE E vs).length = E.length
  | [] => rfl
  | v :: vs => by unfold wipeE; rw [List.length_set, wipeE_length E vs]
def backE (E0 E1 : En) : List Nat → En
  | [] => E1
  | v :: vs => match E0[v]? with
    | some (.dat d) => (backE E0 E1 vs).set v (.dat d)
    | _ => (backE E0 E1 vs).set v .un
theorem backE_length (E0 E1 : En) : ∀ vs : List Nat, (backE E0 E1 vs).length = E1.length
  | [] => rfl
  | v :: vs => by
    unfold backE
    split <;> rw [List.length_set, backE_length E0 E1 vs]
theorem get_wipe {σ : L2.St} {i : Nat} : ∀ {vs : List Nat}, i ∉ vs → (L2.wipe σ vs)[i]? = σ[i]?
  | [], _ => rfl
  | v :: vs, h => by
    have hne : v ≠ i := fun e => h (e ▸ List.mem_cons_self)
    show ((L2.wipe σ vs).set v none)[i]? = σ[i]?
    rw [List.getElem?_set_ne hne]
    exact get_wipe fun z => h (List.mem_cons_of_mem _ z)
theorem get_backE_in {E0 E1 : En} {i : Nat} (hl : i < E1.length) : ∀ {vs : List Nat}, i ∈ vs → (backE E0 E1 vs)[i]? = some (match E0[i]? with | some (.dat d) => .dat d | _ => .un)
  | [], h => by cases h
  | v :: vs, h => by
    unfold backE
    by_cases e : v = i
    · subst e
      split
      · rename_i d q; rw [List.getElem?_set_self (by rw [backE_length]; exact hl)]
      · rename_i q
        rw [List.getElem?_set_self (by rw [backE_length]; exact hl)]
    · have h' : i ∈ vs := by
        cases h with
        | head => exact absurd rfl e
        | tail _ h => exact h
      split <;> rw [List.getElem?_set_ne e] <;> exact get_backE_in hl h'
theorem get_backE_out {E0 E1 : En} {i : Nat} : ∀ {vs : List Nat}, i ∉ vs → (backE E0 E1 vs)[i]? = E1[i]?
  | [], _ => rfl
  | v :: vs, h => by
    unfold backE
    have e : v ≠ i := fun e => h (e ▸ List.mem_cons_self)
    have h' : i ∉ vs := fun z => h (List.mem_cons_of_mem _ z)
    split <;> rw [List.getElem?_set_ne e] <;> exact get_backE_out h'
theorem Rel.back {F' : Frm} {O1 : List Addr} {E1 : En} {σ1 : L2.St} {H1 : Hp} {vs : List Nat} (R : Rel K F O E σ H) (R1 : Rel K F' O1 E1 σ1 H1) (l : Le O H O1 H1) (hw : L2.wipe σ1 vs = L2.wipe σ vs) : Rel K F' O1 (backE E E1 vs) σ H1 := by
  have hs : ∀ i, i ∉ vs → σ[i]? = σ1[i]? := fun i hi => by rw [← get_wipe (σ := σ) hi, ← get_wipe (σ := σ1) hi, hw]
  have hl : σ1.length = σ.length := by rw [← wipe_length σ1 vs, hw, wipe_length]
  refine ⟨by rw [backE_length, R1.len, hl], R1.trk, fun i s e => ?_, fun i j ds es p e1 e2 e3 e4 => ?_, R1.frm, fun i ds p e1 e2 => ?_⟩
  · by_cases hi : i ∈ vs
    · have hlt : i < E1.length := by
        have := (List.getElem?_eq_some_iff.mp e).1
        rw [backE_length] at this
        exact this
      rw [get_backE_in hlt hi] at e
      cases e
      split
      · rename_i d q
        obtain ⟨v, e, r⟩ := R.slot i _ q
        exact ⟨v, e, r.mono l⟩
      · trivial
    · rw [get_backE_out hi] at e
      rw [hs i hi]
      exact R1.slot i s e
  · have ho : ∀ {i : Nat} {ds : Ob}, (backE E E1 vs)[i]? = some (.ow ds) → i ∉ vs := fun {i ds} e hi => by
      have hlt : i < E1.length := by
        have := (List.getElem?_eq_some_iff.mp e).1
        rw [backE_length] at this
        exact this
      rw [get_backE_in hlt hi] at e
      split at e <;> cases e
    have hi := ho e1
    have hj := ho e2
    rw [get_backE_out hi] at e1
    rw [get_backE_out hj] at e2
    rw [hs i hi] at e3
    rw [hs j hj] at e4
    exact R1.apart i j ds es p e1 e2 e3 e4
  · have hi : i ∉ vs := fun hi => by
      have hlt : i < E1.length := by
        have := (List.getElem?_eq_some_iff.mp e1).1
        rw [backE_length] at this
        exact this
      rw [get_backE_in hlt hi] at e1
      split at e1 <;> cases e1
    rw [get_backE_out hi] at e1
    rw [hs i hi] at e2
    exact R1.fap i ds p e1 e2
end

abbrev MG := D → En → Option En
structure SG (X : Cx) (b : Bool) (asg : List Nat) (tg : Expr) (g : TG) (m : MG) : Prop where
  pg : PG X tg g
  rd : ∀ F O E σ H v d E' (Q : L2.St → Hp → Prop), Rel X.K F O E σ H → RpB b X.K (Mask O H) v d → m d E = some E' → (∀ σ', Rel X.K F O E' σ' H → σ'.length = σ.length → (∀ i, i ∉ asg → σ'[i]? = σ[i]?) → Q σ' H) → g v σ H Q
structure SGs (X : Cx) (asg : List Nat) (tgs : List Expr) (g : TGs) (m : List D → En → Option En) : Prop where
  pg : PGs X tgs g
  rd : ∀ F O E σ H vs ds E' (Q : L2.St → Hp → Prop), Rel X.K F O E σ H → RpAll X.K (Mask O H) vs ds → m ds E = some E' → (∀ σ', Rel X.K F O E' σ' H → σ'.length = σ.length → (∀ i, i ∉ asg → σ'[i]? = σ[i]?) → Q σ' H) → g vs σ H Q
def gN (i : Nat) : MG := fun d E => if i < E.length then some (E.set i (.dat d)) else none
def gNilM : List D → En → Option En
  | [], E => some E
  | _, _ => none
def gConsM (m : MG) (ms : List D → En → Option En) : List D → En → Option En
  | d :: ds, E => (m d E).bind (ms ds)
  | _, _ => none
def gTupM (n : Nat) (ms : List D → En → Option En) : MG
  | .tuple ds, E => if ds.length = n then ms ds E else none
  | _, _ => none
section
variable {X : Cx}
theorem sg_name {i : Nat} {x : Str} {pos : Pos} (h : PG X (.Name x pos) (gName i)) : SG X false [i] (.Name x pos) (gName i) (gN i) := by
  refine ⟨h, fun F O E σ H v d E' Q R r e q => ?_⟩
  unfold gN at e
  split at e
  · rename_i hi
    cases e
    refine q _ (R.set r.rp hi) (List.length_set) fun j hj => ?_
    have hne : i ≠ j := fun z => hj (by rw [z]; exact List.mem_cons_self)
    rw [List.getElem?_set_ne hne]
  · cases e
theorem sgs_nil : SGs X [] [] gNil gNilM := by
  refine ⟨pgs_nil, fun F O E σ H vs ds E' Q R r e q => ?_⟩
  unfold gNilM at e
  split at e
  · cases e; cases r; exact ⟨rfl, q σ R rfl fun _ _ => rfl⟩
  · cases e
theorem sgs_cons {as1 as2 : List Nat} {tg : Expr} {tgs : List Expr} {g : TG} {gs : TGs} {m : MG} {ms : List D → En → Option En} (h : SG X false as1 tg g m) (hs : SGs X as2 tgs gs ms) (pgc : PG X tg g → PGs X tgs gs → PGs X (tg :: tgs) (gCons g gs) := by exact pgs_cons) : SGs X (as1 ++ as2) (tg :: tgs) (gCons g gs) (gConsM m ms) := by
  refine ⟨pgc h.pg hs.pg, fun F O E σ H vs ds E' Q R r e q => ?_⟩
  cases r with
  | nil => cases e
  | @cons v vs d ds r1 rr =>
    change (m d E).bind (ms ds) = some E' at e
    cases e1 : m d E with
    | none => rw [e1] at e; cases e
    | some E1 =>
      rw [e1] at e
      refine ⟨_, _, rfl, h.rd F O E σ H _ d E1 _ R (.inl r1) e1 fun σ1 R1 l1 p1 => ?_⟩
      exact hs.rd F O E1 σ1 H _ ds E' Q R1 rr e fun σ2 R2 l2 p2 => q σ2 R2 (l2.trans l1) fun i hi => (p2 i fun z => hi (List.mem_append_right _ z)).trans (p1 i fun z => hi (List.mem_append_left _ z))
theorem sg_tup {b : Bool} {asg : List Nat} {tgs : List Expr} {gs : TGs} {ms : List D → En → Option En} {k n : Nat} {pos : Pos} (pgt : PGs X tgs gs → PG X (.Tuple tgs k pos) (gTup X.K n gs)) (hs : SGs X asg tgs gs ms) : SG X b asg (.Tuple tgs k pos) (gTup X.K n gs) (gTupM n ms) := by
  refine ⟨pgt hs.pg, fun F O E σ H v d E' Q R r e q => ?_⟩
  cases d with
  | tuple ds =>
    obtain ⟨a, xs, rfl, h, r1⟩ := r.tup
    change (if ds.length = n then ms ds E else none) = some E' at e
    split at e
    · rename_i hl
      exact ⟨_, _, rfl, sqT_mono (mask_le O H) h, by rw [r1.length]; exact hl, hs.rd F O E σ H _ ds E' Q R r1 e q⟩
    · cases e
  | _ => cases e
theorem wipe_agree {σ σ' : L2.St} {asg vs : List Nat} (hl : σ'.length = σ.length) (h : ∀ i, i ∉ asg → σ'[i]? = σ[i]?) (hs : ∀ i ∈ asg, i ∈ vs) : L2.wipe σ' vs = L2.wipe σ vs := by
  have wg : ∀ {τ : L2.St} {i : Nat} {vs : List Nat}, i ∈ vs → i < τ.length → (L2.wipe τ vs)[i]? = some none := by
    intro τ i vs
    induction vs with
    | nil => intro h; cases h
    | cons v vs ih =>
      intro h hl
      show ((L2.wipe τ vs).set v none)[i]? = some none
      by_cases e : v = i
      · subst e
        rw [List.getElem?_set_self (by rw [wipe_length]; exact hl)]
      · rw [List.getElem?_set_ne e]
        cases h with
        | head => exact absurd rfl e
        | tail _ h => exact ih h hl
  refine List.ext_getElem? fun i => ?_
  by_cases hv : i ∈ vs
  · by_cases hi : i < σ.length
    · rw [wg hv hi, wg hv (by rw [hl]; exact hi)]
    · rw [List.getElem?_eq_none (by rw [wipe_length]; omega), List.getElem?_eq_none (by rw [wipe_length]; omega)]
  · rw [get_wipe hv, get_wipe hv, h i fun z => hv (hs i z)]
end

structure Wk (b : Bool) (K : PySem.W.Frag) (O' : List Addr) (H' : Hp) (J : It) (its : List D) : Prop where
  ex : ∃ G Y, Walk J its.length G Y ∧ (∀ O2 H2, Le O' H' O2 H2 → G H2) ∧ (∀ O2 H2 i x H3 d, Trk O2 H2 → Le O' H' O2 H2 → its[i]? = some d → Y i H2 x H3 → Grow O2 H2 H3 ∧ RpB b K (Mask O2 H3) x d)
structure SI (X : Cx) (W : WX) (b : Bool) (tg e : Expr) (wi : TI) (m : M (List D)) : Prop where
  pi : PI X tg e wi
  rd : ∀ F O E σ H (R : It → Hp → Prop), Rel X.K F O E σ H → Sat (m E) (fun its E' => ∀ O' H' J, Rel X.K F O' E' σ H' → Le O H O' H' → Wk b X.K O' H' J its → R J H') (KX X.K X.mg F σ O H W) → wi σ H R
theorem pi_or {X : Cx} {tg e : Expr} {w1 w2 : TI} (h1 : PI X tg e w1) (h2 : PI X tg e w2) : PI X tg e (fun σ H R => w1 σ H R ∨ w2 σ H R) := ⟨fun pins s σ H R I h => h.elim (fun z => h1.run pins s σ H R I z) (fun z => h2.run pins s σ H R I z)⟩
theorem PI.imp {X : Cx} {tg e : Expr} {w1 w2 : TI} (h : PI X tg e w1) (hw : ∀ σ H R, w2 σ H R → w1 σ H R) : PI X tg e w2 := ⟨fun pins s σ H R I z => h.run pins s σ H R I (hw σ H R z)⟩
end Bt
namespace Bt
open PySem L2
section
variable {X : Cx} {W : WX} {tg a b c e : Expr} {ta tb tc t : TE} {ma mb mc m : M D}
def signsD (z : Str) : List D := z.cps.toList.map fun c => .str ⟨#[c]⟩
def itemsOf : D → Option (List D)
  | .list ds => some ds
  | .tuple ds => some ds
  | .str z => some (signsD z)
  | _ => none
def mIt (m : M D) : M (List D) := bnd m fun d => lift (itemsOf d)
def iSeq (K : PySem.W.Frag) (t : TE) : TI := fun σ H R => iList K t σ H R ∨ (iTup K t σ H R ∨ iStr t σ H R)
theorem wk_list {K : PySem.W.Frag} {O : List Addr} {H : Hp} {p : Addr} {vs : List V} {ds : List D} (h : Mask O H p = some (.lst vs)) (r : RpAll K (Mask O H) vs ds) : Wk false K O H (Itl K p) ds := by
  refine ⟨_, _, r.length ▸ walk_list (xs := vs), fun O2 H2 l => SqL.of (mask_le _ _ _ _ (l _ _ h)), fun O2 H2 i x H3 d t l e y => ?_⟩
  obtain ⟨rfl, y2⟩ := y
  obtain ⟨d', e', rr⟩ := r.get y2
  rw [e] at e'
  cases e'
  exact ⟨Grow.refl _ _, .inl (rr.mono l)⟩
theorem wk_tup {K : PySem.W.Frag} {O : List Addr} {H : Hp} {p : Addr} {vs : List V} {ds : List D} (h : SqT K (Mask O H) p vs) (r : RpAll K (Mask O H) vs ds) : Wk false K O H (Itt K p) ds := by
  refine ⟨_, _, r.length ▸ walk_tup (xs := vs), fun O2 H2 l => sqT_mono (mask_le _ _) (sqT_mono l h), fun O2 H2 i x H3 d t l e y => ?_⟩
  obtain ⟨rfl, y2⟩ := y
  obtain ⟨d', e', rr⟩ := r.get y2
  rw [e] at e'
  cases e'
  exact ⟨Grow.refl _ _, .inl (rr.mono l)⟩
theorem wk_str {K : PySem.W.Frag} {O : List Addr} {H : Hp} {z : Str} : Wk false K O H (Its z) (signsD z) := by
  refine ⟨fun _ => True, _, by unfold signsD; rw [List.length_map, Array.length_toList]; exact walk_str, fun _ _ _ => trivial, fun O2 H2 i x H3 d t l e y => ?_⟩
  obtain ⟨rfl, c, hc, rfl⟩ := y
  unfold signsD at e
  rw [List.getElem?_map, Array.getElem?_toList, hc] at e
  cases e
  exact ⟨Grow.refl _ _, .inl (.str _)⟩
theorem si_seq (hl : PE X e t → PI X tg e (iSeq X.K t)) (h : SE X W e t m) : SI X W false tg e (iSeq X.K t) (mIt m) := by
  refine ⟨hl h.pe, fun F O E σ H R Re s => ?_⟩
  have s' := s.bnd
  cases hm : m E with
  | bad => rw [hm] at s'; exact s'.elim
  | ex x E1 => rw [hm] at s'; exact .inl (h.rd F O E σ H _ Re (by rw [hm]; exact s'))
  | ok d E1 =>
    rw [hm] at s'
    obtain ⟨its, hi, k⟩ := Sat.lift s'
    cases d <;> first | (cases hi; done) | skip
    · cases hi
      refine .inr (.inr (h.rd F O E σ H _ Re (by
        rw [hm]
        intro O1 v H1 R1 l1 r1
        cases r1
        exact ⟨_, rfl, k O1 H1 _ R1 l1 wk_str⟩)))
    · cases hi
      refine .inl (h.rd F O E σ H _ Re (by
        rw [hm]
        intro O1 v H1 R1 l1 r1
        cases r1 with
        | lst hp rr => exact ⟨_, rfl, ⟨_, SqL.of (mask_le _ _ _ _ hp)⟩, k O1 H1 _ R1 l1 (wk_list hp rr)⟩))
    · cases hi
      refine .inr (.inl (h.rd F O E σ H _ Re (by
        rw [hm]
        intro O1 v H1 R1 l1 r1
        cases r1 with
        | tup hp rr => exact ⟨_, rfl, ⟨_, sqT_mono (mask_le _ _) hp.t⟩, k O1 H1 _ R1 l1 (wk_tup hp.t rr)⟩)))
def rangeD (lo hi : Int) : List D := (List.range (hi - lo).toNat).map fun k => .int (lo + (k : Nat))
noncomputable def rgOk (i : Int) : Bool := @decide (-1000000 ≤ i ∧ i ≤ 1000000) (Classical.propDecidable _)
theorem rgOk_iff {i : Int} : rgOk i = true ↔ -1000000 ≤ i ∧ i ≤ 1000000 := by
  unfold rgOk
  exact @decide_eq_true_iff _ (Classical.propDecidable _)
theorem wk_range {K : PySem.W.Frag} {O : List Addr} {H : Hp} {lo : Int} {n : Nat} : Wk false K O H (Itr lo n) ((List.range n).map fun k => .int (lo + (k : Nat))) := by
  refine ⟨fun _ => True, YFn fun i => .int (lo + i), ?_, fun _ _ _ => trivial, fun O2 H2 i x H3 d t l e y => ?_⟩
  · rw [List.length_map, List.length_range]
    exact walk_range
  · obtain ⟨rfl, rfl⟩ := y
    rw [List.getElem?_map] at e
    cases q : (List.range n)[i]? with
    | none => rw [q] at e; cases e
    | some k =>
      rw [q] at e
      cases e
      have := (List.getElem?_eq_some_iff.mp q).2
      rw [List.getElem_range] at this
      subst this
      exact ⟨Grow.refl _ _, .inl (.int _)⟩
theorem rgOk_b {i : Int} (h : rgOk i = true) : -(2 ^ 62) ≤ i ∧ i < 2 ^ 62 := by
  have h := rgOk_iff.mp h
  omega
noncomputable def mRng1 (ms : M (List Ag)) : M (List D) := bnd ms fun as => fun E => match rsvs E as with
  | some [.int j] => if rgOk j then .ok (rangeD 0 j) E else .bad
  | _ => .bad
noncomputable def mRng2 (ms : M (List Ag)) : M (List D) := bnd ms fun as => fun E => match rsvs E as with
  | some [.int i, .int j] => if rgOk i && rgOk j then .ok (rangeD i j) E else .bad
  | _ => .bad
theorem si_range1 {es : List Expr} {ts : TA} {ms : M (List Ag)} (hp : PA X es ts → PI X tg e (iRng1 ts)) (h : SOs X W es ts ms) : SI X W false tg e (iRng1 ts) (mRng1 ms) := by
  refine ⟨hp h.pa, fun F O E σ H R Re s => h.rd F O E σ H _ Re (s.bnd.mono (fun as E1 k O1 vs H1 R1 l1 av => ?_) (fun _ _ k => k))⟩
  split at k
  · rename_i j q
    split at k
    · rename_i hj
      obtain ⟨v, rfl, rq⟩ := paired1 (R1.rsvs av q)
      cases rq.int
      obtain ⟨b1, b2⟩ := rgOk_b hj
      exact ⟨j, rfl, b1, b2, k O1 H1 _ R1 l1 (by have := wk_range (K := X.K) (O := O1) (H := H1) (lo := 0) (n := j.toNat); unfold rangeD; rw [Int.sub_zero]; exact this)⟩
    · exact k.elim
  · exact k.elim
theorem walk_zipT {K : PySem.W.Frag} {a b : Addr} {xs ys : List V} {n : Nat} (hn : n = min xs.length ys.length) : Walk (RZ.ItzT K a b) n (fun H => SqT K H a xs ∧ SqT K H b ys) (YPair (fun i => xs[i]?) (fun i => ys[i]?)) := by
  subst hn
  refine ⟨fun i _ hi q => ?_, fun _ q => ⟨xs, ys, q.1, q.2, by omega⟩, fun i H v H' _ q y => ?_⟩
  · have h1 : i < xs.length := by omega
    have h2 : i < ys.length := by omega
    exact ⟨xs, ys, xs[i], ys[i], q.1, q.2, by simp [h1], by simp [h2]⟩
  · obtain ⟨T, x, z, h1, h2, h3, h4, h5⟩ := y
    exact ⟨T, x, z, h1, h2, h3, h4 xs q.1, h5 ys q.2⟩
def zipD (xs ys : List D) : List D := List.zipWith (fun x y => .tuple [x, y]) xs ys
theorem pair_new {K : PySem.W.Frag} {O : List Addr} {H : Hp} {T : Addr} {x y : V} {d d2 : D} (t : Trk O H) (r1 : Rp K (Mask O H) x d) (r2 : Rp K (Mask O H) y d2) (hT : H T = none) : Grow O H (upd H T (.tup [x, y])) ∧ RpB true K (Mask O (upd H T (.tup [x, y]))) (.ref T) (.tuple [d, d2]) := new_tupW t (.cons r1 (.cons r2 .nil)) hT
theorem wk_pair {K : PySem.W.Frag} {O : List Addr} {H : Hp} {J : It} {vs ws : List V} {ds es : List D} {G : Hp → Prop} (w : Walk J (min vs.length ws.length) G (YPair (fun i => vs[i]?) (fun i => ws[i]?))) (hG : ∀ O2 H2, Le O H O2 H2 → G H2)
    (r1 : RpAll K (Mask O H) vs ds) (r2 : RpAll K (Mask O H) ws es) : Wk true K O H J (zipD ds es) := by
  refine ⟨G, YPair (fun i => vs[i]?) (fun i => ws[i]?), ?_, hG, fun O2 H2 i x H3 d t l e y => ?_⟩
  · unfold zipD
    rw [List.length_zipWith, ← r1.length, ← r2.length]
    exact w
  · obtain ⟨T, x1, x2, rfl, nT, rfl, e1, e2⟩ := y
    obtain ⟨d1, q1, s1⟩ := r1.get e1
    obtain ⟨d2, q2, s2⟩ := r2.get e2
    unfold zipD at e
    rw [List.getElem?_zipWith, q1, q2] at e
    cases e
    exact pair_new t (s1.mono l) (s2.mono l) nT
def mZip (ms : M (List D)) : M (List D) := bnd ms fun ds => match ds with
  | [.list xs, .list ys] => ret (zipD xs ys)
  | [.tuple xs, .tuple ys] => ret (zipD xs ys)
  | _ => stuck
theorem si_zip {es : List Expr} {ts : TA} {ms : M (List D)} (hp : PA X es ts → PI X tg e (RZ.iZipA X.K ts)) (h : SA X W es ts ms) : SI X W true tg e (RZ.iZipA X.K ts) (mZip ms) := by
  refine ⟨hp h.pa, fun F O E σ H R Re s => h.rd F O E σ H _ Re (s.bnd.mono (fun ds E1 k O1 vs H1 R1 l1 rr => ?_) (fun _ _ k => k))⟩
  split at k
  · cases rr with
    | cons r1 rr =>
      cases rr with
      | cons r2 rr =>
        cases rr
        cases r1 with
        | lst h1 s1 =>
          cases r2 with
          | lst h2 s2 =>
            refine ⟨_, _, _, _, rfl, .inl ⟨SqL.of (mask_le _ _ _ _ h1), SqL.of (mask_le _ _ _ _ h2), k O1 H1 _ R1 l1 ?_⟩⟩
            exact wk_pair (walk_zip rfl) (fun O2 H2 l => ⟨SqL.of (mask_le _ _ _ _ (l _ _ h1)), SqL.of (mask_le _ _ _ _ (l _ _ h2))⟩) s1 s2
  · cases rr with
    | cons r1 rr =>
      cases rr with
      | cons r2 rr =>
        cases rr
        cases r1 with
        | tup h1 s1 =>
          cases r2 with
          | tup h2 s2 =>
            refine ⟨_, _, _, _, rfl, .inr ⟨sqT_mono (mask_le _ _) h1.t, sqT_mono (mask_le _ _) h2.t, k O1 H1 _ R1 l1 ?_⟩⟩
            exact wk_pair (walk_zipT rfl) (fun O2 H2 l => ⟨sqT_mono (mask_le _ _) (sqT_mono l h1.t), sqT_mono (mask_le _ _) (sqT_mono l h2.t)⟩) s1 s2
  · exact k.elim
def enumD (xs : List D) : List D := zipD ((List.range xs.length).map fun (i : Nat) => .int (i : Int)) xs
def mEnum (ms : M (List D)) : M (List D) := bnd ms fun ds => match ds with
  | [.list xs] => ret (enumD xs)
  | _ => stuck
end
end Bt
namespace Bt
open PySem L2
abbrev W0 : WX := fun _ _ _ _ => False
structure STs (X : Cx) (W : WX) (es : List Expr) (t : TT) (m : M Bool) : Prop where
  pt : PTs X es t
  rd : ∀ F O E σ H (Q : Bool → Hp → Prop), Rel X.K F O E σ H → Sat (m E) (KB X.K F σ O H Q) (KX X.K X.mg F σ O H W) → t σ H Q
theorem sts_nil {X : Cx} {W : WX} : STs X W [] tYes (ret true) := ⟨pts_nil, fun F O E σ H Q R s => s O H R (Le.refl O H)⟩
theorem sts_one {X : Cx} {W : WX} {e : Expr} {t : TT} {m : M Bool} (h : STt X W e t m) : STs X W [e] t m := ⟨pts_one h.pt, h.rd⟩
section
variable {K : PySem.W.Frag} {F : Frm} {O : List Addr} {E : En} {σ : L2.St} {H : Hp}
theorem mask_cons_new {p : Addr} {o : HO} (h : H p = none) : Same (Mask O H) (Mask (p :: O) (upd H p o)) := fun a x e => by
  obtain ⟨n, e⟩ := mask_some e
  have hne : a ≠ p := ne_of_none e h
  rw [mask_out (by intro z; cases z with | head => exact hne rfl | tail _ z => exact n z), upd_ne hne]
  exact e
theorem mask_upd_in {p : Addr} {o : HO} (h : p ∈ O) : Mask O (upd H p o) = Mask O H := by
  funext a
  by_cases q : a ∈ O
  · rw [mask_in q, mask_in q]
  · have hne : a ≠ p := fun z => q (by rw [z]; exact h)
    rw [mask_out q, mask_out q, upd_ne hne]
theorem Rel.newF {p : Addr} {o : HO} (R : Rel K F O E σ H) (h : H p = none) : Rel K ((p, o) :: F) (p :: O) E σ (upd H p o) := by
  have l := mask_cons_new (O := O) (o := o) h
  have hO := trk_fresh R.trk h
  refine ⟨R.len, fun q hq => ?_, fun i s e => ?_, R.apart, fun x hx => ?_, fun i ds q e1 e2 x hx => ?_⟩
  · by_cases z : q = p
    · subst z; rw [upd_same]; exact fun z => nomatch z
    · rw [upd_ne z]
      cases hq with
      | head => exact absurd rfl z
      | tail _ hq => exact R.trk q hq
  · have z := R.slot i s e
    cases s with
    | un => trivial
    | dat d => obtain ⟨v, e, r⟩ := z; exact ⟨v, e, r.mono l⟩
    | ow ds =>
      obtain ⟨q, vs, e, hq, hh, r⟩ := z
      have hne : q ≠ p := fun z => hO (by rw [← z]; exact hq)
      exact ⟨q, vs, e, List.mem_cons_of_mem _ hq, by rw [upd_ne hne]; exact hh, r.mono l⟩
    | scr ns => obtain ⟨q, e, r⟩ := z; exact ⟨q, e, Same.seq l r⟩
  · cases hx with
    | head => exact ⟨List.mem_cons_self, upd_same⟩
    | tail _ hx =>
      obtain ⟨h1, h2⟩ := R.frm x hx
      have hne : x.1 ≠ p := fun z => hO (by rw [← z]; exact h1)
      exact ⟨List.mem_cons_of_mem _ h1, by rw [upd_ne hne]; exact h2⟩
  · cases hx with
    | head =>
      obtain ⟨q', vs, e', hq, _⟩ := R.slot i _ e1
      rw [e2] at e'
      cases e'
      exact fun z => hO (by rw [show p = q from z]; exact hq)
    | tail _ hx => exact R.fap i ds q e1 e2 x hx
theorem Rel.updF {p : Addr} {o o' : HO} (R : Rel K ((p, o) :: F) O E σ H) (hF : ∀ x ∈ F, x.1 ≠ p) : Rel K ((p, o') :: F) O E σ (upd H p o') := by
  obtain ⟨hp, _⟩ := R.frm _ List.mem_cons_self
  have hp : p ∈ O := hp
  have em : Mask O (upd H p o') = Mask O H := mask_upd_in hp
  refine ⟨R.len, fun q hq => ?_, fun i s e => ?_, R.apart, fun x hx => ?_, fun i ds q e1 e2 x hx => ?_⟩
  · by_cases z : q = p
    · subst z; rw [upd_same]; exact fun z => nomatch z
    · rw [upd_ne z]; exact R.trk q hq
  · have z := R.slot i s e
    cases s with
    | un => trivial
    | dat d => obtain ⟨v, e, r⟩ := z; exact ⟨v, e, by rw [em]; exact r⟩
    | ow ds =>
      obtain ⟨q, vs, e', hq, hh, r⟩ := z
      have hne : q ≠ p := fun z => R.fap i ds q e e' _ List.mem_cons_self z.symm
      exact ⟨q, vs, e', hq, by rw [upd_ne hne]; exact hh, by rw [em]; exact r⟩
    | scr ns => obtain ⟨q, e, r⟩ := z; exact ⟨q, e, by rw [em]; exact r⟩
  · cases hx with
    | head => exact ⟨hp, upd_same⟩
    | tail _ hx =>
      obtain ⟨h1, h2⟩ := R.frm x (List.mem_cons_of_mem _ hx)
      exact ⟨h1, by rw [upd_ne (hF x hx)]; exact h2⟩
  · cases hx with
    | head => exact R.fap i ds q e1 e2 (p, o) List.mem_cons_self
    | tail _ hx => exact R.fap i ds q e1 e2 x (List.mem_cons_of_mem _ hx)
def rmA (O : List Addr) (p : Addr) : List Addr := O.filter fun q => decide (q ≠ p)
theorem mem_rmA {p q : Addr} : q ∈ rmA O p ↔ q ∈ O ∧ q ≠ p := by
  unfold rmA
  rw [List.mem_filter]
  simp
theorem mask_rm {p : Addr} : Same (Mask O H) (Mask (rmA O p) H) := fun a x e => by
  obtain ⟨n, e⟩ := mask_some e
  rw [mask_out (fun z => n (mem_rmA.mp z).1)]
  exact e
theorem Rel.freeF {p : Addr} {o : HO} (R : Rel K ((p, o) :: F) O E σ H) (hF : ∀ x ∈ F, x.1 ≠ p) : Rel K F (rmA O p) E σ H := by
  have l := mask_rm (O := O) (H := H) (p := p)
  refine ⟨R.len, fun q hq => R.trk q (mem_rmA.mp hq).1, fun i s e => ?_, R.apart, fun x hx => ?_, fun i ds q e1 e2 x hx => R.fap i ds q e1 e2 x (List.mem_cons_of_mem _ hx)⟩
  · have z := R.slot i s e
    cases s with
    | un => trivial
    | dat d => obtain ⟨v, e, r⟩ := z; exact ⟨v, e, r.mono l⟩
    | ow ds =>
      obtain ⟨q, vs, e', hq, hh, r⟩ := z
      have hne : q ≠ p := fun z => R.fap i ds q e e' _ List.mem_cons_self z.symm
      exact ⟨q, vs, e', mem_rmA.mpr ⟨hq, hne⟩, hh, r.mono l⟩
    | scr ns => obtain ⟨q, e, r⟩ := z; exact ⟨q, e, Same.seq l r⟩
  · obtain ⟨h1, h2⟩ := R.frm x (List.mem_cons_of_mem _ hx)
    exact ⟨mem_rmA.mpr ⟨h1, hF x hx⟩, h2⟩
end

theorem wipe_get {σ : L2.St} {i : Nat} : ∀ {vs : List Nat}, i ∈ vs → i < σ.length → (L2.wipe σ vs)[i]? = some none
  | [], h, _ => by cases h
  | v :: vs, h, hl => by
    show ((L2.wipe σ vs).set v none)[i]? = some none
    by_cases e : v = i
    · subst e
      rw [List.getElem?_set_self (by rw [wipe_length]; exact hl)]
    · rw [List.getElem?_set_ne e]
      cases h with
      | head => exact absurd rfl e
      | tail _ h => exact wipe_get h hl
theorem wipe_wipe (σ : L2.St) (vs : List Nat) : L2.wipe (L2.wipe σ vs) vs = L2.wipe σ vs := by
  refine List.ext_getElem? fun i => ?_
  by_cases h : i ∈ vs
  · by_cases hl : i < σ.length
    · rw [wipe_get h (by rw [wipe_length]; exact hl), wipe_get h hl]
    · rw [List.getElem?_eq_none (by rw [wipe_length, wipe_length]; omega), List.getElem?_eq_none (by rw [wipe_length]; omega)]
  · rw [get_wipe h]
section
variable (vs : List Nat) (g : MG) (mt : M Bool) (me : M D) (E0 : En)
def lcGo : List D → En → List D → Res D
  | [], E, acc => .ok (.list acc) (backE E0 E vs)
  | d :: ds, E, acc => match g d (wipeE E vs) with
    | none => .bad
    | some E1 => match mt E1 with
      | .ok true E2 => match me E2 with
        | .ok y E3 => if acc.length < LIM then lcGo ds E3 (acc ++ [y]) else .bad
        | _ => .bad
      | .ok false E2 => lcGo ds E2 acc
      | _ => .bad
end
def mLc (mi : M (List D)) (g : MG) (mt : M Bool) (me : M D) (vs : List Nat) : M D := bnd mi fun its => fun E => lcGo vs g mt me E its E []
theorem lc_rd {X : Cx} {W : WX} {tg : Expr} {wi : TI} {mi : M (List D)} {g : TG} {mg : MG} {tt : TT} {mt : M Bool} {te : TE} {me : M D} {vs : List Nat} {iter : Expr} {b : Bool} (hi : SI X W b tg iter wi mi)
    (hg : ∀ O E σ H v d E' (F : Frm) (Q : L2.St → Hp → Prop), Rel X.K F O E σ H → RpB b X.K (Mask O H) v d → mg d E = some E' → (∀ σ', Rel X.K F O E' σ' H → L2.wipe σ' vs = L2.wipe σ vs → Q σ' H) → g v σ H Q)
    (ht : ∀ F O E σ H (Q : Bool → Hp → Prop), Rel X.K F O E σ H → Sat (mt E) (KB X.K F σ O H Q) (KX X.K X.mg F σ O H W0) → tt σ H Q)
    (he : ∀ F O E σ H (Q : VK), Rel X.K F O E σ H → Sat (me E) (KD X.K F σ O H Q) (KX X.K X.mg F σ O H W0) → te σ H Q) :
    ∀ F O E σ H (Q : VK), Rel X.K F O E σ H → Sat (mLc mi mg mt me vs E) (KD X.K F σ O H Q) (KX X.K X.mg F σ O H W) → tLc wi g tt te vs σ H Q := by
  intro F O E σ H Q R s
  refine hi.rd F O E σ H _ R (s.bnd.mono (fun its E1 k O1 H1 J R1 l1 wk => ?_) (fun _ _ k => k))
  intro D nD
  obtain ⟨G, Y, w, hG, hY⟩ := wk.ex
  have hFD : ∀ x ∈ F, x.1 ≠ D := fun x hx z => by
    have h2 := (R1.frm x hx).2
    rw [z, nD] at h2
    cases h2
  refine lc_it w (fun i H2 => ∃ O2 E2 σ2 acc ws, Rel X.K ((D, .lst ws) :: F) O2 E2 σ2 H2 ∧ L2.wipe σ2 vs = L2.wipe σ vs ∧ Le O1 H1 O2 H2 ∧ RpAll X.K (Mask O2 H2) ws acc ∧ i ≤ its.length ∧ Sat (lcGo vs mg mt me E1 (its.drop i) E2 acc) (KD X.K F σ O H Q) (KX X.K X.mg F σ O H W)) ?_ ?_ ?_ ?_
  · exact ⟨D :: O1, E1, σ, [], [], R1.newF nD, rfl, mask_cons_new nD, .nil, Nat.zero_le _, k⟩
  · rintro i H2 hi ⟨O2, E2, σ2, acc, ws, R2, _, l2, _⟩
    exact hG O2 H2 l2
  · rintro i x H2 H3 hi ⟨O2, E2, σ2, acc, ws, R2, hw, l2, ra, _, s2⟩ y
    have hd : its.drop i = its[i] :: its.drop (i + 1) := List.drop_eq_getElem_cons hi
    rw [hd] at s2
    unfold lcGo at s2
    obtain ⟨gr, rx⟩ := hY O2 H2 i x H3 its[i] R2.trk l2 (List.getElem?_eq_getElem hi) y
    have R3 := (R2.grow gr).wipe vs
    rw [hw] at R3
    cases eg : mg its[i] (wipeE E2 vs) with
    | none => rw [eg] at s2; exact s2.elim
    | some E3 =>
      rw [eg] at s2
      refine hg O2 _ _ H3 x its[i] E3 _ _ R3 rx eg fun σ3 R4 hw3 => ⟨by rw [hw3]; exact wipe_wipe _ _, ?_⟩
      dsimp only at s2
      refine ht _ O2 E3 σ3 H3 _ R4 ?_
      cases em : mt E3 with
      | bad => rw [em] at s2; exact s2.elim
      | ex _ _ => rw [em] at s2; exact s2.elim
      | ok bb E4 =>
        rw [em] at s2
        intro O4 H4 R5 l4
        have l5 : Le O1 H1 O4 H4 := (l2.trans gr.le).trans l4
        cases bb with
        | false =>
          show ∃ _, _
          exact ⟨O4, E4, σ3, acc, ws, R5, by rw [hw3]; exact wipe_wipe _ _, l5, (ra.mono gr.le).mono l4, hi, s2⟩
        | true =>
          show te σ3 H4 _
          dsimp only at s2
          refine he _ O4 E4 σ3 H4 _ R5 ?_
          cases ee : me E4 with
          | bad => rw [ee] at s2; exact s2.elim
          | ex _ _ => rw [ee] at s2; exact s2.elim
          | ok y E5 =>
            rw [ee] at s2
            intro O5 v5 H5 R6 l6 rv
            dsimp only at s2
            split at s2
            · rename_i hlim
              have l7 : Le O1 H1 O5 H5 := l5.trans l6
              have ra5 : RpAll X.K (Mask O5 H5) ws acc := ((ra.mono gr.le).mono l4).mono l6
              obtain ⟨hDO, hDw⟩ := R6.frm _ List.mem_cons_self
              refine ⟨ws, hDw, by rw [ra5.length]; exact lim_lt hlim, ?_⟩
              have em5 : Mask O5 (upd H5 D (.lst (ws ++ [v5]))) = Mask O5 H5 := mask_upd_in hDO
              exact ⟨O5, E5, σ3, acc ++ [y], ws ++ [v5], R6.updF hFD, by rw [hw3]; exact wipe_wipe _ _, by unfold Le; rw [em5]; exact l7, by rw [em5]; exact ra5.append (.one rv), hi, s2⟩
            · exact s2.elim
  · rintro H2 ⟨O2, E2, σ2, acc, ws, R2, hw, l2, ra, _, s2⟩
    rw [List.drop_length] at s2
    obtain ⟨hDO, hDw⟩ := R2.frm _ List.mem_cons_self
    have R3 := R2.freeF hFD
    have l3 : Same (Mask O2 H2) (Mask (rmA O2 D) H2) := mask_rm
    refine s2 (rmA O2 D) (.ref D) H2 (R1.back R3 (l2.trans l3) hw) ((l1.trans l2).trans l3) (.lst ?_ (ra.mono l3))
    rw [mask_out (fun z => (mem_rmA.mp z).2 rfl)]
    exact hDw
theorem lc_rdF {X : Cx} {W : WX} {tg : Expr} {wi : TI} {mi : M (List D)} {g : TG} {mg : MG} {tt : TT} {mt : M Bool} {te : TE} {me : M D} {vs : List Nat} {iter : Expr} {b : Bool} (hi : SI X W b tg iter wi mi)
    (hg : ∀ O E σ H v d E' (F : Frm) (Q : L2.St → Hp → Prop), Rel X.K F O E σ H → RpB b X.K (Mask O H) v d → mg d E = some E' → (∀ σ', Rel X.K F O E' σ' H → L2.wipe σ' vs = L2.wipe σ vs → Q σ' H) → g v σ H Q)
    (ht : ∀ F O E σ H (Q : Bool → Hp → Prop), Rel X.K F O E σ H → Sat (mt E) (KB X.K F σ O H Q) (KX X.K X.mg F σ O H W0) → tt σ H Q)
    (he : ∀ F O E σ H (Q : VK), Rel X.K F O E σ H → Sat (me E) (KD X.K F σ O H Q) (KX X.K X.mg F σ O H W0) → te σ H Q) :
    ∀ F O E σ H (Q : VK), Rel X.K F O E σ H → Sat (mLc mi mg mt me vs E) (fun d E' => ∀ O' p ws ds H', d = .list ds → Rel X.K ((p, .lst ws) :: F) O' E' σ H' → (∀ x ∈ F, x.1 ≠ p) → Le O H O' H' → RpAll X.K (Mask O' H') ws ds → Q (.ref p) H') (KX X.K X.mg F σ O H W) → tLc wi g tt te vs σ H Q := by
  intro F O E σ H Q R s
  refine hi.rd F O E σ H _ R (s.bnd.mono (fun its E1 k O1 H1 J R1 l1 wk => ?_) (fun _ _ k => k))
  intro D nD
  obtain ⟨G, Y, w, hG, hY⟩ := wk.ex
  have hFD : ∀ x ∈ F, x.1 ≠ D := fun x hx z => by
    have h2 := (R1.frm x hx).2
    rw [z, nD] at h2
    cases h2
  refine lc_it w (fun i H2 => ∃ O2 E2 σ2 acc ws, Rel X.K ((D, .lst ws) :: F) O2 E2 σ2 H2 ∧ L2.wipe σ2 vs = L2.wipe σ vs ∧ Le O1 H1 O2 H2 ∧ RpAll X.K (Mask O2 H2) ws acc ∧ i ≤ its.length ∧ Sat (lcGo vs mg mt me E1 (its.drop i) E2 acc) (fun d E' => ∀ O' p ws ds H', d = .list ds → Rel X.K ((p, .lst ws) :: F) O' E' σ H' → (∀ x ∈ F, x.1 ≠ p) → Le O H O' H' → RpAll X.K (Mask O' H') ws ds → Q (.ref p) H') (KX X.K X.mg F σ O H W)) ?_ ?_ ?_ ?_
  · exact ⟨D :: O1, E1, σ, [], [], R1.newF nD, rfl, mask_cons_new nD, .nil, Nat.zero_le _, k⟩
  · rintro i H2 hi ⟨O2, E2, σ2, acc, ws, R2, _, l2, _⟩
    exact hG O2 H2 l2
  · rintro i x H2 H3 hi ⟨O2, E2, σ2, acc, ws, R2, hw, l2, ra, _, s2⟩ y
    have hd : its.drop i = its[i] :: its.drop (i + 1) := List.drop_eq_getElem_cons hi
    rw [hd] at s2
    unfold lcGo at s2
    obtain ⟨gr, rx⟩ := hY O2 H2 i x H3 its[i] R2.trk l2 (List.getElem?_eq_getElem hi) y
    have R3 := (R2.grow gr).wipe vs
    rw [hw] at R3
    cases eg : mg its[i] (wipeE E2 vs) with
    | none => rw [eg] at s2; exact s2.elim
    | some E3 =>
      rw [eg] at s2
      refine hg O2 _ _ H3 x its[i] E3 _ _ R3 rx eg fun σ3 R4 hw3 => ⟨by rw [hw3]; exact wipe_wipe _ _, ?_⟩
      dsimp only at s2
      refine ht _ O2 E3 σ3 H3 _ R4 ?_
      cases em : mt E3 with
      | bad => rw [em] at s2; exact s2.elim
      | ex _ _ => rw [em] at s2; exact s2.elim
      | ok bb E4 =>
        rw [em] at s2
        intro O4 H4 R5 l4
        have l5 : Le O1 H1 O4 H4 := (l2.trans gr.le).trans l4
        cases bb with
        | false =>
          show ∃ _, _
          exact ⟨O4, E4, σ3, acc, ws, R5, by rw [hw3]; exact wipe_wipe _ _, l5, (ra.mono gr.le).mono l4, hi, s2⟩
        | true =>
          show te σ3 H4 _
          dsimp only at s2
          refine he _ O4 E4 σ3 H4 _ R5 ?_
          cases ee : me E4 with
          | bad => rw [ee] at s2; exact s2.elim
          | ex _ _ => rw [ee] at s2; exact s2.elim
          | ok y E5 =>
            rw [ee] at s2
            intro O5 v5 H5 R6 l6 rv
            dsimp only at s2
            split at s2
            · rename_i hlim
              have l7 : Le O1 H1 O5 H5 := l5.trans l6
              have ra5 : RpAll X.K (Mask O5 H5) ws acc := ((ra.mono gr.le).mono l4).mono l6
              obtain ⟨hDO, hDw⟩ := R6.frm _ List.mem_cons_self
              refine ⟨ws, hDw, by rw [ra5.length]; exact lim_lt hlim, ?_⟩
              have em5 : Mask O5 (upd H5 D (.lst (ws ++ [v5]))) = Mask O5 H5 := mask_upd_in hDO
              exact ⟨O5, E5, σ3, acc ++ [y], ws ++ [v5], R6.updF hFD, by rw [hw3]; exact wipe_wipe _ _, by unfold Le; rw [em5]; exact l7, by rw [em5]; exact ra5.append (.one rv), hi, s2⟩
            · exact s2.elim
  · rintro H2 ⟨O2, E2, σ2, acc, ws, R2, hw, l2, ra, _, s2⟩
    rw [List.drop_length] at s2
    obtain ⟨hDO, hDw⟩ := R2.frm _ List.mem_cons_self
    exact s2 O2 D ws acc H2 rfl (R1.back R2 l2 hw) hFD (l1.trans l2) ra
end Bt
namespace Bt
open PySem L2
section
variable {X : Cx} {W : WX}
theorem se_lc {b : Bool} {elt tg iter : Expr} {ifs : List Expr} {scope : Scope} {own : List (Str × Nat)} {asg : List Nat} {pos : Pos} {wi : TI} {g : TG} {tt : TT} {te : TE} {mi : M (List D)} {mg : MG} {mt : M Bool} {me : M D} (hc : X.calm = true) (hN : X.N.Nodup) (hi : SI X W b tg iter wi mi) (ok : BlkOk X.N X.env.scope scope own)
    (hg : ∀ (s : Shared) (H : Hp) (C : Addr) (cl : List (Str × Addr)) (fp : List Addr), SG (X.blk s H scope (compEnvC scope cl C X.env) fp) b asg tg g mg) (ha : ∀ i ∈ asg, i ∈ own.map (·.2)) (ht : ∀ (s : Shared) (H : Hp) (C : Addr) (cl : List (Str × Addr)) (fp : List Addr), STs (X.blk s H scope (compEnvC scope cl C X.env) fp) W0 ifs tt mt)
    (he : ∀ (s : Shared) (H : Hp) (C : Addr) (cl : List (Str × Addr)) (fp : List Addr), SE (X.blk s H scope (compEnvC scope cl C X.env) fp) W0 elt te me) (hs : ∀ x, foldedSetIterable iter X.env x = pure x := by intro _; rfl) :
    SE X W (.ListComp elt [⟨tg, iter, ifs, 0⟩] scope pos) (tLc wi g tt te (own.map (·.2))) (mLc mi mg mt me (own.map (·.2))) := by
  refine ⟨pe_lc hc hN hi.pi ok (fun s H C cl fp => (hg s H C cl fp).pg) (fun s H C cl fp => (ht s H C cl fp).pt) (fun s H C cl fp => (he s H C cl fp).pe) hs, ?_⟩
  refine lc_rd hi (fun O E σ H v d E' F Q R r e q => ?_) (fun F O E σ H Q R s => (ht X.s_0 X.H_0 0 [] []).rd F O E σ H Q R s) (fun F O E σ H Q R s => (he X.s_0 X.H_0 0 [] []).rd F O E σ H Q R s)
  exact (hg X.s_0 X.H_0 0 [] []).rd F O E σ H v d E' Q R r e fun σ' R' l' p' => q σ' R' (wipe_agree l' p' ha)
end

inductive Fl where
  | nx
  | bk
  | ct
  | rt (s : Sl)
def RelE (K : PySem.W.Frag) (F : Frm) (O' : List Addr) (E' : En) (σ' : L2.St) (H' : Hp) (v : V) : Fl → Prop
  | .nx => Rel K F O' E' σ' H'
  | .bk => Rel K F O' E' σ' H'
  | .ct => Rel K F O' E' σ' H'
  | .rt s => match s with
    | .dat d => Rel K F O' E' σ' H' ∧ Rp K (Mask O' H') v d
    | .ow ob => ∃ p ho, v = .ref p ∧ Rel K ((p, ho) :: F) O' E' σ' H' ∧ (∀ x ∈ F, x.1 ≠ p) ∧ RpO K (Mask O' H') ho ob
    | _ => False
def EndV (σ' : L2.St) (H' : Hp) (D' : Ends) (v : V) : Fl → Prop
  | .nx => D'.nx σ' H'
  | .bk => D'.bk σ' H'
  | .ct => D'.ct σ' H'
  | .rt _ => D'.rt v H'
abbrev Agr (asg : List Nat) (σ σ' : L2.St) : Prop := ∀ i, i ∉ asg → σ'[i]? = σ[i]?
abbrev KS (K : PySem.W.Frag) (F : Frm) (asg : List Nat) (σ : L2.St) (O : List Addr) (H : Hp) (D' : Ends) : Fl → En → Prop := fun f E' => ∀ O' σ' H' v, RelE K F O' E' σ' H' v f → Le O H O' H' → Agr asg σ σ' → EndV σ' H' D' v f
abbrev KXs (K : PySem.W.Frag) (mg : Str → Option Value) (F : Frm) (asg : List Nat) (σ : L2.St) (O : List Addr) (H : Hp) (W : WX) : Exc → En → Prop := fun x E' => ∀ O' σ' H' c dd, Rel K F O' E' σ' H' → Le O H O' H' → Agr asg σ σ' → ExR K mg O' H' x c dd → W c dd σ' H'
structure SS (X : Cx) (W : WX) (asg : List Nat) (st : Stmt) (t : TS) (m : M Fl) : Prop where
  ps : PS X st t
  rd : ∀ F O E σ H (D' : Ends), Rel X.K F O E σ H → Sat (m E) (KS X.K F asg σ O H D') (KXs X.K X.mg F asg σ O H W) → t D' σ H
structure SSs (X : Cx) (W : WX) (asg : List Nat) (st : List Stmt) (t : TS) (m : M Fl) : Prop where
  ps : PSs X st t
  rd : ∀ F O E σ H (D' : Ends), Rel X.K F O E σ H → Sat (m E) (KS X.K F asg σ O H D') (KXs X.K X.mg F asg σ O H W) → t D' σ H
theorem Agr.refl {asg : List Nat} {σ : L2.St} : Agr asg σ σ := fun _ _ => rfl
theorem Agr.trans {a b : List Nat} {σ σ1 σ2 : L2.St} (h : Agr a σ σ1) (h2 : Agr b σ1 σ2) : Agr (a ++ b) σ σ2 := fun i hi => (h2 i fun z => hi (List.mem_append_right _ z)).trans (h i fun z => hi (List.mem_append_left _ z))
theorem Agr.left {a b : List Nat} {σ σ1 : L2.St} (h : Agr a σ σ1) : Agr (a ++ b) σ σ1 := fun i hi => h i fun z => hi (List.mem_append_left _ z)
theorem Agr.right {a b : List Nat} {σ σ1 : L2.St} (h : Agr b σ σ1) : Agr (a ++ b) σ σ1 := fun i hi => h i fun z => hi (List.mem_append_right _ z)
theorem KXs.of {K : PySem.W.Frag} {mg : Str → Option Value} {F : Frm} {asg : List Nat} {σ : L2.St} {O : List Addr} {H : Hp} {W : WX} : ∀ x E, KXs K mg F asg σ O H W x E → KX K mg F σ O H W x E := fun x E h O' H' c dd R l e => h O' σ H' c dd R l Agr.refl e
section
variable {X : Cx} {W : WX} {e : Expr} {t : TE} {m : M D} {pos : Pos}
def mNil : M Fl := ret .nx
def mSeq (a b : M Fl) : M Fl := fun E => match a E with
  | .ok .nx E' => b E'
  | r => r
theorem Sat.seq {a b : M Fl} {E : En} {k : Fl → En → Prop} {w : Exc → En → Prop} (h : Sat (mSeq a b E) k w) : Sat (a E) (fun f E' => match f with | .nx => Sat (b E') k w | f => k f E') w := by
  unfold mSeq at h
  cases e : a E with
  | bad => rw [e] at h; exact h
  | ex x E1 => rw [e] at h; exact h
  | ok f E1 => rw [e] at h; cases f <;> exact h
theorem sss_nil : SSs X W [] [] tNext mNil := ⟨pss_nil, fun F O E σ H D' R s => s O σ H .non R (Le.refl O H) Agr.refl⟩
theorem sss_cons {a1 a2 : List Nat} {st : Stmt} {sts : List Stmt} {t u : TS} {m1 m2 : M Fl} (h : SS X W a1 st t m1) (hs : SSs X W a2 sts u m2) : SSs X W (a1 ++ a2) (st :: sts) (tSeq t u) (mSeq m1 m2) := by
  refine ⟨pss_cons h.ps hs.ps, fun F O E σ H D' R s => h.rd F O E σ H _ R (s.seq.mono (fun f E1 k O1 σ1 H1 v1 R1 l1 a1 => ?_) (fun x E1 k O1 σ1 H1 c dd R1 l1 a1 ex => k O1 σ1 H1 c dd R1 l1 a1.left ex))⟩
  cases f with
  | nx =>
    refine hs.rd F O1 E1 σ1 H1 D' R1 (Sat.mono k (fun f E2 k2 O2 σ2 H2 v2 R2 l2 a2 => ?_) (fun x E2 k2 O2 σ2 H2 c dd R2 l2 a2 ex => k2 O2 σ2 H2 c dd R2 (l1.trans l2) (a1.trans a2) ex))
    exact k2 O2 σ2 H2 v2 R2 (l1.trans l2) (a1.trans a2)
  | bk => exact k O1 σ1 H1 v1 R1 l1 a1.left
  | ct => exact k O1 σ1 H1 v1 R1 l1 a1.left
  | rt d => exact k O1 σ1 H1 v1 R1 l1 a1.left
def mRet (m : M D) : M Fl := bnd m fun d => ret (.rt (.dat d))
theorem ss_ret (h : SE X W e t m) : SS X W [] (.Return (some e) pos) (tRet t) (mRet m) :=
  ⟨ps_ret h.pe, fun F O E σ H D' R s => h.rd F O E σ H _ R (s.bnd.mono (fun d E1 k O1 v H1 R1 l1 r => k O1 σ H1 v ⟨R1, r⟩ l1 Agr.refl) (KXs.of))⟩
def mExpr (m : M D) : M Fl := bnd m fun _ => ret .nx
theorem ss_expr (hp : PE X e t → PS X (.Expr e pos) (tDrop t)) (h : SE X W e t m) : SS X W [] (.Expr e pos) (tDrop t) (mExpr m) :=
  ⟨hp h.pe, fun F O E σ H D' R s => h.rd F O E σ H _ R (s.bnd.mono (fun d E1 k O1 v H1 R1 l1 r => k O1 σ H1 .non R1 l1 Agr.refl) (KXs.of))⟩
def mSet (g : MG) (m : M D) : M Fl := bnd m fun d => fun E => match g d E with
  | some E' => .ok .nx E'
  | none => .bad
theorem ss_asg {asg : List Nat} {tg : Expr} {g : TG} {mg : MG} {st : Stmt} (hp : PE X e t → PG X tg g → PS X st (tAsg t g)) (h : SE X W e t m) (hg : SG X false asg tg g mg) : SS X W asg st (tAsg t g) (mSet mg m) := by
  refine ⟨hp h.pe hg.pg, fun F O E σ H D' R s => h.rd F O E σ H _ R (s.bnd.mono (fun d E1 k O1 v H1 R1 l1 r => ?_) (KXs.of))⟩
  cases eg : mg d E1 with
  | none => rw [eg] at k; exact k.elim
  | some E2 =>
    rw [eg] at k
    exact hg.rd F O1 E1 σ H1 v d E2 _ R1 (.inl r) eg fun σ2 R2 _ a2 => k O1 σ2 H1 .non R2 l1 a2
def mIfS (mt : M Bool) (a b : M Fl) : M Fl := bnd mt fun c => if c then a else b
theorem ss_if {a1 a2 : List Nat} {c : Expr} {a b : List Stmt} {tc : TT} {t u : TS} {mt : M Bool} {m1 m2 : M Fl} (hc : STt X W c tc mt) (ha : SSs X W a1 a t m1) (hb : SSs X W a2 b u m2) : SS X W (a1 ++ a2) (.If c a b pos) (tIfS tc t u) (mIfS mt m1 m2) := by
  refine ⟨ps_if hc.pt ha.ps hb.ps, fun F O E σ H D' R s => hc.rd F O E σ H _ R (s.bnd.mono (fun c E1 k O1 H1 R1 l1 => ?_) (KXs.of))⟩
  cases c with
  | true =>
    show t D' σ H1
    exact ha.rd F O1 E1 σ H1 D' R1 (Sat.mono k (fun f E2 k2 O2 σ2 H2 v2 R2 l2 a2 => k2 O2 σ2 H2 v2 R2 (l1.trans l2) a2.left) (fun x E2 k2 O2 σ2 H2 c dd R2 l2 a2 ex => k2 O2 σ2 H2 c dd R2 (l1.trans l2) a2.left ex))
  | false =>
    show u D' σ H1
    exact hb.rd F O1 E1 σ H1 D' R1 (Sat.mono k (fun f E2 k2 O2 σ2 H2 v2 R2 l2 a2 => k2 O2 σ2 H2 v2 R2 (l1.trans l2) a2.right) (fun x E2 k2 O2 σ2 H2 c dd R2 l2 a2 ex => k2 O2 σ2 H2 c dd R2 (l1.trans l2) a2.right ex))
def forGo (ws : List Nat) (g : MG) (mb : M Fl) : List D → M Fl
  | [], E => .ok .nx E
  | d :: ds, E => match g d E with
    | none => .bad
    | some E1 => match mb E1 with
      | .ok .nx E2 => forGo ws g mb ds (wipeE E2 ws)
      | .ok .ct E2 => forGo ws g mb ds (wipeE E2 ws)
      | .ok .bk E2 => .ok .nx (wipeE E2 ws)
      | .ok (.rt d) E2 => .ok (.rt d) E2
      | .ex x E2 => .ex x E2
      | .bad => .bad
def mFor (ws : List Nat) (mi : M (List D)) (g : MG) (mb : M Fl) : M Fl := bnd mi fun its => forGo ws g mb its
theorem ss_for (ws : List Nat) {b : Bool} {a1 a2 : List Nat} {tg iter : Expr} {body : List Stmt} {wi : TI} {g : TG} {tb : TS} {mi : M (List D)} {mg : MG} {mb : M Fl} (hp : PassesOwn (model X.prog X.w) X.A X.env X.xe) (hc : X.calm = true) (hi : SI X W b tg iter wi mi) (hg : SG X b a1 tg g mg) (hb : SSs X W a2 body tb mb)
    (hs : ∀ x, foldedSetIterable iter X.env x = pure x := by intro _; rfl) : SS X W (a1 ++ a2) (.For tg iter body [] pos) (tFor wi g tb) (mFor ws mi mg mb) := by
  refine ⟨ps_for hp hc hi.pi hg.pg hb.ps hs, fun F O E σ H D' R s => hi.rd F O E σ H _ R (s.bnd.mono (fun its E1 k O1 H1 J R1 l1 wk => ?_) (KXs.of))⟩
  obtain ⟨G, Y, w, hG, hY⟩ := wk.ex
  have ag : ∀ {σ1 σ2 σ3 : L2.St}, Agr (a1 ++ a2) σ1 σ2 → Agr (a1 ++ a2) σ2 σ3 → Agr (a1 ++ a2) σ1 σ3 := fun h h2 i hi => (h2 i hi).trans (h i hi)
  refine for_it w (fun i σ2 H2 => ∃ O2 E2, Rel X.K F O2 E2 σ2 H2 ∧ Le O1 H1 O2 H2 ∧ Agr (a1 ++ a2) σ σ2 ∧ i ≤ its.length ∧ Sat (forGo ws mg mb (its.drop i) E2) (KS X.K F (a1 ++ a2) σ O H D') (KXs X.K X.mg F (a1 ++ a2) σ O H W)) ⟨O1, E1, R1, Le.refl _ _, Agr.refl, Nat.zero_le _, k⟩ ?_ ?_ ?_
  · rintro i σ2 H2 _ ⟨O2, E2, R2, l2, _⟩
    exact hG O2 H2 l2
  · rintro i x σ2 H2 H3 hi ⟨O2, E2, R2, l2, g2, _, s2⟩ y
    have hd : its.drop i = its[i] :: its.drop (i + 1) := List.drop_eq_getElem_cons hi
    rw [hd] at s2
    unfold forGo at s2
    obtain ⟨gr, rx⟩ := hY O2 H2 i x H3 its[i] R2.trk l2 (List.getElem?_eq_getElem hi) y
    cases eg : mg its[i] E2 with
    | none => rw [eg] at s2; exact s2.elim
    | some E3 =>
      rw [eg] at s2
      dsimp only at s2
      refine hg.rd F O2 E2 σ2 H3 x its[i] E3 _ (R2.grow gr) rx eg fun σ3 R3 _ g3 => ?_
      have l3 : Le O1 H1 O2 H3 := l2.trans gr.le
      have g3' : Agr (a1 ++ a2) σ σ3 := ag g2 (Agr.left g3)
      refine hb.rd F O2 E3 σ3 H3 _ R3 ?_
      cases em : mb E3 with
      | bad => rw [em] at s2; exact s2.elim
      | ex z E4 =>
        rw [em] at s2
        intro O4 σ4 H4 c dd R4 l4 g4 ex
        exact s2 O4 σ4 H4 c dd R4 ((l1.trans l3).trans l4) (ag g3' (Agr.right g4)) ex
      | ok f E4 =>
        rw [em] at s2
        intro O4 σ4 H4 v4 R4 l4 g4
        have l5 : Le O1 H1 O4 H4 := l3.trans l4
        have g5 : Agr (a1 ++ a2) σ σ4 := ag g3' (Agr.right g4)
        cases f with
        | nx => exact ⟨O4, wipeE E4 ws, Rel.forgets R4 ws, l5, g5, hi, s2⟩
        | ct => exact ⟨O4, wipeE E4 ws, Rel.forgets R4 ws, l5, g5, hi, s2⟩
        | bk => exact s2 O4 σ4 H4 v4 (Rel.forgets R4 ws) (l1.trans l5) g5
        | rt d => exact s2 O4 σ4 H4 v4 R4 (l1.trans l5) g5
  · rintro σ2 H2 ⟨O2, E2, R2, l2, g2, _, s2⟩
    rw [List.drop_length] at s2
    exact s2 O2 σ2 H2 .non R2 (l1.trans l2) g2
end
end Bt
namespace Bt
open PySem L2
section
variable {K : PySem.W.Frag} {F : Frm} {O : List Addr} {E : En} {σ : L2.St} {H : Hp}
theorem Rel.toOwn {p : Addr} {vs : HO} {ds : Ob} {i : Nat} (R : Rel K ((p, vs) :: F) O E σ H) (r : RpO K (Mask O H) vs ds) (hF : ∀ x ∈ F, x.1 ≠ p) (hi : i < E.length) : Rel K F O (E.set i (.ow ds)) (σ.set i (some (.ref p))) H := by
  obtain ⟨hp, hh⟩ := R.frm _ List.mem_cons_self
  have hl : i < σ.length := by rw [← R.len]; exact hi
  refine ⟨by rw [List.length_set, List.length_set]; exact R.len, R.trk, fun j s e => ?_, fun j k ds es q e1 e2 e3 e4 => ?_, fun x hx => R.frm x (List.mem_cons_of_mem _ hx), fun j ds q e1 e2 x hx => ?_⟩
  · by_cases h : i = j
    · subst h
      rw [List.getElem?_set_self hi] at e
      cases e
      rw [List.getElem?_set_self hl]
      exact ⟨p, vs, rfl, hp, hh, r⟩
    · rw [List.getElem?_set_ne h] at e
      rw [List.getElem?_set_ne h]
      exact R.slot j s e
  · by_cases h1 : i = j
    · by_cases h2 : i = k
      · rw [← h1, ← h2]
      · subst h1
        rw [List.getElem?_set_self hl] at e3
        rw [List.getElem?_set_ne h2] at e2 e4
        cases e3
        exact absurd rfl (R.fap k es p e2 e4 _ List.mem_cons_self)
    · by_cases h2 : i = k
      · subst h2
        rw [List.getElem?_set_self hl] at e4
        rw [List.getElem?_set_ne h1] at e1 e3
        cases e4
        exact absurd rfl (R.fap j ds p e1 e3 _ List.mem_cons_self)
      · rw [List.getElem?_set_ne h1] at e1 e3
        rw [List.getElem?_set_ne h2] at e2 e4
        exact R.apart j k ds es q e1 e2 e3 e4
  · by_cases h1 : i = j
    · subst h1
      rw [List.getElem?_set_self hl] at e2
      cases e2
      exact hF x hx
    · rw [List.getElem?_set_ne h1] at e1 e2
      exact R.fap j ds q e1 e2 x (List.mem_cons_of_mem _ hx)
theorem Rel.updOwn {p : Addr} {vs : HO} {ds ds0 : Ob} {i : Nat} (R : Rel K F O E σ H) (h0 : E[i]? = some (.ow ds0)) (hs : σ[i]? = some (some (.ref p))) (r : RpO K (Mask O H) vs ds) : Rel K F O (E.set i (.ow ds)) σ (upd H p vs) ∧ Mask O (upd H p vs) = Mask O H := by
  obtain ⟨q, ws, e, hp, hh, _⟩ := R.slot i _ h0
  rw [hs] at e
  cases e
  have em : Mask O (upd H p vs) = Mask O H := mask_upd_in hp
  have hi : i < E.length := (List.getElem?_eq_some_iff.mp h0).1
  refine ⟨⟨by rw [List.length_set]; exact R.len, fun q hq => ?_, fun j s e => ?_, fun j k d1 d2 q e1 e2 e3 e4 => ?_, fun x hx => ?_, fun j d1 q e1 e2 x hx => ?_⟩, em⟩
  · by_cases z : q = p
    · subst z; rw [upd_same]; exact fun z => nomatch z
    · rw [upd_ne z]; exact R.trk q hq
  · by_cases h : i = j
    · subst h
      rw [List.getElem?_set_self hi] at e
      cases e
      exact ⟨p, vs, hs, hp, upd_same, by rw [em]; exact r⟩
    · rw [List.getElem?_set_ne h] at e
      have z := R.slot j s e
      cases s with
      | un => trivial
      | dat d => obtain ⟨v, e, r⟩ := z; exact ⟨v, e, by rw [em]; exact r⟩
      | ow es =>
        obtain ⟨q, ws, e', hq, hh, r⟩ := z
        have hne : q ≠ p := fun z => h (R.apart i j ds0 es p h0 e hs (by rw [e', z]))
        exact ⟨q, ws, e', hq, by rw [upd_ne hne]; exact hh, by rw [em]; exact r⟩
      | scr ns => obtain ⟨q, e, r⟩ := z; exact ⟨q, e, by rw [em]; exact r⟩
  · have o' : ∀ {j : Nat} {es : Ob}, (E.set i (Sl.ow ds))[j]? = some (.ow es) → ∃ es', E[j]? = some (.ow es') := fun {j es} e => by
      by_cases h : i = j
      · subst h; exact ⟨ds0, h0⟩
      · rw [List.getElem?_set_ne h] at e; exact ⟨es, e⟩
    obtain ⟨a, ea⟩ := o' e1
    obtain ⟨b, eb⟩ := o' e2
    exact R.apart j k a b q ea eb e3 e4
  · obtain ⟨h1, h2⟩ := R.frm x hx
    have hne : x.1 ≠ p := R.fap i ds0 p h0 hs x hx
    exact ⟨h1, by rw [upd_ne hne]; exact h2⟩
  · by_cases h : i = j
    · subst h
      exact R.fap i ds0 q h0 e2 x hx
    · rw [List.getElem?_set_ne h] at e1
      exact R.fap j d1 q e1 e2 x hx
theorem Rel.frz {p : Addr} {ds : List D} {i : Nat} (R : Rel K F O E σ H) (h0 : E[i]? = some ((.ow (.l ds)))) (hs : σ[i]? = some (some (.ref p))) : Rel K F (rmA O p) (E.set i (.dat (.list ds))) σ H ∧ Rp K (Mask (rmA O p) H) (.ref p) (.list ds) := by
  obtain ⟨q, ws, e, hp, hh, r⟩ := R.ownL h0
  rw [hs] at e
  cases e
  have l := mask_rm (O := O) (H := H) (p := p)
  have hi : i < E.length := (List.getElem?_eq_some_iff.mp h0).1
  have rp : Rp K (Mask (rmA O p) H) (.ref p) (.list ds) := .lst (by rw [mask_out (fun z => (mem_rmA.mp z).2 rfl)]; exact hh) (r.mono l)
  refine ⟨⟨by rw [List.length_set]; exact R.len, fun q hq => R.trk q (mem_rmA.mp hq).1, fun j s e => ?_, fun j k ds es q e1 e2 e3 e4 => ?_, fun x hx => ?_, fun j ds q e1 e2 x hx => ?_⟩, rp⟩
  · by_cases h : i = j
    · subst h
      rw [List.getElem?_set_self hi] at e
      cases e
      exact ⟨_, hs, rp⟩
    · rw [List.getElem?_set_ne h] at e
      have z := R.slot j s e
      cases s with
      | un => trivial
      | dat d => obtain ⟨v, e, r⟩ := z; exact ⟨v, e, r.mono l⟩
      | ow es =>
        obtain ⟨q, ws, e', hq, hh, r⟩ := z
        have hne : q ≠ p := fun z => h (R.apart i j _ es p h0 e hs (by rw [e', z]))
        exact ⟨q, ws, e', mem_rmA.mpr ⟨hq, hne⟩, hh, r.mono l⟩
      | scr ns => obtain ⟨q, e, r⟩ := z; exact ⟨q, e, Same.seq l r⟩
  · by_cases h1 : i = j
    · subst h1; rw [List.getElem?_set_self hi] at e1; cases e1
    · by_cases h2 : i = k
      · subst h2; rw [List.getElem?_set_self hi] at e2; cases e2
      · rw [List.getElem?_set_ne h1] at e1
        rw [List.getElem?_set_ne h2] at e2
        exact R.apart j k ds es q e1 e2 e3 e4
  · obtain ⟨h1, h2⟩ := R.frm x hx
    exact ⟨mem_rmA.mpr ⟨h1, R.fap i _ p h0 hs x hx⟩, h2⟩
  · by_cases h : i = j
    · subst h; rw [List.getElem?_set_self hi] at e1; cases e1
    · rw [List.getElem?_set_ne h] at e1
      exact R.fap j ds q e1 e2 x hx
theorem Rel.newApart {p : Addr} (R : Rel K F O E σ H) (h : H p = none) : ∀ x ∈ F, x.1 ≠ p := fun x hx z => by
  have h2 := (R.frm x hx).2
  rw [z, h] at h2
  cases h2
end

structure SF (X : Cx) (W : WX) (e : Expr) (t : TE) (m : M (List D)) : Prop where
  pe : PE X e t
  rd : ∀ F O E σ H (Q : VK), Rel X.K F O E σ H → Sat (m E) (fun ds E' => ∀ O' p vs H', Rel X.K ((p, .lst vs) :: F) O' E' σ H' → (∀ x ∈ F, x.1 ≠ p) → Le O H O' H' → RpAll X.K (Mask O' H') vs ds → Q (.ref p) H') (KX X.K X.mg F σ O H W) → t σ H Q
section
variable {X : Cx} {W : WX} {e a b : Expr} {t ta tb : TE} {m : M D} {pos : Pos}
def mLstF (ms : M (List D)) : M (List D) := bnd ms fun ds => fun E => if ds.length ≤ LIM then .ok ds E else .bad
theorem sf_lst {es : List Expr} {ts : TA} {ms : M (List D)} (h : SA X W es ts ms) : SF X W (.List es pos) (tLst ts) (mLstF ms) := by
  refine ⟨pe_lst h.pa, fun F O E σ H Q R s => h.rd F O E σ H _ R (s.bnd.mono (fun ds E1 k O1 vs H1 R1 l1 r1 => ?_) (fun _ _ k => k))⟩
  split at k
  · rename_i hl
    refine ⟨by rw [r1.length]; exact lim_le hl, fun p np => ?_⟩
    have l2 := mask_cons_new (O := O1) (o := .lst vs) np
    exact k (p :: O1) p vs _ (R1.newF np) (R1.newApart np) (l1.trans l2) (r1.mono l2)
  · exact k.elim
def ROkF (K : PySem.W.Frag) (r : R2) (f : D → D → Option (List D)) : Prop := ∀ O H x y d e ds Q, Trk O H → Rq K O H x d → Rq K O H y e → f d e = some ds → (∀ p vs, H p = none → RpAll K (Mask O H) vs ds → Q (.ref p) (upd H p (.lst vs))) → r x y H Q
def addL : D → D → Option (List D)
  | .list a, .list b => if a.length + b.length ≤ LIM then some (a ++ b) else none
  | _, _ => none
noncomputable def mulL : D → D → Option (List D)
  | .list a, .int k => if repOk a.length k then some (List.replicate k.toNat a).flatten else none
  | _, _ => none
def listL : List D → Option (List D)
  | [.list ds] => some ds
  | [.tuple ds] => some ds
  | _ => none
theorem okF_add {K : PySem.W.Frag} : ROkF K (rAdd K) addL := by
  intro O H x y d e z Q t hx hy hf q
  unfold addL at hf
  split at hf
  · split at hf
    · rename_i hl
      cases hf
      obtain ⟨p, vs, rfl, hp, r1⟩ := hx.list
      obtain ⟨p2, ws, rfl, hp2, r2⟩ := hy.list
      exact .inr (.inl ⟨p, p2, vs, ws, rfl, rfl, hp, hp2, by rw [r1.length, r2.length]; exact lim_le hl, fun l nl => q l _ nl (r1.append r2)⟩)
    · cases hf
  · cases hf
theorem okF_mul {K : PySem.W.Frag} : ROkF K (rMul K) mulL := by
  intro O H x y d e z Q t hx hy hf q
  unfold mulL at hf
  split at hf
  · rename_i a k
    split at hf
    · rename_i hl
      cases hf
      obtain ⟨h1, h2, h3⟩ := repOk_iff.mp hl
      have e0 : LIM = 100000 := rfl
      obtain ⟨p, vs, rfl, hp, r1⟩ := hx.list
      exact .inr (.inl ⟨p, k, vs, rfl, hy.int, hp, by omega, by omega, by rw [r1.length]; exact lim_le h3, fun l nl => q l _ nl (r1.repeat k.toNat)⟩)
    · cases hf
  · cases hf
def mOpF (f : D → D → Option (List D)) (ma mb : M Ag) : M (List D) := bnd ma fun a => bnd mb fun b => fun E => match rsv E a, rsv E b with
  | some x, some y => lift (f x y) E
  | _, _ => .bad
theorem sf_op {op : Operator} {r : R2} {f : D → D → Option (List D)} {ma mb : M Ag} (ho : OpR X (binaryOp op) r) (hr : ROkF X.K r f) (ha : SO X W a ta ma) (hb : SO X W b tb mb) : SF X W (.BinOp a op b pos) (tOp r ta tb) (mOpF f ma mb) := by
  refine ⟨pe_op ho ha.pe hb.pe, ?_⟩
  intro F O E σ H Q R s
  refine ha.rd F O E σ H _ R (s.bnd.mono (fun a1 E1 k O1 v H1 R1 l1 av => ?_) (fun _ _ k => k))
  refine hb.rd F O1 E1 σ H1 _ R1 (k.bnd.mono (fun b1 E2 k2 O2 u H2 R2 l2 bv => ?_) (KX.le l1))
  cases ea : rsv E2 a1 with
  | none => rw [ea] at k2; exact k2.elim
  | some x =>
    cases eb : rsv E2 b1 with
    | none => rw [ea, eb] at k2; exact k2.elim
    | some y =>
      rw [ea, eb] at k2
      obtain ⟨z, hz, k3⟩ := Sat.lift k2
      refine hr O2 H2 v u x y z Q R2.trk (R2.rsv (av.le l2) ea) (R2.rsv bv eb) hz fun p vs np r3 => ?_
      have l3 := mask_cons_new (O := O2) (o := .lst vs) np
      exact k3 (p :: O2) p vs _ (R2.newF np) (R2.newApart np) ((l1.trans l2).trans l3) (r3.mono l3)
def mBF (f : List D → Option (List D)) (ms : M (List Ag)) : M (List D) := bnd ms fun as => fun E => match rsvs E as with
  | some ds => lift (f ds) E
  | none => .bad
def mOwn (i : Nat) (m : M (List D)) : M Fl := bnd m fun ds => fun E => if i < E.length then .ok .nx (E.set i ((.ow (.l ds)))) else .bad
theorem ss_own {i : Nat} {st : Stmt} {m : M (List D)} (hp : PE X e t → PS X st (tAsg t (gName i))) (h : SF X W e t m) : SS X W [i] st (tAsg t (gName i)) (mOwn i m) := by
  refine ⟨hp h.pe, fun F O E σ H D' R s => h.rd F O E σ H _ R (s.bnd.mono (fun ds E1 k O1 p vs H1 R1 hF l1 r => ?_) (KXs.of))⟩
  split at k
  · rename_i hi
    refine k O1 (σ.set i (some (.ref p))) H1 .non (R1.toOwn r hF hi) l1 fun j hj => ?_
    have hne : i ≠ j := fun z => hj (by rw [z]; exact List.mem_cons_self)
    rw [List.getElem?_set_ne hne]
  · exact k.elim
def mApp (i : Nat) (m : M D) : M Fl := fun E => match E[i]? with
  | some ((.ow (.l _))) => (bnd m fun d => fun E => match E[i]? with
    | some ((.ow (.l ds))) => if ds.length < LIM then .ok .nx (E.set i ((.ow (.l (ds ++ [d]))))) else .bad
    | _ => .bad) E
  | _ => .bad
theorem ss_app {i : Nat} {st : Stmt} (hp : PE X e t → PS X st (tDrop (tBM X.K "list" rAppend (tVar i) (tCons t tNil)))) (h : SE X W e t m) : SS X W [] st (tDrop (tBM X.K "list" rAppend (tVar i) (tCons t tNil))) (mApp i m) := by
  refine ⟨hp h.pe, fun F O E σ H D' R s => ?_⟩
  unfold mApp at s
  split at s
  · rename_i ds0 h0
    obtain ⟨p, vs0, e0, hp0, hh0, r0⟩ := R.ownL h0
    refine ⟨.ref p, e0, .inl ⟨rfl, _, SqL.of hh0⟩, h.rd F O E σ H _ R (s.bnd.mono (fun d E1 k O1 v H1 R1 l1 r => ?_) (KXs.of))⟩
    split at k
    · rename_i ds h1
      split at k
      · rename_i hl
        obtain ⟨p', vs, e1, hp1, hh1, r1⟩ := R1.ownL h1
        rw [e0] at e1
        cases e1
        obtain ⟨R2, em⟩ := R1.updOwn (vs := .lst (vs ++ [v])) (ds := .l (ds ++ [d])) h1 e0 (r1.append (.one r))
        refine ⟨p, vs, v, rfl, rfl, hh1, by rw [r1.length]; exact lim_lt hl, k O1 σ _ .non R2 (by unfold Le; rw [em]; exact l1) Agr.refl⟩
      · exact k.elim
    · exact k.elim
  · exact s.elim
def mPut (i : Nat) (mk : M Ag) (m : M D) : M Fl := bnd m fun d => fun E => match E[i]? with
  | some ((.ow (.l _))) => (bnd mk fun a => fun E => match E[i]?, rsv E a with
    | some ((.ow (.l ds))), some (.int k) => match ixN ds.length k with
      | some j => .ok .nx (E.set i ((.ow (.l (ds.set j d)))))
      | none => .bad
    | _, _ => .bad) E
  | _ => .bad
theorem ss_put {i : Nat} {k : Expr} {tk : TE} {mk : M Ag} {st : Stmt} (hp : PE X e t → PE X k tk → PS X st (tAsg t (gSub (tVar i) tk rSetL))) (h : SE X W e t m) (hk : SO X W k tk mk) : SS X W [] st (tAsg t (gSub (tVar i) tk rSetL)) (mPut i mk m) := by
  refine ⟨hp h.pe hk.pe, fun F O E σ H D' R s => h.rd F O E σ H _ R (s.bnd.mono (fun d E1 k1 O1 v H1 R1 l1 r => ?_) (KXs.of))⟩
  split at k1
  · rename_i ds0 h0
    obtain ⟨p, vs0, e0, hp0, hh0, r0⟩ := R1.ownL h0
    refine ⟨.ref p, e0, hk.rd F O1 E1 σ H1 _ R1 (k1.bnd.mono (fun a E2 k2 O2 u H2 R2 l2 av => ?_) (fun x E2 k2 => KX.le l1 _ _ (KXs.of _ _ k2)))⟩
    split at k2
    · rename_i ds kk h1 q
      split at k2
      · rename_i j hj
        obtain ⟨p', vs, e1, hp1, hh1, r1⟩ := R2.ownL h1
        rw [e0] at e1
        cases e1
        obtain ⟨R3, em⟩ := R2.updOwn (vs := .lst (vs.set j v)) (ds := .l (ds.set j d)) h1 e0 (r1.set (r.mono l2) j)
        refine ⟨p, vs, kk, j, rfl, (R2.rsv av q).int, hh1, by rw [r1.length]; exact hj, k2 O2 σ _ .non R3 (by unfold Le; rw [em]; exact l1.trans l2) Agr.refl⟩
      · exact k2.elim
    · exact k2.elim
  · exact k1.elim
def mFrz (i : Nat) : M D := fun E => match E[i]? with
  | some ((.ow (.l ds))) => .ok (.list ds) (E.set i (.dat (.list ds)))
  | some (.dat d) => .ok d E
  | _ => .bad
def mAug (f : Int → Int → Int) (i : Nat) (m : M D) : M Fl := fun E => match E[i]? with
  | some (.dat (.int x)) => (bnd m fun d => fun E => match d with
    | .int y => if i < E.length then .ok .nx (E.set i (.dat (.int (f x y)))) else .bad
    | _ => .bad) E
  | _ => .bad
theorem ss_aug {f : Int → Int → Int} {i : Nat} {st : Stmt} (hp : PE X e t → PS X st (tAug i t (ipI f))) (h : SE X W e t m) : SS X W [i] st (tAug i t (ipI f)) (mAug f i m) := by
  refine ⟨hp h.pe, fun F O E σ H D' R s => ?_⟩
  unfold mAug at s
  split at s
  · rename_i x h0
    obtain ⟨v, e0, r0⟩ := R.slot i _ h0
    cases r0
    refine ⟨_, e0, h.rd F O E σ H _ R (s.bnd.mono (fun d E1 k O1 v H1 R1 l1 r => ?_) (KXs.of))⟩
    cases d with
    | int y =>
      dsimp only at k
      split at k
      · rename_i hi
        cases r
        refine ⟨x, y, rfl, rfl, k O1 _ H1 .non (R1.set (.int _) hi) l1 fun j hj => ?_⟩
        have hne : i ≠ j := fun z => hj (by rw [z]; exact List.mem_cons_self)
        rw [List.getElem?_set_ne hne]
      · exact k.elim
    | _ => exact k.elim
  · exact s.elim
end
structure SFO (X : Cx) (W : WX) (e : Expr) (t : TE) (m : M Ob) : Prop where
  pe : PE X e t
  rd : ∀ F O E σ H (Q : VK), Rel X.K F O E σ H → Sat (m E) (fun ob E' => ∀ O' p ho H', Rel X.K ((p, ho) :: F) O' E' σ H' → (∀ x ∈ F, x.1 ≠ p) → Le O H O' H' → RpO X.K (Mask O' H') ho ob → Q (.ref p) H') (KX X.K X.mg F σ O H W) → t σ H Q

structure SV (X : Cx) (W : WX) (e : Expr) (t : TE) (m : M Sl) : Prop where
  pe : PE X e t
  rd : ∀ F O E σ H (Q : VK), Rel X.K F O E σ H → Sat (m E) (fun s E' => ∀ O' v H', RelE X.K F O' E' σ H' v (.rt s) → Le O H O' H' → Q v H') (KX X.K X.mg F σ O H W) → t σ H Q
section
variable {K : PySem.W.Frag} {F : Frm} {O : List Addr} {E : En} {σ : L2.St} {H : Hp}
theorem Rel.give {i : Nat} {p : Addr} {ho : HO} {ob : Ob} (R : Rel K F O E σ H) (h0 : E[i]? = some (.ow ob)) (hs : σ[i]? = some (some (.ref p))) (hh : H p = some ho) : Rel K ((p, ho) :: F) O (E.set i .un) σ H ∧ ∀ x ∈ F, x.1 ≠ p := by
  obtain ⟨q, ho', e, hp, hh', r⟩ := R.slot i _ h0
  rw [hs] at e
  cases e
  have hi : i < E.length := (List.getElem?_eq_some_iff.mp h0).1
  have o' : ∀ {j : Nat} {es : Ob}, (E.set i Sl.un)[j]? = some (.ow es) → i ≠ j ∧ E[j]? = some (.ow es) := fun {j es} e => by
    by_cases h : i = j
    · subst h; rw [List.getElem?_set_self hi] at e; cases e
    · rw [List.getElem?_set_ne h] at e; exact ⟨h, e⟩
  refine ⟨⟨by rw [List.length_set]; exact R.len, R.trk, fun j s e => ?_, fun j k ds es q e1 e2 e3 e4 => R.apart j k ds es q (o' e1).2 (o' e2).2 e3 e4, fun x hx => ?_, fun j ds q e1 e2 x hx => ?_⟩, R.fap i ob p h0 hs⟩
  · by_cases h : i = j
    · subst h; rw [List.getElem?_set_self hi] at e; cases e; trivial
    · rw [List.getElem?_set_ne h] at e; exact R.slot j s e
  · cases hx with
    | head => exact ⟨hp, hh⟩
    | tail _ hx => exact R.frm x hx
  · cases hx with
    | head => exact fun z => (o' e1).1 (R.apart i j ob ds p h0 (o' e1).2 hs (by rw [e2]; exact congrArg (fun a => some (some (V.ref a))) z.symm))
    | tail _ hx => exact R.fap j ds q (o' e1).2 e2 x hx
theorem Rel.melt {p : Addr} {ho : HO} {ds : List D} (R : Rel K ((p, ho) :: F) O E σ H) (hF : ∀ x ∈ F, x.1 ≠ p) (r : RpO K (Mask O H) ho (.l ds)) : Rel K F (rmA O p) E σ H ∧ Rp K (Mask (rmA O p) H) (.ref p) (.list ds) := by
  obtain ⟨vs, rfl, r⟩ := r.lst
  refine ⟨R.freeF hF, .lst ?_ (r.mono mask_rm)⟩
  rw [mask_out (fun z => (mem_rmA.mp z).2 rfl)]
  exact (R.frm _ List.mem_cons_self).2
end
def thaw (s : Sl) : M D := match s with
  | .dat d => ret d
  | .ow (.l ds) => ret (.list ds)
  | _ => stuck
section
variable {X : Cx} {W : WX} {e : Expr} {t : TE} {pos : Pos}
def mDat (m : M D) : M Sl := bnd m fun d => ret (.dat d)
def mObj (m : M Ob) : M Sl := bnd m fun o => ret (.ow o)
def mLstO (m : M (List D)) : M Ob := bnd m fun ds => ret (.l ds)
theorem SE.sv {m : M D} (h : SE X W e t m) : SV X W e t (mDat m) := ⟨h.pe, fun F O E σ H Q R s => h.rd F O E σ H Q R (s.bnd.mono (fun d E' k O' v H' R' l r => k O' v H' ⟨R', r⟩ l) (fun _ _ k => k))⟩
theorem SF.o {m : M (List D)} (h : SF X W e t m) : SFO X W e t (mLstO m) := ⟨h.pe, fun F O E σ H Q R s => h.rd F O E σ H Q R (s.bnd.mono (fun ds E' k O' p vs H' R' hF l r => k O' p (.lst vs) H' R' hF l r) (fun _ _ k => k))⟩
theorem SFO.sv {m : M Ob} (h : SFO X W e t m) : SV X W e t (mObj m) := ⟨h.pe, fun F O E σ H Q R s => h.rd F O E σ H Q R (s.bnd.mono (fun ob E' k O' p ho H' R' hF l r => k O' (.ref p) H' ⟨p, ho, rfl, R', hF, r⟩ l) (fun _ _ k => k))⟩
theorem SV.se {m : M Sl} (h : SV X W e t m) : SE X W e t (bnd m thaw) := by
  refine ⟨h.pe, fun F O E σ H Q R s => h.rd F O E σ H Q R (s.bnd.mono (fun z E' k O' v H' R' l => ?_) (fun _ _ k => k))⟩
  cases z with
  | dat d => exact k O' v H' R'.1 l R'.2
  | un => exact k.elim
  | scr _ => exact k.elim
  | ow ob =>
    cases ob with
    | d _ => exact k.elim
    | l ds =>
      obtain ⟨p, ho, rfl, R1, hF, r⟩ := R'
      obtain ⟨R2, r2⟩ := R1.melt hF r
      exact k (rmA O' p) _ H' R2 (l.trans mask_rm) r2
def mGive (i : Nat) : M Sl := fun E => match E[i]? with
  | some (.ow ob) => .ok (.ow ob) (E.set i .un)
  | some (.dat d) => .ok (.dat d) E
  | _ => .bad
theorem sv_give {i : Nat} (h : PE X e (tVar i)) : SV X W e (tVar i) (mGive i) := by
  refine ⟨h, fun F O E σ H Q R s => ?_⟩
  unfold mGive at s
  split at s
  · rename_i ob h0
    obtain ⟨p, ho, e0, hp, hh, r⟩ := R.slot i _ h0
    obtain ⟨R2, hF⟩ := R.give h0 e0 hh
    exact ⟨_, e0, s O _ H ⟨p, ho, rfl, R2, hF, r⟩ (Le.refl O H)⟩
  · rename_i d h0
    obtain ⟨v, e0, r⟩ := R.slot i _ h0
    exact ⟨v, e0, s O v H ⟨R, r⟩ (Le.refl O H)⟩
  · exact s.elim
def mRetS (m : M Sl) : M Fl := bnd m fun z => ret (.rt z)
theorem ss_retS {m : M Sl} (h : SV X W e t m) : SS X W [] (.Return (some e) pos) (tRet t) (mRetS m) :=
  ⟨ps_ret h.pe, fun F O E σ H D' R s => h.rd F O E σ H _ R (s.bnd.mono (fun z E1 k O1 v H1 R1 l1 => k O1 σ H1 v R1 l1 Agr.refl) (KXs.of))⟩
def mSetS (i : Nat) (m : M Sl) : M Fl := bnd m fun z => fun E => if i < E.length then .ok .nx (E.set i z) else .bad
theorem ss_setS {i : Nat} {st : Stmt} {m : M Sl} (hp : PE X e t → PS X st (tAsg t (gName i))) (h : SV X W e t m) : SS X W [i] st (tAsg t (gName i)) (mSetS i m) := by
  refine ⟨hp h.pe, fun F O E σ H D' R s => h.rd F O E σ H _ R (s.bnd.mono (fun z E1 k O1 v H1 R1 l1 => ?_) (KXs.of))⟩
  split at k
  · rename_i hi
    have ag : ∀ v, Agr [i] σ (σ.set i v) := fun v j hj => by
      have hne : i ≠ j := fun z => hj (by rw [z]; exact List.mem_cons_self)
      rw [List.getElem?_set_ne hne]
    cases z with
    | dat d => exact k O1 _ H1 .non (R1.1.set R1.2 hi) l1 (ag _)
    | un => exact R1.elim
    | scr _ => exact R1.elim
    | ow ob =>
      obtain ⟨p, ho, rfl, R2, hF, r⟩ := R1
      exact k O1 _ H1 .non (R2.toOwn r hF hi) l1 (ag _)
  · exact k.elim
end
end Bt
namespace Bt
open PySem L2

def spOf (K : PySem.W.Frag) (mg : Str → Option Value) (n : Nat) (Fm : M Sl) : Sp := fun vs H Q Ex => vs.length = n ∧ ∃ F O as, Rel K F O as (vs.map some) H ∧
  Sat (Fm as) (fun z as' => ∀ O' v H', RelE K F O' as' (vs.map some) H' v (.rt z) → Le O H O' H' → Q v H')
    (fun x as' => ∀ O' H' c dd, Rel K F O' as' (vs.map some) H' → Le O H O' H' → ExR K mg O' H' x c dd → Ex c dd H')
def okAsg (asg : List Nat) (as : List Sl) : Bool := asg.all fun i => match as[i]? with
  | some (.ow _) => false
  | _ => true
def parBack : List Sl → En → Option (List Sl)
  | [], _ => some []
  | .ow _ :: as, .ow ds :: E => (parBack as E).map (.ow ds :: ·)
  | .ow _ :: _, _ => none
  | s :: as, _ :: E => (parBack as E).map (s :: ·)
  | _ :: _, [] => none
def mFn (asg : List Nat) (nl : Nat) (m : M Fl) : M Sl := fun as => if okAsg asg as then match m (as ++ List.replicate nl .un) with
  | .ok f E' => match f, parBack as E' with
    | .rt d, some as' => .ok d as'
    | .nx, some as' => .ok (.dat .none) as'
    | _, _ => .bad
  | .ex x E' => match parBack as E' with
    | some as' => .ex x as'
    | none => .bad
  | .bad => .bad
  else .bad
theorem parBack_get : ∀ {as : List Sl} {E : En} {as' : List Sl}, parBack as E = some as' → as'.length = as.length ∧ ∀ (i : Nat) (s' : Sl), as'[i]? = some s' → (∃ ds0 ds, as[i]? = some (.ow ds0) ∧ E[i]? = some (.ow ds) ∧ s' = .ow ds) ∨ (as[i]? = some s' ∧ ∀ ds, s' ≠ .ow ds)
  | [], _, as', h => by
    cases h
    exact ⟨rfl, fun i s' e => by simp at e⟩
  | a :: as, E, as', h => by
    cases E with
    | nil => cases a <;> cases h
    | cons e E =>
      have key : ∀ (z : Sl), (parBack as E).map (z :: ·) = some as' → ((∃ ds0 ds, a = .ow ds0 ∧ e = .ow ds ∧ z = .ow ds) ∨ (z = a ∧ ∀ ds, a ≠ .ow ds)) → as'.length = (a :: as).length ∧ ∀ (i : Nat) (s' : Sl), as'[i]? = some s' → (∃ ds0 ds, (a :: as)[i]? = some (.ow ds0) ∧ (e :: E)[i]? = some (.ow ds) ∧ s' = .ow ds) ∨ ((a :: as)[i]? = some s' ∧ ∀ ds, s' ≠ .ow ds) := by
        intro z hz hc
        cases q : parBack as E with
        | none => rw [q] at hz; cases hz
        | some bs =>
          rw [q] at hz
          cases hz
          obtain ⟨l, ih⟩ := parBack_get q
          refine ⟨by rw [List.length_cons, List.length_cons, l], fun i s' es => ?_⟩
          cases i with
          | zero =>
            cases es
            rcases hc with ⟨d0, d1, rfl, rfl, rfl⟩ | ⟨rfl, hn⟩
            · exact .inl ⟨d0, d1, rfl, rfl, rfl⟩
            · exact .inr ⟨rfl, hn⟩
          | succ i => exact ih i s' es
      cases a with
      | ow d0 =>
        cases e with
        | ow d1 => exact key (.ow d1) h (.inl ⟨d0, d1, rfl, rfl, rfl⟩)
        | un => cases h
        | dat _ => cases h
        | scr _ => cases h
      | un => exact key .un h (.inr ⟨rfl, fun _ z => nomatch z⟩)
      | dat d => exact key (.dat d) h (.inr ⟨rfl, fun _ z => nomatch z⟩)
      | scr d => exact key (.scr d) h (.inr ⟨rfl, fun _ z => nomatch z⟩)
section
variable {K : PySem.W.Frag} {F : Frm} {O : List Addr} {as : List Sl} {vs : List V} {H : Hp}
theorem Rel.start {N : List Str} (R : Rel K F O as (vs.map some) H) (hN : vs.length ≤ N.length) : Rel K F O (as ++ List.replicate (N.length - vs.length) .un) (L2.start N vs) H := by
  have hl : as.length = vs.length := by rw [R.len, List.length_map]
  have g : ∀ (i : Nat) (s : Sl), (as ++ List.replicate (N.length - vs.length) Sl.un)[i]? = some s → (as[i]? = some s ∧ (L2.start N vs)[i]? = (vs.map some)[i]?) ∨ s = .un := fun i s e => by
    by_cases h : i < as.length
    · rw [List.getElem?_append_left h] at e
      exact .inl ⟨e, by unfold L2.start; rw [List.getElem?_append_left (by rw [List.length_map]; omega)]⟩
    · rw [List.getElem?_append_right (by omega)] at e
      have := List.mem_of_getElem? e
      exact .inr (List.eq_of_mem_replicate this)
  refine ⟨by unfold L2.start; rw [List.length_append, List.length_append, List.length_map, List.length_replicate, List.length_replicate, hl], R.trk, fun i s e => ?_, fun i j ds es p e1 e2 e3 e4 => ?_, R.frm, fun i ds p e1 e2 => ?_⟩
  · rcases g i s e with ⟨h1, h2⟩ | h
    · rw [h2]; exact R.slot i s h1
    · subst h; trivial
  · rcases g i _ e1 with ⟨h1, h2⟩ | h
    · rcases g j _ e2 with ⟨h3, h4⟩ | h
      · rw [h2] at e3; rw [h4] at e4
        exact R.apart i j ds es p h1 h3 e3 e4
      · cases h
    · cases h
  · rcases g i _ e1 with ⟨h1, h2⟩ | h
    · rw [h2] at e2
      exact R.fap i ds p h1 e2
    · cases h
theorem Rel.finish {N : List Str} {asg : List Nat} {F' : Frm} {O' : List Addr} {E' : En} {σ' : L2.St} {H' : Hp} {as' : List Sl} (R : Rel K F O as (vs.map some) H) (R' : Rel K F' O' E' σ' H') (l : Le O H O' H') (ag : Agr asg (L2.start N vs) σ') (ok : okAsg asg as = true) (hb : parBack as E' = some as') : Rel K F' O' as' (vs.map some) H' := by
  obtain ⟨hl, hg⟩ := parBack_get hb
  have st : ∀ (i : Nat) (ds : Ob), as[i]? = some (.ow ds) → σ'[i]? = (vs.map some)[i]? := fun i ds e => by
    have hi : i < (vs.map some).length := by rw [← R.len]; exact (List.getElem?_eq_some_iff.mp e).1
    have hn : i ∉ asg := fun z => by
      have := List.all_eq_true.mp ok i z
      rw [e] at this
      cases this
    rw [ag i hn]
    unfold L2.start
    rw [List.getElem?_append_left hi]
  refine ⟨by rw [hl]; exact R.len, R'.trk, fun i s e => ?_, fun i j ds es p e1 e2 e3 e4 => ?_, R'.frm, fun i ds p e1 e2 => ?_⟩
  · rcases hg i s e with ⟨d0, d1, h1, h2, rfl⟩ | ⟨h1, hn⟩
    · have z := R'.slot i _ h2
      rw [st i d0 h1] at z
      exact z
    · have z := R.slot i s h1
      cases s with
      | un => trivial
      | dat d => obtain ⟨v, e, r⟩ := z; exact ⟨v, e, r.mono l⟩
      | ow ds => exact absurd rfl (hn ds)
      | scr ns => obtain ⟨q, e, r⟩ := z; exact ⟨q, e, Same.seq l r⟩
  · rcases hg i _ e1 with ⟨d0, d1, h1, h2, q1⟩ | ⟨h1, hn⟩
    · rcases hg j _ e2 with ⟨c0, c1, h3, h4, q2⟩ | ⟨h3, hn⟩
      · rw [← st i d0 h1] at e3
        rw [← st j c0 h3] at e4
        exact R'.apart i j d1 c1 p h2 h4 e3 e4
      · exact absurd rfl (hn es)
    · exact absurd rfl (hn ds)
  · rcases hg i _ e1 with ⟨d0, d1, h1, h2, q1⟩ | ⟨h1, hn⟩
    · rw [← st i d0 h1] at e2
      exact R'.fap i d1 p h2 e2
    · exact absurd rfl (hn ds)
end
theorem fn_rd {X : Cx} {W : WX} {asg : List Nat} {body : List Stmt} {t : TS} {m : M Fl} {N : List Str} {n : Nat} {vs : List V} {H : Hp} {Q : VK} {Ex : XK} (h : SSs X W asg body t m) (hN : n ≤ N.length) (hW : ∀ c dd σ H', Ex c dd H' → W c dd σ H') (hsp : spOf X.K X.mg n (mFn asg (N.length - n) m) vs H Q Ex) : t { nx := fun _ H' => Q .non H', rt := Q } (L2.start N vs) H := by
  obtain ⟨rfl, F, O, as, R, s⟩ := hsp
  refine h.rd F O _ _ H _ (R.start hN) ?_
  unfold mFn at s
  split at s
  · rename_i ok
    cases em : m (as ++ List.replicate (N.length - vs.length) .un) with
    | bad => rw [em] at s; exact s.elim
    | ex x E' =>
      rw [em] at s
      dsimp only at s
      cases hb : parBack as E' with
      | none => rw [hb] at s; exact s.elim
      | some as' =>
        rw [hb] at s
        intro O' σ' H' c dd R' l ag ex
        exact hW _ _ _ _ (s O' H' c dd (R.finish R' l ag ok hb) l ex)
    | ok f E' =>
      rw [em] at s
      dsimp only at s
      intro O' σ' H' v R' l ag
      cases hb : parBack as E' with
      | none => rw [hb] at s; cases f <;> exact s.elim
      | some as' =>
        rw [hb] at s
        cases f with
        | nx => exact s O' .non H' ⟨R.finish R' l ag ok hb, .non⟩ l
        | bk => exact s.elim
        | ct => exact s.elim
        | rt z =>
          cases z with
          | un => exact R'.elim
          | scr _ => exact R'.elim
          | dat d => exact s O' v H' ⟨R.finish R'.1 l ag ok hb, R'.2⟩ l
          | ow ob =>
            obtain ⟨p, ho, rfl, R1, hF, r⟩ := R'
            exact s O' _ H' ⟨p, ho, rfl, R.finish R1 l ag ok hb, hF, r⟩ l
  · exact s.elim
section
variable {P : Program} {w : World} {K : PySem.W.Frag} {mg : Str → Option Value} {base : Heap}
theorem fn_okX {x qual : Str} {st : Stmt} {f : Addr} {fd : FuncData} {N ps : List Str} {k : Nat} {asg : List Nat} {m : M Fl} (Fn : Fun K x qual st f fd) (S : FnScope N ps (defScope st)) (hN : ps.length ≤ N.length)
    (hbody : ∀ (cdv : Value) (A : Around) (outer : List Env) (s : Shared) (H : Hp) (E : XK), Room k (A.deeper (PyProof.Rows.envOfC qual (defScope st) s.heap.objs.size f cdv)) → ∃ t, SSs (cxOf (L2.CX P w) P w K mg base N qual (defScope st) f cdv A outer s H E) (fun c dd _ H' => E c dd H') asg (defBody st) t m) :
    FnOk P w K mg base (L2.CX P w) (k + 1) f fd ps (spOf K mg ps.length (mFn asg (N.length - ps.length) m)) := by
  refine Fn.okX S (fun vs H Q E h => h.1) (fun cdv A outer s H vs Q E hr h => ?_)
  obtain ⟨t, hS⟩ := hbody cdv A outer s H E hr
  exact ⟨t, hS.ps, fn_rd hS hN (fun _ _ _ _ z => z) h⟩
theorem fn_ok0 {x qual : Str} {st : Stmt} {f : Addr} {fd : FuncData} {N ps : List Str} {k : Nat} {asg : List Nat} {m : M Fl} (Fn : Fun K x qual st f fd) (S : FnScope N ps (defScope st)) (hN : ps.length ≤ N.length)
    (hbody : ∀ (cdv : Value) (A : Around) (outer : List Env) (s : Shared) (H : Hp) (E : XK), Room k (A.deeper (PyProof.Rows.envOfC qual (defScope st) s.heap.objs.size f cdv)) → ∃ t, SSs (cxOf CX0 P w K mg base N qual (defScope st) f cdv A outer s H E).nox W0 asg (defBody st) t m) :
    FnOk P w K mg base CX0 (k + 1) f fd ps (fun vs H Q E => spOf K mg ps.length (mFn asg (N.length - ps.length) m) vs H Q E0) := by
  refine Fn.ok S (fun vs H Q E h => h.1) (fun cdv A outer s H vs Q E hr h => ?_)
  obtain ⟨t, hS⟩ := hbody cdv A outer s H E hr
  exact ⟨t, hS.ps, fn_rd hS hN (fun _ _ _ _ z => z) h⟩
end

def argSl (E : En) : List Ag → Option (List Sl)
  | [] => some []
  | .d d :: r => (argSl E r).map (.dat d :: ·)
  | .r i :: r => match E[i]? with
    | some (.dat d) => (argSl E r).map (.dat d :: ·)
    | some (.ow d) => (argSl E r).map (.ow d :: ·)
    | some (.scr d) => (argSl E r).map (.scr d :: ·)
    | some .un => (argSl E r).map (.un :: ·)
    | none => none
def isOwn (E : En) (i : Nat) : Bool := match E[i]? with
  | some (.ow _) => true
  | _ => false
def apartA (E : En) : List Ag → Bool
  | [] => true
  | .d _ :: r => apartA E r
  | .r i :: r => (!isOwn E i || !(r.any fun a => match a with | .r j => i == j | _ => false)) && apartA E r
def putB (E : En) : List Ag → List Sl → Option En
  | [], [] => some E
  | .d _ :: r, _ :: as => putB E r as
  | .r i :: r, a :: as => if isOwn E i then match a with
      | .ow ds => putB (E.set i (.ow ds)) r as
      | _ => none
    else putB E r as
  | _, _ => none
def mCallO (Fm : M Sl) (dds : List D) (ms : M (List Ag)) : M Sl := bnd ms fun ags => fun E => if apartA E ags then match argSl E ags with
  | none => .bad
  | some as => match Fm (as ++ dds.map .dat) with
    | .ok d as' => match putB E ags (as'.take ags.length) with
      | some E' => .ok d E'
      | none => .bad
    | .ex x as' => match putB E ags (as'.take ags.length) with
      | some E' => .ex x E'
      | none => .bad
    | .bad => .bad
  else .bad
def mCall (Fm : M Sl) (dds : List D) (ms : M (List Ag)) : M D := bnd (mCallO Fm dds ms) thaw
end Bt
namespace Bt
open PySem L2
def isRef (ags : List Ag) (j : Nat) : Bool := ags.any (fun a => match a with | .r i => i == j | _ => false)
def othF (E : En) (σ : L2.St) (H : Hp) (ags : List Ag) : Frm := (List.range E.length).filterMap fun j => if isRef ags j then none else match E[j]?, σ[j]? with
  | some (.ow _), some (some (.ref p)) => (H p).map fun o => (p, o)
  | _, _ => none
theorem isRef_of {ags : List Ag} {j k : Nat} (h : ags[k]? = some (.r j)) : isRef ags j = true := by
  unfold isRef
  exact List.any_eq_true.mpr ⟨_, List.mem_of_getElem? h, by simp⟩
theorem argSl_get {E : En} : ∀ {ags : List Ag} {as : List Sl}, argSl E ags = some as → as.length = ags.length ∧ ∀ (k : Nat) (s : Sl), as[k]? = some s → (∃ d, ags[k]? = some (.d d) ∧ s = .dat d) ∨ (∃ i, ags[k]? = some (.r i) ∧ E[i]? = some s)
  | [], as, h => by cases h; exact ⟨rfl, fun k s e => by simp at e⟩
  | a :: ags, as, h => by
    have key : ∀ z, (argSl E ags).map (z :: ·) = some as → ((∃ d, a = .d d ∧ z = .dat d) ∨ (∃ i, a = .r i ∧ E[i]? = some z)) → as.length = (a :: ags).length ∧ ∀ (k : Nat) (s : Sl), as[k]? = some s → (∃ d, (a :: ags)[k]? = some (.d d) ∧ s = .dat d) ∨ (∃ i, (a :: ags)[k]? = some (.r i) ∧ E[i]? = some s) := by
      intro z hz hc
      cases q : argSl E ags with
      | none => rw [q] at hz; cases hz
      | some bs =>
        rw [q] at hz
        cases hz
        obtain ⟨l, ih⟩ := argSl_get q
        refine ⟨by rw [List.length_cons, List.length_cons, l], fun k s e => ?_⟩
        cases k with
        | zero =>
          cases e
          rcases hc with ⟨d, rfl, rfl⟩ | ⟨i, rfl, e⟩
          · exact .inl ⟨d, rfl, rfl⟩
          · exact .inr ⟨i, rfl, e⟩
        | succ k => exact ih k s e
    cases a with
    | d d => exact key (.dat d) h (.inl ⟨d, rfl, rfl⟩)
    | r i =>
      unfold argSl at h
      cases q : E[i]? with
      | none => rw [q] at h; cases h
      | some s =>
        rw [q] at h
        cases s with
        | un => exact key .un h (.inr ⟨i, rfl, q⟩)
        | dat d => exact key (.dat d) h (.inr ⟨i, rfl, q⟩)
        | ow d => exact key (.ow d) h (.inr ⟨i, rfl, q⟩)
        | scr d => exact key (.scr d) h (.inr ⟨i, rfl, q⟩)
theorem apartA_get {E : En} : ∀ {ags : List Ag}, apartA E ags = true → ∀ {k j i : Nat}, ags[k]? = some (.r i) → ags[j]? = some (.r i) → isOwn E i = true → k = j
  | [], _, k, j, i, e, _, _ => by simp at e
  | a :: ags, h, k, j, i, e1, e2, ho => by
    cases a with
    | d d =>
      cases k with
      | zero => cases e1
      | succ k =>
        cases j with
        | zero => cases e2
        | succ j => rw [apartA_get (ags := ags) h e1 e2 ho]
    | r i0 =>
      have h' : ((!isOwn E i0 || !(isRef ags i0)) && apartA E ags) = true := by
        unfold apartA at h
        unfold isRef
        have e : (fun a : Ag => match a with | .r j => i0 == j | _ => false) = (fun a : Ag => match a with | .r i => i == i0 | _ => false) := by
          funext a
          cases a with
          | d _ => rfl
          | r j => exact Bool.beq_comm
        rw [← e]
        exact h
      rw [Bool.and_eq_true] at h'
      have nr : isOwn E i0 = true → isRef ags i0 = false := fun z => by
        have := h'.1
        rw [z] at this
        simpa using this
      cases k with
      | zero =>
        cases e1
        cases j with
        | zero => rfl
        | succ j =>
          have := isRef_of (ags := ags) (k := j) e2
          rw [nr ho] at this
          cases this
      | succ k =>
        cases j with
        | zero =>
          cases e2
          have := isRef_of (ags := ags) (k := k) e1
          rw [nr ho] at this
          cases this
        | succ j => rw [apartA_get (ags := ags) h'.2 e1 e2 ho]
theorem isOwn_get {E : En} {i : Nat} (h : isOwn E i = true) : ∃ ds, E[i]? = some (.ow ds) := by
  unfold isOwn at h
  split at h
  · rename_i ds e; exact ⟨ds, e⟩
  · cases h
theorem isOwn_of {E : En} {i : Nat} {ds : Ob} (h : E[i]? = some (.ow ds)) : isOwn E i = true := by
  unfold isOwn
  rw [h]
theorem isOwn_set {E : En} {i j : Nat} {ds : Ob} (h : isOwn E i = true) : isOwn (E.set i (.ow ds)) j = isOwn E j := by
  by_cases e : i = j
  · subst e
    obtain ⟨d, hd⟩ := isOwn_get h
    rw [h, isOwn_of (ds := ds) (List.getElem?_set_self (List.getElem?_eq_some_iff.mp hd).1)]
  · unfold isOwn
    rw [List.getElem?_set_ne e]
theorem apartA_set {E : En} {i : Nat} {ds : Ob} (h : isOwn E i = true) : ∀ ags : List Ag, apartA (E.set i (.ow ds)) ags = apartA E ags
  | [] => rfl
  | .d _ :: r => by unfold apartA; exact apartA_set h r
  | .r j :: r => by unfold apartA; rw [apartA_set h r, isOwn_set h]
theorem putB_get : ∀ {ags : List Ag} {E : En} {as : List Sl} {E' : En}, putB E ags as = some E' → apartA E ags = true → as.length = ags.length ∧ E'.length = E.length ∧
    ∀ j : Nat, (∃ (k : Nat) (ds : Ob), ags[k]? = some (.r j) ∧ isOwn E j = true ∧ as[k]? = some (.ow ds) ∧ E'[j]? = some (.ow ds)) ∨ ((isOwn E j = false ∨ isRef ags j = false) ∧ E'[j]? = E[j]?)
  | [], E, as, E', h, _ => by
    cases as with
    | nil => cases h; exact ⟨rfl, rfl, fun j => .inr ⟨.inr rfl, rfl⟩⟩
    | cons a as => cases h
  | .d d :: ags, E, as, E', h, ha => by
    cases as with
    | nil => cases h
    | cons a as =>
      obtain ⟨h1, h2, h3⟩ := putB_get (ags := ags) (E := E) (as := as) h ha
      refine ⟨by rw [List.length_cons, List.length_cons, h1], h2, fun j => ?_⟩
      rcases h3 j with ⟨k, ds, e1, e2, e3, e4⟩ | ⟨c, e⟩
      · exact .inl ⟨k + 1, ds, e1, e2, e3, e4⟩
      · exact .inr ⟨c.imp id fun z => by unfold isRef at z ⊢; rw [List.any_cons, z]; rfl, e⟩
  | .r i :: ags, E, as, E', h, ha => by
    cases as with
    | nil => cases h
    | cons a as =>
      have ha2 : apartA E ags = true := by unfold apartA at ha; exact (Bool.and_eq_true _ _ ▸ ha).2
      unfold putB at h
      by_cases ho : isOwn E i = true
      · rw [if_pos ho] at h
        cases a <;> first | (cases h; done) | skip
        rename_i ds
        obtain ⟨h1, h2, h3⟩ := putB_get (ags := ags) (E := E.set i (.ow ds)) (as := as) h (by rw [apartA_set ho]; exact ha2)
        refine ⟨by rw [List.length_cons, List.length_cons, h1], by rw [h2, List.length_set], fun j => ?_⟩
        by_cases e : i = j
        · subst e
          refine .inl ⟨0, ds, rfl, ho, rfl, ?_⟩
          obtain ⟨d0, hd⟩ := isOwn_get ho
          rcases h3 i with ⟨k, ds', e1, e2, e3, e4⟩ | ⟨c, e⟩
          · exact absurd (apartA_get ha (k := 0) (j := k + 1) (i := i) rfl e1 ho) (by omega)
          · rw [e, List.getElem?_set_self (List.getElem?_eq_some_iff.mp hd).1]
        · rcases h3 j with ⟨k, ds', e1, e2, e3, e4⟩ | ⟨c, q⟩
          · exact .inl ⟨k + 1, ds', e1, by rw [isOwn_set ho] at e2; exact e2, e3, e4⟩
          · refine .inr ⟨?_, by rw [q, List.getElem?_set_ne e]⟩
            rcases c with c | c
            · rw [isOwn_set ho] at c; exact .inl c
            · refine .inr ?_
              unfold isRef at c ⊢
              rw [List.any_cons, c]
              simpa using e
      · rw [if_neg ho] at h
        have ho' : isOwn E i = false := by simpa using ho
        obtain ⟨h1, h2, h3⟩ := putB_get (ags := ags) (E := E) (as := as) h ha2
        refine ⟨by rw [List.length_cons, List.length_cons, h1], h2, fun j => ?_⟩
        rcases h3 j with ⟨k, ds, e1, e2, e3, e4⟩ | ⟨c, e⟩
        · exact .inl ⟨k + 1, ds, e1, e2, e3, e4⟩
        · by_cases z : i = j
          · subst z; exact .inr ⟨.inl ho', e⟩
          · refine .inr ⟨c.imp id fun c => ?_, e⟩
            unfold isRef at c ⊢
            rw [List.any_cons, c]
            simpa using z
end Bt
namespace Bt
open PySem L2
theorem Paired.get2 {α β : Type} {P : α → β → Prop} : ∀ {xs : List α} {ys : List β} {k : Nat} {y : β}, Paired P xs ys → ys[k]? = some y → ∃ x, xs[k]? = some x ∧ P x y
  | _, _, _, _, .nil, e => by simp at e
  | _, _, 0, _, .cons h _, e => by cases e; exact ⟨_, rfl, h⟩
  | _, _, k + 1, _, .cons _ r, e => Paired.get2 (k := k) r e
theorem othF_mem {E : En} {σ : L2.St} {H : Hp} {ags : List Ag} {x : Addr × HO} (h : x ∈ othF E σ H ags) : ∃ (j : Nat) (ds : Ob), isRef ags j = false ∧ E[j]? = some (.ow ds) ∧ σ[j]? = some (some (.ref x.1)) ∧ H x.1 = some x.2 := by
  unfold othF at h
  obtain ⟨j, _, e⟩ := List.mem_filterMap.mp h
  by_cases c : isRef ags j = true
  · rw [if_pos c] at e; cases e
  · have c' : isRef ags j = false := by simpa using c
    rw [if_neg c] at e
    split at e
    · rename_i ds p e1 e2
      cases q : H p with
      | none => rw [q] at e; cases e
      | some o =>
        rw [q] at e
        cases e
        exact ⟨j, ds, c', e1, e2, q⟩
    · cases e
theorem othF_in {E : En} {σ : L2.St} {H : Hp} {ags : List Ag} {j : Nat} {ds : Ob} {p : Addr} {o : HO} (c : isRef ags j = false) (e1 : E[j]? = some (.ow ds)) (e2 : σ[j]? = some (some (.ref p))) (q : H p = some o) : (p, o) ∈ othF E σ H ags := by
  unfold othF
  refine List.mem_filterMap.mpr ⟨j, List.mem_range.mpr (List.getElem?_eq_some_iff.mp e1).1, ?_⟩
  have c' : ¬ isRef ags j = true := by rw [c]; exact Bool.false_ne_true
  rw [if_neg c', e1, e2]
  show (H p).map _ = _
  rw [q]
  rfl
section
variable {K : PySem.W.Frag} {F : Frm} {O : List Addr} {E : En} {σ : L2.St} {H : Hp} {vs dvs : List V} {ags : List Ag} {dds : List D} {as : List Sl}
theorem call_in (R : Rel K F O E σ H) (av : Paired (AgV K σ O H) vs ags) (hd : RpAll K (Mask O H) dvs dds) (ap : apartA E ags = true) (ha : argSl E ags = some as) : Rel K (F ++ othF E σ H ags) O (as ++ dds.map .dat) ((vs ++ dvs).map some) H := by
  obtain ⟨la, ga⟩ := argSl_get ha
  have lv : vs.length = ags.length := av.length
  have g : ∀ (k : Nat) (s : Sl), (as ++ dds.map Sl.dat)[k]? = some s → (∃ d v, s = .dat d ∧ ((vs ++ dvs).map some)[k]? = some (some v) ∧ Rp K (Mask O H) v d) ∨ (∃ i, ags[k]? = some (.r i) ∧ E[i]? = some s ∧ ((vs ++ dvs).map some)[k]? = σ[i]?) := fun k s e => by
    by_cases h : k < as.length
    · rw [List.getElem?_append_left h] at e
      have hv : k < vs.length := by omega
      rcases ga k s e with ⟨d, e1, rfl⟩ | ⟨i, e1, e2⟩
      · obtain ⟨v, q1, q2⟩ := Paired.get2 av e1
        exact .inl ⟨d, v, rfl, by rw [List.getElem?_map, List.getElem?_append_left hv, q1]; rfl, q2⟩
      · obtain ⟨v, q1, q2⟩ := Paired.get2 av e1
        refine .inr ⟨i, e1, e2, ?_⟩
        rw [List.getElem?_map, List.getElem?_append_left hv, q1]
        exact (show σ[i]? = some (some v) from q2).symm
    · rw [List.getElem?_append_right (by omega), List.getElem?_map] at e
      cases q : dds[k - as.length]? with
      | none => rw [q] at e; cases e
      | some d =>
        rw [q] at e
        cases e
        obtain ⟨v, q1, q2⟩ := hd.get' q
        refine .inl ⟨d, v, rfl, ?_, q2⟩
        rw [List.getElem?_map, List.getElem?_append_right (by omega), show k - vs.length = k - as.length by omega, q1]
        rfl
  refine ⟨by rw [List.length_append, List.length_map, List.length_map, List.length_append, hd.length]; omega, R.trk, fun k s e => ?_, fun k j ds es p e1 e2 e3 e4 => ?_, fun x hx => ?_, fun k ds p e1 e2 x hx => ?_⟩
  · rcases g k s e with ⟨d, v, rfl, q1, q2⟩ | ⟨i, q1, q2, q3⟩
    · exact ⟨v, q1, q2⟩
    · rw [q3]; exact R.slot i s q2
  · rcases g k _ e1 with ⟨d, v, z, _⟩ | ⟨i, q1, q2, q3⟩
    · cases z
    · rcases g j _ e2 with ⟨d, v, z, _⟩ | ⟨i', p1, p2, p3⟩
      · cases z
      · rw [q3] at e3
        rw [p3] at e4
        have := R.apart i i' ds es p q2 p2 e3 e4
        subst this
        exact apartA_get ap q1 p1 (isOwn_of q2)
  · rcases List.mem_append.mp hx with hx | hx
    · exact R.frm x hx
    · obtain ⟨j, ds, c, q1, q2, q3⟩ := othF_mem hx
      obtain ⟨p, ws, e', hp, _⟩ := R.slot j _ q1
      rw [q2] at e'
      cases e'
      exact ⟨hp, q3⟩
  · rcases g k _ e1 with ⟨d, v, z, _⟩ | ⟨i, q1, q2, q3⟩
    · cases z
    · rw [q3] at e2
      rcases List.mem_append.mp hx with hx | hx
      · exact R.fap i ds p q2 e2 x hx
      · obtain ⟨j, es, c, p1, p2, p3⟩ := othF_mem hx
        intro z
        rw [z] at p2
        have := R.apart i j ds es p q2 p1 e2 p2
        subst this
        rw [isRef_of q1] at c
        cases c
theorem call_out {F' : Frm} {O' : List Addr} {H' : Hp} {as' : List Sl} {E' : En} (R : Rel K F O E σ H) (av : Paired (AgV K σ O H) vs ags) (ap : apartA E ags = true) (R' : Rel K (F' ++ othF E σ H ags) O' as' ((vs ++ dvs).map some) H') (l : Le O H O' H') (hb : putB E ags (as'.take ags.length) = some E')
    (hF : ∀ (i : Nat) (ds : Ob) (p : Addr), E[i]? = some (.ow ds) → isRef ags i = false → σ[i]? = some (some (.ref p)) → ∀ x ∈ F', x.1 ≠ p) : Rel K F' O' E' σ H' := by
  obtain ⟨h1, h2, h3⟩ := putB_get hb ap
  have lv : vs.length = ags.length := av.length
  have own : ∀ (k j : Nat) (ds : Ob), ags[k]? = some (.r j) → (as'.take ags.length)[k]? = some (.ow ds) → as'[k]? = some (.ow ds) ∧ ((vs ++ dvs).map some)[k]? = σ[j]? := fun k j ds e1 e2 => by
    have hk : k < ags.length := (List.getElem?_eq_some_iff.mp e1).1
    obtain ⟨v, q1, q2⟩ := Paired.get2 av e1
    refine ⟨by rw [List.getElem?_take_of_lt hk] at e2; exact e2, ?_⟩
    rw [List.getElem?_map, List.getElem?_append_left (by omega), q1]
    exact (show σ[j]? = some (some v) from q2).symm
  -- an owned slot of E' is one of E, with its list
  have key : ∀ (j : Nat) (ds : Ob), E'[j]? = some (.ow ds) → (∃ k : Nat, ags[k]? = some (.r j) ∧ as'[k]? = some (.ow ds) ∧ ((vs ++ dvs).map some)[k]? = σ[j]? ∧ isOwn E j = true) ∨ (E[j]? = some (.ow ds) ∧ isRef ags j = false) := fun j ds e => by
    rcases h3 j with ⟨k, ds', e1, e2, e3, e4⟩ | ⟨c, q⟩
    · rw [e] at e4
      cases e4
      obtain ⟨q1, q2⟩ := own k j ds e1 e3
      exact .inl ⟨k, e1, q1, q2, e2⟩
    · rw [q] at e
      rcases c with c | c
      · rw [isOwn_of e] at c; cases c
      · exact .inr ⟨e, c⟩
  refine ⟨by rw [h2]; exact R.len, R'.trk, fun j s e => ?_, fun i j ds es p e1 e2 e3 e4 => ?_, fun x hx => R'.frm x (List.mem_append_left _ hx), fun i ds p e1 e2 x hx => ?_⟩
  · cases s with
    | un => trivial
    | ow ds =>
      rcases key j ds e with ⟨k, q1, q2, q3, q4⟩ | ⟨q1, q2⟩
      · have z := R'.slot k _ q2
        rw [q3] at z
        exact z
      · obtain ⟨p, ws, e', hp, hh, r⟩ := R.slot j _ q1
        obtain ⟨f1, f2⟩ := R'.frm _ (List.mem_append_right _ (othF_in (σ := σ) q2 q1 e' hh))
        exact ⟨p, ws, e', f1, f2, r.mono l⟩
    | dat d =>
      rcases h3 j with ⟨k, ds', e1, e2, e3, e4⟩ | ⟨c, q⟩
      · rw [e] at e4; cases e4
      · rw [q] at e
        obtain ⟨v, e', r⟩ := R.slot j _ e
        exact ⟨v, e', r.mono l⟩
    | scr ns =>
      rcases h3 j with ⟨k, ds', e1, e2, e3, e4⟩ | ⟨c, q⟩
      · rw [e] at e4; cases e4
      · rw [q] at e
        obtain ⟨v, e', r⟩ := R.slot j _ e
        exact ⟨v, e', Same.seq l r⟩
  · have ow : ∀ (j : Nat) (ds : Ob), E'[j]? = some (.ow ds) → ∃ ds', E[j]? = some (.ow ds') := fun j ds e => by
      rcases key j ds e with ⟨k, q1, q2, q3, q4⟩ | ⟨q1, q2⟩
      · exact isOwn_get q4
      · exact ⟨ds, q1⟩
    obtain ⟨d1, z1⟩ := ow i ds e1
    obtain ⟨d2, z2⟩ := ow j es e2
    exact R.apart i j d1 d2 p z1 z2 e3 e4
  · rcases key i ds e1 with ⟨k, q1, q2, q3, q4⟩ | ⟨q1, q2⟩
    · exact R'.fap k ds p q2 (by rw [q3]; exact e2) x (List.mem_append_left _ hx)
    · exact hF i ds p q1 q2 e2 x hx
theorem call_outE {z : Sl} {v : V} {O' : List Addr} {H' : Hp} {as' : List Sl} {E' : En} (R : Rel K F O E σ H) (av : Paired (AgV K σ O H) vs ags) (ap : apartA E ags = true) (R' : RelE K (F ++ othF E σ H ags) O' as' ((vs ++ dvs).map some) H' v (.rt z)) (l : Le O H O' H') (hb : putB E ags (as'.take ags.length) = some E') : RelE K F O' E' σ H' v (.rt z) := by
  cases z with
  | un => exact R'.elim
  | scr _ => exact R'.elim
  | dat d => exact ⟨call_out R av ap R'.1 l hb fun i ds p e1 _ e2 => R.fap i ds p e1 e2, R'.2⟩
  | ow ob =>
    obtain ⟨p, ho, rfl, R1, hF, r⟩ := R'
    refine ⟨p, ho, rfl, call_out (F' := (p, ho) :: F) R av ap R1 l hb fun i ds q e1 e3 e2 x hx => ?_, fun x hx => hF x (List.mem_append_left _ hx), r⟩
    cases hx with
    | tail _ hx => exact R.fap i ds q e1 e2 x hx
    | head =>
      obtain ⟨q', ho', e', hp, hh, _⟩ := R.slot i _ e1
      rw [e2] at e'
      cases e'
      exact fun z => hF _ (List.mem_append_right _ (othF_in e3 e1 e2 hh)) z.symm
end
section
variable {X : Cx} {W : WX} {k : Nat} {f : Addr} {fd : FuncData} {ps : List Str} {Fm : M Sl} {dds : List D} {dvs : List V} {x : Str} {p pos : Pos} {e : Expr} {es : List Expr} {ts : TA} {ms : M (List Ag)}
theorem call_rd (hd : ∀ G, RpAll X.K G dvs dds) (h : SOs X W es ts ms) (hlen : ∀ E ags E', ms E = .ok ags E' → ags.length + dvs.length = ps.length) : ∀ F O E σ H (Q : VK), Rel X.K F O E σ H → Sat (mCallO Fm dds ms E) (fun z E' => ∀ O' v H', RelE X.K F O' E' σ H' v (.rt z) → Le O H O' H' → Q v H') (KX X.K X.mg F σ O H W) → tCallSD (spOf X.K X.mg ps.length Fm) dvs (fun σ => WE W σ) ts σ H Q := by
  intro F O E σ H Q R s
  have s' := s.bnd
  refine h.rd F O E σ H _ R ?_
  cases em : ms E with
  | bad => rw [em] at s'; exact s'.elim
  | ex z E1 => rw [em] at s'; exact s'
  | ok ags E1 =>
    rw [em] at s'
    intro O1 vs H1 R1 l1 av
    have hl := hlen E ags E1 em
    refine ⟨by rw [List.length_append, av.length]; exact hl, ?_⟩
    change Sat ((if apartA E1 ags then _ else _ : Res Sl)) _ _ at s'
    split at s'
    · rename_i ap
      cases ha : argSl E1 ags with
      | none => rw [ha] at s'; exact s'.elim
      | some as =>
        rw [ha] at s'
        dsimp only at s'
        refine ⟨F ++ othF E1 σ H1 ags, O1, as ++ dds.map .dat, call_in R1 av (hd _) ap ha, ?_⟩
        cases ef : Fm (as ++ dds.map .dat) with
        | bad => rw [ef] at s'; exact s'.elim
        | ok d as' =>
          rw [ef] at s'
          dsimp only at s'
          intro O2 v H2 R2 l2
          split at s'
          · rename_i E2 hb2
            exact s' O2 v H2 (call_outE R1 av ap R2 l2 hb2) (l1.trans l2)
          · exact s'.elim
        | ex z as' =>
          rw [ef] at s'
          dsimp only at s'
          intro O2 H2 c dd R2 l2 r2
          split at s'
          · rename_i E2 hb2
            exact s' O2 H2 c dd (call_out R1 av ap R2 l2 hb2 fun i ds p e1 _ e2 => R1.fap i ds p e1 e2) (l1.trans l2) r2
          · exact s'.elim
    · exact s'.elim
theorem sv_call (Fo : FnOk X.prog X.w X.K X.mg X.base (L2.CX X.prog X.w) k f fd ps (spOf X.K X.mg ps.length Fm)) (hr : Room k X.A) (hg : Gl X x) (hm : X.mg x = some (.ref f)) (hk : PySem.W.keepIn X.K (.ref f) = true) {dvals : List Value} (hb : Binds X.K fd ps dvals) (hdv : Vals dvs dvals) (hd : ∀ G, RpAll X.K G dvs dds) (tk : Takes X W)
    (h : SOs X W (e :: es) ts ms) (hlen : ∀ E ags E', ms E = .ok ags E' → ags.length + dvs.length = ps.length) (hdb : (x == ("__debug__" : Str)) = false := by decide) (he : starEach (e :: es) X.env = (false, eval e X.env) :: starEach es X.env := by rfl) (hpl : (backTo pos (starEach es X.env)).any (·.1) = false := by rfl) :
    SV X W (.Call (.Name x p) (e :: es) [] pos) (tCallSD (spOf X.K X.mg ps.length Fm) dvs (fun σ => WE W σ) ts) (mCallO Fm dds ms) := by
  exact ⟨pe_callSD Fo hr hg hm hk hb hdv (fun σ => passAt tk σ) h.pa hdb he hpl, call_rd hd h hlen⟩
end
end Bt
namespace Bt
open PySem L2
def LenM (m : M (List Ag)) (n : Nat) : Prop := ∀ E ags E', m E = .ok ags E' → ags.length = n
theorem lm_nil : LenM (ret []) 0 := fun E ags E' h => by cases h; rfl
theorem lm_cons {m : M Ag} {ms : M (List Ag)} {n : Nat} (h : LenM ms n) : LenM (mCons m ms) (n + 1) := fun E ags E' e => by
  unfold mCons bnd at e
  cases q : m E with
  | bad => rw [q] at e; cases e
  | ex _ _ => rw [q] at e; cases e
  | ok a E1 =>
    rw [q] at e
    dsimp only at e
    cases q2 : ms E1 with
    | bad => rw [q2] at e; cases e
    | ex _ _ => rw [q2] at e; cases e
    | ok as E2 =>
      rw [q2] at e
      cases e
      rw [List.length_cons, h E1 as _ q2]
section
variable {X : Cx} {W : WX} {a b c e : Expr} {t ta tb tc : TE} {m : M D} {pos : Pos}
theorem so_cons {es : List Expr} {ts : TA} {m : M Ag} {ms : M (List Ag)} (h : SO X W e t m) (hs : SOs X W es ts ms) (hst : starEach (e :: es) X.env = (false, eval e X.env) :: starEach es X.env := by rfl) : SOs X W (e :: es) (tCons t ts) (mCons m ms) := sos_cons (fun h hs => pa_cons h hs hst) h hs
def mLenScr (i : Nat) : M D := fun E => match E[i]? with
  | some (.scr ns) => .ok (.int (ns.length : Nat)) E
  | _ => .bad
theorem se_lenScr {i : Nat} (h : PE X e (tCB (fun xs H Q => ∃ x n, xs = [x] ∧ LenV X.K x H n ∧ Q (.int n) H) (tCons (tVar i) tNil))) : SE X W e (tCB (fun xs H Q => ∃ x n, xs = [x] ∧ LenV X.K x H n ∧ Q (.int n) H) (tCons (tVar i) tNil)) (mLenScr i) := by
  refine ⟨h, fun F O E σ H Q R s => ?_⟩
  unfold mLenScr at s
  split at s
  · rename_i ns h0
    obtain ⟨p, e0, r⟩ := R.slot i _ h0
    refine ⟨.ref p, e0, .ref p, _, rfl, .inl ⟨_, (mask_le O H).seq r, rfl⟩, s O _ H R (Le.refl O H) ?_⟩
    rw [List.length_map]
    exact .int _
  · exact s.elim
def mIxScr (i : Nat) (mk : M Ag) : M D := fun E => match E[i]? with
  | some (.scr ns) => (bnd mk fun a => fun E => match rsv E a with
    | some (.int k) => match atI ns k with
      | some n => .ok (.int n) E
      | none => .bad
    | _ => .bad) E
  | _ => .bad
theorem atI_map {α β : Type} (f : α → β) {xs : List α} {k : Int} {a : α} (h : atI xs k = some a) : atI (xs.map f) k = some (f a) := by
  unfold atI at h ⊢
  rw [List.length_map]
  cases q : ixN xs.length k with
  | none => rw [q] at h; cases h
  | some j =>
    rw [q] at h
    show (xs.map f)[j]? = _
    rw [List.getElem?_map, show xs[j]? = some a from h]
    rfl
theorem se_ixScr {i : Nat} {k : Expr} {tk : TE} {mk : M Ag} (hp : PE X k tk → PE X e (tOp (rIxB X.K) (tVar i) tk)) (h : SO X W k tk mk) : SE X W e (tOp (rIxB X.K) (tVar i) tk) (mIxScr i mk) := by
  refine ⟨hp h.pe, fun F O E σ H Q R s => ?_⟩
  unfold mIxScr at s
  split at s
  · rename_i ns h0
    obtain ⟨p, e0, r⟩ := R.slot i _ h0
    refine ⟨.ref p, e0, h.rd F O E σ H _ R (s.bnd.mono (fun a E1 k1 O1 v H1 R1 l1 av => ?_) (fun _ _ k => k))⟩
    split at k1
    · rename_i kk q
      split at k1
      · rename_i n hn
        exact .inl ⟨p, _, kk, .int n, rfl, (R1.rsv av q).int, (mask_le O1 H1).seq (Same.seq l1 r), atI_map V.int hn, k1 O1 _ H1 R1 l1 (.int _)⟩
      · exact k1.elim
    · exact k1.elim
  · exact s.elim
theorem SSs.sub {a1 a2 : List Nat} {sts : List Stmt} {t : TS} {m : M Fl} (h : SSs X W a1 sts t m) (hs : ∀ i ∈ a1, i ∈ a2) : SSs X W a2 sts t m :=
  ⟨h.ps, fun F O E σ H D' R s => h.rd F O E σ H D' R (s.mono (fun f E1 k O1 σ1 H1 v1 R1 l1 g1 => k O1 σ1 H1 v1 R1 l1 fun i hi => g1 i fun z => hi (hs i z)) (fun x E1 k O1 σ1 H1 c dd R1 l1 g1 ex => k O1 σ1 H1 c dd R1 l1 (fun i hi => g1 i fun z => hi (hs i z)) ex))⟩
theorem SSs.ex {a1 a2 : List Nat} {sts : List Stmt} {t : TS} {m : M Fl} (h : SSs X W a1 sts t m) (hs : ∀ i ∈ a1, i ∈ a2) : ∃ t, SSs X W a2 sts t m := ⟨t, h.sub hs⟩
theorem ss_setLc {b : Bool} {i : Nat} {y : Str} {py : Pos} {elt tg iter : Expr} {ifs : List Expr} {scope : Scope} {own : List (Str × Nat)} {asg : List Nat} {pos spos : Pos} {wi : TI} {g : TG} {tt : TT} {te : TE} {mi : M (List D)} {mg : MG} {mt : M Bool} {me : M D} (hc : X.calm = true) (hN : X.N.Nodup) (hy : X.N[i]? = some y) (hyl : X.env.scope.names.lookup y = some .local)
    (hsw : swapsWith (.ListComp elt [⟨tg, iter, ifs, 0⟩] scope pos) (some (.Name y py)) spos.line X.env = pure true) (hi : SI X W b tg iter wi mi) (ok : BlkOk X.N X.env.scope scope own)
    (hg : ∀ (s : Shared) (H : Hp) (C : Addr) (cl : List (Str × Addr)) (fp : List Addr), SG (X.blk s H scope (compEnvC scope cl C X.env) fp) b asg tg g mg) (ha : ∀ i ∈ asg, i ∈ own.map (·.2)) (ht : ∀ (s : Shared) (H : Hp) (C : Addr) (cl : List (Str × Addr)) (fp : List Addr), STs (X.blk s H scope (compEnvC scope cl C X.env) fp) W0 ifs tt mt)
    (he : ∀ (s : Shared) (H : Hp) (C : Addr) (cl : List (Str × Addr)) (fp : List Addr), SE (X.blk s H scope (compEnvC scope cl C X.env) fp) W0 elt te me) (hs : ∀ x, foldedSetIterable iter X.env x = pure x := by intro _; rfl) :
    SS X W [i] (.Assign [.Name y py] (.ListComp elt [⟨tg, iter, ifs, 0⟩] scope pos) spos) (tAsg (tLc wi g tt te (own.map (·.2))) (gName i)) (mSet (gN i) (mLc mi mg mt me (own.map (·.2)))) := by
  have hE := se_lc (pos := pos) hc hN hi ok hg ha ht he hs
  refine ⟨ps_setLc hc hN hy hyl hsw hi.pi ok (fun s H C cl fp => (hg s H C cl fp).pg) (fun s H C cl fp => (ht s H C cl fp).pt) (fun s H C cl fp => (he s H C cl fp).pe) hs, fun F O E σ H D' R s => hE.rd F O E σ H _ R (s.bnd.mono (fun d E1 k O1 v H1 R1 l1 r => ?_) (KXs.of))⟩
  cases eg : gN i d E1 with
  | none => rw [eg] at k; exact k.elim
  | some E2 =>
    rw [eg] at k
    unfold gN at eg
    split at eg
    · rename_i hi
      cases eg
      refine k O1 _ H1 .non (R1.set r hi) l1 fun j hj => ?_
      have hne : i ≠ j := fun z => hj (by rw [z]; exact List.mem_cons_self)
      rw [List.getElem?_set_ne hne]
    · cases eg
theorem chain_rd {r r' : R2} {f g : D → D → Option D} {ma mb mc : M Ag} (ha : SO X W a ta ma) (hb : SO X W b tb mb) (hc : SO X W c tc mc) (hr : ROk X.K r f) (hr' : ROk X.K r' g) :
    ∀ F O E σ H (Q : VK), Rel X.K F O E σ H → Sat (mChain f g ma mb mc E) (KD X.K F σ O H Q) (KX X.K X.mg F σ O H W) → tChain r r' ta tb tc σ H Q := by
  intro F O E σ H Q R s
  refine ha.rd F O E σ H _ R (s.bnd.mono (fun a1 E1 k O1 v H1 R1 l1 av => ?_) (fun _ _ k => k))
  refine hb.rd F O1 E1 σ H1 _ R1 (k.bnd.mono (fun b1 E2 k2 O2 u H2 R2 l2 bv => ?_) (KX.le l1))
  cases ea : rsv E2 a1 with
  | none => rw [ea] at k2; exact k2.elim
  | some x =>
    cases eb : rsv E2 b1 with
    | none => rw [ea, eb] at k2; exact k2.elim
    | some y =>
      rw [ea, eb] at k2
      dsimp only at k2
      cases ef : f x y with
      | none => rw [ef] at k2; exact k2.elim
      | some z =>
        rw [ef] at k2
        refine hr O2 H2 v u x y z _ R2.trk (R2.rsv (av.le l2) ea) (R2.rsv bv eb) ef fun w H3 gr r3 => ?_
        have R3 := R2.grow gr
        have l3 : Le O H O2 H3 := (l1.trans l2).trans gr.le
        cases z <;> first | exact k2.elim | skip
        rename_i bb
        cases r3
        refine ⟨bb, rfl, ?_⟩
        cases bb with
        | false => exact k2 O2 _ H3 R3 l3 (.bl _)
        | true =>
          show tc σ H3 _
          dsimp only at k2
          refine hc.rd F O2 E2 σ H3 _ R3 (k2.bnd.mono (fun c1 E3 k3 O3 w H4 R4 l4 cv => ?_) (KX.le l3))
          cases eb2 : rsv E3 b1 with
          | none => rw [eb2] at k3; exact k3.elim
          | some y2 =>
            cases ec : rsv E3 c1 with
            | none => rw [eb2, ec] at k3; exact k3.elim
            | some z2 =>
              rw [eb2, ec] at k3
              obtain ⟨q, hq, k4⟩ := Sat.lift k3
              refine hr' O3 H4 u w y2 z2 q Q R4.trk (R4.rsv ((bv.le gr.le).le l4) eb2) (R4.rsv cv ec) hq fun w2 H5 g5 r5 => ?_
              exact k4 O3 w2 H5 (R4.grow g5) ((l3.trans l4).trans g5.le) r5
theorem st_chain {op op' : CmpOp} {r r' : R2} {f g : D → D → Option D} {ma mb mc : M Ag} (ho : OpR X (compareOp op) r) (ho' : OpR X (compareOp op') r') (hr : ROk X.K r f) (hr' : ROk X.K r' g) (ha : SO X W a ta ma) (hb : SO X W b tb mb) (hc : SO X W c tc mc) (hm : lastMarks [op, op'] [b, c] = false := by with_unfolding_all rfl) :
    STt X W (.Compare a [op, op'] [b, c] pos) (tTest (tChain r r' ta tb tc)) (bnd (mChain f g ma mb mc) asB) := by
  refine ⟨pt_chain ho ho' ha.pe hb.pe hc.pe hm, fun F O E σ H Q R s => chain_rd ha hb hc hr hr' F O E σ H _ R (s.bnd.mono (fun d E1 k O1 v H1 R1 l1 r => ?_) (fun _ _ k => k))⟩
  cases d <;> first | (exact k.elim) | skip
  cases r
  exact ⟨_, rfl, k O1 H1 R1 l1⟩
end
section
variable {P : Program} {w : World} {K : PySem.W.Frag} {mg : Str → Option Value} {base : Heap}
end
section
variable {X : Cx} {W : WX} {e : Expr} {t : TE} {m : M D} {pos : Pos}
inductive Pk where
  | at (k : Nat)
  | no
  | bl (b : Bool)
def pkD (xs : List D) : Pk → D
  | .at k => xs.getD k .none
  | .no => .none
  | .bl b => .bool b
def mCallKO (Fm : M Sl) (pk : List Pk) (n1 n2 : Nat) (ms1 ms2 : M (List D)) : M Sl := bnd ms1 fun ds1 => bnd ms2 fun ds2 => fun E => if ds1.length = n1 ∧ ds2.length = n2 then match Fm ((pk.map (pkD (ds1 ++ ds2))).map .dat) with
  | .ok d _ => .ok d E
  | .ex x _ => .ex x E
  | .bad => .bad
  else .bad
def mCallK (Fm : M Sl) (pk : List Pk) (n1 n2 : Nat) (ms1 ms2 : M (List D)) : M D := bnd (mCallKO Fm pk n1 n2 ms1 ms2) thaw
end
end Bt
namespace Bt
open PySem L2
section
variable {X : Cx} {W : WX} (K : PySem.W.Frag)
theorem oK_add (eK : X.K = K) : OpR X (binaryOp .Add) (rAdd K) := eK ▸ op_Add
theorem oK_mul (eK : X.K = K) : OpR X (binaryOp .Mult) (rMul K) := eK ▸ op_Mul
theorem oK_eq (eK : X.K = K) (hu : X.A.units + 64 < cLine) : OpR X (compareOp .Eq) (rEqD K) := eK ▸ op_eqD hu
theorem oK_ne (eK : X.K = K) (hu : X.A.units + 64 < cLine) : OpR X (compareOp .NotEq) (rNeD K) := eK ▸ op_neD hu
theorem oK_in (eK : X.K = K) : OpR X (compareOp .In) (rInB K) := eK ▸ op_in_seq.or op_in_sign
def rLen1 (K : PySem.W.Frag) : List V → Hp → VK → Prop := fun xs H Q => ∃ x n, xs = [x] ∧ LenV K x H n ∧ Q (.int n) H
theorem cK_len (eK : X.K = K) : CallR X (.builtin "len") (rLen1 K) := eK ▸ call_len
theorem cK_sum (eK : X.K = K) (hc : X.calm = true) : CallR X (.builtin "sum") (rSum K) := eK ▸ cr_sum hc
theorem cK_all (eK : X.K = K) (hc : X.calm = true) : CallR X (.builtin "all") (rAll K) := eK ▸ cr_all hc
theorem cK_min (eK : X.K = K) (hc : X.calm = true) : CallR X (.builtin "min") (rMinB K) := eK ▸ call_minB hc
theorem cK_max (eK : X.K = K) (hc : X.calm = true) : CallR X (.builtin "max") (rMaxB K) := eK ▸ call_maxB hc
theorem cK_tuple (eK : X.K = K) : CallR X (.type "tuple") (rTupP K) := eK ▸ call_tupP
theorem cK_sorted (eK : X.K = K) (hu : X.A.units + 64 < cLine) : CallR X (.builtin "sorted") (rSortB K) := eK ▸ cr_sortedI.or (cr_sort1.or (cr_sortT hu))
variable {a b c e tg : Expr} {ta tb tc t : TE} {ma mb mc : M Ag} {m : M D} {pos : Pos}
theorem se_ixK (eK : X.K = K) (hs : PlainIx b) (ha : SO X W a ta ma) (hb : SO X W b tb mb) : SE X W (.Subscript a b pos) (tOp (rIxB K) ta tb) (mOp ixD ma mb) := by subst eK; exact se_ix hs ha hb
theorem se_slK {lo hi : Option Expr} {tl th : TO} {ml mh : M (Option Int)} {m : M Ag} {p2 : Pos} (eK : X.K = K) (h : SO X W e t m) (hl : SP X W lo tl ml) (hh : SP X W hi th mh) : SE X W (.Subscript e (.Slice lo hi none p2) pos) (tSl (rSlB K) t tl th) (mSl m ml mh) := by subst eK; exact se_sl h hl hh
theorem se_isiK {T : String} {x : Str} {m : M Ag} {p p2 : Pos} (eK : X.K = K) (hg : Gl X "isinstance") (hm : X.mg "isinstance" = none) (h : SO X W e t m) (hT : PE X (.Name x p2) (tC (.ty T))) (hk : tyAll.all (fun n => kitB n T == some (tyIs T n)) = true)
    (hst : starEach [e, .Name x p2] X.env = (false, eval e X.env) :: starEach [.Name x p2] X.env := by rfl) (hst2 : starEach [.Name x p2] X.env = (false, eval (.Name x p2) X.env) :: starEach [] X.env := by rfl) (hpl : (backTo pos (starEach [.Name x p2] X.env)).any (·.1) = false := by rfl) :
    SE X W (.Call (.Name "isinstance" p) [e, .Name x p2] [] pos) (tCB (rIsi K) (tCons t (tCons (tC (.ty T)) tNil))) (mIsi T m) := by subst eK; exact se_isi hg hm h hT hk hst hst2 hpl
theorem si_seqK (eK : X.K = K) (h : SE X W e t m) : SI X W false tg e (iSeq K t) (mIt m) := by subst eK; exact si_seq (fun h => pi_or (pi_list h) (pi_or (pi_tup h) (pi_str h))) h
theorem si_zipK {e e2 : Expr} {ts : TA} {ms : M (List D)} {p tpos : Pos} {elts : List Expr} {kk : Nat} (eK : X.K = K) (hg : Gl X "zip") (hm : X.mg "zip" = none) (h : SA X W [e, e2] ts ms)
    (hs : starEach [e, e2] X.env = (false, eval e X.env) :: starEach [e2] X.env := by rfl) (hpl : (backTo pos (starEach [e2] X.env)).any (·.1) = false := by rfl) : SI X W true (.Tuple elts kk tpos) (.Call (.Name "zip" p) [e, e2] [] pos) (RZ.iZipA K ts) (mZip ms) := by subst eK; exact si_zip (fun h => RZ.pi_zipA hg hm h hs hpl) h
theorem sg_tupK {b : Bool} {asg : List Nat} {tgs : List Expr} {gs : TGs} {ms : List D → En → Option En} {k n : Nat} (eK : X.K = K) (hc : X.calm = true) (hs : SGs X asg tgs gs ms) (hn : (assignEach tgs X.env).length = n := by rfl) (hst : (assignEach tgs X.env).findIdx? (·.1) = none := by rfl) : SG X b asg (.Tuple tgs k pos) (gTup K n gs) (gTupM n ms) := by
  subst eK; exact sg_tup (fun h => pg_tup hc h hn hst) hs
end
theorem hu1 {u : Nat} (h : u + 64 < cLine) : u + 1 < cLine := by omega
theorem ss_set {X : Cx} {W : WX} {e : Expr} {t : TE} {m : M D} {pos : Pos} {i : Nat} {x : Str} {pos' : Pos} (hN : X.N.Nodup) (hi : X.N[i]? = some x) (hx : Loc X.env.scope x) (h : SE X W e t m) (hs : swapsWith e (some (.Name x pos')) pos.line X.env = pure false := by rfl) (hf : X.fn x = true ∨ X.env.scope.names.lookup x = some .local := by first | exact .inl rfl | exact .inr rfl | assumption) :
    SS X W [i] (.Assign [.Name x pos'] e pos) (tAsg t (gName i)) (mSet (gN i) m) := by
  refine ⟨ps_set hN hi hx h.pe hs hf, fun F O E σ H D' R s => h.rd F O E σ H _ R (s.bnd.mono (fun d E1 k O1 v H1 R1 l1 r => ?_) (KXs.of))⟩
  cases eg : gN i d E1 with
  | none => rw [eg] at k; exact k.elim
  | some E2 =>
    rw [eg] at k
    unfold gN at eg
    split at eg
    · rename_i hi
      cases eg
      refine k O1 _ H1 .non (R1.set r hi) l1 fun j hj => ?_
      have hne : i ≠ j := fun z => hj (by rw [z]; exact List.mem_cons_self)
      rw [List.getElem?_set_ne hne]
    · cases eg
section
variable {X : Cx} {W : WX} {P : Program} {w : World} {K : PySem.W.Frag} {mg : Str → Option Value} {base : Heap} {e : Expr} {pos : Pos}
theorem sv_callC {k : Nat} {f : Addr} {fd : FuncData} {ps : List Str} {Fm : M Sl} {n : Nat} {x : Str} {p : Pos} {es : List Expr} {ts : TA} {ms : M (List Ag)} (Fo : FnOk P w K mg base (L2.CX P w) k f fd ps (spOf K mg n Fm)) (eP : X.prog = P) (ew : X.w = w) (eK : X.K = K) (eM : X.mg = mg) (eB : X.base = base) (hr : Room k X.A) (hg : Gl X x) (hm : mg x = some (.ref f)) (hk : PySem.W.keepIn K (.ref f) = true) (hb : Binds K fd ps []) (hn : ps.length = n) (tk : Takes X W)
    (h : SOs X W (e :: es) ts ms) (hlen : LenM ms n) (hdb : (x == ("__debug__" : Str)) = false := by decide) (he : starEach (e :: es) X.env = (false, eval e X.env) :: starEach es X.env := by rfl) (hpl : (backTo pos (starEach es X.env)).any (·.1) = false := by rfl) :
    SV X W (.Call (.Name x p) (e :: es) [] pos) (tCallSD (spOf K mg n Fm) [] (fun σ => WE W σ) ts) (mCallO Fm [] ms) := by
  subst eP ew eK eM eB hn
  exact sv_call Fo hr hg hm hk hb .nil (fun _ => .nil) tk h (fun E ags E' q => hlen E ags E' q) hdb he hpl
theorem se_callC {k : Nat} {f : Addr} {fd : FuncData} {ps : List Str} {Fm : M Sl} {n : Nat} {x : Str} {p : Pos} {es : List Expr} {ts : TA} {ms : M (List Ag)} (Fo : FnOk P w K mg base (L2.CX P w) k f fd ps (spOf K mg n Fm)) (eP : X.prog = P) (ew : X.w = w) (eK : X.K = K) (eM : X.mg = mg) (eB : X.base = base) (hr : Room k X.A) (hg : Gl X x) (hm : mg x = some (.ref f)) (hk : PySem.W.keepIn K (.ref f) = true) (hb : Binds K fd ps []) (hn : ps.length = n) (tk : Takes X W)
    (h : SOs X W (e :: es) ts ms) (hlen : LenM ms n) (hdb : (x == ("__debug__" : Str)) = false := by decide) (he : starEach (e :: es) X.env = (false, eval e X.env) :: starEach es X.env := by rfl) (hpl : (backTo pos (starEach es X.env)).any (·.1) = false := by rfl) :
    SE X W (.Call (.Name x p) (e :: es) [] pos) (tCallSD (spOf K mg n Fm) [] (fun σ => WE W σ) ts) (mCall Fm [] ms) :=  (sv_callC Fo eP ew eK eM eB hr hg hm hk hb hn tk h hlen hdb he hpl).se
end
end Bt
namespace Bt
open PySem L2
def rDict (K : PySem.W.Frag) : List V → Hp → VK → Prop := fun xs H Q => ∃ (a : Addr) (ps : List Addr) (kvs : List (Key × V)), xs = [.ref a] ∧ (SqL K H a (ps.map V.ref) ∨ SqP K H a (ps.map V.ref)) ∧ Paired (fun p kv => SqT K H p [kV kv.1, kv.2]) ps kvs ∧ ∀ p, H p = none → Q (.ref p) (upd H p (.dK (mergeK [] kvs)))
theorem plain_of {X : Cx} {pins : List (Addr × Obj)} {σ : L2.St} {H : Hp} {s : Shared} {a : Addr} {xs : List V} (I : Inv X pins σ H s) (h : SqP X.K H a xs) : ∃ its : List Value, Vals xs its ∧ PlainSeq "tuple" s.heap a its.toArray ∧ xs.length ≤ sizeLine := by
  rcases h with ⟨o, h, hd⟩ | ⟨o, its, n, h1, h2, hd, h3, h4, h5⟩
  · obtain ⟨e, z, its, r, o', e', hc, n, hs⟩ := (show ObjOk X.prog X.w H s.heap a (.frz o (.tup xs)) from I.hok a _ h)
    rw [e] at e'
    cases e'
    exact ⟨its, r, ⟨o, n, e, hc, hd, hs⟩, z⟩
  · refine ⟨its.toList, h5, ⟨o, n, I.kIn a o h1, h2, hd, by simpa using h3⟩, ?_⟩
    have e := h5.length
    simp only [Array.length_toList] at e
    omega
theorem call_dictA {X : Cx} (hcalm : X.calm = true) : CallR X (.type "dict") (rDict X.K) := by
  intro pins s σ H xs us Q I r q
  obtain ⟨a, ps, kvs, ex, hq, hp, q⟩ := q
  rcases hq with hq | hq
  · exact call_dictP hcalm pins s σ H xs us Q I r ⟨a, ps, kvs, ex, hq, hp, q⟩
  subst ex
  obtain ⟨u, eu, rx⟩ := vals1 r
  subst eu
  cases rx
  obtain ⟨its, rv, pl, hz⟩ := plain_of I hq
  have ei := refs_at rv
  subst ei
  rw [List.length_map] at hz
  obtain ⟨prs, rel, hl, hpr⟩ := pairs_of I hp
  -- the key of each pair as it stands
  have hk : ∀ j : Nat, ∃ u : Value, ∀ q', prs[j]? = some q' → ∃ b, ps[j]? = some b ∧ PyProof.Rows.IsTup s.heap b #[u, q'.2] ∧ keyIs q'.1 u = true := fun j => by
    cases e : prs[j]? with
    | none => exact ⟨.none, fun q' e' => by cases e'⟩
    | some q' =>
      obtain ⟨b, u, e1, e2, e3⟩ := hpr j q' e
      exact ⟨u, fun q2 e' => by cases e'; exact ⟨b, e1, e2, e3⟩⟩
  let U : Nat → Value := fun j => Classical.choose (hk j)
  have hU : ∀ j q', prs[j]? = some q' → ∃ b, ps[j]? = some b ∧ PyProof.Rows.IsTup s.heap b #[U j, q'.2] ∧ keyIs q'.1 (U j) = true := fun j => Classical.choose_spec (hk j)
  have hlen : prs.length = ps.length := hl
  refine call_dict_pairs (prog := X.prog) (w := X.w) (knd := mixKind X.prog X.w) (kvs := prs) (PairArg.tuple a (ps.map Value.ref).toArray (fun j => ps.getD j 0) (prs.mapIdx fun j q' => (U j, q'.2))) (I.ok.hd hcalm) ⟨pl, ?_, ?_⟩ ⟨?_, ?_⟩ ?_ fun h' tk hd' k => ?_
  · simp [hlen]
  · intro j k v e
    rw [List.getElem?_mapIdx] at e
    cases e2 : prs[j]? with
    | none => rw [e2] at e; cases e
    | some q' =>
      rw [e2] at e
      obtain ⟨b, b1, b2, b3⟩ := hU j q' e2
      simp only [Option.map_some, Option.some.injEq, Prod.mk.injEq] at e
      refine ⟨by simp [b1], .inl ?_⟩
      show s.heap.IsTuple (ps.getD j 0) #[k, v]
      rw [List.getD_eq_getElem?_getD, b1, ← e.1, ← e.2]
      exact b2
  · simp
  · intro i key v e
    have e' : (prs.mapIdx fun j q' => (U j, q'.2))[i]? = some (key, v) := e
    rw [List.getElem?_mapIdx] at e'
    cases e2 : prs[i]? with
    | none => rw [e2] at e'; cases e'
    | some q' =>
      rw [e2] at e'
      obtain ⟨b, b1, b2, b3⟩ := hU i q' e2
      simp only [Option.map_some, Option.some.injEq, Prod.mk.injEq] at e'
      exact ⟨q'.1, by rw [← e'.2], by rw [← e'.1]; exact b3⟩
  · simp [hlen, hz]
  · have hm : (s.heap.objs.size == sysModules) = false := beq_eq_false_iff_ne.mpr (Nat.ne_of_gt I.big)
    have hlen2 : (mergeK [] kvs).length ≤ sizeLine := by
      refine Nat.le_trans (length_mergeK kvs []) ?_
      rw [List.length_nil, Nat.zero_add, rel.length, hl]
      exact hz
    exact ⟨.ref s.heap.objs.size, upd H s.heap.objs.size (.dK (mergeK [] kvs)), I.laid (t' := tk) (fun b o e => k b o (by intro z; cases z) e) (Nat.le_refl _) (show ObjOk X.prog X.w _ _ _ (.dK (mergeK [] kvs)) from ⟨hlen2, hm, merged [] prs, KV.merge rel .nil, hd'⟩), rfl, q _ (I.hok.fresh (Nat.le_refl _))⟩
def keyOf : D → Option Key
  | .int i => some (.inl i)
  | .str z => some (.inr z)
  | _ => none
def pairOf : D → Option (Key × D)
  | .tuple [k, v] => (keyOf k).map fun k => (k, v)
  | _ => none
def pairsOf : List D → Option (List (Key × D))
  | [] => some []
  | d :: ds => match pairOf d, pairsOf ds with
    | some p, some ps => some (p :: ps)
    | _, _ => none
def valD (es : List (Key × D)) (k : Key) : Option D := (es.find? fun e => decide (e.1 = k)).map (·.2)
def putD (es : List (Key × D)) (k : Key) (v : D) : List (Key × D) :=
  if (es.any fun e => decide (e.1 = k)) = true then es.map (fun e => if e.1 = k then (e.1, v) else e) else es ++ [(k, v)]
def mergeD (es more : List (Key × D)) : List (Key × D) := more.foldl (fun acc e => putD acc e.1 e.2) es
section
variable {K : PySem.W.Frag} {G : Hp}
theorem RpKV.val : ∀ {xs : List (Key × V)} {es : List (Key × D)} (k : Key), RpKV K G xs es → (valV xs k = none ∧ valD es k = none) ∨ ∃ v d, valV xs k = some v ∧ valD es k = some d ∧ Rp K G v d
  | _, _, k, .nil => .inl ⟨rfl, rfl⟩
  | x :: xs, e :: es, k, .cons h r => by
    by_cases z : e.1 = k
    · refine .inr ⟨x.2, e.2, valV_pos (h.1.trans z), ?_, h.2⟩
      simp [valD, List.find?_cons, z]
    · have z2 : ¬ x.1 = k := fun q => z (h.1.symm.trans q)
      rw [valV_neg z2, show valD (e :: es) k = valD es k by simp [valD, List.find?_cons, z]]
      exact RpKV.val k r
theorem RpKV.length : ∀ {xs : List (Key × V)} {es : List (Key × D)}, RpKV K G xs es → xs.length = es.length
  | _, _, .nil => rfl
  | _, _, .cons _ r => by rw [List.length_cons, List.length_cons, RpKV.length r]
theorem RpKV.keys : ∀ {xs : List (Key × V)} {es : List (Key × D)}, RpKV K G xs es → xs.map (·.1) = es.map (·.1)
  | _, _, .nil => rfl
  | _, _, .cons h r => by rw [List.map_cons, List.map_cons, RpKV.keys r, h.1]
theorem RpKV.append : ∀ {xs ys : List (Key × V)} {es fs : List (Key × D)}, RpKV K G xs es → RpKV K G ys fs → RpKV K G (xs ++ ys) (es ++ fs)
  | _, _, _, _, .nil, s => s
  | _, _, _, _, .cons h r, s => .cons h (RpKV.append r s)
theorem RpKV.put {xs : List (Key × V)} {es : List (Key × D)} {k : Key} {v : V} {d : D} (r : RpKV K G xs es) (h : Rp K G v d) : RpKV K G (putK xs k v) (putD es k d) := by
  have hany : (xs.any fun kv => decide (kv.1 = k)) = (es.any fun e => decide (e.1 = k)) := by
    induction r with
    | nil => rfl
    | cons h r ih => rw [List.any_cons, List.any_cons, ih, h.1]
  unfold putK putD
  rw [hany]
  split
  · rename_i hc
    clear hc hany
    induction r with
    | nil => exact .nil
    | @cons a b l1 l2 h0 r ih =>
      rw [List.map_cons, List.map_cons]
      refine .cons ?_ ih
      by_cases z : b.1 = k
      · rw [if_pos (h0.1.trans z), if_pos z]; exact ⟨h0.1, h⟩
      · rw [if_neg (fun q => z (h0.1.symm.trans q)), if_neg z]; exact h0
  · exact r.append (.cons ⟨rfl, h⟩ .nil)
theorem RpKV.merge : ∀ {ys : List (Key × V)} {fs : List (Key × D)} {xs : List (Key × V)} {es : List (Key × D)}, RpKV K G ys fs → RpKV K G xs es → RpKV K G (mergeK xs ys) (mergeD es fs)
  | _, _, _, _, .nil, s => s
  | _, _, _, _, .cons h r, s => by
    unfold mergeK mergeD
    rw [List.foldl_cons, List.foldl_cons, h.1]
    exact RpKV.merge r (s.put h.2)
theorem Rp.key {v : V} {d : D} {k : Key} (h : Rp K G v d) (e : keyOf d = some k) : v = kV k := by
  cases h <;> first | (cases e; rfl) | cases e
theorem RpAll.pairs : ∀ {vs : List V} {ds : List D} {es : List (Key × D)}, RpAll K G vs ds → pairsOf ds = some es → ∃ (ps : List Addr) (kvs : List (Key × V)), vs = ps.map V.ref ∧ Paired (fun p kv => SqT K G p [kV kv.1, kv.2]) ps kvs ∧ RpKV K G kvs es
  | _, _, es, .nil, e => by cases e; exact ⟨[], [], rfl, .nil, .nil⟩
  | _, d :: ds, es, .cons h r, e => by
    unfold pairsOf at e
    cases e1 : pairOf d with
    | none => rw [e1] at e; cases e
    | some p =>
      cases e2 : pairsOf ds with
      | none => rw [e1, e2] at e; cases e
      | some es2 =>
        rw [e1, e2] at e
        cases e
        obtain ⟨ps, kvs, rfl, h1, h2⟩ := RpAll.pairs r e2
        unfold pairOf at e1
        split at e1
        · rename_i k0 v0
          cases h with
          | tup hp rr =>
            cases rr with
            | cons r1 rr =>
              cases rr with
              | cons r2 rr =>
                cases rr
                cases e3 : keyOf k0 with
                | none => rw [e3] at e1; cases e1
                | some k =>
                  rw [e3] at e1
                  cases e1
                  cases r1.key e3
                  exact ⟨_ :: ps, (k, _) :: kvs, rfl, .cons hp.t h1, .cons ⟨rfl, r2⟩ h2⟩
        · cases e1
end
section
variable {X : Cx} {W : WX} {e : Expr} {t : TE} {pos : Pos}
def mOwnO (i : Nat) (m : M Ob) : M Fl := bnd m fun ob => fun E => if i < E.length then .ok .nx (E.set i (.ow ob)) else .bad
theorem ss_ownO {i : Nat} {st : Stmt} {m : M Ob} (hp : PE X e t → PS X st (tAsg t (gName i))) (h : SFO X W e t m) : SS X W [i] st (tAsg t (gName i)) (mOwnO i m) := by
  refine ⟨hp h.pe, fun F O E σ H D' R s => h.rd F O E σ H _ R (s.bnd.mono (fun ds E1 k O1 p vs H1 R1 hF l1 r => ?_) (KXs.of))⟩
  split at k
  · rename_i hi
    refine k O1 (σ.set i (some (.ref p))) H1 .non (R1.toOwn r hF hi) l1 fun j hj => ?_
    have hne : i ≠ j := fun z => hj (by rw [z]; exact List.mem_cons_self)
    rw [List.getElem?_set_ne hne]
  · exact k.elim
def dictF : D → Option Ob
  | .list ds => (pairsOf ds).map fun es => .d (mergeD [] es)
  | .tuple ds => (pairsOf ds).map fun es => .d (mergeD [] es)
  | _ => none
def mDict (m : M Ag) : M Ob := bnd m fun a => fun E => match rsv E a with
  | some d => lift (dictF d) E
  | none => .bad
theorem Rq.plain {K : PySem.W.Frag} {O : List Addr} {H : Hp} {v : V} {ds : List D} (h : Rq K O H v (.tuple ds)) : ∃ p vs, v = .ref p ∧ SqP K H p vs ∧ RpAll K (Mask O H) vs ds := by
  rcases h with h | ⟨_, _, _, _, e, _⟩
  · cases h with
    | tup h r => exact ⟨_, _, rfl, h.mono (mask_le O H), r⟩
  · cases e
theorem paired_imp {α β : Type} {P Q : α → β → Prop} (h : ∀ a b, P a b → Q a b) : ∀ {xs : List α} {ys : List β}, Paired P xs ys → Paired Q xs ys
  | _, _, .nil => .nil
  | _, _, .cons p r => .cons (h _ _ p) (paired_imp h r)
theorem sfo_dict {K : PySem.W.Frag} {m : M Ag} (eK : X.K = K) {e0 : Expr} (pe : PE X e0 t → PE X e (tCB (rDict K) (tCons t tNil))) (h : SO X W e0 t m) : SFO X W e (tCB (rDict K) (tCons t tNil)) (mDict m) := by
  subst eK
  refine ⟨pe h.pe, fun F O E σ H Q R s => h.rd F O E σ H _ R (s.bnd.mono (fun a E1 k O1 v H1 R1 l1 av => ?_) (fun _ _ k => k))⟩
  cases ea : rsv E1 a with
  | none => rw [ea] at k; exact k.elim
  | some d =>
    rw [ea] at k
    obtain ⟨ob, ho, k2⟩ := Sat.lift k
    have rq := R1.rsv av ea
    have fin : ∀ (ps : List Addr) (kvs : List (Key × V)) (es : List (Key × D)), RpKV X.K (Mask O1 H1) kvs es → ob = .d (mergeD [] es) → ∀ p, H1 p = none → Q (.ref p) (upd H1 p (.dK (mergeK [] kvs))) := fun ps kvs es r eo p np => by
      have l2 := mask_cons_new (O := O1) (o := .dK (mergeK [] kvs)) np
      subst eo
      exact k2 (p :: O1) p (.dK (mergeK [] kvs)) _ (R1.newF np) (R1.newApart np) (l1.trans l2) (show RpKV _ _ _ _ from (RpKV.merge (r.mono l2) .nil))
    unfold dictF at ho
    split at ho
    · rename_i ds
      cases e3 : pairsOf ds with
      | none => rw [e3] at ho; cases ho
      | some es =>
        rw [e3] at ho
        cases ho
        obtain ⟨p, vs, rfl, hp, r1⟩ := rq.list
        obtain ⟨ps, kvs, rfl, h1, h2⟩ := r1.pairs e3
        exact ⟨p, ps, kvs, rfl, .inl (SqL.of hp), paired_imp (fun _ _ z => sqT_mono (mask_le _ _) z) h1, fin ps kvs es h2 rfl⟩
    · rename_i ds
      cases e3 : pairsOf ds with
      | none => rw [e3] at ho; cases ho
      | some es =>
        rw [e3] at ho
        cases ho
        obtain ⟨p, vs, rfl, hp, r1⟩ := rq.plain
        obtain ⟨ps, kvs, rfl, h1, h2⟩ := r1.pairs e3
        exact ⟨p, ps, kvs, rfl, .inr hp, paired_imp (fun _ _ z => sqT_mono (mask_le _ _) z) h1, fin ps kvs es h2 rfl⟩
    · cases ho
end
end Bt
namespace Bt
open PySem L2
theorem Rq.key {K : PySem.W.Frag} {O : List Addr} {H : Hp} {v : V} {d : D} {k : Key} (h : Rq K O H v d) (e : keyOf d = some k) : v = kV k := by
  rcases h with h | ⟨_, _, _, _, rfl, _⟩
  · exact h.key e
  · cases e
theorem RpKV.valS {K : PySem.W.Frag} {G : Hp} {xs : List (Key × V)} {es : List (Key × D)} {k : Key} {d : D} (r : RpKV K G xs es) (h : valD es k = some d) : ∃ v, valV xs k = some v ∧ Rp K G v d := by
  rcases RpKV.val k r with ⟨_, q⟩ | ⟨v, d', h1, h2, h3⟩
  · rw [h] at q; cases q
  · rw [h] at h2; cases h2; exact ⟨v, h1, h3⟩
def dkOf (E : En) (i : Nat) (a : Ag) : Option (List (Key × D) × Key) := match E[i]?, rsv E a with
  | some ((.ow (.d es))), some d => (keyOf d).map fun k => (es, k)
  | _, _ => none
theorem dkOf_some {E : En} {i : Nat} {a : Ag} {es : List (Key × D)} {k : Key} (h : dkOf E i a = some (es, k)) : E[i]? = some ((.ow (.d es))) ∧ ∃ d, rsv E a = some d ∧ keyOf d = some k := by
  unfold dkOf at h
  split at h
  · rename_i es' d h1 h2
    cases h3 : keyOf d with
    | none => rw [h3] at h; cases h
    | some k' => rw [h3] at h; cases h; exact ⟨h1, d, h2, h3⟩
  · cases h
def isDic (E : En) (i : Nat) : Bool := match E[i]? with
  | some ((.ow (.d _))) => true
  | _ => false
theorem isDic_some {E : En} {i : Nat} (h : isDic E i = true) : ∃ es, E[i]? = some ((.ow (.d es))) := by
  unfold isDic at h
  split at h
  · exact ⟨_, ‹_›⟩
  · cases h
section
variable {X : Cx} {W : WX} {e : Expr} {t : TE} {pos : Pos}
def mDGet (i : Nat) (mk : M Ag) : M D := fun E => if isDic E i = true then (bnd mk fun a => fun E => match dkOf E i a with
    | some (es, k) => lift (valD es k) E
    | none => .bad) E else .bad
theorem se_dget {i : Nat} {k : Expr} {tk : TE} {mk : M Ag} (hp : PE X k tk → PE X e (tDGet (tVar i) tk)) (hk : SO X W k tk mk) : SE X W e (tDGet (tVar i) tk) (mDGet i mk) := by
  refine ⟨hp hk.pe, fun F O E σ H Q R s => ?_⟩
  unfold mDGet at s
  split at s
  · rename_i h0
    obtain ⟨es0, h0⟩ := isDic_some h0
    obtain ⟨p, vs0, e0, _, _, _⟩ := R.ownD h0
    refine ⟨.ref p, e0, hk.rd F O E σ H _ R (s.bnd.mono (fun a E1 k O1 v H1 R1 l1 av => ?_) (fun _ _ k => k))⟩
    split at k
    · rename_i es kk h1
      obtain ⟨h1, d, h2, h3⟩ := dkOf_some h1
      obtain ⟨dv, h4, k⟩ := Sat.lift k
      obtain ⟨p', vs, e1, hp1, hh1, r1⟩ := R1.ownD h1
      rw [e0] at e1
      cases e1
      obtain ⟨w, h5, h6⟩ := r1.valS h4
      cases (R1.rsv av h2).key h3
      exact ⟨p, w, rfl, .inl ⟨vs, kk, .inl hh1, rfl, h5.symm⟩, k O1 w H1 R1 l1 h6⟩
    · exact k.elim
  · exact s.elim
def mDGet2 (i : Nat) (mk : M Ag) (mx : M D) : M D := fun E => if isDic E i = true then (bnd mk fun a => bnd mx fun z => fun E => match dkOf E i a with
    | some (es, k) => .ok ((valD es k).getD z) E
    | none => .bad) E else .bad
theorem se_dget2 {i : Nat} {k x : Expr} {tk tx : TE} {mk : M Ag} {mx : M D} (hp : PE X k tk → PE X x tx → PE X e (tDGet2 (tVar i) tk tx)) (hk : SO X W k tk mk) (hx : SE X W x tx mx) : SE X W e (tDGet2 (tVar i) tk tx) (mDGet2 i mk mx) := by
  refine ⟨hp hk.pe hx.pe, fun F O E σ H Q R s => ?_⟩
  unfold mDGet2 at s
  split at s
  · rename_i h0
    obtain ⟨es0, h0⟩ := isDic_some h0
    obtain ⟨p, vs0, e0, _, hh0, _⟩ := R.ownD h0
    refine ⟨.ref p, e0, p, rfl, .inl ⟨_, .inl hh0⟩, hk.rd F O E σ H _ R (s.bnd.mono (fun a E1 k O1 v H1 R1 l1 av => ?_) (fun _ _ k => k))⟩
    refine hx.rd F O1 E1 σ H1 _ R1 (k.bnd.mono (fun z E2 k O2 u H2 R2 l2 rz => ?_) (KX.le l1))
    split at k
    · rename_i es kk h1
      obtain ⟨h1, d, h2, h3⟩ := dkOf_some h1
      obtain ⟨p', vs, e1, hp1, hh1, r1⟩ := R2.ownD h1
      rw [e0] at e1
      cases e1
      cases (R2.rsv (av.le l2) h2).key h3
      refine ⟨_, .inl ⟨vs, kk, .inl hh1, rfl, rfl⟩, k O2 _ H2 R2 (l1.trans l2) ?_⟩
      rcases RpKV.val kk r1 with ⟨q1, q2⟩ | ⟨v, d', q1, q2, q3⟩
      · rw [q1, q2]; exact rz
      · rw [q1, q2]; exact q3
    · exact k.elim
  · exact s.elim
def mDIn (b : Bool) (i : Nat) (mk : M Ag) : M D := bnd mk fun a => fun E => match dkOf E i a with
    | some (es, k) => .ok (.bool ((valD es k).isSome == b)) E
    | none => .bad
def mDPut (i : Nat) (mk : M Ag) (m : M D) : M Fl := bnd m fun d => fun E => if isDic E i = true then (bnd mk fun a => fun E => match dkOf E i a with
    | some (es, k) => if es.length < LIM then .ok .nx (E.set i ((.ow (.d (putD es k d))))) else .bad
    | none => .bad) E else .bad
theorem ss_dput {i : Nat} {k : Expr} {tk : TE} {mk : M Ag} {m : M D} {st : Stmt} (hp : PE X e t → PE X k tk → PS X st (sDPut (tVar i) tk t)) (h : SE X W e t m) (hk : SO X W k tk mk) : SS X W [] st (sDPut (tVar i) tk t) (mDPut i mk m) := by
  refine ⟨hp h.pe hk.pe, fun F O E σ H D' R s => h.rd F O E σ H _ R (s.bnd.mono (fun d E1 k1 O1 v H1 R1 l1 r => ?_) (KXs.of))⟩
  split at k1
  · rename_i h0
    obtain ⟨es0, h0⟩ := isDic_some h0
    obtain ⟨p, vs0, e0, hp0, hh0, r0⟩ := R1.ownD h0
    refine ⟨.ref p, e0, hk.rd F O1 E1 σ H1 _ R1 (k1.bnd.mono (fun a E2 k2 O2 u H2 R2 l2 av => ?_) (fun x E2 k2 => KX.le l1 _ _ (KXs.of _ _ k2)))⟩
    split at k2
    · rename_i es kk h1
      obtain ⟨h1, dk, h2, h3⟩ := dkOf_some h1
      split at k2
      · rename_i hl
        obtain ⟨p', vs, e1, hp1, hh1, r1⟩ := R2.ownD h1
        rw [e0] at e1
        cases e1
        cases (R2.rsv av h2).key h3
        obtain ⟨R3, em⟩ := R2.updOwn (vs := .dK (putK vs kk v)) (ds := .d (putD es kk d)) h1 e0 (RpKV.put r1 (r.mono l2))
        refine ⟨p, _, rfl, DPut.k hh1 (by rw [RpKV.length r1]; exact lim_lt hl), k2 O2 σ _ .non R3 (by unfold Le; rw [em]; exact l1.trans l2) Agr.refl⟩
      · exact k2.elim
    · exact k2.elim
  · exact k1.elim
def mDAug (f : Int → Int → Int) (i : Nat) (mk : M Ag) (m : M D) : M Fl := fun E => if isDic E i = true then (bnd mk fun a => fun E => match dkOf E i a with
    | some (es, k) => match valD es k with
      | some (.int x) => (bnd m fun d => fun E => match d, E[i]? with
        | .int y, some ((.ow (.d es2))) => if es2.length < LIM then .ok .nx (E.set i ((.ow (.d (putD es2 k (.int (f x y))))))) else .bad
        | _, _ => .bad) E
      | _ => .bad
    | none => .bad) E else .bad
def mDNew : M Ob := ret (.d [])
end
def rSortD : List V → Hp → VK → Prop := fun xs H Q => ∃ (a : Addr) (kvs : List (Key × V)) (ks : List Int), xs = [.ref a] ∧ Rd H a (.dK kvs) ∧ kvs.map (·.1) = ks.map Sum.inl ∧ ks.length < 1000 ∧
    ∀ (ys : List Int) (p : Addr), ys.Perm ks → ys.Pairwise (· ≤ ·) → H p = none → Q (.ref p) (upd H p (.lst (ys.map V.int)))
theorem key_ints {es : List (Key × Value)} {ns : List Int} (ek : es.map (·.1) = ns.map Sum.inl) {l : List Value} (hl : l.length = es.length) (h : ∀ (j : Nat) (v : Value), l[j]? = some v → ∃ (k : Key) (x : Value), es[j]? = some (k, x) ∧ keyIs k v = true) : PyProof.Rows.IntsAre l ns := by
  refine ints_each (by rw [hl]; simpa using congrArg List.length ek) fun j v hv => ?_
  obtain ⟨k, x, h1, h2⟩ := h j v hv
  have h3 : (ns.map (Sum.inl : Int → Key))[j]? = some k := by rw [← ek, List.getElem?_map, h1]; rfl
  rw [List.getElem?_map] at h3
  cases h4 : ns[j]? with
  | none => rw [h4] at h3; cases h3
  | some y =>
    rw [h4] at h3
    cases h3
    rcases keyIs_shape h2 with ⟨i, t, e1, e2⟩ | ⟨z, t, e1, _⟩
    · cases e1; exact ⟨y, t, rfl, e2⟩
    · cases e1
theorem call_sortD {X : Cx} (hcalm : X.calm = true) : CallR X (.builtin "sorted") rSortD := by
  intro pn st sg H0 vals us QQ J rr hh
  obtain ⟨ad, kv, ns, rfl, hrd, hkeys, hlt, fin⟩ := hh
  obtain ⟨w, rfl, rw'⟩ := vals1 rr
  cases rw'
  obtain ⟨z, lo, es, rel, dd⟩ := dk_rd J.hok hrd
  obtain ⟨ep, hat⟩ := dd.dictAt
  have ek : es.map (·.1) = ns.map Sum.inl := by rw [← rel.keys]; exact hkeys
  have el : es.length = ns.length := by simpa using congrArg List.length ek
  have ez : es.length ≤ sizeLine := by rw [el, sizeLine_eq]; omega
  have nz : ns.length ≤ sizeLine := by rw [← el]; exact ez
  refine Calls.call_function_entry PyProof.Rows.kind_sorted PyProof.Rows.plain_sorted PyProof.Rows.entry_sorted (PyProof.Rows.args_sorted1 _) ?go
  unfold Builtin.«sorted»
  refine wpAny_bind (m := checkCount "sorted" 1 1 _) (wpAny_pure ?go2)
  refine wpAny_bind (PySem.W.kdu_collect (A := X.A.in1) (PySem.W.kdl_dict (knd := mixKind X.prog X.w) (kvs := es) (ep := ep) lo) (J.ok.hd hcalm) hat ez ?go3)
  intro h2 tk acc hk hacc
  have al : acc.toList.length = es.length := by rw [Array.length_toList, hacc.1]
  have hI : PyProof.Rows.IntsAre acc.toList ns := key_ints ek al fun j v e => hacc.2 j v (by rw [← Array.getElem?_toList]; exact e)
  have az : acc.toList.length ≤ sizeLine := by rw [al]; exact ez
  have J1 : Inv X pn sg H0 { st with heap := h2, toks := tk } := J.kept hk
  refine wpAny_bind (wpAny_newList ?go4 az)
  have hoL : (h2.push (PyProof.Rows.seqObj "list" acc.toList.toArray 0)).get? h2.objs.size = some (PyProof.Rows.seqObj "list" acc.toList.toArray 0) := Heap.get?_push_size _ rfl
  show wpAny _ _ _ _ _ { st with heap := h2.push (PyProof.Rows.seqObj "list" acc.toList.toArray 0), toks := tk }
  refine wpAny_bind (wpAny_holding (wpAny_call_entry PyProof.Rows.slot_list_sort ⟨_, hoL, rfl⟩ PyProof.Rows.entry_list_sort
    (SrtO.list_sort_ord (s := { st with heap := h2.push (PyProof.Rows.seqObj "list" acc.toList.toArray 0), toks := tk }) SrtO.swo_int hoL az (fun k => SrtO.ints_sortable hI k) fun out g1 g2 => ⟨_, rfl, ?_⟩) (PyProof.Rows.args_list_sort _)))
  obtain ⟨k1, k2, k3⟩ := SrtO.ints_out hI g1 g2
  obtain ⟨ep2, he2⟩ := PyProof.Rows.sortedHeap_at (vs := acc.toList) (out := out.toArray) hoL
  have hlen : ((out.map SrtO.iv).map V.int).length ≤ sizeLine := by rw [List.length_map, k2.length_eq]; exact nz
  refine wpAny_pure ⟨_, rfl, .ref h2.objs.size, upd H0 h2.objs.size (.lst ((out.map SrtO.iv).map V.int)), J1.laid (t' := tk) (fun b u e => ?_) (Nat.le_refl _)
    (show ObjOk X.prog X.w _ _ _ (.lst ((out.map SrtO.iv).map V.int)) from ⟨hlen, out, ep2, vals_of_ints k1, he2⟩), rfl, fin _ _ k2 k3 (J1.hok.fresh (Nat.le_refl _))⟩
  have hb : b < h2.objs.size := Heap.lt_size e
  rw [PyProof.Rows.sortedHeap_old (Nat.ne_of_lt hb) (by rw [PyProof.Rows.size_push']; exact Nat.lt_succ_of_lt hb)]
  exact Heap.get?_push_of_some _ e
def keyI : Key → Option Int
  | .inl i => some i
  | .inr _ => none
def keysI : List (Key × D) → Option (List Int)
  | [] => some []
  | e :: es => match keyI e.1, keysI es with
    | some i, some is => some (i :: is)
    | _, _ => none
theorem keysI_map : ∀ {es : List (Key × D)} {ks : List Int}, keysI es = some ks → es.map (·.1) = ks.map Sum.inl
  | [], _, h => by cases h; rfl
  | e :: es, ks, h => by
    unfold keysI at h
    cases h1 : keyI e.1 with
    | none => rw [h1] at h; cases h
    | some i =>
      cases h2 : keysI es with
      | none => rw [h1, h2] at h; cases h
      | some is =>
        rw [h1, h2] at h
        cases h
        rw [List.map_cons, List.map_cons, keysI_map h2]
        cases q : e.1 with
        | inl j => rw [q] at h1; cases h1; rfl
        | inr j => rw [q] at h1; cases h1

theorem RpKV.keysI {K : PySem.W.Frag} {G : Hp} {xs : List (Key × V)} {es : List (Key × D)} {ks : List Int} (r : RpKV K G xs es) (h : keysI es = some ks) : xs.map (·.1) = ks.map Sum.inl := (RpKV.keys r).trans (keysI_map h)
def mSortD (i : Nat) : M D := fun E => match E[i]? with
  | some ((.ow (.d es))) => match keysI es with
    | some ks => if ks.length < 1000 then .ok (.list ((sortI ks).map .int)) E else .bad
    | none => .bad
  | _ => .bad
section
variable {X : Cx} {W : WX} {e : Expr}
theorem se_sortD {i : Nat} (hp : PE X e (tCB rSortD (tCons (tVar i) tNil))) : SE X W e (tCB rSortD (tCons (tVar i) tNil)) (mSortD i) := by
  refine ⟨hp, fun F O E σ H Q R s => ?_⟩
  unfold mSortD at s
  split at s
  · rename_i es h0
    obtain ⟨p, vs, e0, hp0, hh0, r0⟩ := R.ownD h0
    split at s
    · rename_i ks h1
      split at s
      · rename_i hl
        refine ⟨.ref p, e0, p, vs, ks, rfl, .inl hh0, r0.keysI h1, hl, fun ys l h2 h3 nl => ?_⟩
        cases sortI_uniq h2 h3
        obtain ⟨g, r⟩ := new_lst R.trk (RpAll.of_ints (K := X.K) (Mask O H) (sortI ks)) nl
        exact s O _ _ (R.grow g) g.le r
      · exact s.elim
    · exact s.elim
  · exact s.elim
end
end Bt
namespace Bt
open PySem L2
section
open PySem.Spec PyProof.Rows HT
variable {prog : Program} {w : World} {A : Around} {E : Value → Shared → Prop} {s : Shared}
end
section
open PyProof.Rows
variable {X : Cx}
end
section
open PySem.W
variable {X : Cx}
theorem dpAll_ints {K : PySem.W.Frag} {H : Hp} : ∀ ns : List Int, DpAll K H (ns.map V.int) (ns.map .int)
  | [] => .nil
  | n :: ns => .cons (.int n) (dpAll_ints ns)
theorem depth_ints : ∀ ns : List Int, PyData.depthAll (ns.map .int) ≤ 1
  | [] => by simp [PyData.depthAll]
  | n :: ns => by
    have := depth_ints ns
    simp only [List.map_cons, PyData.depthAll, PyData.depth]
    omega
theorem alike_ints (ns : List Int) : AlikeAll (ns.map .int) := by
  refine ⟨fun x hx y hy => ?_, fun x hx e => ?_⟩
  · obtain ⟨i, _, rfl⟩ := List.mem_map.mp hx
    obtain ⟨j, _, rfl⟩ := List.mem_map.mp hy
    rfl
  · obtain ⟨i, _, rfl⟩ := List.mem_map.mp hx
    cases e
theorem fold_max (n : Int) : ∀ ns : List Int, ns.foldl max n = maxL (n :: ns)
  | [] => rfl
  | [m] => rfl
  | m :: k :: r => by
    rw [List.foldl_cons, fold_max (max n m) (k :: r)]
    show max (max n m) (maxL (k :: r)) = max n (max m (maxL (k :: r)))
    omega
end
end Bt
namespace Bt
open PySem L2
section
variable {X : Cx} {W : WX} {a b c e : Expr} {ta tb tc t : TE} {pos : Pos}
def revD : D → Option D
  | .list ds => some (.list ds.reverse)
  | .tuple ds => some (.tuple ds.reverse)
  | _ => none
def mRev (m : M Ag) : M D := bnd m fun a => fun E => match rsv E a with
  | some d => lift (revD d) E
  | none => .bad
def maxDf (d z : D) : Option D := match d with
  | .list ds => match intsOf ds with
    | some [] => some z
    | some (n :: ns) => some (.int (maxL (n :: ns)))
    | none => none
  | _ => none
def mDfl (f : D → D → Option D) (m : M Ag) (mz : M D) : M D := bnd m fun a => bnd mz fun z => fun E => match rsv E a with
  | some d => lift (f d z) E
  | none => .bad
theorem fn_rec0 {P : Program} {w : World} {K : PySem.W.Frag} {mg : Str → Option Value} {base : Heap} {CX : CXT} {k : Nat} {f : Addr} {fd : FuncData} {ps : List Str} {n : Nat} (hn : n = ps.length) : FnOk P w K mg base CX k f fd ps (spOf K mg n stuck) := by
  subst hn
  refine ⟨fun vs H Q E h => h.1, fun A outer s H args us vs Q E _ _ _ _ h => ?_⟩
  obtain ⟨_, F, O, as, R, s⟩ := h
  exact s.elim
open Classical in
end
end Bt
namespace Bt
open PySem L2
section
open PyProof.Rows
variable {X : Cx}
end
section
variable {X : Cx} {W : WX} {e : Expr} {t : TE} {m : M D} {pos : Pos}
def mPutAug (f : Int → Int → Int) (i : Nat) (mk : M Ag) (m : M D) : M Fl := fun E => match E[i]? with
  | some ((.ow (.l _))) => (bnd mk fun a => fun E => match E[i]?, rsv E a with
    | some ((.ow (.l ds))), some (.int k) => match atI ds k with
      | some (.int x) => (bnd m fun d => fun E => match d, E[i]? with
        | .int y, some ((.ow (.l ds))) => match ixN ds.length k with
          | some j => .ok .nx (E.set i ((.ow (.l (ds.set j (.int (f x y)))))))
          | none => .bad
        | _, _ => .bad) E
      | _ => .bad
    | _, _ => .bad) E
  | _ => .bad
def mPop (i : Nat) (mk : M Ag) : M D := fun E => match E[i]? with
  | some ((.ow (.l _))) => (bnd mk fun a => fun E => match E[i]?, rsv E a with
    | some ((.ow (.l ds))), some (.int k) => match ixN ds.length k with
      | some j => match ds[j]? with
        | some d => if ds.length ≤ LIM then .ok d (E.set i ((.ow (.l (ds.eraseIdx j))))) else .bad
        | none => .bad
      | none => .bad
    | _, _ => .bad) E
  | _ => .bad
theorem RpAll.eraseIdx {K : PySem.W.Frag} {G : Hp} : ∀ {vs : List V} {ds : List D} (n : Nat), RpAll K G vs ds → RpAll K G (vs.eraseIdx n) (ds.eraseIdx n)
  | _, _, _, .nil => .nil
  | _, _, 0, .cons _ r => r
  | _, _, n + 1, .cons q r => .cons q (RpAll.eraseIdx n r)
theorem se_pop {i : Nat} {k : Expr} {tk : TE} {mk : M Ag} (hp : PE X k tk → PE X e (tBM X.K "list" rPopAt (tVar i) (tCons tk tNil))) (hk : SO X W k tk mk) : SE X W e (tBM X.K "list" rPopAt (tVar i) (tCons tk tNil)) (mPop i mk) := by
  refine ⟨hp hk.pe, fun F O E σ H Q R s => ?_⟩
  unfold mPop at s
  split at s
  · rename_i ds0 h0
    obtain ⟨p, vs0, e0, hp0, hh0, r0⟩ := R.ownL h0
    refine ⟨.ref p, e0, .inl ⟨rfl, _, SqL.of hh0⟩, hk.rd F O E σ H _ R (s.bnd.mono (fun a E1 k1 O1 v H1 R1 l1 av => ?_) (fun _ _ k => k))⟩
    split at k1
    · rename_i ds kk h1 q
      split at k1
      · rename_i j hj
        split at k1
        · rename_i d hd
          split at k1
          · rename_i hsz
            obtain ⟨p', vs, e1, hp1, hh1, r1⟩ := R1.ownL h1
            rw [e0] at e1
            cases e1
            cases (R1.rsv av q).int
            obtain ⟨w, hw, rw1⟩ := r1.get' hd
            obtain ⟨z1, z2, z3, z4⟩ := ixN_seq hj
            obtain ⟨R3, em⟩ := R1.updOwn (vs := .lst (vs.eraseIdx j)) (ds := .l (ds.eraseIdx j)) h1 e0 (r1.eraseIdx j)
            have hL : LIM = 100000 := rfl
            refine ⟨p, vs, kk, j, w, rfl, rfl, hh1, by omega, by omega, by rw [r1.length]; exact z1, hw, k1 O1 w _ R3 (by unfold Le; rw [em]; exact l1) (by rw [em]; exact rw1)⟩
          · exact k1.elim
        · exact k1.elim
      · exact k1.elim
    · exact k1.elim
  · exact s.elim
end
end Bt
namespace Bt
open PySem L2
section
variable {X : Cx} {W : WX}
def asL (d : D) : M (List D) := match d with
  | .list ds => ret ds
  | _ => stuck
def mAsL (m : M D) : M (List D) := bnd m asL
theorem sf_lc {b : Bool} {elt tg iter : Expr} {ifs : List Expr} {scope : Scope} {own : List (Str × Nat)} {asg : List Nat} {pos : Pos} {wi : TI} {g : TG} {tt : TT} {te : TE} {mi : M (List D)} {mg : MG} {mt : M Bool} {me : M D} (hc : X.calm = true) (hN : X.N.Nodup) (hi : SI X W b tg iter wi mi) (ok : BlkOk X.N X.env.scope scope own)
    (hg : ∀ (s : Shared) (H : Hp) (C : Addr) (cl : List (Str × Addr)) (fp : List Addr), SG (X.blk s H scope (compEnvC scope cl C X.env) fp) b asg tg g mg) (ha : ∀ i ∈ asg, i ∈ own.map (·.2)) (ht : ∀ (s : Shared) (H : Hp) (C : Addr) (cl : List (Str × Addr)) (fp : List Addr), STs (X.blk s H scope (compEnvC scope cl C X.env) fp) W0 ifs tt mt)
    (he : ∀ (s : Shared) (H : Hp) (C : Addr) (cl : List (Str × Addr)) (fp : List Addr), SE (X.blk s H scope (compEnvC scope cl C X.env) fp) W0 elt te me) (hs : ∀ x, foldedSetIterable iter X.env x = pure x := by intro _; rfl) :
    SF X W (.ListComp elt [⟨tg, iter, ifs, 0⟩] scope pos) (tLc wi g tt te (own.map (·.2))) (mAsL (mLc mi mg mt me (own.map (·.2)))) := by
  refine ⟨pe_lc hc hN hi.pi ok (fun s H C cl fp => (hg s H C cl fp).pg) (fun s H C cl fp => (ht s H C cl fp).pt) (fun s H C cl fp => (he s H C cl fp).pe) hs, fun F O E σ H Q R s => ?_⟩
  refine lc_rdF hi (fun O E σ H v d E' F Q R r e q => ?_) (fun F O E σ H Q R s => (ht X.s_0 X.H_0 0 [] []).rd F O E σ H Q R s) (fun F O E σ H Q R s => (he X.s_0 X.H_0 0 [] []).rd F O E σ H Q R s) F O E σ H Q R (s.bnd.mono (fun d E1 k O1 p ws ds H1 ed R1 hF l1 r1 => ?_) (fun _ _ k => k))
  · exact (hg X.s_0 X.H_0 0 [] []).rd F O E σ H v d E' Q R r e fun σ' R' l' p' => q σ' R' (wipe_agree l' p' ha)
  · subst ed
    exact k O1 p ws H1 R1 hF l1 r1
end
section
variable {X : Cx} {W : WX} {tg e : Expr}
def downD (hi lo : Int) : List D := (List.range (hi - lo).toNat).map fun k => .int (hi - (k : Nat))
noncomputable def mRng3 (ms : M (List Ag)) : M (List D) := bnd ms fun as => fun E => match rsvs E as with
  | some [.int i, .int j, .int k] => if rgOk i && rgOk j && decide (k = -1) then .ok (downD i j) E else .bad
  | _ => .bad
end
end Bt
namespace Bt
open PySem L2
def borSl (E : En) : List Ag → Option (List Sl)
  | [] => some []
  | .d d :: r => (borSl E r).map (.dat d :: ·)
  | .r i :: r => match E[i]? with
    | some (.dat d) => (borSl E r).map (.dat d :: ·)
    | some ((.ow (.l ds))) => (borSl E r).map (.dat (.list ds) :: ·)
    | some (.scr d) => (borSl E r).map (.scr d :: ·)
    | _ => none
section
variable {K : PySem.W.Frag} {F : Frm} {O : List Addr} {E : En} {σ : L2.St} {H : Hp} {vs : List V} {ags : List Ag} {as : List Sl}
end
def flatX (x : Exc) : Bool := match x.fld with
  | none => true
  | _ => false
def mCallB (Fm : M Sl) (ms : M (List Ag)) : M D := bnd ms fun ags => fun E => match borSl E ags with
  | none => .bad
  | some as => match Fm as with
    | .ok (.dat d) _ => if flatD d then .ok d E else .bad
    | .ex x _ => if flatX x then .ex x E else .bad
    | _ => .bad
section
variable {X : Cx} {W : WX} {P : Program} {w : World} {K : PySem.W.Frag} {mg : Str → Option Value} {base : Heap} {e : Expr} {pos : Pos}
end
end Bt
namespace Bt
open PySem L2

section
variable {X : Cx} {W : WX}
theorem se_gint {x : Str} {i : Int} {pos : Pos} (hg : Gl X x) (hm : ∃ t, X.mg x = some (.int i t)) (hd : (x == ("__debug__" : Str)) = false := by decide) : SE X W (.Name x pos) (tC (.int i)) (ret (.int i)) := by
  obtain ⟨t, hm⟩ := hm
  exact se_c (pe_glob hg hm ⟨t, rfl⟩ hd) fun _ => .int _
end
end Bt
namespace Bt
open PySem PySem.Spec PySem.Calls PyProof.Rows PySem.W L2

section
variable {X : Cx} {pins : List (Addr × Obj)} {σ : L2.St} {H : Hp} {s : Shared} {E : Value → Shared → Prop}
end
def gStarM (g1 : MG) (i : Nat) : MG
  | .tuple (d :: ds), E => if ds.length ≤ 16000 then (g1 d E).bind (gN i (.list ds)) else none
  | .list (d :: ds), E => if ds.length ≤ 16000 then (g1 d E).bind (gN i (.list ds)) else none
  | _, _ => none
section
variable {X : Cx} {W : WX} {e tg : Expr} {t : TE} {m : M D}
end
end Bt
namespace Bt
open PySem L2
section
variable {X : Cx} {pins : List (Addr × Obj)} {σ : L2.St} {H : Hp} {sI s : Shared} {a : Addr} {o : HO}
end
section
variable {X : Cx} {x n : Str} {c : Value} {i : Nat} {body sts : List Stmt} {s0 : Stmt} {np pos hpos : Pos} {tb : WX → TS} {ts : TS} {Wout : WX}
end
def xOf (x : Exc) : D := match x.fld with
  | none => .dict [(.int x.cls, .none)]
  | some d => .dict [(.int x.cls, .none), (.none, d)]
def isSub (a b : Nat) : Bool := a == b || b == 0
def mTry (c : Nat) (i : Nat) (mb ms : M Fl) : M Fl := fun E => match mb E with
  | .ok f E' => .ok f E'
  | .ex x E' => if isSub x.cls c then (if i < E'.length then (match ms (E'.set i (.dat (xOf x))) with
      | .ok f E2 => .ok f (E2.set i .un)
      | _ => .bad) else .bad) else .ex x E'
  | .bad => .bad
def veT : List Value := [.type "ValueError", .type "Exception", .type "BaseException", .type "object"]
def oexB (K : PySem.W.Frag) (C : Addr) : Bool := match K.lookup C with
  | some ⟨.type "type", _, .cls cd, sl⟩ => (match cd.mro, sl.toList with
    | .ref C' :: bm, [_, _, _, _, some (.builtin n), _] => C' == C && n == "ValueError.__new__" && !cd.hasDel && cd.hasDict && PySem.HandSPX.refsVE bm
    | _, _ => false)
  | _ => false
def xOneB (K : PySem.W.Frag) (c : Nat) (C : Addr) : Bool := xfB K C && ((PySem.W.clsIn K C).isSome && (decide (PySem.W.typeIn K (.ref C) = some (.type "type")) && (PySem.W.keepIn K (.ref C) && (decide (PySem.W.findIn K (.ref C) "__class__" = some (some (.builtin "object.__class__"))) && (decide (PySem.W.mroIn K C (.type "object") = some true) &&
  (decide (PySem.W.kitOne K (.ref C) (.type "ValueError") = some true) && (decide (PySem.W.kitOne K (.type "NoneType") (.ref C) = some false) &&
  ((if c < 12 then PySem.W.excIn K C veT "ValueError.__new__" else oexB K C && (decide (PySem.W.findIn K (.ref C) (xFld c) = some none) && decide (PySem.W.findIn K (.ref C) "__setattr__" = some (some (.builtin "object.__setattr__"))))) &&
  (List.range 17).all fun n => match PySem.W.nsIn K mainGlobals (xName n) with
    | some (some (.ref N)) => decide (PySem.W.subIn K (.ref C) (.ref N) = some (isSub c n)) && decide (PySem.W.kitOne K (.ref C) (.ref N) = some (isSub c n))
    | _ => true))))))))
def xAllB (K : PySem.W.Frag) : Bool := (decide (PySem.W.specialIn K (.builtin "object.__class__") "__get__" = some (some (.builtin "getset_descriptor.__get__"))) && decide (PySem.W.takesIn K (.builtin "object.__class__") = some true)) && ((match PySem.W.nsIn K mainGlobals "TillError" with
    | some (some (.ref T)) => decide (PySem.W.specialIn K (.ref T) "__getattribute__" = some (some (.builtin "type.__getattribute__"))) && (PySem.W.readsIn K T (.type "type") && decide ((match PySem.W.findCls K (.ref T) (.type "type") "__init__" with | some (.val v) => some v | _ => none) = some (.builtin "ValueError.__init__")))
    | _ => true) && (List.range 17).all fun c => match PySem.W.nsIn K mainGlobals (xName c) with
    | some (some (.ref C)) => xOneB K c C
    | _ => true)
structure XF (K : PySem.W.Frag) (c : Nat) (C : Addr) : Prop where
  fc : XfC K C
  cl : (PySem.W.clsIn K C).isSome = true
  ty : PySem.W.typeIn K (.ref C) = some (.type "type")
  kp : PySem.W.keepIn K (.ref C) = true
  ca : PySem.W.findIn K (.ref C) "__class__" = some (some (.builtin "object.__class__"))
  mo : PySem.W.mroIn K C (.type "object") = some true
  ve : PySem.W.kitOne K (.ref C) (.type "ValueError") = some true
  no : PySem.W.kitOne K (.type "NoneType") (.ref C) = some false
  in0 : c < 12 → PySem.W.excIn K C veT "ValueError.__new__" = true
  in1 : ¬ c < 12 → oexB K C = true ∧ PySem.W.findIn K (.ref C) (xFld c) = some none ∧ PySem.W.findIn K (.ref C) "__setattr__" = some (some (.builtin "object.__setattr__"))
  su : ∀ n N, n < 17 → PySem.W.nsIn K mainGlobals (xName n) = some (some (.ref N)) → PySem.W.subIn K (.ref C) (.ref N) = some (isSub c n) ∧ PySem.W.kitOne K (.ref C) (.ref N) = some (isSub c n)
  sg : PySem.W.specialIn K (.builtin "object.__class__") "__get__" = some (some (.builtin "getset_descriptor.__get__"))
  tk : PySem.W.takesIn K (.builtin "object.__class__") = some true
theorem xf_of {K : PySem.W.Frag} {c : Nat} {C : Addr} (h : xAllB K = true) (hc : c < 17) (e : PySem.W.nsIn K mainGlobals (xName c) = some (some (.ref C))) : XF K c C := by
  unfold xAllB at h
  rw [Bool.and_eq_true, Bool.and_eq_true, Bool.and_eq_true] at h
  obtain ⟨⟨h1, h2⟩, _, h3⟩ := h
  have q := List.all_eq_true.mp h3 c (List.mem_range.mpr hc)
  rw [e] at q
  dsimp only at q
  unfold xOneB at q
  simp only [Bool.and_eq_true, decide_eq_true_eq] at q
  obtain ⟨q1, q2, q3, q4, q5, q6, q7, q8, q9, q10⟩ := q
  refine ⟨xfB_ok q1, q2, q3, q4, q5, q6, q7, q8, fun l => ?_, fun l => ?_, fun n N hn en => ?_, of_decide_eq_true h1, of_decide_eq_true h2⟩
  · rw [if_pos l] at q9; exact q9
  · rw [if_neg l] at q9
    simp only [Bool.and_eq_true, decide_eq_true_eq] at q9
    exact q9
  · have z := List.all_eq_true.mp q10 n (List.mem_range.mpr hn)
    rw [en] at z
    simp only [Bool.and_eq_true, decide_eq_true_eq] at z
    exact z
theorem XF.raises {X : Cx} {c : Nat} {C : Addr} (F : XF X.K c C) : Raises X (.ref C) := raises_own F.fc.exC F.ty
def isCls (n : Nat) : D → Option Bool
  | .dict ((.int c, .none) :: _) => some (isSub c.toNat n || n == 17)
  | .none => if n < 17 then some false else none
  | _ => none
def mIsx (n : Nat) (m : M Ag) : M D := bnd m fun a => fun E => match rsv E a with
  | some d => (match isCls n d with
    | some b => .ok (.bool b) E
    | none => .bad)
  | none => .bad
section
variable {X : Cx} {W : WX} {e : Expr} {t : TE}
def mFld (cs : List Nat) (m : M Ag) : M D := bnd m fun a => fun E => match rsv E a with
  | some (.dict [(.int c, .none), (.none, d)]) => if c.toNat ∈ cs then .ok d E else .bad
  | _ => .bad
end
def XN (K : PySem.W.Frag) (mg : Str → Option Value) (x : Str) (C : Addr) : Prop := PySem.W.nsIn K mainGlobals x = some (some (.ref C)) ∧ mg x = some (.ref C)
def mRaise0 (c : Nat) : M Fl := fun E => .ex ⟨c, none⟩ E
def mRaise1 (c : Nat) (m : M D) : M Fl := bnd m fun d => fun E => .ex ⟨c, some d⟩ E
section
variable {X : Cx} {W : WX} {e : Expr} {t : TE}
theorem ss_raise0 {c : Nat} {C : Addr} {x m : Str} {j : Nat} {p p2 p3 pos : Pos} (K : PySem.W.Frag) {mg : Str → Option Value} (eK : X.K = K) (eM : X.mg = mg) (hx : xAllB K = true) (N : XN K mg x C) (hcn : c < 12 ∧ xName c = x) (hc : X.calm = true) (tk : Takes X W) (hg : Gl X x) (hdb : (x == ("__debug__" : Str)) = false := by decide) :
    SS X W [] (.Raise (some (.Call (.Name x p) [.Constant (.str m) j p2] [] p3)) none pos) (fun _ σ H => W (.ref C) none σ H) (mRaise0 c) := by
  subst eK eM
  obtain ⟨hl, rfl⟩ := hcn
  have F := xf_of hx (by omega : c < 17) N.1
  refine ⟨ps_raise hc tk (pmk_own PySem.F.excBase_ValueError (F.in0 hl) N.2 F.kp F.raises hg hdb), fun G O E σ H D' R s => ?_⟩
  exact s O σ H (.ref C) none R (Le.refl O H) Agr.refl ⟨⟨C, rfl, N.1⟩, (show c < 17 by omega), rfl⟩
end
section
variable {X : Cx} {W : WX}
end
end Bt
namespace Bt
open PySem L2
def mMeth (f : D → D → Option D) (ma mb : M Ag) : M D := bnd ma fun a => fun E0 => match rsv E0 a with
  | some (.list _) => (bnd mb fun b => fun E => match rsv E a, rsv E b with
    | some (.list ds), some y => lift (f (.list ds) y) E
    | _, _ => .bad) E0
  | _ => .bad
section
variable {X : Cx} {W : WX} {o e c : Expr} {to te : TE} {ma mb : M Ag}
theorem RpAll.cnt {K : PySem.W.Frag} {G : Hp} {x : V} {d : D} (hx : Rp K G x d) (fx : flatD d = true) : ∀ {vs : List V} {ds : List D}, RpAll K G vs ds → ds.all flatD = true → vs.countP (fun z => eqV z x) = ds.countP fun y => PyData.eqv y d
  | _, _, .nil, _ => rfl
  | _, _, .cons h r, f => by
    rw [List.all_cons, Bool.and_eq_true] at f
    rw [List.countP_cons, List.countP_cons, RpAll.cnt hx fx r f.2, h.eqv hx f.1 fx]
end
end Bt
namespace Bt
open PySem L2
section
variable {X : Cx} {CX : CXT} {k n : Nat} {f : Addr} {fd : FuncData} {ps ks : List Str} {sp : Sp} {Ex : L2.St → XK} {x : Str} {p pos : Pos} {e : Expr} {es : List Expr} {kws : List Keyword} {t tk : TA} {g : List Value → List Value → List Value} {gV : List V → List V → List V}
end
section
variable {X : Cx} {W : WX} {P : Program} {w : World} {K : PySem.W.Frag} {mg : Str → Option Value} {base : Heap} {e : Expr} {pos : Pos} {k : Nat} {f : Addr} {fd : FuncData} {ps ks : List Str} {Fm : M Sl} {n n1 : Nat} {x : Str} {p : Pos} {es : List Expr} {kws : List Keyword} {ts tk : TA} {ms1 ms2 : M (List D)}
end
end Bt
namespace Bt
open PySem L2
def mExt (i : Nat) (m : M D) : M Fl := fun E => match E[i]? with
  | some ((.ow (.l _))) => (bnd m fun d => fun E => match E[i]?, d with
    | some ((.ow (.l ds))), .list es => if ds.length + es.length ≤ LIM then .ok .nx (E.set i ((.ow (.l (ds ++ es))))) else .bad
    | _, _ => .bad) E
  | _ => .bad
section
variable {X : Cx} {W : WX} {e : Expr} {t : TE} {m : M D}
end
end Bt
namespace Bt
open PySem L2
section
open PySem.Spec PyProof.Rows
end
def mExtB (i : Nat) (m : M D) : M Fl := fun E => match E[i]? with
  | some ((.ow (.l _))) => (bnd m fun d => fun E => match E[i]?, d with
    | some ((.ow (.l ds))), .list es => if ds.length + es.length ≤ LIM then .ok .nx (E.set i ((.ow (.l (ds ++ es))))) else .bad
    | some ((.ow (.l ds))), .tuple es => if ds.length + es.length ≤ LIM then .ok .nx (E.set i ((.ow (.l (ds ++ es))))) else .bad
    | _, _ => .bad) E
  | _ => .bad
end Bt
namespace Bt
open PySem L2
section
variable {M : Model} {A : Around} {E : Value → Shared → Prop} {h : Heap} {g : Array GenState} {d : Drawn} {t : Nat} {os : OsState}
variable {nm q : Str} {C N : Addr} {bs bm bmB : List Value} {hdct : Bool} {sn : List Str} {sub : List Value} {ab : Bool} {col : Option Bool} {dd : Option Addr} {k0 k1 k2 k3 k5 : Option Value} {B newId initId : String}
end
section
variable {prog : Program} {w : World} {A : Around} {E : Value → Shared → Prop} {R : Result → Shared → Prop} {h : Heap} {g : Array GenState} {d : Drawn} {t : Nat} {os : OsState}
variable {nm q : Str} {C N : Addr} {bs bm bmB : List Value} {hdct : Bool} {sn : List Str} {sub : List Value} {ab : Bool} {col : Option Bool} {dd : Option Addr} {k0 k1 k2 k3 k5 : Option Value} {B newId initId : String}
end
end Bt
namespace Bt
open PySem L2
section
variable {X : Cx} {pins : List (Addr × Obj)} {σ : L2.St} {H : Hp} {sI s' : Shared}
end
def mNew0 (c : Nat) : M D := ret (.dict [(.int c, .none)])
def mNewN (c : Nat) : M D := ret (.dict [(.int c, .none), (.none, .none)])
def mNew1 (c : Nat) (m : M D) : M D := bnd m fun d => ret (.dict [(.int c, .none), (.none, d)])
section
variable {X : Cx} {W : WX} {e : Expr} {t : TE}
end
end Bt
namespace Bt
open PySem L2
def mIsxO (m : M Ag) : M D := bnd m fun a => fun E => match rsv E a with
  | some (.dict ((.int _, .none) :: _)) => .ok (.bool false) E
  | _ => .bad
section
variable {X : Cx} {W : WX} {e : Expr} {t : TE}
def mIsVE : M D := ret (.bool false)
end
end Bt
namespace Bt
open PySem L2
def mPar (i j : Nat) (ms : M (List D)) : M Fl := bnd ms fun ds => fun E => match ds with
  | [d1, d2] => if i < E.length ∧ j < E.length then .ok .nx ((E.set i (.dat d1)).set j (.dat d2)) else .bad
  | _ => .bad
end Bt
namespace Bt
open PySem L2 PySem.Spec PyProof.Rows
structure FnG (P : Program) (w : World) (K : PySem.W.Frag) (mg : Str → Option Value) (base : Heap) (CX : CXT) (k : Nat) (f : Addr) (fd : FuncData) (ps : List Str) (sp : Sp) : Prop where
  len : ∀ vs H Q E, sp vs H Q E → vs.length = ps.length
  run : ∀ (A : Around) (outer : List Env) (s : Shared) (H : Hp) (args : Args) (us : List Value) (vs : List V) (Q : VK) (E : XK), Room k A → A.guards = some [] → Env0 P w K mg base A outer s H → BindsTo s fd args (ps.zip us) → Vals vs us → sp vs H Q E →
    codeAny (model P w) A (.call (.ref f) args) (CR CX outer P w H s Q E) s
section
variable {P : Program} {w : World} {K : PySem.W.Frag} {mg : Str → Option Value} {base : Heap}
theorem FnG.imp {CX : CXT} {k : Nat} {f : Addr} {fd : FuncData} {ps : List Str} {sp sp' : Sp} (F : FnG P w K mg base CX k f fd ps sp) (h : ∀ vs H Q E, sp' vs H Q E → sp vs H Q E) : FnG P w K mg base CX k f fd ps sp' :=
  ⟨fun vs H Q E q => F.len vs H Q E (h _ _ _ _ q), fun A outer s H args us vs Q E hr gd he hb hv hs => F.run A outer s H args us vs Q E hr gd he hb hv (h _ _ _ _ hs)⟩
end
section
variable {X : Cx} {W : WX} {P : Program} {w : World} {K : PySem.W.Frag} {mg : Str → Option Value} {base : Heap} {e : Expr} {pos : Pos}
end
end Bt
namespace Bt
open PySem L2
section
variable (vs vs1 : List Nat) (g g1 : MG) (mt mt1 : M Bool) (mi1 : M (List D)) (me : M D) (E0 : En)
end
section
variable {X : Cx} {W : WX}
end
end Bt
namespace Bt
open PySem L2 PySem.Spec PyProof.Rows
section
variable {X : Cx}
abbrev newSetObj (w : World) : Obj := { cls := .type "set", dict := none, data := .set #[] 0 (.fresh 0 0 (!w.params.followText "set-order")) }
theorem fp_free {Y : Cx} {σ : L2.St} {G : Hp} {s : Shared} (hp : Y.pn = []) (I : Inv Y [] σ G s) (hn : ∀ b ∈ Y.ex, G b = none) :
    ∀ b ∈ Y.ex, FpOk Y [] G b := fun b hb => by
  refine ⟨hn b hb, (I.ok.exf b hb).1, I.ok.exfs b hb, .inl hb, fun x c e => (I.ok.exf b hb).2 x c e, fun p hq => ?_⟩
  rw [hp] at hq
  exact absurd hq (by simp)
end
end Bt
namespace Bt
open PySem L2 PySem.Spec PyProof.Rows
abbrev ZipR (h : Heap) (z TI TO : Addr) (f0 : Value) (f1 b : Bool) : Prop :=
  h.get? z = some { cls := .type "zip", dict := none, data := .fields #[f0, .bool f1, .bool b, .ref TI, .ref TO], slots := #[] }
def drawZ (b : Bool) (it : Value) : Sem (Option Value) := if b then Builtin.SmallTypes.nextOrEnd it else do
  return some (← Builtin.SmallTypes.nextOf it)
section
variable {prog : Program} {w : World} {A : Around} {E : Value → Shared → Prop} {s : Shared}
theorem alive_any {a : Addr} {Q : Option Obj → Shared → Prop} (h : Q (s.heap.get? a) s) : wpAny (model prog w) A (loadIfAlive a) Q E s := fun _ _ _ => h
theorem drawZ_item {b : Bool} {it l : Addr} {i : Nat} {items : Array Value} {x : Value} {Q : Option Value → Shared → Prop} (hit : s.heap.IsListIter it l i) (hl : s.heap.IsList l items) (hx : items[i]? = some x)
    (hQ : ∀ h', h'.IsListIter it l (i + 1) → Heap.SameBut it s.heap h' → Q (some x) { s with heap := h' }) : wpAny (model prog w) A (drawZ b (.ref it)) Q E s := by
  unfold drawZ
  cases b with
  | true =>
    unfold Builtin.SmallTypes.nextOrEnd
    exact wpAny_bind (wpAny_attempt (wpAny_nextOf_list_item hit hl hx fun h' p q => wpAny_pure (hQ h' p q)))
  | false => exact wpAny_bind (wpAny_nextOf_list_item hit hl hx fun h' p q => wpAny_pure (hQ h' p q))
theorem nOE_end {it l : Addr} {i : Nat} {items : Array Value} {Q : Option Value → Shared → Prop} (hh : A.handled = none) (hit : s.heap.IsListIter it l i) (hl : s.heap.IsList l items) (hx : items[i]? = none)
    (hQ : ∀ h', Heap.ExtBut it s.heap h' → Q none { s with heap := h' }) : wpAny (model prog w) A (Builtin.SmallTypes.nextOrEnd (.ref it)) Q E s := by
  unfold Builtin.SmallTypes.nextOrEnd
  refine wpAny_bind (wpAny_attempt (wpAny_nextOf_list_end hh hit hl hx fun h' e he hc => ?_))
  obtain ⟨o, ho, hoc⟩ := hc
  exact wpAny_bind (wpAny_isInstance (T := "StopIteration") (b := true) ⟨o, ho, hoc⟩ isSubtype_stop (wpAny_pure (hQ h' he)))
theorem zfree {z TI TO : Addr} {f0 : Value} {f1 b : Bool} {Q : Bool → Shared → Prop} (hf : f0 = .none ∨ ∃ T : Addr, f0 = rawInt T) (hz : ZipR s.heap z TI TO f0 f1 b)
    (q1 : Q true s) (q2 : ∀ h', ZipR h' z TI TO f0 true b → Heap.SameBut z s.heap h' → Q false { s with heap := h' }) :
    wpAny (model prog w) A (Builtin.SmallTypes.ownedTupleIsFree (.ref z)) Q E s := by
  unfold Builtin.SmallTypes.ownedTupleIsFree
  rcases hf with rfl | ⟨T, rfl⟩
  · exact wpAny_bind (wpAny_field hz rfl (x := .none) rfl (wpAny_pure q1))
  · refine wpAny_bind (wpAny_field hz rfl (x := rawInt T) rfl (wpAny_bind (m := loadIfAlive ((T : Int).toNat)) ?_))
    refine alive_any ?_
    cases e : s.heap.get? ((T : Int).toNat) with
    | none => exact wpAny_pure q1
    | some o =>
      refine wpAny_bind (wpAny_field hz rfl (x := .bool f1) rfl ?_)
      cases f1 with
      | true => exact wpAny_pure (q2 s.heap hz (Heap.SameBut.refl _ _))
      | false => exact wpAny_bind (wpAny_setField_rec hz (by simp) fun h' k1 k2 => wpAny_pure (q2 h' k1 k2))
structure ZSt (b : Bool) (z TI TO i1 i2 l1 l2 : Addr) (k : Nat) (h : Heap) : Prop where
  rc : ∃ f0 f1, (f0 = Value.none ∨ ∃ T : Addr, f0 = rawInt T) ∧ ZipR h z TI TO f0 f1 b
  ti : IsPair h TI (.ref i1) (.ref i2)
  to : ∃ x y, IsPair h TO x y
  i1 : h.IsListIter i1 l1 k
  i2 : h.IsListIter i2 l2 k
abbrev KeepZ (z TO i1 i2 : Addr) (h h' : Heap) : Prop := ∀ c o, c ≠ z → c ≠ TO → c ≠ i1 → c ≠ i2 → h.get? c = some o → h'.get? c = some o
theorem zN_item {b : Bool} {z TI TO i1 i2 l1 l2 : Addr} {k : Nat} {xs ys : Array Value} {x y : Value} {Q : Value → Shared → Prop} (D : ZipApart z TI TO i1 i2 l1 l2) (st : ZSt b z TI TO i1 i2 l1 l2 k s.heap)
    (hl1 : s.heap.IsList l1 xs) (hl2 : s.heap.IsList l2 ys) (hx : xs[k]? = some x) (hy : ys[k]? = some y)
    (hQ : ∀ h', ZSt b z TI TO i1 i2 l1 l2 (k + 1) h' → IsPair h' s.heap.objs.size x y → h'.objs.size = s.heap.objs.size + 1 → KeepZ z TO i1 i2 s.heap h' → Q (.ref s.heap.objs.size) { s with heap := h' }) :
    wpAny (model prog w) A (Builtin.«zip.__next__» ⟨[.ref z], []⟩) (fun fin s' => ∃ v, fin = .done (.ret v) ∧ Q v s') E s := by
  obtain ⟨⟨f0, f1, hf, hz⟩, hTI, ⟨p, q, hTO⟩, h1, h2⟩ := st
  show wpAny _ _ (field (.ref z) 2 >>= _) _ _ _
  refine wpAny_bind (wpAny_field hz rfl (x := .bool b) rfl ?_)
  show wpAny _ _ (field (.ref z) 3 >>= _) _ _ _
  refine wpAny_bind (wpAny_field hz rfl (x := .ref TI) rfl (wpAny_bind (wpAny_seqItems hTI rfl ?_)))
  show wpAny _ _ (Builtin.SmallTypes.ownedTupleIsFree (.ref z) >>= _) _ _ _
  refine wpAny_bind (zfree hf hz ?_ fun h₁ hz₁ k₁ => ?_)
  · -- the owned tuple anew
    refine wpAny_bind (wpAny_rule (wpAny_bind (wpAny_field hz rfl (x := .ref TO) rfl (wpAny_bind (wpAny_setField_rec hz (by simp) fun h₁ hz₁ k₁ => ?_)))))
    replace hz₁ : ZipR h₁ z TI TO .ellipsis f1 b := hz₁
    refine wpAny_bind ?_
    simp only [List.zipIdx_cons, List.zipIdx_nil, List.forIn_cons, List.forIn_nil]
    refine wpAny_bind (wpAny_bind (wpAny_onRaise (m := drawZ (Value.bool b == Value.bool true) (.ref i1)) ?_))
    refine drawZ_item (s := { s with heap := h₁ }) (h1.extBut k₁.extBut D.i1z) (hl1.extBut k₁.extBut D.l1z) hx fun h₂ j₂ k₂ => ?_
    have t₂ : IsPair h₂ TO p q := k₂.extBut _ _ D.TOi1 (k₁.extBut _ _ D.TOz hTO)
    refine wpAny_bind (wpAny_seqItems t₂ rfl (wpAny_bind (wpAny_updateSeq_pair t₂ fun h₃ t₃ k₃ => wpAny_bind (wpAny_letGo (wpAny_pure ?_)))))
    replace t₃ : IsPair h₃ TO x q := t₃
    refine wpAny_bind (wpAny_bind (wpAny_onRaise (m := drawZ (Value.bool b == Value.bool true) (.ref i2)) ?_))
    refine drawZ_item (s := { s with heap := h₃ }) (((h2.extBut k₁.extBut D.i2z).extBut k₂.extBut D.i12.symm).extBut k₃.extBut D.TOi2.symm) (((hl2.extBut k₁.extBut D.l2z).extBut k₂.extBut D.l2i1).extBut k₃.extBut D.l2TO) hy fun h₄ j₄ k₄ => ?_
    have t₄ : IsPair h₄ TO x q := k₄.extBut _ _ D.TOi2 t₃
    refine wpAny_bind (wpAny_seqItems t₄ rfl (wpAny_bind (wpAny_updateSeq_pair t₄ fun h₅ t₅ k₅ => wpAny_bind (wpAny_letGo (wpAny_pure (wpAny_pure ?_))))))
    replace t₅ : IsPair h₅ TO x y := t₅
    refine wpAny_bind (wpAny_seqItems t₅ rfl (wpAny_bind (wpAny_newTuple ?_)))
    have hsz : h₅.objs.size = s.heap.objs.size := by rw [k₅.1, k₄.1, k₃.1, k₂.1, k₁.1]
    have hz₅ : ZipR h₅ z TI TO .ellipsis f1 b := k₅.extBut _ _ D.TOz.symm (k₄.extBut _ _ D.i2z.symm (k₃.extBut _ _ D.TOz.symm (k₂.extBut _ _ D.i1z.symm hz₁)))
    have kp : KeepZ z TO i1 i2 s.heap h₅ := fun c o c1 c2 c3 c4 e => k₅.extBut _ _ c2 (k₄.extBut _ _ c4 (k₃.extBut _ _ c2 (k₂.extBut _ _ c3 (k₁.extBut _ _ c1 e))))
    have j1 : h₅.IsListIter i1 l1 (k + 1) := ((j₂.extBut k₃.extBut D.TOi1.symm).extBut k₄.extBut D.i12).extBut k₅.extBut D.TOi1.symm
    have j2 : h₅.IsListIter i2 l2 (k + 1) := j₄.extBut k₅.extBut D.TOi2.symm
    have zl : z < h₅.objs.size := Heap.lt_size hz₅
    show wpAny _ _ (Builtin.SmallTypes.ownedTupleHandOut (.ref z) (.ref h₅.objs.size) >>= _) _ _ _
    unfold Builtin.SmallTypes.ownedTupleHandOut
    have hz₆ : ZipR (h₅.push { cls := .type "tuple", data := .seq #[x, y] }) z TI TO .ellipsis f1 b := Heap.get?_push_of_some _ hz₅
    refine wpAny_bind (wpAny_bind (wpAny_setField_rec hz₆ (by simp) fun h₇ hz₇ k₇ => ?_))
    replace hz₇ : ZipR h₇ z TI TO (rawInt h₅.objs.size) f1 b := hz₇
    refine wpAny_setField_rec hz₇ (by simp) fun h₈ hz₈ k₈ => ?_
    replace hz₈ : ZipR h₈ z TI TO (rawInt h₅.objs.size) false b := hz₈
    have up : ∀ c o, c ≠ z → h₅.get? c = some o → h₈.get? c = some o := fun c o c1 e => k₈.extBut _ _ c1 (k₇.extBut _ _ c1 (Heap.get?_push_of_some _ e))
    have pr : IsPair h₈ h₅.objs.size x y := k₈.extBut _ _ (Nat.ne_of_gt zl) (k₇.extBut _ _ (Nat.ne_of_gt zl) (Heap.get?_push_size _ rfl))
    have sz8 : h₈.objs.size = h₅.objs.size + 1 := by rw [k₈.1, k₇.1, Heap.size_push]
    refine wpAny_pure ⟨_, rfl, ?_⟩
    show Q (.ref h₅.objs.size) _
    rw [hsz] at pr sz8 ⊢
    refine hQ h₈ ⟨⟨_, _, .inr ⟨_, rfl⟩, hz₈⟩, up _ _ D.TIz (kp _ _ D.TIz D.TITO D.TIi1 D.TIi2 hTI), ⟨x, y, up _ _ D.TOz t₅⟩, j1.at fun o e => up _ o D.i1z e, j2.at fun o e => up _ o D.i2z e⟩ pr sz8 fun c o c1 c2 c3 c4 e => up c o c1 (kp c o c1 c2 c3 c4 e)
  · -- the owned tuple is held elsewhere: a new one
    refine wpAny_bind ?_
    rw [← Array.forIn_toList]
    simp only [List.forIn_cons, List.forIn_nil]
    refine wpAny_bind (wpAny_bind (wpAny_holding (m := drawZ (Value.bool b == Value.bool true) (.ref i1)) ?_))
    refine drawZ_item (s := { s with heap := h₁ }) (h1.extBut k₁.extBut D.i1z) (hl1.extBut k₁.extBut D.l1z) hx fun h₂ j₂ k₂ => wpAny_pure ?_
    refine wpAny_bind (wpAny_bind (wpAny_holding (m := drawZ (Value.bool b == Value.bool true) (.ref i2)) ?_))
    refine drawZ_item (s := { s with heap := h₂ }) ((h2.extBut k₁.extBut D.i2z).extBut k₂.extBut D.i12.symm) ((hl2.extBut k₁.extBut D.l2z).extBut k₂.extBut D.l2i1) hy fun h₃ j₃ k₃ => wpAny_pure (wpAny_pure ?_)
    show wpAny _ _ (newTuple [x, y] >>= _) _ _ _
    refine wpAny_bind (wpAny_newTuple (wpAny_pure ⟨_, rfl, ?_⟩))
    show Q (.ref h₃.objs.size) _
    have hsz : h₃.objs.size = s.heap.objs.size := by rw [k₃.1, k₂.1, k₁.1]
    have hz₃ : ZipR h₃ z TI TO f0 true b := k₃.extBut _ _ D.i2z.symm (k₂.extBut _ _ D.i1z.symm hz₁)
    have kp : KeepZ z TO i1 i2 s.heap h₃ := fun c o c1 _ c3 c4 e => k₃.extBut _ _ c4 (k₂.extBut _ _ c3 (k₁.extBut _ _ c1 e))
    have j1 : h₃.IsListIter i1 l1 (k + 1) := j₂.extBut k₃.extBut D.i12
    have pr : IsPair (h₃.push { cls := .type "tuple", data := .seq #[x, y] }) h₃.objs.size x y := Heap.get?_push_size _ rfl
    have sz4 : (h₃.push { cls := .type "tuple", data := .seq #[x, y] }).objs.size = h₃.objs.size + 1 := Heap.size_push ..
    have tO : IsPair h₃ TO p q := k₃.extBut _ _ D.TOi2 (k₂.extBut _ _ D.TOi1 (k₁.extBut _ _ D.TOz hTO))
    rw [hsz] at pr sz4 ⊢
    refine hQ _ ⟨⟨f0, true, hf, Heap.get?_push_of_some _ hz₃⟩, Heap.get?_push_of_some _ (kp _ _ D.TIz D.TITO D.TIi1 D.TIi2 hTI), ⟨p, q, Heap.get?_push_of_some _ tO⟩, j1.at fun o e => Heap.get?_push_of_some _ e, j₃.at fun o e => Heap.get?_push_of_some _ e⟩ pr sz4 fun c o c1 c2 c3 c4 e => Heap.get?_push_of_some _ (kp c o c1 c2 c3 c4 e)

theorem stop_ok {α : Type} {Q : α → Shared → Prop} (hh : A.handled = none)
    (hE : ∀ h' e, (∀ c o, s.heap.get? c = some o → h'.get? c = some o) → (∃ o, h'.get? e = some o ∧ o.cls = .type "StopIteration") → E (.ref e) { s with heap := h' }) :
    wpAny (model prog w) A (Builtin.SmallTypes.stopIteration : Sem α) Q E s := by
  unfold Builtin.SmallTypes.stopIteration
  refine wpAny_bind ?_
  unfold newExc newTuple
  refine wpAny_bind (wpAny_newObj_type (wpAny_bind (m := firstArgMember _ _) (wpAny_of_eq (a := Value.none) (by first | rfl | (simp only [firstArgMember]; rfl)) (wpAny_newObj_type (wpAny_raiseNew_none hh (hE _ _ (fun c o e => Heap.get?_push_of_some _ (Heap.get?_push_of_some _ e)) ⟨_, Heap.get?_push_size _ rfl, rfl⟩)) (by size_fits)))) (by size_fits))
theorem zN_end {b : Bool} {z TI TO i1 i2 l1 l2 : Addr} {k : Nat} {xs ys : Array Value} {Q : Fin → Shared → Prop} (hh : A.handled = none) (D : ZipApart z TI TO i1 i2 l1 l2) (st : ZSt b z TI TO i1 i2 l1 l2 k s.heap)
    (hl1 : s.heap.IsList l1 xs) (hl2 : s.heap.IsList l2 ys) (hx : xs[k]? = none) (hy : ys[k]? = none)
    (hE : ∀ h' e, KeepZ z TO i1 i2 s.heap h' → (∃ o, h'.get? e = some o ∧ o.cls = .type "StopIteration") → E (.ref e) { s with heap := h' }) :
    wpAny (model prog w) A (Builtin.«zip.__next__» ⟨[.ref z], []⟩) Q E s := by
  obtain ⟨⟨f0, f1, hf, hz⟩, hTI, ⟨p, q, hTO⟩, h1, h2⟩ := st
  show wpAny _ _ (field (.ref z) 2 >>= _) _ _ _
  refine wpAny_bind (wpAny_field hz rfl (x := .bool b) rfl ?_)
  show wpAny _ _ (field (.ref z) 3 >>= _) _ _ _
  refine wpAny_bind (wpAny_field hz rfl (x := .ref TI) rfl (wpAny_bind (wpAny_seqItems hTI rfl ?_)))
  show wpAny _ _ (Builtin.SmallTypes.ownedTupleIsFree (.ref z) >>= _) _ _ _
  refine wpAny_bind (zfree hf hz ?_ fun h₁ hz₁ k₁ => ?_)
  · refine wpAny_bind (wpAny_rule (wpAny_bind (wpAny_field hz rfl (x := .ref TO) rfl (wpAny_bind (wpAny_setField_rec hz (by simp) fun h₁ hz₁ k₁ => ?_)))))
    replace hz₁ : ZipR h₁ z TI TO .ellipsis f1 b := hz₁
    refine wpAny_bind ?_
    simp only [List.zipIdx_cons, List.zipIdx_nil, List.forIn_cons, List.forIn_nil]
    refine wpAny_bind (wpAny_bind (wpAny_onRaise (m := drawZ (Value.bool b == Value.bool true) (.ref i1)) ?_))
    cases b with
    | false =>
      refine wpAny_bind (wpAny_nextOf_list_end (s := { s with heap := h₁ }) hh (h1.extBut k₁.extBut D.i1z) (hl1.extBut k₁.extBut D.l1z) hx fun h₂ e k₂ he => ?_)
      obtain ⟨oe, ho, hc⟩ := he
      have z₂ : ZipR h₂ z TI TO .ellipsis f1 false := k₂ _ _ D.i1z.symm hz₁
      have ez : e ≠ z := fun u => by subst u; rw [z₂] at ho; cases ho; simp at hc
      exact wpAny_setField_rec z₂ (by simp) fun h₃ _ k₃ => hE h₃ e (fun c o c1 _ c3 _ u => k₃.extBut _ _ c1 (k₂ _ _ c3 (k₁.extBut _ _ c1 u))) ⟨oe, k₃.extBut _ _ ez ho, hc⟩
    | true =>
      refine nOE_end (s := { s with heap := h₁ }) hh (h1.extBut k₁.extBut D.i1z) (hl1.extBut k₁.extBut D.l1z) hx fun h₂ k₂ => ?_
      have z₂ : ZipR h₂ z TI TO .ellipsis f1 true := k₂ _ _ D.i1z.symm hz₁
      refine wpAny_bind (wpAny_setField_rec z₂ (by simp) fun h₃ _ k₃ => wpAny_bind ?_)
      wp_delta
      refine wpAny_ite_false rfl (wpAny_bind ?_)
      simp only [List.drop_succ_cons, List.drop_zero, List.zipIdx_cons, List.zipIdx_nil, List.forIn_cons, List.forIn_nil]
      refine wpAny_bind (wpAny_bind (nOE_end (s := { s with heap := h₃ }) hh (((h2.extBut k₁.extBut D.i2z).extBut k₂ D.i12.symm).extBut k₃.extBut D.i2z) (((hl2.extBut k₁.extBut D.l2z).extBut k₂ D.l2i1).extBut k₃.extBut D.l2z) hy fun h₄ k₄ => wpAny_pure (wpAny_pure ?_)))
      refine wpAny_bind (wpAny_rule (stop_ok hh fun h₅ e k₅ he => ?_))
      exact hE h₅ e (fun c o c1 _ c3 c4 u => k₅ c o (k₄ _ _ c4 (k₃.extBut _ _ c1 (k₂ _ _ c3 (k₁.extBut _ _ c1 u))))) he
  · refine wpAny_bind ?_
    rw [← Array.forIn_toList]
    simp only [List.forIn_cons, List.forIn_nil]
    refine wpAny_bind (wpAny_bind (wpAny_holding (m := drawZ (Value.bool b == Value.bool true) (.ref i1)) ?_))
    cases b with
    | false =>
      refine wpAny_bind (wpAny_nextOf_list_end (s := { s with heap := h₁ }) hh (h1.extBut k₁.extBut D.i1z) (hl1.extBut k₁.extBut D.l1z) hx fun h₂ e k₂ he => ?_)
      exact hE h₂ e (fun c o c1 _ c3 _ u => k₂ _ _ c3 (k₁.extBut _ _ c1 u)) he
    | true =>
      refine nOE_end (s := { s with heap := h₁ }) hh (h1.extBut k₁.extBut D.i1z) (hl1.extBut k₁.extBut D.l1z) hx fun h₂ k₂ => wpAny_bind ?_
      wp_delta
      refine wpAny_ite_false rfl (wpAny_bind ?_)
      simp only [List.drop_succ_cons, List.drop_zero, List.zipIdx_cons, List.zipIdx_nil, List.forIn_cons, List.forIn_nil]
      refine wpAny_bind (wpAny_bind (nOE_end (s := { s with heap := h₂ }) hh ((h2.extBut k₁.extBut D.i2z).extBut k₂ D.i12.symm) ((hl2.extBut k₁.extBut D.l2z).extBut k₂ D.l2i1) hy fun h₄ k₄ => wpAny_pure (wpAny_pure ?_)))
      refine wpAny_bind (wpAny_rule (stop_ok hh fun h₅ e k₅ he => ?_))
      exact hE h₅ e (fun c o c1 _ c3 c4 u => k₅ c o (k₄ _ _ c4 (k₂ _ _ c3 (k₁.extBut _ _ c1 u)))) he
theorem zN_next {b : Bool} {z TI TO i1 i2 l1 l2 : Addr} {k : Nat} {xs ys : Array Value} {x y : Value} {Q : Option Value → Shared → Prop} (D : ZipApart z TI TO i1 i2 l1 l2) (st : ZSt b z TI TO i1 i2 l1 l2 k s.heap)
    (hl1 : s.heap.IsList l1 xs) (hl2 : s.heap.IsList l2 ys) (hx : xs[k]? = some x) (hy : ys[k]? = some y)
    (hQ : ∀ h', ZSt b z TI TO i1 i2 l1 l2 (k + 1) h' → IsPair h' s.heap.objs.size x y → h'.objs.size = s.heap.objs.size + 1 → KeepZ z TO i1 i2 s.heap h' → Q (some (.ref s.heap.objs.size)) { s with heap := h' }) :
    wpAny (model prog w) A (pyNext (.ref z)) Q E s := by
  have ty : s.TypeIs (.ref z) "zip" := by obtain ⟨_, _, _, h⟩ := st.rc; exact ⟨_, h, rfl⟩
  unfold pyNext
  exact wpAny_bind (wpAny_attempt (wpAny_callSpecial?_slot (name := Str.ofString "__next__") ty F.slot_zip_next (wpAny_call_entry F.slot_zip_next ty F.entry_zip_next (zN_item D st hl1 hl2 hx hy fun h' a1 a2 a3 a4 => wpAny_pure (hQ h' a1 a2 a3 a4)) (F.args_zip_next_1 _))))
theorem zN_over {b : Bool} {z TI TO i1 i2 l1 l2 : Addr} {k : Nat} {xs ys : Array Value} {Q : Option Value → Shared → Prop} (hh : A.handled = none) (D : ZipApart z TI TO i1 i2 l1 l2) (st : ZSt b z TI TO i1 i2 l1 l2 k s.heap)
    (hl1 : s.heap.IsList l1 xs) (hl2 : s.heap.IsList l2 ys) (hx : xs[k]? = none) (hy : ys[k]? = none) (hQ : ∀ h', KeepZ z TO i1 i2 s.heap h' → Q none { s with heap := h' }) :
    wpAny (model prog w) A (pyNext (.ref z)) Q E s := by
  have ty : s.TypeIs (.ref z) "zip" := by obtain ⟨_, _, _, h⟩ := st.rc; exact ⟨_, h, rfl⟩
  unfold pyNext
  refine wpAny_bind (wpAny_attempt (wpAny_callSpecial?_slot (name := Str.ofString "__next__") ty F.slot_zip_next (wpAny_call_entry F.slot_zip_next ty F.entry_zip_next (zN_end hh D st hl1 hl2 hx hy fun h' e hk he => ?_) (F.args_zip_next_1 _))))
  obtain ⟨o, ho, hc⟩ := he
  exact wpAny_bind (wpAny_isInstance (T := "StopIteration") (b := true) ⟨o, ho, hc⟩ isSubtype_stop (wpAny_pure (hQ h' hk)))
end
end Bt
namespace Bt
open PySem L2 PySem.Spec PyProof.Rows
section
variable {prog : Program} {w : World} {A : Around} {E : Value → Shared → Prop} {s : Shared}
theorem ZSt.at {b : Bool} {z TI TO i1 i2 l1 l2 : Addr} {k : Nat} {h h' : Heap} (st : ZSt b z TI TO i1 i2 l1 l2 k h) (kz : ∃ f0 f1, (f0 = Value.none ∨ ∃ T : Addr, f0 = rawInt T) ∧ ZipR h' z TI TO f0 f1 b) (kp : ∀ c o, c = TI ∨ c = TO ∨ c = i1 ∨ c = i2 → h.get? c = some o → h'.get? c = some o) : ZSt b z TI TO i1 i2 l1 l2 k h' := by
  obtain ⟨_, t, ⟨x, y, u⟩, a, c⟩ := st
  exact ⟨kz, kp _ _ (.inl rfl) t, ⟨x, y, kp _ _ (.inr (.inl rfl)) u⟩, a.at fun o e => kp _ o (.inr (.inr (.inl rfl))) e, c.at fun o e => kp _ o (.inr (.inr (.inr rfl))) e⟩
theorem zgo {b : Bool} {z TI TO i1 i2 l1 l2 : Addr} {k : Nat} {tg : Expr} {u : Value} {Q : Unit → Shared → Prop} (D : ZipApart z TI TO i1 i2 l1 l2) (st : ZSt b z TI TO i1 i2 l1 l2 k s.heap)
    (hQ : ∀ h', ZSt b z TI TO i1 i2 l1 l2 k h' → Heap.SameBut z s.heap h' → Q () { s with heap := h' }) : wpAny (model prog w) A (letOwnedTupleGo tg (.ref z) u) Q E s := by
  have stay : Q () s := hQ s.heap st (Heap.SameBut.refl _ _)
  obtain ⟨f0, f1, hf, hz⟩ := st.rc
  have put : wpAny (model prog w) A (setField (.ref z) 0 .none) Q E s := by
    refine wpAny_setField_rec hz (by simp) fun h' z' sb => hQ h' (st.at ⟨_, _, .inl rfl, z'⟩ fun c o hc e => ?_) sb
    refine (sb.2 c ?_).trans e
    rcases hc with rfl | rfl | rfl | rfl
    · exact D.TIz
    · exact D.TOz
    · exact D.i1z
    · exact D.i2z
  unfold letOwnedTupleGo
  cases tg <;> first
    | exact wpAny_pure stay
    | (cases u <;> first
        | exact wpAny_pure stay
        | (refine wpAny_bind (wpAny_load hz ?_); dsimp only; split
           · exact wpAny_bind (wpAny_rule put)
           · exact wpAny_pure stay))
end
def ItzE (K : PySem.W.Frag) (a b : Addr) : It :=
  ⟨fun i H => ∃ (xs ys : List V) (x y : V), SqL K H a xs ∧ SqL K H b ys ∧ xs[i]? = some x ∧ ys[i]? = some y,
   fun i H v H' => ∃ T o x y, v = .ref T ∧ H T = none ∧ o.dict = none ∧ H' = upd H T (.frz o (.tup [x, y])) ∧
     (∀ xs, SqL K H a xs → xs[i]? = some x) ∧ ∀ ys, SqL K H b ys → ys[i]? = some y,
   fun i H => ∃ xs ys : List V, SqL K H a xs ∧ SqL K H b ys ∧ xs.length ≤ i ∧ ys.length ≤ i⟩
theorem zmem {z TI TO i1 i2 c : Addr} (h : c ∈ [z, TI, TO, i1, i2]) : c = z ∨ c = TI ∨ c = TO ∨ c = i1 ∨ c = i2 := by simpa using h
theorem znot {z TI TO i1 i2 c : Addr} (h : c ∉ [z, TI, TO, i1, i2]) : c ≠ z ∧ c ≠ TO ∧ c ≠ i1 ∧ c ≠ i2 := by
  simp only [List.mem_cons, not_or] at h
  exact ⟨h.1, h.2.2.1, h.2.2.2.1, h.2.2.2.2.1⟩
theorem turn_zN {P : Program} {w : World} {K : PySem.W.Frag} {bb : Bool} {tg : Expr} {a b z TI TO i1 i2 : Addr} (D : ZipApart z TI TO i1 i2 a b) :
    Turn P w K tg (ItzE K a b) [z, TI, TO, i1, i2] z (ZSt bb z TI TO i1 i2 a b) where
  mem := List.mem_cons_self
  obj := fun i h st c hc => by
    obtain ⟨⟨f0, f1, _, hz⟩, t, ⟨x, y, u⟩, ⟨o1, e1, _, d1⟩, ⟨o2, e2, _, d2⟩⟩ := st
    rcases zmem hc with rfl | rfl | rfl | rfl | rfl
    · exact ⟨_, hz, fun v => nofun⟩
    · exact ⟨_, t, fun v => nofun⟩
    · exact ⟨_, u, fun v => nofun⟩
    · exact ⟨o1, e1, fun v q => by rw [d1] at q; cases q⟩
    · exact ⟨o2, e2, fun v q => by rw [d2] at q; cases q⟩
  keep := fun i h h' st k => by
    obtain ⟨f0, f1, hf, hz⟩ := st.rc
    refine st.at ⟨f0, f1, hf, k z List.mem_cons_self _ hz⟩ fun c o hc e => k c ?_ o e
    rcases hc with rfl | rfl | rfl | rfl <;> simp
  item := by
    intro X hP hw hK hc i pins s σ H E I hf st hg
    subst hP hw hK
    obtain ⟨xs, ys, x, y, qx, qy, hx, hy⟩ := hg
    obtain ⟨its, rv, p, _⟩ := I.list qx
    obtain ⟨its2, rv2, p2, _⟩ := I.list qy
    obtain ⟨u, hu, ru⟩ := rv.get hx
    obtain ⟨u2, hu2, ru2⟩ := rv2.get hy
    have lt : ∀ c ∈ [z, TI, TO, i1, i2], c < s.heap.objs.size := fun c hm => by
      obtain ⟨⟨f0, f1, _, hz⟩, t, ⟨_, _, v⟩, ⟨o1, e1, _⟩, ⟨o2, e2, _⟩⟩ := st
      rcases zmem hm with rfl | rfl | rfl | rfl | rfl
      · exact Heap.lt_size hz
      · exact Heap.lt_size t
      · exact Heap.lt_size v
      · exact Heap.lt_size e1
      · exact Heap.lt_size e2
    refine zN_next D st p.isList p2.isList (x := u) (y := u2) (by simpa using hu) (by simpa using hu2) fun h' st' pr sz kp => ?_
    refine ⟨_, rfl, zgo (s := { s with heap := h' }) D st' fun h'' st'' sb => ?_⟩
    have nz : s.heap.objs.size ≠ z := Nat.ne_of_gt (lt z List.mem_cons_self)
    have pr2 : IsPair h'' s.heap.objs.size u u2 := (sb.2 _ nz).trans pr
    have new : ObjOk X.prog X.w (upd H s.heap.objs.size (.frz { cls := .type "tuple", data := .seq #[u, u2] } (.tup [x, y]))) h'' s.heap.objs.size (.frz { cls := .type "tuple", data := .seq #[u, u2] } (.tup [x, y])) :=
      ⟨pr2, by show 2 ≤ sizeLine; decide, [u, u2], .cons ru (.cons ru2 .nil), ⟨_, pr2, rfl, _, rfl⟩⟩
    have I1 := I.turnedNew (t' := s.toks) (ch := [z, TI, TO, i1, i2]) (fun c o hb q => by
      obtain ⟨n1, n2, n3, n4⟩ := znot hb
      exact (sb.2 c n1).trans (kp c o n1 n2 n3 n4 q)) hf (Nat.le_refl _) new
    refine ⟨.ref s.heap.objs.size, _, I1, rfl, ⟨_, _, x, y, rfl, I.hok.fresh (Nat.le_refl _), rfl, rfl, fun l hl => by rw [I.list_inj hl qx]; exact hx, fun l hl => by rw [I.list_inj hl qy]; exact hy⟩, st'', fun c hm => ?_⟩
    rw [upd_ne (Nat.ne_of_lt (lt c hm))]
    exact (hf c hm).1
  done := by
    intro X hP hw hK hc i pins s σ H E I hf st hg
    subst hP hw hK
    obtain ⟨xs, ys, qx, qy, e1, e2⟩ := hg
    obtain ⟨its, rv, p, _⟩ := I.list qx
    obtain ⟨its2, rv2, p2, _⟩ := I.list qy
    have l1 := rv.length
    have l2 := rv2.length
    refine zN_over (I.ok.hd hc) D st p.isList p2.isList (by simp; omega) (by simp; omega) fun h' kp => ⟨rfl, I.turnedL (t' := s.toks) (ch := [z, TI, TO, i1, i2]) (fun c o hb q => ?_) hf⟩
    obtain ⟨n1, n2, n3, n4⟩ := znot hb
    exact kp c o n1 n2 n3 n4 q
  self := fun A i s Q E st h => by
    obtain ⟨f0, f1, _, hz⟩ := st.rc
    have ty : s.TypeIs (.ref z) "zip" := ⟨_, hz, rfl⟩
    exact wpAny_pyIter_slot ty F.slot_zip_iter (wpAny_call_entry F.slot_zip_iter ty F.entry_zip_iter (show wpAny _ _ (PySem.ret (.ref z)) _ _ s from wpAny_pure ⟨_, rfl, "zip", _, ty, F.slot_zip_next.lookup, h⟩) (F.args_zip_iter_1 _))
end Bt
namespace Bt
open PySem L2 PySem.Spec PyProof.Rows
section
variable {prog : Program} {w : World} {A : Around} {E : Value → Shared → Prop} {s : Shared}
end
def iZipE (K : PySem.W.Frag) (ta : TA) : TI := fun σ H R => ta σ H fun vs H1 => ∃ a b xs ys, vs = [.ref a, .ref b] ∧ SqL K H1 a xs ∧ SqL K H1 b ys ∧ R (ItzE K a b) H1
section
variable {X : Cx}
theorem pie_zip {pins : List (Addr × Obj)} {σ : L2.St} {H : Hp} {s : Shared} {tg : Expr} {R : It → Hp → Prop} {bb : Bool} {a b : Addr} {h' : Heap} {E : Value → Shared → Prop} (I : Inv X pins σ H s) (la : a < s.heap.objs.size) (lb : b < s.heap.objs.size)
    (st : ZSt bb (s.heap.objs.size + 4) (s.heap.objs.size + 2) (s.heap.objs.size + 3) s.heap.objs.size (s.heap.objs.size + 1) a b 0 h') (k : ∀ c o, s.heap.get? c = some o → h'.get? c = some o) (q : R (ItzE X.K a b) H) :
    wpAny (model X.prog X.w) X.A (pyIter (.ref (s.heap.objs.size + 4))) (PIE X pins σ tg R) E { s with heap := h' } := by
  have D := PySem.W.ktu_apart s.heap.objs.size a b la lb
  have T := turn_zN (P := X.prog) (w := X.w) (K := X.K) (bb := bb) (tg := tg) D
  refine T.self X.A 0 { s with heap := h' } _ _ st ?_
  refine ⟨_, _, _, _, H, rfl, I.kept (t' := s.toks) k, T, st, fun c hc => ?_, q⟩
  have le : s.heap.objs.size ≤ c := by
    rcases zmem hc with rfl | rfl | rfl | rfl | rfl
    · exact Nat.le_add_right _ _
    · exact Nat.le_add_right _ _
    · exact Nat.le_add_right _ _
    · exact Nat.le_refl _
    · exact Nat.le_add_right _ _
  exact I.fpOk le (I.hok.fresh le)
theorem pi_zipN {tg e e2 : Expr} {ta : TA} {p pos : Pos} (hg : Gl X "zip") (hm : X.mg "zip" = none) (ha : PA X [e, e2] ta)
    (hs : starEach [e, e2] X.env = (false, eval e X.env) :: starEach [e2] X.env := by rfl) (hpl : (backTo pos (starEach [e2] X.env)).any (·.1) = false := by rfl) :
    PI X tg (.Call (.Name "zip" p) [e, e2] [] pos) (iZipE X.K ta) := by
  refine ⟨fun pins s σ H R I h => Call_ (ld_blt I hg hm PyProof.Rows.boot_zip (PyProof.Rows.callWith_type1 (thn (ha.run pos pins s σ H _ I h) fun us s1 h1 => ?_) hs hpl))⟩
  obtain ⟨vs, H1, I1, r1, a, b, xs, ys, rfl, qx, qy, q⟩ := h1
  cases r1 with
  | cons ra rr =>
    cases rr with
    | cons rb rr =>
      cases rr
      cases ra
      cases rb
      obtain ⟨its, rv, p1, _⟩ := I1.list qx
      obtain ⟨its2, rv2, p2, _⟩ := I1.list qy
      exact call_zip_2 p1.isList p2.isList fun h' hz hTI hTO h1 h2 hsz hk => pie_zip I1 p1.lt p2.lt (bb := false) ⟨⟨.none, false, .inl rfl, hz⟩, hTI, ⟨_, _, hTO⟩, h1, h2⟩ hk q
def mZipE (ms : M (List D)) : M (List D) := bnd ms fun ds => match ds with
  | [.list xs, .list ys] => fun E => if xs.length = ys.length then .ok (zipD xs ys) E else .bad
  | _ => stuck
variable {W : WX}
theorem wk_zipE {K : PySem.W.Frag} {O : List Addr} {H : Hp} {a b : Addr} {vs ws : List V} {ds es : List D} (h1 : Mask O H a = some (.lst vs)) (h2 : Mask O H b = some (.lst ws)) (r1 : RpAll K (Mask O H) vs ds) (r2 : RpAll K (Mask O H) ws es) (hl : ds.length = es.length) : Wk false K O H (ItzE K a b) (zipD ds es) := by
  have e1 := r1.length
  have e2 := r2.length
  have el : (zipD ds es).length = vs.length := by
    unfold zipD
    rw [List.length_zipWith]
    omega
  refine ⟨fun G => SqL K G a vs ∧ SqL K G b ws, fun i G v G' => ∃ T o x y, v = .ref T ∧ G T = none ∧ o.dict = none ∧ G' = upd G T (.frz o (.tup [x, y])) ∧ vs[i]? = some x ∧ ws[i]? = some y, ⟨fun i G hi q => ?_, fun G q => ?_, fun i G v G' hi q y => ?_⟩, fun O2 H2 l => ⟨SqL.of (mask_le _ _ _ _ (l _ _ h1)), SqL.of (mask_le _ _ _ _ (l _ _ h2))⟩, fun O2 H2 i x H3 d t l e y => ?_⟩
  · rw [el] at hi
    exact ⟨vs, ws, vs[i], ws[i]'(by omega), q.1, q.2, List.getElem?_eq_getElem hi, List.getElem?_eq_getElem (by omega)⟩
  · exact ⟨vs, ws, q.1, q.2, by omega, by omega⟩
  · obtain ⟨T, o, x, z, u1, u2, u3, u4, u5, u6⟩ := y
    exact ⟨T, o, x, z, u1, u2, u3, u4, u5 vs q.1, u6 ws q.2⟩
  · obtain ⟨T, o, x1, x2, rfl, nT, od, rfl, g1, g2⟩ := y
    obtain ⟨d1, q1, s1⟩ := r1.get g1
    obtain ⟨d2, q2, s2⟩ := r2.get g2
    unfold zipD at e
    rw [List.getElem?_zipWith, q1, q2] at e
    cases e
    obtain ⟨g, r⟩ := new_tup t (.cons (s1.mono l) (.cons (s2.mono l) .nil)) nT od
    exact ⟨g, .inl r⟩
theorem si_zipE {tg e : Expr} {es : List Expr} {ts : TA} {ms : M (List D)} (hp : PA X es ts → PI X tg e (iZipE X.K ts)) (h : SA X W es ts ms) : SI X W false tg e (iZipE X.K ts) (mZipE ms) := by
  refine ⟨hp h.pa, fun F O E σ H R Re s => h.rd F O E σ H _ Re (s.bnd.mono (fun ds E1 k O1 vs H1 R1 l1 rr => ?_) (fun _ _ k => k))⟩
  split at k
  · cases rr with
    | cons r1 rr =>
      cases rr with
      | cons r2 rr =>
        cases rr
        cases r1 with
        | lst h1 s1 =>
          cases r2 with
          | lst h2 s2 =>
            split at k
            · rename_i hl
              exact ⟨_, _, _, _, rfl, SqL.of (mask_le _ _ _ _ h1), SqL.of (mask_le _ _ _ _ h2), k O1 H1 _ R1 l1 (wk_zipE h1 h2 s1 s2 hl)⟩
            · exact k.elim
  · exact k.elim
end
end Bt
namespace Bt
open PySem L2 PySem.Spec PyProof.Rows
def rMaxT (K : PySem.W.Frag) : List V → Hp → VK → Prop := fun xs H Q => ∃ p ns, xs = [.ref p] ∧ SqT K H p (ns.map V.int) ∧ ns ≠ [] ∧ Q (.int (maxL ns)) H
section
variable {X : Cx} {W : WX}
theorem cr_maxT (hc : X.calm = true) (hu : X.A.units + 64 < cLine) : CallR X (.builtin "max") (rMaxT X.K) := by
  intro pins s σ H xs us Q I r h
  obtain ⟨p, ns, rfl, hs, hne, q⟩ := h
  obtain rfl := Vals.ref1 r
  obtain ⟨its, r', pl, hz⟩ := I.tuple hs
  obtain ⟨as, ra⟩ := Dp.readsAll I (ns.map .int) (ns.map V.int) its (dpAll_ints ns) r'
  have hd := depth_ints ns
  cases ns with
  | nil => exact absurd rfl hne
  | cons n ns =>
    refine PySem.W.max_tuple_data (I.ok.hd hc) pl (by simpa using ra) (alike_ints (n :: ns)) (by simp only [List.map_cons] at hd; omega) fun i v h' tk bs hv hr kp => ?_
    rw [PySem.W.maxD_ints, fold_max] at hr
    cases hr
    exact ⟨.int _, H, I.kept (t' := tk) kp, ⟨_, rfl⟩, q⟩
theorem cK_maxT (K : PySem.W.Frag) (eK : X.K = K) (hc : X.calm = true) (hu : X.A.units + 64 < cLine) : CallR X (.builtin "max") (rMaxT K) := eK ▸ cr_maxT hc hu
end
def maxTF : List D → Option D
  | [.tuple ds] => match intsOf ds with
    | some (n :: ns) => some (.int (maxL (n :: ns)))
    | _ => none
  | _ => none
theorem ok_maxT {K : PySem.W.Frag} : COk K (rMaxT K) maxTF := by
  intro O H vs ds z Q t hp hf q
  unfold maxTF at hf
  split at hf
  · rename_i ds
    obtain ⟨v, rfl, rq⟩ := paired1 hp
    obtain ⟨p, vs, rfl, h1, r1, _⟩ := rq.tuple
    split at hf
    · rename_i n ns e
      cases hf
      rw [intsOf_eq e] at r1
      exact ⟨p, n :: ns, rfl, by rw [← r1.ints]; exact h1, List.cons_ne_nil _ _, q _ H (Grow.refl O H) (.int _)⟩
    · cases hf
  · cases hf
section
variable {X : Cx} {W : WX} {a b : Expr} {ta tb : TE}
noncomputable def mLrg2 (ma mb : M Ag) : M D := bnd ma fun x => bnd mb fun y => fun E => match rsv E x, rsv E y with
  | some (.int i), some (.int j) => if rgOk i && rgOk j then .ok (.list (rangeD i j)) E else .bad
  | _, _ => .bad
noncomputable def mLrg1 (ma : M Ag) : M D := bnd ma fun x => fun E => match rsv E x with
  | some (.int j) => if rgOk j then .ok (.list (rangeD 0 j)) E else .bad
  | _ => .bad
end
section
variable {X : Cx}
section
variable (vs : List Nat) (g : MG) (mt : M Bool) (me : M D) (E0 : En)
end
variable {W : WX}
end
end Bt
namespace Bt
open PySem L2
section
variable {X : Cx} {W : WX}
def mRaiseN (c : Nat) : M Fl := fun E => .ex ⟨c, some .none⟩ E
def mTry0 (c : Nat) (mb ms : M Fl) : M Fl := fun E => match mb E with
  | .ok f E1 => .ok f E1
  | .ex z E1 => if isSub z.cls c = true then match ms E1 with
    | .ok f E2 => .ok f E2
    | _ => .bad
    else .ex z E1
  | .bad => .bad
end
section
variable {X : Cx} {W : WX} (K : PySem.W.Frag)
theorem si_zipEK {tg e : Expr} {es : List Expr} {ts : TA} {ms : M (List D)} (eK : X.K = K) (hp : PA X es ts → PI X tg e (iZipE X.K ts)) (h : SA X W es ts ms) : SI X W false tg e (iZipE K ts) (mZipE ms) := by
  subst eK
  exact si_zipE hp h
end
end Bt
namespace Bt
open PySem L2
section
variable {K : PySem.W.Frag} {F : Frm} {O : List Addr} {E : En} {σ : L2.St} {H : Hp}
theorem get_push {α : Type} {xs : List α} {x y : α} {i : Nat} (h : (xs ++ [x])[i]? = some y) : (i < xs.length ∧ xs[i]? = some y) ∨ (i = xs.length ∧ x = y) := by
  by_cases c : i < xs.length
  · rw [List.getElem?_append_left c] at h; exact .inl ⟨c, h⟩
  · rw [List.getElem?_append_right (by omega)] at h
    by_cases z : i - xs.length = 0
    · rw [z] at h; cases h; exact .inr ⟨by omega, rfl⟩
    · obtain ⟨n, hn⟩ : ∃ n, i - xs.length = n + 1 := ⟨i - xs.length - 1, by omega⟩
      rw [hn] at h; cases h
theorem Rel.push {p : Addr} {vs : HO} {ob : Ob} (R : Rel K ((p, vs) :: F) O E σ H) (r : RpO K (Mask O H) vs ob) (hF : ∀ x ∈ F, x.1 ≠ p) : Rel K F O (E ++ [.ow ob]) (σ ++ [some (.ref p)]) H := by
  obtain ⟨hp, hh⟩ := R.frm _ List.mem_cons_self
  have hl := R.len
  have lf : ∀ i, i < E.length → (σ ++ [some (V.ref p)])[i]? = σ[i]? := fun i h => List.getElem?_append_left (by omega)
  have lr : (σ ++ [some (V.ref p)])[E.length]? = some (some (V.ref p)) := by rw [hl, List.getElem?_append_right (Nat.le_refl _), Nat.sub_self]; rfl
  refine ⟨by rw [List.length_append, List.length_append, hl]; rfl, R.trk, fun j s e => ?_, fun j k ds es q e1 e2 e3 e4 => ?_, fun x hx => R.frm x (List.mem_cons_of_mem _ hx), fun j ds q e1 e2 x hx => ?_⟩
  · rcases get_push e with ⟨c, e⟩ | ⟨rfl, rfl⟩
    · rw [lf j c]; exact R.slot j s e
    · rw [lr]; exact ⟨p, vs, rfl, hp, hh, r⟩
  · rcases get_push e1 with ⟨c1, e1⟩ | ⟨rfl, z1⟩
    · rw [lf j c1] at e3
      rcases get_push e2 with ⟨c2, e2⟩ | ⟨rfl, z2⟩
      · rw [lf k c2] at e4
        exact R.apart j k ds es q e1 e2 e3 e4
      · rw [lr] at e4; cases e4
        exact absurd rfl (R.fap j ds p e1 e3 _ List.mem_cons_self)
    · rw [lr] at e3; cases e3
      rcases get_push e2 with ⟨c2, e2⟩ | ⟨rfl, z2⟩
      · rw [lf k c2] at e4
        exact absurd rfl (R.fap k es p e2 e4 _ List.mem_cons_self)
      · rfl
  · rcases get_push e1 with ⟨c1, e1⟩ | ⟨rfl, z1⟩
    · rw [lf j c1] at e2
      exact R.fap j ds q e1 e2 x (List.mem_cons_of_mem _ hx)
    · rw [lr] at e2; cases e2
      exact hF x hx
theorem Rel.pop {x : Option V} (R : Rel K F O E (σ ++ [x]) H) : Rel K F O E.dropLast σ H := by
  have hl : E.length = σ.length + 1 := by have := R.len; rw [List.length_append] at this; exact this
  have ge : ∀ (i : Nat) (s : Sl), E.dropLast[i]? = some s → i < σ.length ∧ E[i]? = some s := fun i s e => by
    have hi := (List.getElem?_eq_some_iff.mp e).1
    rw [List.length_dropLast] at hi
    refine ⟨by omega, ?_⟩
    rw [List.getElem?_dropLast, if_pos (by omega)] at e
    exact e
  have lf : ∀ i, i < σ.length → (σ ++ [x])[i]? = σ[i]? := fun i h => List.getElem?_append_left h
  refine ⟨by rw [List.length_dropLast, hl]; rfl, R.trk, fun j s e => ?_, fun j k ds es q e1 e2 e3 e4 => ?_, R.frm, fun j ds q e1 e2 y hy => ?_⟩
  · obtain ⟨h1, h2⟩ := ge j s e
    rw [← lf j h1]; exact R.slot j s h2
  · obtain ⟨h1, h2⟩ := ge j _ e1
    obtain ⟨h3, h4⟩ := ge k _ e2
    rw [← lf j h1] at e3
    rw [← lf k h3] at e4
    exact R.apart j k ds es q h2 h4 e3 e4
  · obtain ⟨h1, h2⟩ := ge j _ e1
    rw [← lf j h1] at e2
    exact R.fap j ds q h2 e2 y hy
theorem Rel.unF {x : Addr × HO} (R : Rel K (x :: F) O E σ H) : Rel K F O E σ H :=
  ⟨R.len, R.trk, R.slot, R.apart, fun y hy => R.frm y (List.mem_cons_of_mem _ hy), fun i ds p e1 e2 y hy => R.fap i ds p e1 e2 y (List.mem_cons_of_mem _ hy)⟩
theorem RelE.pop {x : Option V} {v : V} {z : Sl} (R : RelE K F O E (σ ++ [x]) H v (.rt z)) : RelE K F O E.dropLast σ H v (.rt z) := by
  cases z with
  | un => exact R.elim
  | scr _ => exact R.elim
  | dat d => exact ⟨R.1.pop, R.2⟩
  | ow ob =>
    obtain ⟨p, ho, rfl, R1, hF, r⟩ := R
    exact ⟨p, ho, rfl, R1.pop, hF, r⟩
theorem AgV.push {v : V} {x : Option V} {a : Ag} (h : AgV K σ O H v a) : AgV K (σ ++ [x]) O H v a := by
  cases a with
  | d d => exact h
  | r i =>
    have h' : σ[i]? = some (some v) := h
    show (σ ++ [x])[i]? = some (some v)
    rw [List.getElem?_append_left (List.getElem?_eq_some_iff.mp h').1]
    exact h'
theorem Paired.agpush {x : Option V} : ∀ {vs : List V} {as : List Ag}, Paired (AgV K σ O H) vs as → Paired (AgV K (σ ++ [x]) O H) vs as
  | _, _, .nil => .nil
  | _, _, .cons h r => .cons h.push (Paired.agpush r)
end
structure SOsN (X : Cx) (W : WX) (es : List Expr) (t : TA) (m : M (List Ag)) : Prop where
  pa : PA X es t
  rd : ∀ F O E σ H (Q : List V → Hp → Prop), Rel X.K F O E σ H → Sat (m E) (fun as E' => ∀ O' vs H' x, Rel X.K F O' E' (σ ++ [x]) H' → Le O H O' H' → Paired (AgV X.K (σ ++ [x]) O' H') vs as → Q vs H') (KX X.K X.mg F σ O H W) → t σ H Q
section
variable {X : Cx} {W : WX} {e : Expr} {es : List Expr} {t : TE} {ts : TA}
end
def mCallNO (Fm : M Sl) (dds : List D) (ms : M (List Ag)) : M Sl := bnd ms fun ags => fun E => match mCallO Fm dds (ret ags) E with
  | .ok z E' => .ok z E'.dropLast
  | .ex x E' => .ex x E'.dropLast
  | .bad => .bad
def mCallN (Fm : M Sl) (dds : List D) (ms : M (List Ag)) : M D := bnd (mCallNO Fm dds ms) thaw
section
variable {X : Cx} {W : WX} {k : Nat} {f : Addr} {fd : FuncData} {ps : List Str} {Fm : M Sl} {dds : List D} {dvs : List V} {x : Str} {p pos : Pos} {e : Expr} {es : List Expr} {ts : TA} {ms : M (List Ag)}
theorem callN_rd (hd : ∀ G, RpAll X.K G dvs dds) (h : SOsN X W es ts ms) (hlen : ∀ E ags E', ms E = .ok ags E' → ags.length + dvs.length = ps.length) : ∀ F O E σ H (Q : VK), Rel X.K F O E σ H → Sat (mCallNO Fm dds ms E) (fun z E' => ∀ O' v H', RelE X.K F O' E' σ H' v (.rt z) → Le O H O' H' → Q v H') (KX X.K X.mg F σ O H W) → tCallSD (spOf X.K X.mg ps.length Fm) dvs (fun σ => WE W σ) ts σ H Q := by
  intro F O E σ H Q R s
  have s' := s.bnd
  refine h.rd F O E σ H _ R ?_
  cases em : ms E with
  | bad => rw [em] at s'; exact s'.elim
  | ex z E1 => rw [em] at s'; exact s'
  | ok ags E1 =>
    rw [em] at s'
    intro O1 vs H1 y R1 l1 av
    have hl := hlen E ags E1 em
    refine ⟨by rw [List.length_append, av.length]; exact hl, ?_⟩
    have em2 : mCallO Fm dds (ret ags) E1 = (if apartA E1 ags then (match argSl E1 ags with
      | none => .bad
      | some as => match Fm (as ++ dds.map .dat) with
        | .ok d as' => match putB E1 ags (as'.take ags.length) with
          | some E' => .ok d E'
          | none => .bad
        | .ex x as' => match putB E1 ags (as'.take ags.length) with
          | some E' => .ex x E'
          | none => .bad
        | .bad => .bad) else .bad) := rfl
    change Sat (match mCallO Fm dds (ret ags) E1 with | .ok z E' => Res.ok z E'.dropLast | .ex x E' => .ex x E'.dropLast | .bad => .bad) _ _ at s'
    rw [em2] at s'
    by_cases ap : apartA E1 ags = true
    · rw [if_pos ap] at s'
      cases ha : argSl E1 ags with
      | none => rw [ha] at s'; exact s'.elim
      | some as =>
        rw [ha] at s'
        dsimp only at s'
        refine ⟨F ++ othF E1 (σ ++ [y]) H1 ags, O1, as ++ dds.map .dat, call_in R1 av (hd _) ap ha, ?_⟩
        cases ef : Fm (as ++ dds.map .dat) with
        | bad => rw [ef] at s'; exact s'.elim
        | ok d as' =>
          rw [ef] at s'
          dsimp only at s'
          intro O2 v H2 R2 l2
          cases hb2 : putB E1 ags (as'.take ags.length) with
          | none => rw [hb2] at s'; exact s'.elim
          | some E2 =>
            rw [hb2] at s'
            exact s' O2 v H2 (call_outE R1 av ap R2 l2 hb2).pop (l1.trans l2)
        | ex z as' =>
          rw [ef] at s'
          dsimp only at s'
          intro O2 H2 c dd R2 l2 r2
          cases hb2 : putB E1 ags (as'.take ags.length) with
          | none => rw [hb2] at s'; exact s'.elim
          | some E2 =>
            rw [hb2] at s'
            exact s' O2 H2 c dd (call_out R1 av ap R2 l2 hb2 fun i ds p e1 _ e2 => R1.fap i ds p e1 e2).pop (l1.trans l2) r2
    · rw [if_neg ap] at s'
      exact s'.elim
theorem sv_callN (Fo : FnOk X.prog X.w X.K X.mg X.base (L2.CX X.prog X.w) k f fd ps (spOf X.K X.mg ps.length Fm)) (hr : Room k X.A) (hg : Gl X x) (hm : X.mg x = some (.ref f)) (hk : PySem.W.keepIn X.K (.ref f) = true) {dvals : List Value} (hb : Binds X.K fd ps dvals) (hdv : Vals dvs dvals) (hd : ∀ G, RpAll X.K G dvs dds) (tk : Takes X W)
    (h : SOsN X W (e :: es) ts ms) (hlen : ∀ E ags E', ms E = .ok ags E' → ags.length + dvs.length = ps.length) (hdb : (x == ("__debug__" : Str)) = false := by decide) (he : starEach (e :: es) X.env = (false, eval e X.env) :: starEach es X.env := by rfl) (hpl : (backTo pos (starEach es X.env)).any (·.1) = false := by rfl) :
    SV X W (.Call (.Name x p) (e :: es) [] pos) (tCallSD (spOf X.K X.mg ps.length Fm) dvs (fun σ => WE W σ) ts) (mCallNO Fm dds ms) := by
  exact ⟨pe_callSD Fo hr hg hm hk hb hdv (fun σ => passAt tk σ) h.pa hdb he hpl, callN_rd hd h hlen⟩
end
section
variable {X : Cx} {W : WX} {e : Expr} {t : TE} {es : List Expr} {ts : TA} {pos : Pos} {P : Program} {w : World} {K : PySem.W.Frag} {mg : Str → Option Value} {base : Heap}
theorem sv_callNC {k : Nat} {f : Addr} {fd : FuncData} {ps : List Str} {Fm : M Sl} {n : Nat} {x : Str} {p : Pos} {ms : M (List Ag)} (Fo : FnOk P w K mg base (L2.CX P w) k f fd ps (spOf K mg n Fm)) (eP : X.prog = P) (ew : X.w = w) (eK : X.K = K) (eM : X.mg = mg) (eB : X.base = base) (hr : Room k X.A) (hg : Gl X x) (hm : mg x = some (.ref f)) (hk : PySem.W.keepIn K (.ref f) = true) (hb : Binds K fd ps []) (hn : ps.length = n) (tk : Takes X W)
    (h : SOsN X W (e :: es) ts ms) (hlen : LenM ms n) (hdb : (x == ("__debug__" : Str)) = false := by decide) (he : starEach (e :: es) X.env = (false, eval e X.env) :: starEach es X.env := by rfl) (hpl : (backTo pos (starEach es X.env)).any (·.1) = false := by rfl) :
    SV X W (.Call (.Name x p) (e :: es) [] pos) (tCallSD (spOf K mg n Fm) [] (fun σ => WE W σ) ts) (mCallNO Fm [] ms) := by
  subst eP ew eK eM eB hn
  exact sv_callN Fo hr hg hm hk hb .nil (fun _ => .nil) tk h (fun E ags E' q => hlen E ags E' q) hdb he hpl
theorem se_callNC {k : Nat} {f : Addr} {fd : FuncData} {ps : List Str} {Fm : M Sl} {n : Nat} {x : Str} {p : Pos} {ms : M (List Ag)} (Fo : FnOk P w K mg base (L2.CX P w) k f fd ps (spOf K mg n Fm)) (eP : X.prog = P) (ew : X.w = w) (eK : X.K = K) (eM : X.mg = mg) (eB : X.base = base) (hr : Room k X.A) (hg : Gl X x) (hm : mg x = some (.ref f)) (hk : PySem.W.keepIn K (.ref f) = true) (hb : Binds K fd ps []) (hn : ps.length = n) (tk : Takes X W)
    (h : SOsN X W (e :: es) ts ms) (hlen : LenM ms n) (hdb : (x == ("__debug__" : Str)) = false := by decide) (he : starEach (e :: es) X.env = (false, eval e X.env) :: starEach es X.env := by rfl) (hpl : (backTo pos (starEach es X.env)).any (·.1) = false := by rfl) :
    SE X W (.Call (.Name x p) (e :: es) [] pos) (tCallSD (spOf K mg n Fm) [] (fun σ => WE W σ) ts) (mCallN Fm [] ms) := (sv_callNC Fo eP ew eK eM eB hr hg hm hk hb hn tk h hlen hdb he hpl).se
end
section
variable {E : En}
theorem a_mCallNO (Fm : M Sl) (dds : List D) (ms : M (List Ag)) : mCallNO Fm dds ms E = bnd ms (fun ags => fun E => match mCallO Fm dds (ret ags) E with
  | .ok z E' => .ok z E'.dropLast
  | .ex x E' => .ex x E'.dropLast
  | .bad => .bad) E := rfl
theorem a_mCallN (Fm : M Sl) (dds : List D) (ms : M (List Ag)) : mCallN Fm dds ms E = bnd (mCallNO Fm dds ms) thaw E := rfl
end
end Bt
namespace Bt
open PySem L2
structure Gh where
  a : Int
  b : Int
  ws : List D
abbrev MH (α : Type) := En → Gh → Option (α × En × Gh)
section
variable {α β : Type}
def hL (m : M α) : MH α := fun E g => match m E with
  | .ok a E' => some (a, E', g)
  | _ => none
def hB (m : MH α) (f : α → MH β) : MH β := fun E g => match m E g with
  | some (a, E', g') => f a E' g'
  | none => none
def hR (a : α) : MH α := fun E g => some (a, E, g)
theorem hL_ok {m : M α} {E E' : En} {g g' : Gh} {a : α} (h : hL m E g = some (a, E', g')) : m E = .ok a E' ∧ g' = g := by
  unfold hL at h
  cases e : m E with
  | ok b E1 => rw [e] at h; cases h; exact ⟨rfl, rfl⟩
  | ex _ _ => rw [e] at h; cases h
  | bad => rw [e] at h; cases h
theorem hB_ok {m : MH α} {f : α → MH β} {E E' : En} {g g' : Gh} {b : β} (h : hB m f E g = some (b, E', g')) : ∃ a E1 g1, m E g = some (a, E1, g1) ∧ f a E1 g1 = some (b, E', g') := by
  unfold hB at h
  cases e : m E g with
  | none => rw [e] at h; cases h
  | some z => obtain ⟨a, E1, g1⟩ := z; rw [e] at h; exact ⟨a, E1, g1, rfl, h⟩
end
abbrev HoG (g : Gh) (q : Addr) : HO := .lst [.int g.a, .int g.b, .ref q]
def RelG (K : PySem.W.Frag) (i : Nat) (F : Frm) (O : List Addr) (E : En) (g : Gh) (σ : L2.St) (H : Hp) : Prop :=
  ∃ p q vs, σ[i]? = some (some (.ref p)) ∧ Rel K ((p, HoG g q) :: (q, .lst vs) :: F) O E σ H ∧ p ≠ q ∧ (∀ x ∈ F, x.1 ≠ p ∧ x.1 ≠ q) ∧ RpAll K (Mask O H) vs g.ws
section
variable {K : PySem.W.Frag} {F F' : Frm} {O O' : List Addr} {E E' : En} {σ σ' : L2.St} {H H' : Hp} {g : Gh} {i : Nat}
theorem Rel.subF (R : Rel K F O E σ H) (h : ∀ x ∈ F', x ∈ F) : Rel K F' O E σ H :=
  ⟨R.len, R.trk, R.slot, R.apart, fun y hy => R.frm y (h y hy), fun i ds p e1 e2 y hy => R.fap i ds p e1 e2 y (h y hy)⟩
theorem RelG.use (R : RelG K i F O E g σ H) : ∃ P : Frm, Rel K (P ++ F) O E σ H ∧ ∀ (F' : Frm) O' E' σ' H', Rel K (P ++ F') O' E' σ' H' → (∀ x ∈ F', x ∈ F ∨ ∀ y ∈ P, x.1 ≠ y.1) → Le O H O' H' → σ'[i]? = σ[i]? → RelG K i F' O' E' g σ' H' := by
  obtain ⟨p, q, vs, hi, R1, hpq, hF, r⟩ := R
  refine ⟨[(p, HoG g q), (q, .lst vs)], R1, fun F' O' E' σ' H' R' hF' l hs => ⟨p, q, vs, hs.trans hi, R', hpq, fun x hx => ?_, r.mono l⟩⟩
  rcases hF' x hx with hx | hx
  · exact hF x hx
  · exact ⟨hx _ List.mem_cons_self, hx _ (List.mem_cons_of_mem _ List.mem_cons_self)⟩
end
structure GE (X : Cx) (i : Nat) (e : Expr) (t : TE) (m : MH D) : Prop where
  pe : PE X e t
  rd : ∀ F O E g σ H (Q : VK) d E' g', RelG X.K i F O E g σ H → m E g = some (d, E', g') → (∀ O' v H', RelG X.K i F O' E' g' σ H' → Le O H O' H' → Rp X.K (Mask O' H') v d → Q v H') → t σ H Q
section
variable {X : Cx} {W : WX} {i : Nat} {e a b : Expr} {t ta tb : TE} {K : PySem.W.Frag} {pos : Pos}
theorem SE.ge {m : M D} (h : SE X W e t m) : GE X i e t (hL m) := by
  refine ⟨h.pe, fun F O E g σ H Q d E' g' R em k => ?_⟩
  obtain ⟨em2, rfl⟩ := hL_ok em
  obtain ⟨P, R1, bk⟩ := R.use
  refine h.rd _ O E σ H Q R1 ?_
  rw [em2]
  exact fun O' v H' R' l r => k O' v H' (bk F O' E' σ H' R' (fun x hx => .inl hx) l rfl) l r
theorem se_popK {k : Expr} {tk : TE} {mk : M Ag} (eK : X.K = K) (hp : PE X k tk → PE X e (tBM K "list" rPopAt (tVar i) (tCons tk tNil))) (hk : SO X W k tk mk) : SE X W e (tBM K "list" rPopAt (tVar i) (tCons tk tNil)) (mPop i mk) := by
  subst eK
  exact se_pop hp hk
end
section
variable {X : Cx} {W : WX} {i j : Nat} {e : Expr} {es : List Expr} {ts : TA} {K : PySem.W.Frag} {pos p : Pos} {x : Str} {P : Program} {w : World} {mg : Str → Option Value} {base : Heap}
end
end Bt
namespace Bt
open PySem L2
section
variable {K : PySem.W.Frag} {F F' : Frm} {O O' : List Addr} {E E' : En} {σ σ' : L2.St} {H H' : Hp} {g : Gh} {i : Nat}
theorem RelG.at {D : Addr} {ws : List V} (R : RelG K i ((D, .lst ws) :: F) O E g σ H) : D ∈ O ∧ H D = some (.lst ws) := by
  obtain ⟨p, q, vs, hi, R1, hpq, hF, r⟩ := R
  exact R1.frm _ (List.mem_cons_of_mem _ (List.mem_cons_of_mem _ List.mem_cons_self))
theorem RelG.trk (R : RelG K i F O E g σ H) : Trk O H := by
  obtain ⟨p, q, vs, hi, R1, _⟩ := R
  exact R1.trk
theorem RelG.frm (R : RelG K i F O E g σ H) : ∀ x ∈ F, x.1 ∈ O ∧ H x.1 = some x.2 := by
  obtain ⟨p, q, vs, hi, R1, _⟩ := R
  exact fun x hx => R1.frm x (List.mem_cons_of_mem _ (List.mem_cons_of_mem _ hx))
end
section
variable (vs : List Nat) (g : MG) (me : MH D) (E0 : En)
end
section
variable {X : Cx} {W : WX} {i : Nat}
end
end Bt
namespace Bt
open PySem L2
def RelGE (K : PySem.W.Frag) (i : Nat) (F : Frm) (O' : List Addr) (E' : En) (g' : Gh) (σ' : L2.St) (H' : Hp) (v : V) : Fl → Prop
  | .nx => RelG K i F O' E' g' σ' H'
  | .bk => RelG K i F O' E' g' σ' H'
  | .ct => RelG K i F O' E' g' σ' H'
  | .rt s => match s with
    | .dat d => RelG K i F O' E' g' σ' H' ∧ Rp K (Mask O' H') v d
    | _ => False
abbrev KGS (K : PySem.W.Frag) (i : Nat) (F : Frm) (asg : List Nat) (σ : L2.St) (O : List Addr) (H : Hp) (D' : Ends) (f : Fl) (E' : En) (g' : Gh) : Prop := ∀ O' σ' H' v, RelGE K i F O' E' g' σ' H' v f → Le O H O' H' → Agr asg σ σ' → EndV σ' H' D' v f
structure GS (X : Cx) (i : Nat) (asg : List Nat) (st : Stmt) (t : TS) (m : MH Fl) : Prop where
  ps : PS X st t
  rd : ∀ F O E g σ H (D' : Ends) f E' g', RelG X.K i F O E g σ H → m E g = some (f, E', g') → KGS X.K i F asg σ O H D' f E' g' → t D' σ H
structure GSs (X : Cx) (i : Nat) (asg : List Nat) (st : List Stmt) (t : TS) (m : MH Fl) : Prop where
  ps : PSs X st t
  rd : ∀ F O E g σ H (D' : Ends) f E' g', RelG X.K i F O E g σ H → m E g = some (f, E', g') → KGS X.K i F asg σ O H D' f E' g' → t D' σ H
def okFl : Fl → Bool
  | .rt (.dat _) => true
  | .rt _ => false
  | _ => true
def hLS (m : M Fl) : MH Fl := hB (hL m) fun f => if okFl f then hR f else fun _ _ => none
section
variable {X : Cx} {W : WX} {i : Nat} {e : Expr} {t : TE} {pos : Pos} {K : PySem.W.Frag}
theorem SS.gs {asg : List Nat} {st : Stmt} {t : TS} {m : M Fl} (h : SS X W asg st t m) (hia : i ∉ asg) : GS X i asg st t (hLS m) := by
  refine ⟨h.ps, fun F O E g σ H D' f E' g' R em k => ?_⟩
  obtain ⟨f1, E1, g1, e0, em1⟩ := hB_ok em
  obtain ⟨e1, rfl⟩ := hL_ok e0
  split at em1
  · rename_i hf
    cases em1
    obtain ⟨P, R1, bk⟩ := R.use
    refine h.rd _ O E σ H D' R1 ?_
    rw [e1]
    refine fun O' σ' H' v R' l ag => k O' σ' H' v ?_ l ag
    have lnk := ag i hia
    cases f with
    | nx => exact bk F O' E' σ' H' R' (fun x hx => .inl hx) l lnk
    | bk => exact bk F O' E' σ' H' R' (fun x hx => .inl hx) l lnk
    | ct => exact bk F O' E' σ' H' R' (fun x hx => .inl hx) l lnk
    | rt s =>
      cases s with
      | dat d => exact ⟨bk F O' E' σ' H' R'.1 (fun x hx => .inl hx) l lnk, R'.2⟩
      | un => cases hf
      | ow _ => cases hf
      | scr _ => cases hf
  · cases em1
theorem RelG.out {K : PySem.W.Frag} {F : Frm} {O : List Addr} {E : En} {g : Gh} {σ : L2.St} {H : Hp} (R : RelG K i F O E g σ H) : Rel K F O E σ H := by
  obtain ⟨p, q, vs, hi, R1, _⟩ := R
  exact R1.subF fun x hx => List.mem_cons_of_mem _ (List.mem_cons_of_mem _ hx)
end
section
variable {P : Program} {w : World} {K : PySem.W.Frag} {mg : Str → Option Value} {base : Heap}
theorem GSs.ex {X : Cx} {i : Nat} {asg asg' : List Nat} {st : List Stmt} {t : TS} {m : MH Fl} (h : GSs X i asg st t m) (hs : ∀ j ∈ asg, j ∈ asg') : ∃ t, GSs X i asg' st t m := ⟨t, h.ps, fun F O E g σ H D' f E' g' R em k => h.rd F O E g σ H D' f E' g' R em fun O' σ' H' v R' l ag => k O' σ' H' v R' l fun j hj => ag j fun z => hj (hs j z)⟩
end
theorem relS (x : Str) (t) : RelV (.str x) (Value.str x t) := ⟨t, rfl⟩
end Bt
namespace Bt
open PySem L2
end Bt
namespace Bt
open PySem L2
end Bt
namespace Bt
open PySem L2 PySem.Spec PyProof.Rows
section
variable {P : Program} {w : World} {K : PySem.W.Frag} {mg : Str → Option Value} {base : Heap}
end
section
variable {X : Cx} {P : Program} {w : World} {K : PySem.W.Frag} {mg : Str → Option Value} {base : Heap} {e : Expr} {pos : Pos}
end
end Bt
namespace Bt
open PySem L2
section
variable {X : Cx} {W : WX} {e : Expr} {t : TE}
end
end Bt
namespace Bt
open PySem L2
section
variable {K : PySem.W.Frag} {F : Frm} {O : List Addr} {E : En} {σ : L2.St} {H : Hp}
end
section
variable {X : Cx} {W : WX} {e e1 e2 e3 : Expr} {es : List Expr} {t t1 t2 t3 : TE} {ts : TA} {K : PySem.W.Frag} {pos p pl : Pos} {x : Str} {P : Program} {w : World} {mg : Str → Option Value} {base : Heap}
end
end Bt
namespace Bt
open PySem L2
structure SPs (X : Cx) (W : WX) (pos : Pos) (keys : List (Option Expr)) (values : List Expr) (trs : List (TE × TE)) (m : M (List (Key × D))) : Prop where
  pp : PPs X pos keys values trs
  rd : ∀ F O E σ H (Q : List (V × V) → Hp → Prop), Rel X.K F O E σ H → Sat (m E) (fun es E' => ∀ O' (kvs : List (Key × V)) H', Rel X.K F O' E' σ H' → Le O H O' H' → RpKV X.K (Mask O' H') kvs es → Q (kvs.map fun kv => (kV kv.1, kv.2)) H') (KX X.K X.mg F σ O H W) → tPairs trs σ H Q
def mPairC (mk mv : M D) (ms : M (List (Key × D))) : M (List (Key × D)) := bnd mk fun a => bnd mv fun b => bnd ms fun es => fun E => match keyOf a with
  | some k => .ok ((k, b) :: es) E
  | none => .bad
def mDisp (m : M (List (Key × D))) : M Ob := bnd m fun es => fun E => if es.length ≤ 15 then .ok (.d (mergeD [] es)) E else .bad
def mNewO (mf : M Ob) (ms : M (List Ag)) : M (List Ag) := bnd mf fun ob => bnd ms fun as => fun E => .ok (.r E.length :: as) (E ++ [.ow ob])
section
variable {X : Cx} {W : WX} {pos : Pos} {keys : List (Option Expr)} {values : List Expr} {trs : List (TE × TE)} {ms : M (List (Key × D))}
theorem sps_nil : SPs X W pos [] [] [] (ret []) := ⟨pps_nil, fun F O E σ H Q R s => s O [] H R (Le.refl O H) .nil⟩
theorem sps_cons {k v : Expr} {tk tv : TE} {mk mv : M D} (hk : SE X W k tk mk) (hv : SE X W v tv mv) (hr : SPs X W pos keys values trs ms) : SPs X W pos (some k :: keys) (v :: values) ((tk, tv) :: trs) (mPairC mk mv ms) := by
  refine ⟨pps_cons hk.pe hv.pe hr.pp, fun F O E σ H Q R s => hk.rd F O E σ H _ R (s.bnd.mono (fun a E1 k1 O1 x H1 R1 l1 r1 => ?_) (fun _ _ k => k))⟩
  refine hv.rd F O1 E1 σ H1 _ R1 (k1.bnd.mono (fun b E2 k2 O2 y H2 R2 l2 r2 => ?_) (KX.le l1))
  refine hr.rd F O2 E2 σ H2 _ R2 (k2.bnd.mono (fun es E3 k3 O3 kvs H3 R3 l3 r3 => ?_) (KX.le (l1.trans l2)))
  cases ek : keyOf a with
  | none => rw [ek] at k3; exact k3.elim
  | some kk =>
    rw [ek] at k3
    have ex : x = kV kk := r1.key ek
    subst ex
    exact k3 O3 ((kk, y) :: kvs) H3 R3 (l1.trans (l2.trans l3)) (.cons ⟨rfl, r2.mono l3⟩ r3)
theorem sfo_disp (hs : SPs X W pos keys values trs ms) (hall : keys.all (·.isSome) = true := by rfl) (hl : keys.length = values.length := by rfl) (h0 : keys ≠ [] := by exact fun h => nomatch h) (h15 : keys.length ≤ 15 := by decide) : SFO X W (.Dict keys values pos) (tDisp trs) (mDisp ms) := by
  refine ⟨pe_disp hs.pp hall hl h0 h15, fun F O E σ H Q R s => fun p np => ?_⟩
  have ln := mask_cons_new (O := O) (o := HO.dK []) np
  have hF := R.newApart np
  refine hs.rd ((p, .dK []) :: F) (p :: O) E σ (upd H p (.dK [])) _ (R.newF np) (s.bnd.mono (fun es E1 k O1 kvs H1 R1 l1 r1 => ?_) (fun x E k O' H' c dd R' l' e => k O' H' c dd R'.unF (Le.trans ln l') e))
  obtain ⟨hp, hh⟩ := R1.frm _ List.mem_cons_self
  refine ⟨hh, kvs, rfl, ?_⟩
  by_cases c : es.length ≤ 15
  · rw [if_pos c] at k
    have em : Mask O1 (upd H1 p (.dK (mergeK [] kvs))) = Mask O1 H1 := mask_upd_in hp
    refine ⟨by rw [RpKV.length r1]; exact c, k O1 p _ _ (R1.updF hF) hF ?_ ?_⟩
    · unfold Le; rw [em]; exact Le.trans ln l1
    · show RpKV _ _ _ _
      rw [em]; exact RpKV.merge r1 .nil
  · rw [if_neg c] at k; exact k.elim
end
section
variable {X : Cx} {W : WX} {e : Expr} {es : List Expr} {t : TE} {ts : TA}
theorem so_newO {mf : M Ob} {ms : M (List Ag)} (h : SFO X W e t mf) (hs : SOs X W es ts ms) (hst : starEach (e :: es) X.env = (false, eval e X.env) :: starEach es X.env := by rfl) : SOsN X W (e :: es) (tCons t ts) (mNewO mf ms) := by
  refine ⟨pa_cons h.pe hs.pa hst, fun F O E σ H Q R s => h.rd F O E σ H _ R (s.bnd.mono (fun ob E1 k O1 p ho H1 R1 hF l1 r1 => ?_) (fun _ _ k => k))⟩
  refine hs.rd _ O1 E1 σ H1 _ R1 (k.bnd.mono (fun as E2 k2 O2 us H2 R2 l2 avs => ?_) (fun x E k O' H' c dd R' l' e => k O' H' c dd R'.unF (l1.trans l') e))
  refine k2 O2 (.ref p :: us) H2 (some (.ref p)) (R2.push (r1.mono l2) hF) (l1.trans l2) (.cons ?_ (Bt.Paired.agpush avs))
  show (σ ++ [some (V.ref p)])[E2.length]? = some (some (V.ref p))
  rw [R2.len, List.getElem?_append_right (Nat.le_refl _), Nat.sub_self]
  rfl
theorem lm_newO {mf : M Ob} {ms : M (List Ag)} {n : Nat} (h : LenM ms n) : LenM (mNewO mf ms) (n + 1) := by
  intro E as E' e
  unfold mNewO bnd at e
  cases e1 : mf E with
  | bad => rw [e1] at e; cases e
  | ex _ _ => rw [e1] at e; cases e
  | ok a E1 =>
    rw [e1] at e
    dsimp only at e
    cases e2 : ms E1 with
    | bad => rw [e2] at e; cases e
    | ex _ _ => rw [e2] at e; cases e
    | ok bs E2 =>
      rw [e2] at e
      dsimp only at e
      cases e
      rw [List.length_cons, h _ _ _ e2]
end
section
variable {E : En}
theorem a_mPairC (mk mv : M D) (ms : M (List (Key × D))) : mPairC mk mv ms E = bnd mk (fun a => bnd mv fun b => bnd ms fun es => fun E => match keyOf a with
  | some k => .ok ((k, b) :: es) E
  | none => .bad) E := rfl
theorem a_mDisp (m : M (List (Key × D))) : mDisp m E = bnd m (fun es => fun E => if es.length ≤ 15 then .ok (.d (mergeD [] es)) E else .bad) E := rfl
theorem a_mNewO (mf : M Ob) (ms : M (List Ag)) : mNewO mf ms E = bnd mf (fun ob => bnd ms fun as => fun E => .ok (.r E.length :: as) (E ++ [.ow ob])) E := rfl
end
end Bt
namespace Bt
open PySem PySem.Spec PyProof.Rows L2
section
variable {prog : Program} {w : World} {A : Around} {E : Value → Shared → Prop} {s : Shared}
end
section
variable {X : Cx} {W : WX} {e tg : Expr}
end
section
variable {E : En}
end
end Bt
namespace Bt
open PySem PySem.Spec PyProof.Rows L2
structure ZlG (xs ys : Array Value) (lo : Addr) (h : Heap) (as : List Addr) : Prop where
  rise : as.Pairwise (· < ·)
  above : ∀ a ∈ as, lo ≤ a
  pairs : ∀ (j : Nat) (a : Addr), as[j]? = some a → ∃ x y, xs[j]? = some x ∧ ys[j]? = some y ∧ IsPair h a x y
theorem ZlG.there {xs ys : Array Value} {lo : Addr} {h : Heap} {as : List Addr} (g : ZlG xs ys lo h as) {a : Addr} (ha : a ∈ as) : a < h.objs.size := by
  obtain ⟨j, hj⟩ := List.mem_iff_getElem?.mp ha
  obtain ⟨_, _, _, _, e⟩ := g.pairs j a hj
  exact Heap.lt_size e
theorem ZlG.keep {xs ys : Array Value} {lo : Addr} {h h' : Heap} {as : List Addr} (g : ZlG xs ys lo h as) (k : ∀ b o, lo ≤ b → h.get? b = some o → h'.get? b = some o) : ZlG xs ys lo h' as := ⟨g.rise, g.above, fun j a hj => by
  obtain ⟨x, y, e1, e2, e3⟩ := g.pairs j a hj
  exact ⟨x, y, e1, e2, k a _ (g.above a (List.mem_of_getElem? hj)) e3⟩⟩
section
variable {prog : Program} {w : World} {A : Around} {s : Shared} {R : Result → Shared → Prop}
end
section
variable {prog : Program} {w : World} {A : Around} {E : Value → Shared → Prop} {s : Shared}
end
section
variable {X : Cx} {W : WX}
end
section
variable {E : En}
end
end Bt
namespace Bt
open PySem PySem.Spec PyProof.Rows L2
section
variable {X : Cx}
end
end Bt
namespace Bt
open PySem PySem.Spec PyProof.Rows L2
section
variable {X : Cx} {W : WX}
end
section
variable {E : En}
end
end Bt
namespace Bt
open PySem PySem.Spec PyProof.Rows _root_.SS
section
variable {prog : Program} {w : World} {A : Around} {R : Result → Shared → Prop} {I : Addr} {fp wr : List Addr} {G : Array GenState → Array GenState → Prop} {n : Nat} {P : Nat → Value → Prop} {St : Nat → Shared → Prop}
theorem loopStrN (W : WalksS prog w A.in1 I fp wr G n P St) (S : Addr) (hSf : S ∉ fp) (xs : List Str) (hsz : xs.length = n) (nd : xs.Nodup) (hn1 : n + 1 < scanBound)
    (hval : ∀ i v, P i v → ∃ t, v = .str (xs.getD i Str.empty) t) :
    ∀ (k i : Nat) (s : Shared), n - i = k → i ≤ n → St i s →
      s.heap.SetOf (PySem.strKind prog w) S (fun k' => (xs.take i).any (· == k')) i →
      (∀ s', Moved (S :: wr) G s s' → s'.heap.SetOf (PySem.strKind prog w) S (fun k' => (xs.take n).any (· == k')) n → R (.ok (.ret .none)) s') →
      codeAny (model prog w) A (.builtin "set.update.loop" ⟨[.ref S, .ref I], []⟩) R s := by
  have hSw : S ∉ wr := fun h => hSf (W.sub _ h)
  have hsub : ∀ b ∈ wr, b ∈ S :: wr := fun b hb => List.mem_cons_of_mem _ hb
  intro k
  induction k with
  | zero =>
    intro i s hk hi hst hS hR
    have hin : i = n := by omega
    subst hin
    refine codeAny_builtin PyProof.Rows.F.entry_set_update_loop ?_
    rw [Around.under_plainId PyProof.Rows.F.plain_set_update_loop _]
    show wpAny _ A.in1 (pyNext (.ref I) >>= _) _ _ s
    refine wpAny_bind (W.done s _ _ hst fun s' hm => ?_)
    show wpAny _ A.in1 (PySem.ret Value.none) _ _ s'
    exact wpAny_pure (hR s' (hm.mono hsub) (by
      obtain ⟨o, es, ep, t, ho, rest⟩ := hS
      exact ⟨o, es, ep, t, hm.heap S _ hSw ho, rest⟩))
  | succ k ih =>
    intro i s hk hi hst hS hR
    have hlt : i < n := by omega
    refine codeAny_builtin PyProof.Rows.F.entry_set_update_loop ?_
    rw [Around.under_plainId PyProof.Rows.F.plain_set_update_loop _]
    show wpAny _ A.in1 (pyNext (.ref I) >>= _) _ _ s
    refine wpAny_bind (W.item i s _ _ hlt hst fun v s' hP hst' hm => ?_)
    obtain ⟨t, rfl⟩ := hval i v hP
    have hS' : s'.heap.SetOf (PySem.strKind prog w) S (fun k' => (xs.take i).any (· == k')) i := by
      obtain ⟨o, es, ep, tb, ho, rest⟩ := hS
      exact ⟨o, es, ep, tb, hm.heap S _ hSw ho, rest⟩
    show wpAny _ A.in1 (holding [Value.str (xs.getD i Str.empty) t] (setAdd S (.str (xs.getD i Str.empty) t)) >>= _) _ _ s'
    refine wpAny_bind (wpAny_holding ?_)
    unfold setAdd
    refine wpAny_holding ?_
    refine wpAny_bind ((PySem.strKind prog w).pyHash (k := xs.getD i Str.empty) (strKind_is _ _ _ _) ?_)
    refine wpAny_setAddHashed_of (knd := PySem.strKind prog w) (s := { s' with toks := s'.toks + 1 }) (strKind_is _ _ _ _) rfl hS' (by omega) fun h' hsb hS2 => ?_
    have hSi : h'.SetOf (PySem.strKind prog w) S (fun k' => (xs.take (i + 1)).any (· == k')) (i + 1) := by
      have hx : i < xs.length := by omega
      have ex : xs.getD i Str.empty = xs[i] := by simp [List.getD, hx]
      have e1 : xs.take (i + 1) = xs.take i ++ [xs[i]] := by rw [List.take_succ_eq_append_getElem hx]
      have no : (xs.take i).any (· == xs.getD i Str.empty) = false := by
        rw [ex, List.any_eq_false]
        intro y hy
        have hn : y ≠ xs[i] := fun e => by
          obtain ⟨j, hj, ej⟩ := List.getElem_of_mem hy
          have hj' : j < i := by rw [List.length_take] at hj; omega
          have ej' : xs[j]'(by omega) = y := by rw [← ej, List.getElem_take]
          exact (List.pairwise_iff_getElem.mp nd) j i (by omega) hx hj' (by rw [ej', e])
        simpa using hn
      refine SetOf_congr hS2 (fun k' => ?_) (by rw [no]; simp)
      rw [e1, List.any_append, ex]
      by_cases e : k' = xs[i]
      · subst e; simp
      · have hb : (xs[i] == k') = false := by simpa [beq_iff_eq] using (fun h' : xs[i] = k' => e h'.symm)
        simp [hb, e]
    refine wpAny_pure ⟨plainId_quiet PyProof.Rows.F.plain_set_update_loop _, ih (i + 1) _ (by omega) hlt (W.frame _ s' _ _ hst' (Nat.le_succ _) fun b hb o e => ?_) hSi fun s'' hm'' hS'' => ?_⟩
    · rw [hsb.2 b (fun h : b = S => hSf (by rw [← h]; exact hb))]; exact e
    · refine hR s'' (Moved.trans W.gtrans ((hm.mono hsub).then_heap (Nat.le_succ _) fun b o hb e => ?_) hm'') hS''
      rw [hsb.2 b (fun h : b = S => hb (by rw [h]; exact List.mem_cons_self))]; exact e
end

section
variable {prog : Program} {w : World} {A : Around} {E : Value → Shared → Prop} {s : Shared}
set_option maxHeartbeats 3200000 in
theorem call_set_listN {l : Addr} {items : Array Value} {xs : List Str} {Q : Value → Shared → Prop}
    (hh : A.handled = none) (hl : s.heap.IsList l items) (hi : PyProof.Rows.StrsAre items.toList xs) (nd : xs.Nodup) (hn1 : xs.length + 1 < scanBound)
    (h : ∀ (h' : Heap) (tk : Nat), h'.SetOf (PySem.strKind prog w) s.heap.objs.size (fun k' => (xs.take items.size).any (· == k')) items.size →
      (∀ b o, b < s.heap.objs.size → s.heap.get? b = some o → h'.get? b = some o) → Q (.ref s.heap.objs.size) { s with heap := h', toks := tk }) :
    wpAny (model prog w) A (call (.type "set") [.ref l]) Q E s := by
  obtain ⟨c, tl, hmro⟩ := PySem.F.called_set.mro
  have hmade := PySem.F.called_set.made
  have hsub := PySem.F.called_set.sub
  refine wpAny_call (codeAny_of_tree ?_)
  show wpAny _ _ (callAny (.type "set") _) _ _ _
  refine wpAny_pure ⟨Code.quiet_builtin _ (by decide +kernel), codeAny_builtin PySem.F.entry_type_call ?_⟩
  rw [Around.under_plain (weight_type_call_type "set" [.ref l] []) rfl]
  have h1 := PySem.F.called_set.notType
  have h2 := PySem.F.called_set.canCreate
  have hct := PySem.F.typeCall_set_1 (.ref l)
  repeat (any_goals (first | assumption | wp_step))

  refine codeAny_mono (code_set_new_1 (.ref l) (E := E) (Q₁ := fun obj s₁ => ∃ led : Bool, obj = .ref s.heap.objs.size ∧ s₁ = { s with heap := s.heap.push { cls := .type "set", dict := none, data := .set #[] 0 (.fresh 0 0 led) } }) fun led => ⟨led, rfl, rfl⟩) fun r s₁ hr => ?_
  cases r with
  | error e => exact hr
  | ok fl =>
    cases fl with
    | ret obj =>
      obtain ⟨led, rfl, rfl⟩ := hr
      have hS : (s.heap.push { cls := .type "set", dict := none, data := .set #[] 0 (.fresh 0 0 led) }).get? s.heap.objs.size = some { cls := .type "set", dict := none, data := .set #[] 0 (.fresh 0 0 led) } := Heap.get?_push_size _ rfl
      have hT : Shared.TypeIs { s with heap := s.heap.push { cls := .type "set", dict := none, data := .set #[] 0 (.fresh 0 0 led) } } (.ref s.heap.objs.size) "set" := ⟨_, hS, rfl⟩
      have hli := PySem.F.called_set.init.lookup
      have hbi := PySem.F.called_set.init.bind (.ref s.heap.objs.size)
      repeat (any_goals (first | assumption | wp_step))

      refine codeAny_mono (codeAny_call_builtin (R := wants (fun r s₂ => r = .none ∧ ∃ h' tk, s₂ = { s with heap := h', toks := tk } ∧
          h'.SetOf (PySem.strKind prog w) s.heap.objs.size (fun k' => (xs.take items.size).any (· == k')) items.size ∧
          (∀ b o, b < s.heap.objs.size → s.heap.get? b = some o → h'.get? b = some o)) E) PySem.F.called_set.init.plain PySem.F.entry_set_init (check_set_init_1 hT ?_)) fun r₂ s₂ hr₂ => ?_
      · obtain ⟨ol, hol, hcl, nl, hdl⟩ := hl
        obtain ⟨ocls, odict, odata, oslots⟩ := ol
        simp only at hcl hdl
        subst hcl; subst hdl
        have hol' : (s.heap.push { cls := .type "set", dict := none, data := .set #[] 0 (.fresh 0 0 led) }).get? l = some { cls := .type "list", dict := odict, data := .seq items nl, slots := oslots } := Heap.get?_push_of_some _ hol
        have hsls := PySem.F.sub_list_set
        have hslf := PySem.F.sub_list_frozenset
        have hne : (Value.type "list" == Value.type "dict") = false := by decide
        have hl1 : (s.heap.push { cls := .type "set", dict := none, data := .set #[] 0 (.fresh 0 0 led) }).IsList l items := ⟨_, hol', rfl, nl, rfl⟩
        unfold Builtin.«set.__init__» noKeywords Builtin.Frozenset.updateFrom
        generalize hPI : pyIter = PI
        wp_walk
        subst hPI

        refine wpAny_pyIter_list hl1 ?_
        refine wpAny_bind (wpAny_runValue ?_)
        have hlS : l < s.heap.objs.size := Heap.lt_size hol
        have hh3 : A.in1.in1.in1.handled = none := by simp [hh]
        have hneI : l ≠ (s.heap.push { cls := .type "set", dict := none, data := .set #[] 0 (.fresh 0 0 led) }).objs.size := by
          rw [Heap.size_push]; exact Nat.ne_of_lt (Nat.lt_succ_of_lt hlS)
        have hSf : s.heap.objs.size ∉ [(s.heap.push { cls := .type "set", dict := none, data := .set #[] 0 (.fresh 0 0 led) }).objs.size, l] := by
          rw [Heap.size_push]; simp only [List.mem_cons, List.mem_singleton, List.not_mem_nil, or_false, not_or]
          exact ⟨Nat.ne_of_lt (Nat.lt_succ_self _), Nat.ne_of_gt hlS⟩
        have hsz : xs.length = items.size := by rw [← StrsAre.len_eq hi, Array.length_toList]
        have hval : ∀ (i : Nat) (v : Value), items[i]? = some v → ∃ t, v = .str (xs.getD i Str.empty) t := fun i v hv => strs_at hi i v (by rw [Array.getElem?_toList]; exact hv)
        refine loopStrN ((Walks.list hh3 _ l hneI items).toS) s.heap.objs.size
          hSf xs hsz nd (by rw [← hsz]; exact hn1) hval (items.size - 0) 0 _ (by omega) (Nat.zero_le _)
          ⟨⟨_, Heap.get?_push_size _ rfl, rfl, rfl⟩, (hl1.push _)⟩ ?hS0 ?hR
        case hS0 =>
          have hget : ((s.heap.push { cls := .type "set", dict := none, data := .set #[] 0 (.fresh 0 0 led) }).push { cls := .type "list_iterator", data := .fields #[.ref l, .int 0 0] }).get? s.heap.objs.size
              = some { cls := .type "set", dict := none, data := .set #[] 0 (.fresh 0 0 led) } := Heap.get?_push_of_some _ hS
          exact PyProof.Rows.SetOf_congr ((PyProof.Rows.setObjOf_fresh (knd := PySem.strKind prog w) led).setOf hget (by unfold scanBound; omega)) (fun _ => rfl) rfl
        case hR =>
          intro s' hm hS'
          obtain ⟨h', g', d', tk', os'⟩ := s'
          have eg : g' = s.gens := hm.gens
          have ed : d' = s.drawn := hm.drawn
          have eo : os' = s.os := hm.os
          subst eg; subst ed; subst eo
          show wpAny _ _ _ _ _ _
          refine wpAny_pure ?_
          show wpAny _ _ (PySem.ret Value.none) _ _ _
          refine wpAny_pure ⟨rfl, h', tk', rfl, hS', fun b o hb e => ?_⟩
          have hb1 : b ≠ s.heap.objs.size := Nat.ne_of_lt hb
          have hb2 : b ≠ (s.heap.push { cls := .type "set", dict := none, data := .set #[] 0 (.fresh 0 0 led) }).objs.size := by
            rw [Heap.size_push]; exact Nat.ne_of_lt (Nat.lt_succ_of_lt hb)
          exact hm.heap b o (by simp only [List.mem_cons, List.mem_singleton, List.not_mem_nil, or_false, not_or]; exact ⟨hb1, hb2⟩) (Heap.get?_push_of_some _ (Heap.get?_push_of_some _ e))

      · cases r₂ with
        | error e => exact hr₂
        | ok fl₂ =>
          cases fl₂ with
          | ret r =>
            obtain ⟨rfl, h', tk, rfl, hS', hk'⟩ := hr₂
            repeat (any_goals (first | assumption | wp_step))
            exact h _ _ hS' hk'
          | _ => exact hr₂.elim
    | _ => exact hr.elim

end
end Bt
namespace Bt
open PySem L2 PySem.Spec PyProof.Rows
def tLenSetN (K : PySem.W.Frag) (ta : TE) : TE := fun σ H Q => ta σ H fun x H1 => ∃ (l : Addr) (xs : List Str), x = .ref l ∧ SqL K H1 l (xs.map V.str) ∧ xs.Nodup ∧ xs.length + 1 < scanBound ∧ Q (.int (xs.length : Nat)) H1
section
variable {X : Cx} {W : WX}
theorem pe_lenSetN {a : Expr} {ta : TE} {p p2 q pos : Pos} (hc : X.calm = true) (hg : Gl X "len") (hm : X.mg "len" = none) (hg2 : Gl X "set") (hm2 : X.mg "set" = none) (ha : PE X a ta)
    (na : starEach [a] X.env = (false, eval a X.env) :: starEach [] X.env := by rfl) : PE X (.Call (.Name "len" p) [.Call (.Name "set" p2) [a] [] q] [] pos) (tLenSetN X.K ta) := by
  refine ⟨fun pins s σ H Q I h => ?_⟩
  refine Call_ (ld_blt I hg hm PySem.boot_len ?_)
  refine PyProof.Rows.callWith_builtin1 (PyProof.Rows.args_cons ?_ rfl) rfl rfl
  refine Call_ (ld_blt I hg2 hm2 PyProof.Rows.boot_set ?_)
  refine PyProof.Rows.callWith_type1 (PyProof.Rows.args_cons (thn (ha.run pins s σ H _ I h) fun v s1 ⟨x, H1, I1, r1, q1⟩ => PyProof.Rows.args_nil ?_) na) na rfl
  obtain ⟨l, xs, rfl, hq, nd, h1, q1⟩ := q1
  cases r1
  obtain ⟨its, r, pl, hz⟩ := I1.list hq
  have hl : its.toArray.size = xs.length := by rw [List.size_toArray, ← r.length, List.length_map]
  refine call_set_listN (I1.ok.hd hc) pl.isList (by simpa using strsAre_of r) nd h1 fun h' tk hS hk => ?_
  rw [hl] at hS
  refine PyProof.Rows.args_nil ?_
  obtain ⟨o, es, ep, t, ho, hex, hd, _, _, _, hf, hn⟩ := hS
  have I2 : Inv X pins σ H1 { s1 with heap := h', toks := tk } := I1.kept fun b o e => hk b o (Heap.lt_size e) e
  refine call_len_set ho hex hd hf (by rw [hn]; unfold scanBound at h1; omega) ⟨.int (xs.length : Nat), H1, I2.tok _, ⟨_, by rw [hn]⟩, q1⟩
def strsOfD : List D → Option (List Str)
  | [] => some []
  | .str x :: ds => (strsOfD ds).map (x :: ·)
  | _ :: _ => none
theorem strsOfD_eq : ∀ {ds : List D} {xs : List Str}, strsOfD ds = some xs → ds = xs.map .str
  | [], xs, h => by cases h; rfl
  | d :: ds, xs, h => by
    cases d with
    | str x =>
      cases e : strsOfD ds with
      | none => rw [strsOfD, e] at h; cases h
      | some ys => rw [strsOfD, e] at h; cases h; rw [strsOfD_eq e]; rfl
    | _ => cases h
theorem strsOfD_map : ∀ xs : List Str, strsOfD (xs.map .str) = some xs
  | [] => rfl
  | x :: xs => by rw [List.map_cons, strsOfD, strsOfD_map xs]; rfl
theorem RpAll.strsD {K : PySem.W.Frag} {G : Hp} : ∀ {vs : List V} {xs : List Str}, RpAll K G vs (xs.map .str) → vs = xs.map V.str
  | _, [], r => by cases r; rfl
  | _, x :: xs, r => by
    cases r with
    | cons h r => cases h; rw [RpAll.strsD r]; rfl
noncomputable def lenSetF : D → Option D
  | .list ds => match strsOfD ds with
    | some xs => open Classical in if xs.Nodup ∧ xs.length ≤ 2000 then some (.int (xs.length : Nat)) else none
    | none => none
  | _ => none
theorem lenSetF_ok {xs : List Str} (h : xs.Nodup) (hl : xs.length ≤ 2000) : lenSetF (.list (xs.map .str)) = some (.int (xs.length : Nat)) := by
  unfold lenSetF
  dsimp only
  rw [strsOfD_map]
  dsimp only
  rw [if_pos ⟨h, hl⟩]
noncomputable def mLenSet (m : M D) : M D := bnd m fun d => lift (lenSetF d)
theorem a_mLenSet (m : M D) (E : En) : mLenSet m E = bnd m (fun d => lift (lenSetF d)) E := rfl
theorem se_lenSet {a : Expr} {ta : TE} {m : M D} {p p2 q pos : Pos} (hc : X.calm = true) (hg : Gl X "len") (hm : X.mg "len" = none) (hg2 : Gl X "set") (hm2 : X.mg "set" = none) (ha : SE X W a ta m)
    (na : starEach [a] X.env = (false, eval a X.env) :: starEach [] X.env := by rfl) : SE X W (.Call (.Name "len" p) [.Call (.Name "set" p2) [a] [] q] [] pos) (tLenSetN X.K ta) (mLenSet m) := by
  refine ⟨pe_lenSetN hc hg hm hg2 hm2 ha.pe na, fun F O E σ H Q R s => ha.rd F O E σ H _ R (s.bnd.mono (fun d E1 k O1 v H1 R1 l1 r => ?_) (fun _ _ k => k))⟩
  obtain ⟨z, e, k⟩ := Sat.lift k
  unfold lenSetF at e
  split at e
  · rename_i ds
    split at e
    · rename_i xs hx
      split at e
      · rename_i hn
        cases e
        cases r with
        | lst h r =>
          rw [strsOfD_eq hx] at r
          rw [r.strsD] at h
          exact ⟨_, xs, rfl, SqL.of (mask_le O1 H1 _ _ h), hn.1, by unfold scanBound; omega, k O1 _ H1 R1 l1 (.int _)⟩
      · cases e
    · cases e
  · cases e
end
end Bt
namespace Bt
open PySem L2 PySem.Spec PyProof.Rows
def moreI (S : Int → Bool) (k : Int) : Int → Bool := fun j => S j || decide (j = k)
def moreJ (S : Int → Bool) (n : Nat) (k : Int) : Nat := if S k = true then n else n + 1
abbrev noI : Int → Bool := fun _ => false
def tSi (w : World) (wi : TI) (g : TG) (tt : TT) (te : TE) (vs : List Nat) : TE := fun σ H Q =>
  wi σ H fun J H1 => ∀ D, H1 D = none → ∃ Z : Nat → Nat → Hp → Prop,
    (∃ m, Z 0 m (upd H1 D (SetO w D noI 0))) ∧ ∀ i m G, Z i m G →
    (J.stop i G ∧ Q (.ref D) G) ∨
    (J.go i G ∧ ∃ Y : Hp → Prop, (∀ G', Y G' → ∃ m', m' < m ∧ Z (i + 1) m' G') ∧
      ∀ x G', J.yld i G x G' → g x (L2.wipe σ vs) G' fun σ2 H2 => L2.wipe σ2 vs = L2.wipe σ vs ∧
        tt σ2 H2 fun b H3 => if b = true
          then te σ2 H3 fun y H4 => ∃ k S n, y = V.int k ∧ H4 D = some (SetO w D S n) ∧ n + 1 < scanBound ∧ Y (upd H4 D (SetO w D (moreI S k) (moreJ S n k)))
          else Y H3)
section
variable {X : Cx}
theorem pe_si {elt tg iter : Expr} {ifs : List Expr} {scope : Scope} {own : List (PySem.Str × Nat)} {pos : Pos} {wi : TI} {g : TG} {tt : TT} {te : TE}
    (hc : X.calm = true) (hN : X.N.Nodup) (hi : PI X tg iter wi) (ok : BlkOk X.N X.env.scope scope own)
    (hg : ∀ s H C cl fp, PG (X.blk s H scope (compEnvC scope cl C X.env) fp) tg g)
    (ht : ∀ s H C cl fp, PTs (X.blk s H scope (compEnvC scope cl C X.env) fp) ifs tt)
    (he : ∀ s H C cl fp, PE (X.blk s H scope (compEnvC scope cl C X.env) fp) elt te)
    (hs : ∀ x, foldedSetIterable iter X.env x = pure x := by intro _; rfl) :
    PE X (.SetComp elt [⟨tg, iter, ifs, 0⟩] scope pos) (tSi X.w wi g tt te (own.map (·.2))) := by
  refine ⟨fun pins s σ H Q I h => ?_⟩
  rw [PpSet.eval_SetComp]
  have cl0 : closureFor scope X.env = pure (cloFrom X.env.cells scope.names []) :=
    closure_ok fun y hy e => I.ok.has _ ((ok.free y hy e).imp id id)
  refine wpAny_comprehension_free (use := none) rfl hs cl0 ok.kind (fun y hy e => (ok.uniq y hy).trans (by rw [e])) ?_
  refine thn (hi.run pins s σ H _ I h) fun xv s1 hx => thn hx fun itv s2 h2 => ?_
  obtain ⟨it, fp, tn, J, H2, rfl, I2, T, st2, f2, q⟩ := h2
  refine PpSet.newSet_ok (newEnv_comp ?_)
  have nD : H2 s2.heap.objs.size = none := I2.hok.fresh (Nat.le_refl _)
  obtain ⟨Z, ⟨m0, z0⟩, turn⟩ := q _ nD
  -- the state with the new set
  obtain ⟨s3, e3⟩ : ∃ z : Shared, z = { s2 with heap := s2.heap.push (newSetObj X.w) } := ⟨_, rfl⟩
  obtain ⟨H3, eH⟩ : ∃ z : Hp, z = upd H2 s2.heap.objs.size (SetO X.w s2.heap.objs.size noI 0) := ⟨_, rfl⟩
  have eh : s3.heap = s2.heap.push (newSetObj X.w) := by rw [e3]
  have I3 : Inv X pins σ H3 s3 := by
    rw [e3, eH]
    exact I2.laid (t' := s2.toks) (fun b o e => Heap.get?_push_of_some _ e) (Nat.le_refl _) (setO_new (setR_fresh _))
  have lt2 : ∀ b ∈ fp, b < s2.heap.objs.size := fun b hb => by
    obtain ⟨o, e, _⟩ := T.obj _ _ st2 b hb
    exact Heap.lt_size e
  have f3 : ∀ b ∈ fp, FpOk X pins H3 b ∧ b < s3.heap.objs.size := fun b hb => by
    have l := lt2 b hb
    refine ⟨⟨?_, (f2 b hb).2⟩, ?_⟩
    · rw [eH, upd_ne (Nat.ne_of_lt l)]
      exact (f2 b hb).1
    · rw [eh, Heap.size_push]
      exact Nat.lt_succ_of_lt l
  have st3 : tn 0 s3.heap := T.keep _ _ _ st2 fun b _ o e => by rw [eh]; exact Heap.get?_push_of_some _ e
  rw [← eH] at z0
  generalize hD : s2.heap.objs.size = D at *
  -- the block
  have I4 := block_start I3 ok hN f3
  obtain ⟨C, eC⟩ : ∃ c, c = s3.heap.objs.size := ⟨_, rfl⟩
  obtain ⟨ce, ece⟩ : ∃ z, z = compEnvC scope (cellsFrom (s3.heap.objs.size + 1) scope.names (cloFrom X.env.cells scope.names [])) s3.heap.objs.size X.env := ⟨_, rfl⟩
  have pg : PG (X.blk s3 H3 scope ce fp) tg g := by rw [ece]; exact hg _ _ _ _ _
  have pt : PTs (X.blk s3 H3 scope ce fp) ifs tt := by rw [ece]; exact ht _ _ _ _ _
  have pe : PE (X.blk s3 H3 scope ce fp) elt te := by rw [ece]; exact he _ _ _ _ _
  rw [← ece] at I4
  have cL : ce.locals = s3.heap.objs.size := by rw [ece]; rfl
  obtain ⟨s4, e4⟩ : ∃ z : Shared, z = { s3 with heap := pushCells (s3.heap.push { cls := .type "dict", data := .dict #[] }) scope.names } := ⟨_, rfl⟩
  rw [← e4] at I4
  have st4 : tn 0 s4.heap := T.keep _ _ _ st3 fun b _ o e => by
    rw [e4]
    exact pushCells_keeps _ _ _ _ (Heap.get?_push_of_some _ e)
  let Inn : Nat → Shared → Prop := fun n s' => ∃ i G, Inv (X.blk s3 H3 scope ce fp) [] (L2.wipe σ (own.map (·.2))) G s' ∧ tn i s'.heap ∧ (∀ b ∈ fp, G b = none) ∧ Z i n G
  have start : Inn m0 s4 := ⟨0, H3, I4, st4, fun b hb => (f3 b hb).1.1, z0⟩
  have loop : codeAny (model X.prog X.w) X.A (.compLoop (.SetComp elt [⟨tg, iter, ifs, 0⟩] scope pos) 0 (.ref it) (.ref D) ce)
      (compPost (model X.prog X.w) X.A X.xe none (EP X pins σ Q) (.ref D) s3.heap.objs.size) s4 := by
    refine PpSet.compLoopS_any Inn (fun n s5 hI => ?_) m0 start
    obtain ⟨i, G5, I5, st5, n5, z5⟩ := hI
    have F5 := fp_free (Y := X.blk s3 H3 scope ce fp) rfl I5 n5
    rcases turn i n G5 z5 with ⟨stop, qq⟩ | ⟨go, Y, hY, step⟩
    · refine thnF (T.done (X.blk s3 H3 scope ce fp) rfl rfl rfl hc i [] s5 _ G5 (fun _ _ => False) I5 F5 st5 stop) fun r s6 hr => ?_
      obtain ⟨rfl, I6⟩ := hr
      have I7 : Inv X pins σ G5 s6 := I3.call' (ch := fp) I6.os I6.base I6.hok I6.bare fun b hb => by
        obtain ⟨⟨_, a1, _, a2, a3, a4⟩, _⟩ := f3 b hb
        exact ⟨a2, a1, a3, a4⟩
      have nC : G5 s3.heap.objs.size = none := cL ▸ (show G5 ce.locals = none from I6.free)
      obtain ⟨m, hn, _⟩ := I6.loc
      have hn' : s6.heap.Ns s3.heap.objs.size m := cL ▸ (show s6.heap.Ns ce.locals m from hn)
      obtain ⟨b0, b1, _, b2, b3, b4⟩ := I3.fpOk (Nat.le_refl _) nC
      exact ⟨m, hn', fun h'' sb => ⟨.ref D, G5, I7.turned (t' := s6.toks) (fun b o hb e => (sb.2 b hb).trans e) b0 b1 b2 b3 b4, rfl, qq⟩⟩
    · refine thnF (T.item (X.blk s3 H3 scope ce fp) rfl rfl rfl hc i [] s5 _ G5 (fun _ _ => False) I5 F5 st5 go) fun r s6 hr => ?_
      obtain ⟨u, rfl, h6⟩ := hr
      refine thnF h6 fun _ s7 h7 => ?_
      obtain ⟨x, G7, I7, r7, y7, st7, n7⟩ := h7
      have P7 := I7.pinned (fp_free (Y := X.blk s3 H3 scope ce fp) rfl I7 n7) (T.obj _ _ st7)
      refine thnF (pg.run _ s7 _ G7 x u _ P7 r7 (step x G7 y7)) fun _ s8 h8 => ?_
      obtain ⟨σ8, G8, I8, w8, q8⟩ := h8
      refine thnF (pt.run _ s8 σ8 G8 _ I8 q8) fun b s9 h9 => ?_
      obtain ⟨G9, I9, q9⟩ := h9
      have fin : ∀ {s' : Shared} {G' : Hp}, Inv (X.blk s3 H3 scope ce fp) ([] ++ pinsAt fp s7.heap) σ8 G' s' → Y G' → ∃ m, m < n ∧ Inn m s' := by
        intro s' G' I' ny
        obtain ⟨m', hm, z'⟩ := hY G' ny
        have keep : ∀ b ∈ fp, ∀ o, s7.heap.get? b = some o → s'.heap.get? b = some o ∧ G' b = none := fun b hb o e => by
          have z := I'.pin (b, o) (List.mem_append_right _ (List.mem_append_right _ (mem_pinsAt hb e)))
          exact ⟨z.1, z.2.1⟩
        have hl : (L2.wipe σ (own.map (·.2))).length = σ8.length := by rw [← w8, wipe_length]
        refine ⟨m', hm, i + 1, G', (I'.unpinned (pins := [])).weak hl (fun j v e => (wipe_some (w8 ▸ e)).1), ?_, fun b hb => ?_, z'⟩
        · exact T.keep _ _ _ st7 fun b hb o e => (keep b hb o e).1
        · obtain ⟨o, e, _⟩ := T.obj _ _ st7 b hb
          exact (keep b hb o e).2
      cases b with
      | false => exact fin I9 q9
      | true =>
        refine thnF (pe.run _ s9 σ8 G9 _ I9 q9) fun z s10 h10 => ?_
        obtain ⟨yv, G10, I10, r10, k, S0, n0, rfl, hD10, room, ny⟩ := h10
        refine thnF (mt_sadd (X := X.blk s3 H3 scope ce fp) _ s10 σ8 G10 (.ref D) [V.int k] (.ref D) [z] (fun _ G => Y G) I10 rfl (.cons r10 .nil) ⟨D, k, S0, n0, rfl, rfl, hD10, room, ny⟩) fun _ s11 h11 => ?_
        obtain ⟨_, G11, I11, _, y11⟩ := h11
        exact fin I11 y11
  rw [e4] at loop st4
  have fin2 := PpSet.codeAny_compStart_set loop (T.self X.A 0 _ _ _ st4 loop)
  rw [ece] at fin2
  subst e3
  exact fin2
end
def memI (k : Int) (r : List Int) : Bool := r.any fun j => decide (j = k)
theorem memI_iff {k : Int} {r : List Int} : memI k r = true ↔ k ∈ r := by
  unfold memI
  rw [List.any_eq_true]
  constructor
  · rintro ⟨j, hj, e⟩
    rw [← of_decide_eq_true e]
    exact hj
  · exact fun h => ⟨k, h, decide_eq_true rfl⟩
def dedI : List Int → List Int
  | [] => []
  | k :: r => if memI k r = true then dedI r else k :: dedI r
theorem dedI_mem {k : Int} : ∀ {l : List Int}, k ∈ dedI l ↔ k ∈ l
  | [] => Iff.rfl
  | j :: r => by
    have ih := dedI_mem (k := k) (l := r)
    unfold dedI
    split
    · rename_i h
      rw [ih, List.mem_cons]
      constructor
      · exact Or.inr
      · rintro (rfl | h2)
        · exact memI_iff.mp h
        · exact h2
    · rw [List.mem_cons, List.mem_cons, ih]
theorem dedI_nd : ∀ l : List Int, (dedI l).Nodup
  | [] => List.nodup_nil
  | j :: r => by
    unfold dedI
    split
    · exact dedI_nd r
    · rename_i h
      exact List.nodup_cons.mpr ⟨fun z => h (memI_iff.mpr (dedI_mem.mp z)), dedI_nd r⟩
def cntI (l : List Int) : Nat := (dedI l).length
def intOf : D → Option Int
  | .int i => some i
  | _ => none
theorem intOf_eq {K : PySem.W.Frag} {G : Hp} {v : V} {d : D} {i : Int} (e : intOf d = some i) (r : Rp K G v d) : v = .int i := by
  cases d with
  | int j => cases e; cases r; rfl
  | _ => cases e
section
variable (vs : List Nat) (g : MG) (mt : M Bool) (me : M D) (E0 : En)
def siGo : List D → En → List Int → Res D
  | [], E, acc => if (dedI acc).length < 64 then .ok (.list ((sortI (dedI acc)).map .int)) (backE E0 E vs) else .bad
  | d :: ds, E, acc => match g d (wipeE E vs) with
    | none => .bad
    | some E1 => match mt E1 with
      | .ok true E2 => match me E2 with
        | .ok y E3 => match intOf y with
          | some k => if acc.length < 2000 then siGo ds E3 (k :: acc) else .bad
          | none => .bad
        | _ => .bad
      | .ok false E2 => siGo ds E2 acc
      | _ => .bad
end
def mSortI (mi : M (List D)) (g : MG) (mt : M Bool) (me : M D) (vs : List Nat) : M D := bnd mi fun its => fun E => siGo vs g mt me E its E []
theorem cntI_le (l : List Int) : cntI l ≤ l.length := by
  unfold cntI
  induction l with
  | nil => exact Nat.le_refl _
  | cons k r ih => unfold dedI; split <;> simp <;> omega
def sOfI (acc : List Int) : Int → Bool := fun j => memI j acc
theorem sOfI_more (acc : List Int) (k : Int) : moreI (sOfI acc) k = sOfI (k :: acc) := by
  funext j
  unfold moreI sOfI
  rw [Bool.eq_iff_iff, Bool.or_eq_true, decide_eq_true_eq, memI_iff, memI_iff, List.mem_cons]
  exact Or.comm
theorem cnt_moreI (acc : List Int) (k : Int) : moreJ (sOfI acc) (cntI acc) k = cntI (k :: acc) := by
  unfold moreJ cntI sOfI
  rw [dedI]
  split <;> simp
section
variable {X : Cx}
theorem si_sortR {W : WX} {tg : Expr} {wi : TI} {mi : M (List D)} {g : TG} {mg : MG} {tt : TT} {mt : M Bool} {te : TE} {me : M D} {vs : List Nat} {iter : Expr} {b : Bool} {w : World} (hi : SI X W b tg iter wi mi)
    (hg : ∀ O E σ H v d E' (F : Frm) (Q : L2.St → Hp → Prop), Rel X.K F O E σ H → RpB b X.K (Mask O H) v d → mg d E = some E' → (∀ σ', Rel X.K F O E' σ' H → L2.wipe σ' vs = L2.wipe σ vs → Q σ' H) → g v σ H Q)
    (ht : ∀ F O E σ H (Q : Bool → Hp → Prop), Rel X.K F O E σ H → Sat (mt E) (KB X.K F σ O H Q) (KX X.K X.mg F σ O H W0) → tt σ H Q)
    (he : ∀ F O E σ H (Q : VK), Rel X.K F O E σ H → Sat (me E) (KD X.K F σ O H Q) (KX X.K X.mg F σ O H W0) → te σ H Q) :
    ∀ F O E σ H (Q : VK), Rel X.K F O E σ H → Sat (mSortI mi mg mt me vs E) (KD X.K F σ O H Q) (KX X.K X.mg F σ O H W) → tCB (rSortedSet w) (tCons (tSi w wi g tt te vs) tNil) σ H Q := by
  intro F O E σ H Q R s
  refine hi.rd F O E σ H _ R (s.bnd.mono (fun its E1 k O1 H1 J R1 l1 wk => ?_) (fun _ _ k => k))
  intro D nD
  obtain ⟨G, Y, wlk, hG, hY⟩ := wk.ex
  have hFD : ∀ x ∈ F, x.1 ≠ D := fun x hx z => by
    have h2 := (R1.frm x hx).2
    rw [z, nD] at h2
    cases h2
  let Pv : Nat → Hp → Prop := fun i H2 => ∃ O2 E2 σ2 acc, Rel X.K ((D, SetO w D (sOfI acc) (cntI acc)) :: F) O2 E2 σ2 H2 ∧ L2.wipe σ2 vs = L2.wipe σ vs ∧ Le O1 H1 O2 H2 ∧ acc.length ≤ 2000 ∧ i ≤ its.length ∧ Sat (siGo vs mg mt me E1 (its.drop i) E2 acc) (KD X.K F σ O H Q) (KX X.K X.mg F σ O H W)
  have e0 : SetO w D noI 0 = SetO w D (sOfI []) (cntI []) := by
    rfl
  refine ⟨fun i m H => m = its.length - i ∧ i ≤ its.length ∧ Pv i H, ⟨its.length, by simp, Nat.zero_le _, D :: O1, E1, σ, [], e0 ▸ R1.newF nD, rfl, mask_cons_new nD, Nat.zero_le _, Nat.zero_le _, k⟩, ?_⟩
  rintro i m H2 ⟨rfl, hi0, p⟩
  have q0 : G H2 := by
    obtain ⟨O2, E2, σ2, acc, R2, _, l2, _⟩ := p
    exact hG O2 H2 l2
  by_cases hlt : i < its.length
  · refine .inr ⟨wlk.goes i H2 hlt q0, Pv (i + 1), fun H' p' => ⟨its.length - (i + 1), by omega, rfl, hlt, p'⟩, fun x H3 y0 => ?_⟩
    have y := wlk.yields i H2 x H3 hlt q0 y0
    obtain ⟨O2, E2, σ2, acc, R2, hw, l2, hacc, _, s2⟩ := p
    have hd : its.drop i = its[i] :: its.drop (i + 1) := List.drop_eq_getElem_cons hlt
    rw [hd] at s2
    unfold siGo at s2
    obtain ⟨gr, rx⟩ := hY O2 H2 i x H3 its[i] R2.trk l2 (List.getElem?_eq_getElem hlt) y
    have R3 := (R2.grow gr).wipe vs
    rw [hw] at R3
    cases eg : mg its[i] (wipeE E2 vs) with
    | none => rw [eg] at s2; exact s2.elim
    | some E3 =>
      rw [eg] at s2
      refine hg O2 _ _ H3 x its[i] E3 _ _ R3 rx eg fun σ3 R4 hw3 => ⟨by rw [hw3]; exact wipe_wipe _ _, ?_⟩
      have hw3' : L2.wipe σ3 vs = L2.wipe σ vs := by rw [hw3]; exact wipe_wipe _ _
      dsimp only at s2
      refine ht _ O2 E3 σ3 H3 _ R4 ?_
      cases em : mt E3 with
      | bad => rw [em] at s2; exact s2.elim
      | ex _ _ => rw [em] at s2; exact s2.elim
      | ok bb E4 =>
        rw [em] at s2
        intro O4 H4 R5 l4
        have l5 : Le O1 H1 O4 H4 := (l2.trans gr.le).trans l4
        cases bb with
        | false =>
          show Pv (i + 1) H4
          exact ⟨O4, E4, σ3, acc, R5, hw3', l5, hacc, hlt, s2⟩
        | true =>
          show te σ3 H4 _
          dsimp only at s2
          refine he _ O4 E4 σ3 H4 _ R5 ?_
          cases ee : me E4 with
          | bad => rw [ee] at s2; exact s2.elim
          | ex _ _ => rw [ee] at s2; exact s2.elim
          | ok yy E5 =>
            rw [ee] at s2
            intro O5 v5 H5 R6 l6 rv
            dsimp only at s2
            cases ek : intOf yy with
            | none => rw [ek] at s2; exact s2.elim
            | some kk =>
              rw [ek] at s2
              dsimp only at s2
              by_cases hlim : acc.length < 2000
              · rw [if_pos hlim] at s2
                obtain ⟨hDO, hDw⟩ := R6.frm _ List.mem_cons_self
                have := cntI_le acc
                refine ⟨kk, sOfI acc, cntI acc, intOf_eq ek rv, hDw, by unfold scanBound; omega, ?_⟩
                rw [sOfI_more, cnt_moreI]
                have em5 : Mask O5 (upd H5 D (SetO w D (sOfI (kk :: acc)) (cntI (kk :: acc)))) = Mask O5 H5 := mask_upd_in hDO
                exact ⟨O5, E5, σ3, kk :: acc, R6.updF hFD, hw3', by unfold Le; rw [em5]; exact l5.trans l6, hlim, hlt, s2⟩
              · rw [if_neg hlim] at s2; exact s2.elim
  · have e : i = its.length := by omega
    subst e
    refine .inl ⟨wlk.stops H2 q0, ?_⟩
    obtain ⟨O2, E2, σ2, ACC, R2, hw, l2, _, _, s2⟩ := p
    rw [List.drop_length] at s2
    unfold siGo at s2
    obtain ⟨hDO, hDw⟩ := R2.frm _ List.mem_cons_self
    have R3 := R2.freeF hFD
    have l3 : Same (Mask O2 H2) (Mask (rmA O2 D) H2) := mask_rm
    by_cases c : (dedI ACC).length < 64
    · rw [if_pos c] at s2
      refine ⟨D, _, _, rfl, hDw, c, fun ns p h1 h2 h3 nl => ?_⟩
      have hp : ns.Perm (dedI ACC) := (List.perm_ext_iff_of_nodup (h1.imp fun h => by omega) (dedI_nd ACC)).mpr fun k => by
        rw [h2 k, dedI_mem]
        exact memI_iff
      have e := sortI_uniq hp (h1.imp fun h => by omega)
      rw [e]
      have R4 := R1.back R3 (l2.trans l3) hw
      obtain ⟨g, r⟩ := new_lst R4.trk (RpAll.of_ints (K := X.K) (Mask (rmA O2 D) H2) (sortI (dedI ACC))) nl
      exact s2 (rmA O2 D) (.ref p) _ (R4.grow g) (((l1.trans l2).trans l3).trans g.le) r
    · rw [if_neg c] at s2; exact s2.elim
variable {W : WX}
theorem se_sortI {b : Bool} {elt tg iter : Expr} {ifs : List Expr} {scope : Scope} {own : List (Str × Nat)} {asg : List Nat} {p pos pos2 : Pos} {wi : TI} {g : TG} {tt : TT} {te : TE} {mi : M (List D)} {mg : MG} {mt : M Bool} {me : M D} (hg0 : Gl X "sorted") (hm : X.mg "sorted" = none) (hc : X.calm = true) (hN : X.N.Nodup) (hi : SI X W b tg iter wi mi) (ok : BlkOk X.N X.env.scope scope own)
    (hg : ∀ (s : Shared) (H : Hp) (C : Addr) (cl : List (Str × Addr)) (fp : List Addr), SG (X.blk s H scope (compEnvC scope cl C X.env) fp) b asg tg g mg) (ha : ∀ i ∈ asg, i ∈ own.map (·.2)) (ht : ∀ (s : Shared) (H : Hp) (C : Addr) (cl : List (Str × Addr)) (fp : List Addr), STs (X.blk s H scope (compEnvC scope cl C X.env) fp) W0 ifs tt mt)
    (he : ∀ (s : Shared) (H : Hp) (C : Addr) (cl : List (Str × Addr)) (fp : List Addr), SE (X.blk s H scope (compEnvC scope cl C X.env) fp) W0 elt te me) (hs : ∀ x, foldedSetIterable iter X.env x = pure x := by intro _; rfl)
    (hst : starEach [.SetComp elt [⟨tg, iter, ifs, 0⟩] scope pos] X.env = (false, eval (.SetComp elt [⟨tg, iter, ifs, 0⟩] scope pos) X.env) :: starEach [] X.env := by rfl) (hpl : (backTo pos2 (starEach [] X.env)).any (·.1) = false := by rfl) :
    SE X W (.Call (.Name "sorted" p) [.SetComp elt [⟨tg, iter, ifs, 0⟩] scope pos] [] pos2) (tCB (rSortedSet X.w) (tCons (tSi X.w wi g tt te (own.map (·.2))) tNil)) (mSortI mi mg mt me (own.map (·.2))) := by
  refine ⟨pe_callB (cr_sortedSet hc) hg0 hm (by decide +kernel) (pa_cons (pe_si hc hN hi.pi ok (fun s H C cl fp => (hg s H C cl fp).pg) (fun s H C cl fp => (ht s H C cl fp).pt) (fun s H C cl fp => (he s H C cl fp).pe) hs) pa_nil hst) (by decide) (by decide) hst hpl, ?_⟩
  refine si_sortR hi (fun O E σ H v d E' F Q R r e q => ?_) (fun F O E σ H Q R s => (ht X.s_0 X.H_0 0 [] []).rd F O E σ H Q R s) (fun F O E σ H Q R s => (he X.s_0 X.H_0 0 [] []).rd F O E σ H Q R s)
  exact (hg X.s_0 X.H_0 0 [] []).rd F O E σ H v d E' Q R r e fun σ' R' l' p' => q σ' R' (wipe_agree l' p' ha)
end
end Bt
namespace Lw
open PySem L2 Bt
noncomputable def m_is_from : M Fl := (mSeq (mRet (mAndV (mIsi "int" (mR 0)) (mAndV (mNotV (mIsi "bool" (mR 0))) (mOp geD (mR 0) (mR 1))))) mNil)
noncomputable def s_is_from : M Sl := mFn [] 0 m_is_from
noncomputable def m_look_at_number : M Fl := (mSeq (mIfS (mNot (bnd (mCall s_is_from [] (mCons (mR 0) (mCons (mR 1) (ret [])))) asB)) (mSeq (mRaise0 4) mNil) mNil) mNil)
noncomputable def s_look_at_number : M Sl := mFn [] 0 m_look_at_number
noncomputable def m_is_lot : M Fl := (mSeq (mRet (mAndV (mIsi "tuple" (mR 0)) (mAndV (mOp eqD (mD (mB lenF (mCons (mR 0) (ret [])))) (mD (ret (.int 2)))) (mAndV (mCall s_is_from [] (mCons (mD (mOp ixD (mR 0) (mD (ret (.int 0))))) (mCons (mD (ret (.int 1))) (ret [])))) (mCall s_is_from [] (mCons (mD (mOp ixD (mR 0) (mD (ret (.int 1))))) (mCons (mD (ret (.int 1))) (ret [])))))))) mNil)
noncomputable def s_is_lot : M Sl := mFn [] 0 m_is_lot
noncomputable def lc_is_pile_1 : M D := (mLc (mIt (mV 0)) (gN 3) (ret true) (mCall s_is_lot [] (mCons (mR 3) (ret []))) [3])
noncomputable def lc_is_pile_2 : M D := (mLc (mZip (mConsD (mV 0) (mConsD (mSl (mR 0) (mPart (some (ret (.int 1)))) (mPart none)) (ret [])))) (gTupM 2 (gConsM (gN 1) (gConsM (gN 2) gNilM))) (ret true) (mOp ltD (mD (mOp ixD (mR 1) (mD (ret (.int 0))))) (mD (mOp ixD (mR 2) (mD (ret (.int 0)))))) [1, 2])
noncomputable def m_is_pile : M Fl := (mSeq (mIfS (mOr (mNot (bnd (mIsi "tuple" (mR 0)) asB)) (mNot (bnd (mB allF (mCons (mD lc_is_pile_1) (ret []))) asB))) (mSeq (mRet (ret (.bool false))) mNil) mNil) (mSeq (mRet (mB allF (mCons (mD lc_is_pile_2) (ret [])))) mNil))
noncomputable def s_is_pile : M Sl := mFn [] 3 m_is_pile
noncomputable def m_look_at_pile : M Fl := (mSeq (mIfS (mNot (bnd (mCall s_is_pile [] (mCons (mR 0) (ret []))) asB)) (mSeq (mRaise0 1) mNil) mNil) mNil)
noncomputable def s_look_at_pile : M Sl := mFn [] 0 m_look_at_pile
noncomputable def lc_sum_of_1 : M D := (mLc (mIt (mV 0)) (gTupM 2 (gConsM (gN 1) (gConsM (gN 2) gNilM))) (ret true) (mOp mulD (mR 1) (mR 2)) [1, 2])
noncomputable def m_sum_of : M Fl := (mSeq (mRet (mB sumF (mCons (mD lc_sum_of_1) (ret [])))) mNil)
noncomputable def s_sum_of : M Sl := mFn [] 2 m_sum_of
noncomputable def lc_less_of_1 : M D := (mLc (mIt (mV 0)) (gTupM 2 (gConsM (gN 2) (gConsM (gN 3) gNilM))) (bnd (mOp ltD (mR 2) (mR 1)) asB) (mOp mulD (mR 2) (mR 3)) [2, 3])
noncomputable def m_less_of : M Fl := (mSeq (mRet (mB sumF (mCons (mD lc_less_of_1) (ret [])))) mNil)
noncomputable def s_less_of : M Sl := mFn [] 2 m_less_of
end Lw
namespace Lw
open PySem L2 Bt
noncomputable def lc_from_counts_1 : M D := (mLc (mIt (mSortD 0)) (gN 1) (bnd (mOp gtD (mD (mDGet 0 (mR 1))) (mD (ret (.int 0)))) asB) (mTup (mConsD (mV 1) (mConsD (mDGet 0 (mR 1)) (ret [])))) [1])
noncomputable def m_from_counts : M Fl := (mSeq (mRet (mB tupleF (mCons (mD lc_from_counts_1) (ret [])))) mNil)
noncomputable def s_from_counts : M Sl := mFn [] 1 m_from_counts
end Lw
namespace Lw
open PySem L2 Bt
end Lw
namespace Lw
open PySem L2 Bt
noncomputable def m_look_at_small : M Fl := (mSeq (mIfS (bnd (mOp gtD (mD (mCall s_sum_of [] (mCons (mR 0) (ret [])))) (mD (ret (.int 200)))) asB) (mSeq (mRaise0 7) mNil) mNil) mNil)
noncomputable def s_look_at_small : M Sl := mFn [] 0 m_look_at_small
end Lw
namespace Lw
open PySem L2 Bt
noncomputable def m_look_at_two : M Fl := (mSeq (mExpr (mCall s_look_at_pile [] (mCons (mR 0) (ret [])))) (mSeq (mExpr (mCall s_look_at_pile [] (mCons (mR 1) (ret [])))) mNil))
noncomputable def s_look_at_two : M Sl := mFn [] 0 m_look_at_two
end Lw
namespace Lw
open PySem L2 Bt
noncomputable def lc_outdone_at_1 : M D := (mSortI (mIt (mOp addD (mR 0) (mR 1))) (gTupM 2 (gConsM (gN 4) (gConsM (gN 5) gNilM))) (ret true) (mOp addD (mR 4) (mD (ret (.int 1)))) [4, 5])
noncomputable def lc_outdone_at_2 : M D := (mLc (mIt (mV 2)) (gN 3) (bnd (mOp ltD (mD (mCall s_less_of [] (mCons (mR 0) (mCons (mR 3) (ret []))))) (mD (mCall s_less_of [] (mCons (mR 1) (mCons (mR 3) (ret [])))))) asB) (mV 3) [3])
noncomputable def m_outdone_at : M Fl := (mSeq (mSet (gN 2) lc_outdone_at_1) (mSeq (mRetS (mObj (mLstO (mAsL lc_outdone_at_2)))) mNil))
noncomputable def s_outdone_at : M Sl := mFn [2] 4 m_outdone_at
noncomputable def m_outdoes : M Fl := (mSeq (mExpr (mCall s_look_at_two [] (mCons (mR 0) (mCons (mR 1) (ret []))))) (mSeq (mRet (mOp eqD (mD (mB lenF (mCons (mD (mCall s_outdone_at [] (mCons (mR 0) (mCons (mR 1) (ret []))))) (ret [])))) (mD (ret (.int 0))))) mNil))
noncomputable def s_outdoes : M Sl := mFn [] 0 m_outdoes
end Lw
namespace Lw
open PySem L2 Bt
noncomputable def m__law_mixed : M Fl := (mSeq (mSet (gN 2) (mOp modD (mD (mOp addD (mD (mOp addD (mD (mOp mulD (mD (mOp modD (mR 0) (mD (ret (.int 2147483647))))) (mD (ret (.int 48271))))) (mD (mOp mulD (mR 1) (mD (ret (.int 69621))))))) (mD (ret (.int 1048583))))) (mD (ret (.int 2147483629))))) (mSeq (mSet (gN 2) (mOp modD (mD (mOp mulD (mR 2) (mR 2))) (mD (ret (.int 2147483587))))) (mSeq (mRet (mOp modD (mD (mOp mulD (mR 2) (mD (mOp addD (mR 2) (mD (ret (.int 2))))))) (mD (ret (.int 2147483579))))) mNil)))
noncomputable def s__law_mixed : M Sl := mFn [2] 1 m__law_mixed
noncomputable def lp__law_cell_1 : M Fl := (mSeq (mSet (gN 3) (mOp addD (mD (mOp mulD (mR 3) (mD (ret (.int 2147483579))))) (mD (mCall s__law_mixed [] (mCons (mR 2) (mCons (mD (mOp addD (mD (mOp addD (mD (mOp mulD (mD (ret (.int 7))) (mR 1))) (mD (mOp mulD (mD (ret (.int 100))) (mR 4))))) (mD (mOp mulD (mR 4) (mR 4))))) (ret []))))))) mNil)
noncomputable def fr__law_cell_1 : M Fl := (mFor [4] (mRng1 (mCons (mD (ret (.int 24))) (ret []))) (gN 4) lp__law_cell_1)
noncomputable def m__law_cell : M Fl := (mSeq (mSet (gN 2) (ret (.int 0))) (mSeq (mIfS (bnd (mOp ltD (mR 1) (mD (mLenScr 0))) asB) (mSeq (mSet (gN 2) (mIxScr 0 (mR 1))) mNil) mNil) (mSeq (mIfS (bnd (mOp geD (mR 2) (mD (mOp powD (mD (ret (.int 10))) (mD (ret (.int 18)))))) asB) (mSeq (mRet (mOp modD (mD (mOp subD (mR 2) (mD (mOp powD (mD (ret (.int 10))) (mD (ret (.int 18))))))) (mD (mOp mulD (mD (mOp mulD (mD (mOp mulD (mD (mOp powD (mD (ret (.int 10))) (mD (ret (.int 60))))) (mD (mOp powD (mD (ret (.int 10))) (mD (ret (.int 60))))))) (mD (mOp powD (mD (ret (.int 10))) (mD (ret (.int 60))))))) (mD (mOp powD (mD (ret (.int 10))) (mD (ret (.int 60))))))))) mNil) mNil) (mSeq (mSet (gN 3) (ret (.int 0))) (mSeq fr__law_cell_1 (mSeq (mRet (mV 3)) mNil))))))
noncomputable def s__law_cell : M Sl := mFn [2, 3, 4] 3 m__law_cell
noncomputable def m__law_take : M Fl := (mSeq (mSet (gN 2) (mOp modD (mD (mOp ixD (mR 0) (mD (ret (.int 0))))) (mR 1))) (mSeq (mPut 0 (mD (ret (.int 0))) (mOp fdivD (mD (mOp ixD (mR 0) (mD (ret (.int 0))))) (mR 1))) (mSeq (mRet (mV 2)) mNil)))
noncomputable def s__law_take : M Sl := mFn [2] 1 m__law_take
end Lw
namespace Lw
open PySem L2 Bt
noncomputable def lc__law_under_1 : M D := (mLc (mIt (mV 0)) (gTupM 2 (gConsM (gN 2) (gConsM (gN 3) gNilM))) (mOr (bnd (mOp isD (mR 1) (mD (ret .none))) asB) (bnd (mOp ltD (mR 2) (mR 1)) asB)) (mOp mulD (mR 2) (mR 3)) [2, 3])
noncomputable def m__law_under : M Fl := (mSeq (mRet (mB sumF (mCons (mD lc__law_under_1) (ret [])))) mNil)
noncomputable def s__law_under : M Sl := mFn [] 2 m__law_under
noncomputable def lp__law_heap_1 : M Fl := (mSeq (mIfS (mAnd (bnd (mOp neD (mR 1) (mD (mLst (ret [])))) asB) (bnd (mOp eqD (mD (mOp ixD (mD (mOp ixD (mR 1) (mD (mNeg (mD (ret (.int 1))))))) (mD (ret (.int 0))))) (mR 2)) asB)) (mSeq (mPut 1 (mD (mNeg (mD (ret (.int 1))))) (mTup (mConsD (mV 2) (mConsD (mOp addD (mD (mOp ixD (mD (mOp ixD (mR 1) (mD (mNeg (mD (ret (.int 1))))))) (mD (ret (.int 1))))) (mD (ret (.int 1)))) (ret []))))) mNil) (mSeq (mApp 1 (mTup (mConsD (mV 2) (mConsD (ret (.int 1)) (ret []))))) mNil)) mNil)
noncomputable def fr__law_heap_1 : M Fl := (mFor [2] (mIt (mB sortedF (mCons (mR 0) (ret [])))) (gN 2) lp__law_heap_1)
noncomputable def m__law_heap : M Fl := (mSeq (mOwn 1 (mLstF (ret []))) (mSeq fr__law_heap_1 (mSeq (mRet (mB tupleF (mCons (mR 1) (ret [])))) mNil)))
noncomputable def s__law_heap : M Sl := mFn [1, 2] 2 m__law_heap
end Lw
namespace Lw
open PySem L2 Bt
noncomputable def lc__law_length_1 (ih : M Sl) : M D := (mLc (mIt (mOp ixD (mR 0) (mD (ret (.int 1))))) (gN 3) (ret true) (mCall ih [] (mCons (mR 3) (ret []))) [3])
noncomputable def m__law_length (ih : M Sl) : M Fl := (mSeq (mSet (gN 1) (mOp ixD (mR 0) (mD (ret (.int 0))))) (mSeq (mIfS (bnd (mOp eqD (mR 1) (mD (ret (.str (Str.ofString "call"))))) asB) (mSeq (mRet (mOp ixD (mR 0) (mD (ret (.int 3))))) mNil) mNil) (mSeq (mIfS (bnd (mOp inD (mR 1) (mD (mTup (mConsD (ret (.str (Str.ofString "within"))) (mConsD (ret (.str (Str.ofString "calls"))) (ret [])))))) asB) (mSeq (mRet (mB minF (mCons (mD (mOp ixD (mR 0) (mD (ret (.int 1))))) (mCons (mD (mCall ih [] (mCons (mD (mOp ixD (mR 0) (mD (ret (.int 2))))) (ret [])))) (ret []))))) mNil) mNil) (mSeq (mIfS (bnd (mOp eqD (mR 1) (mD (ret (.str (Str.ofString "none"))))) asB) (mSeq (mRet (ret (.int 0))) mNil) mNil) (mSeq (mSet (gN 2) (lc__law_length_1 ih)) (mSeq (mRet (mIf (bnd (mOp eqD (mR 1) (mD (ret (.str (Str.ofString "all"))))) asB) (mB sumF (mCons (mR 2) (ret []))) (mB maxF (mCons (mD (mOp addD (mR 2) (mD (mLst (mConsD (ret (.int 0)) (ret [])))))) (ret []))))) mNil))))))
noncomputable def s__law_length : Nat → M Sl
  | 0 => stuck
  | n + 1 => mFn [1, 2] 3 (m__law_length (s__law_length n))
theorem r__law_length (n : Nat) : s__law_length (n + 1) = mFn [1, 2] 3 (m__law_length (s__law_length n)) := rfl
noncomputable def lc__law_row_1 (ih : M Sl) : M D := (mLc (mRng1 (mCons (mD (mOp addD (mR 2) (mD (ret (.int 1))))) (ret []))) (gN 8) (ret true) (mOp mulD (mD (mB minF (mCons (mD (mOp ixD (mR 0) (mD (ret (.int 3))))) (mCons (mR 8) (ret []))))) (mR 6)) [8])
noncomputable def lc__law_row_2 (ih : M Sl) : M D := (mLc (mIt (mCall ih [] (mCons (mD (mOp ixD (mR 0) (mD (ret (.int 2))))) (mCons (mR 1) (mCons (mR 2) (ret [])))))) (gN 9) (ret true) (mB minF (mCons (mD (mOp ixD (mR 0) (mD (ret (.int 1))))) (mCons (mR 9) (ret [])))) [9])
noncomputable def lc__law_row_3 (ih : M Sl) : M D := (mLc (mRng1 (mCons (mD (mOp addD (mR 2) (mD (ret (.int 1))))) (ret []))) (gN 8) (ret true) (mOp ixD (mR 4) (mD (mB minF (mCons (mR 8) (mCons (mD (mOp ixD (mR 0) (mD (ret (.int 1))))) (ret [])))))) [8])
noncomputable def lc__law_row_4 (ih : M Sl) : M D := (mLc (mZipE (mConsD (mV 4) (mConsD (mV 7) (ret [])))) (gN 10) (ret true) (mB maxTF (mCons (mR 10) (ret []))) [10])
noncomputable def lc__law_row_5 (ih : M Sl) : M D := (mLc (mRng1 (mCons (mD (mOp addD (mR 8) (mD (ret (.int 1))))) (ret []))) (gN 11) (ret true) (mOp addD (mD (mOp ixD (mR 4) (mR 11))) (mD (mOp ixD (mR 7) (mD (mOp subD (mR 8) (mR 11)))))) [11])
noncomputable def lc__law_row_6 (ih : M Sl) : M D := (mLc (mRng1 (mCons (mD (mOp addD (mR 2) (mD (ret (.int 1))))) (ret []))) (gN 8) (ret true) (mB maxF (mCons (mD (lc__law_row_5 ih)) (ret []))) [8])
noncomputable def lp__law_row_1 (ih : M Sl) : M Fl := (mSeq (mSet (gN 7) (mCall ih [] (mCons (mR 5) (mCons (mR 1) (mCons (mR 2) (ret [])))))) (mSeq (mIfS (bnd (mOp eqD (mR 3) (mD (ret (.str (Str.ofString "one"))))) asB) (mSeq (mSet (gN 4) (lc__law_row_4 ih)) mNil) (mSeq (mSet (gN 4) (lc__law_row_6 ih)) mNil)) mNil))
noncomputable def fr__law_row_1 (ih : M Sl) : M Fl := (mFor [5, 7] (mIt (mOp ixD (mR 0) (mD (ret (.int 1))))) (gN 5) (lp__law_row_1 ih))
noncomputable def m__law_row (ih : M Sl) : M Fl := (mSeq (mSet (gN 3) (mOp ixD (mR 0) (mD (ret (.int 0))))) (mSeq (mIfS (bnd (mOp eqD (mR 3) (mD (ret (.str (Str.ofString "call"))))) asB) (mSeq (mSet (gN 6) (mIf (bnd (mOp isD (mR 1) (mD (ret .none))) asB) (mOp ixD (mR 0) (mD (ret (.int 2)))) (mB minF (mCons (mD (mOp ixD (mR 0) (mD (ret (.int 2))))) (mCons (mD (mOp subD (mR 1) (mD (ret (.int 1))))) (ret [])))))) (mSeq (mRetS (mObj (mLstO (mAsL (lc__law_row_1 ih))))) mNil)) mNil) (mSeq (mIfS (bnd (mOp eqD (mR 3) (mD (ret (.str (Str.ofString "within"))))) asB) (mSeq (mRetS (mObj (mLstO (mAsL (lc__law_row_2 ih))))) mNil) mNil) (mSeq (mIfS (bnd (mOp eqD (mR 3) (mD (ret (.str (Str.ofString "calls"))))) asB) (mSeq (mSet (gN 4) (mCall ih [] (mCons (mD (mOp ixD (mR 0) (mD (ret (.int 2))))) (mCons (mR 1) (mCons (mR 2) (ret [])))))) (mSeq (mRetS (mObj (mLstO (mAsL (lc__law_row_3 ih))))) mNil)) mNil) (mSeq (mSet (gN 4) (mOp mulD (mD (mLst (mConsD (ret (.int 0)) (ret [])))) (mD (mOp addD (mR 2) (mD (ret (.int 1))))))) (mSeq (mIfS (bnd (mOp eqD (mR 3) (mD (ret (.str (Str.ofString "none"))))) asB) (mSeq (mRet (mV 4)) mNil) mNil) (mSeq (fr__law_row_1 ih) (mSeq (mRet (mV 4)) mNil))))))))
noncomputable def s__law_row : Nat → M Sl
  | 0 => stuck
  | n + 1 => mFn [3, 4, 5, 6, 7] 9 (m__law_row (s__law_row n))
theorem r__law_row (n : Nat) : s__law_row (n + 1) = mFn [3, 4, 5, 6, 7] 9 (m__law_row (s__law_row n)) := rfl
noncomputable def lc__law_top_1 (ih : M Sl) : M D := (mLc (mIt (mOp ixD (mR 0) (mD (ret (.int 1))))) (gN 4) (ret true) (mCall ih [] (mCons (mR 4) (mCons (mR 1) (ret [])))) [4])
noncomputable def m__law_top (ih : M Sl) : M Fl := (mSeq (mSet (gN 2) (mOp ixD (mR 0) (mD (ret (.int 0))))) (mSeq (mIfS (bnd (mOp eqD (mR 2) (mD (ret (.str (Str.ofString "call"))))) asB) (mSeq (mRet (mOp mulD (mD (mOp ixD (mR 0) (mD (ret (.int 3))))) (mD (mIf (bnd (mOp isD (mR 1) (mD (ret .none))) asB) (mOp ixD (mR 0) (mD (ret (.int 2)))) (mB minF (mCons (mD (mOp ixD (mR 0) (mD (ret (.int 2))))) (mCons (mD (mOp subD (mR 1) (mD (ret (.int 1))))) (ret [])))))))) mNil) mNil) (mSeq (mIfS (bnd (mOp eqD (mR 2) (mD (ret (.str (Str.ofString "within"))))) asB) (mSeq (mRet (mB minF (mCons (mD (mOp ixD (mR 0) (mD (ret (.int 1))))) (mCons (mD (mCall ih [] (mCons (mD (mOp ixD (mR 0) (mD (ret (.int 2))))) (mCons (mR 1) (ret []))))) (ret []))))) mNil) mNil) (mSeq (mIfS (bnd (mOp eqD (mR 2) (mD (ret (.str (Str.ofString "calls"))))) asB) (mSeq (mRet (mOp ixD (mD (mCall (s__law_row 30) [] (mCons (mD (mOp ixD (mR 0) (mD (ret (.int 2))))) (mCons (mR 1) (mCons (mD (mB minF (mCons (mD (mOp ixD (mR 0) (mD (ret (.int 1))))) (mCons (mD (mCall (s__law_length 30) [] (mCons (mD (mOp ixD (mR 0) (mD (ret (.int 2))))) (ret [])))) (ret []))))) (ret [])))))) (mD (mNeg (mD (ret (.int 1))))))) mNil) mNil) (mSeq (mIfS (bnd (mOp eqD (mR 2) (mD (ret (.str (Str.ofString "none"))))) asB) (mSeq (mRet (ret (.int 0))) mNil) mNil) (mSeq (mSet (gN 3) (lc__law_top_1 ih)) (mSeq (mRet (mIf (bnd (mOp eqD (mR 2) (mD (ret (.str (Str.ofString "all"))))) asB) (mB sumF (mCons (mR 3) (ret []))) (mB maxF (mCons (mD (mOp addD (mR 3) (mD (mLst (mConsD (ret (.int 0)) (ret [])))))) (ret []))))) mNil)))))))
noncomputable def s__law_top : Nat → M Sl
  | 0 => stuck
  | n + 1 => mFn [2, 3] 3 (m__law_top (s__law_top n))
theorem r__law_top (n : Nat) : s__law_top (n + 1) = mFn [2, 3] 3 (m__law_top (s__law_top n)) := rfl
noncomputable def lp__law_holds_1 : M Fl := (mSeq (mIfS (mAnd (bnd (mOp gtD (mR 2) (mD (ret (.int 1)))) asB) (bnd (mOp gtD (mD (mCall (s__law_top 30) [] (mCons (mR 1) (mCons (mR 2) (ret []))))) (mD (mCall s__law_under [] (mCons (mR 0) (mCons (mR 2) (ret [])))))) asB)) (mSeq (mRet (ret (.bool false))) mNil) mNil) mNil)
noncomputable def fr__law_holds_1 : M Fl := (mFor [2, 3] (mIt (mV 0)) (gTupM 2 (gConsM (gN 2) (gConsM (gN 3) gNilM))) lp__law_holds_1)
noncomputable def m__law_holds : M Fl := (mSeq fr__law_holds_1 (mSeq (mRet (mOp leD (mD (mCall (s__law_top 30) [] (mCons (mR 1) (mCons (mD (ret .none)) (ret []))))) (mD (mCall s_sum_of [] (mCons (mR 0) (ret [])))))) mNil))
noncomputable def s__law_holds : M Sl := mFn [2, 3] 2 m__law_holds
end Lw
namespace Lw
open PySem L2 Bt
noncomputable def lp__law_names_v2_1 (ih : M Sl) : M Fl := (mSeq (mSet (gN 1) (mOp addD (mR 1) (mD (mCall ih [] (mCons (mR 3) (ret [])))))) mNil)
noncomputable def fr__law_names_v2_1 (ih : M Sl) : M Fl := (mFor [3] (mIt (mV 2)) (gN 3) (lp__law_names_v2_1 ih))
noncomputable def m__law_names_v2 (ih : M Sl) : M Fl := (mSeq (mIfS (bnd (mOp eqD (mD (mOp ixD (mR 0) (mD (ret (.int 0))))) (mD (ret (.str (Str.ofString "call"))))) asB) (mSeq (mRetS (mObj (mLstO (mLstF (mConsD (mOp ixD (mR 0) (mD (ret (.int 1)))) (ret [])))))) mNil) mNil) (mSeq (mSet (gN 1) (mLst (ret []))) (mSeq (mSet (gN 2) (mIf (bnd (mOp inD (mD (mOp ixD (mR 0) (mD (ret (.int 0))))) (mD (mTup (mConsD (ret (.str (Str.ofString "all"))) (mConsD (ret (.str (Str.ofString "one"))) (ret [])))))) asB) (mOp ixD (mR 0) (mD (ret (.int 1)))) (mSl (mR 0) (mPart (some (ret (.int 2)))) (mPart none)))) (mSeq (fr__law_names_v2_1 ih) (mSeq (mRet (mV 1)) mNil)))))
noncomputable def s__law_names_v2 : Nat → M Sl
  | 0 => stuck
  | n + 1 => mFn [1, 2, 3] 3 (m__law_names_v2 (s__law_names_v2 n))
theorem r__law_names_v2 (n : Nat) : s__law_names_v2 (n + 1) = mFn [1, 2, 3] 3 (m__law_names_v2 (s__law_names_v2 n)) := rfl
noncomputable def lc__law_tag_1 : M D := (mLc (mIt (mV 0)) (gN 1) (ret true) (mOp inD (mR 1) (mD (ret (.str (Str.ofString "abcdefghijklmnopqrstuvwxyz"))))) [1])
noncomputable def m__law_tag : M Fl := (mSeq (mIfS (mOr (mNot (bnd (mIsi "str" (mR 0)) asB)) (mNot (bnd (mChain ltD ltD (mD (ret (.int 0))) (mD (mB lenF (mCons (mR 0) (ret [])))) (mD (ret (.int 9)))) asB))) (mSeq (mRet (ret (.bool false))) mNil) mNil) (mSeq (mRet (mB allF (mCons (mD lc__law_tag_1) (ret [])))) mNil))
noncomputable def s__law_tag : M Sl := mFn [] 1 m__law_tag
noncomputable def lc__law_formed_1 (ih : M Sl) : M D := (mLc (mIt (mOp ixD (mR 0) (mD (ret (.int 1))))) (gN 2) (ret true) (mCall ih [] (mCons (mR 2) (mCons (mD (mOp subD (mR 1) (mD (ret (.int 1))))) (ret [])))) [2])
noncomputable def m__law_formed (ih : M Sl) : M Fl := (mSeq (mIfS (mOr (mNot (bnd (mIsi "tuple" (mR 0)) asB)) (mOr (bnd (mOp eqD (mD (mB lenF (mCons (mR 0) (ret [])))) (mD (ret (.int 0)))) asB) (bnd (mOp ltD (mR 1) (mD (ret (.int 1)))) asB))) (mSeq (mRet (ret (.bool false))) mNil) mNil) (mSeq (mIfS (mAnd (bnd (mOp eqD (mD (mOp ixD (mR 0) (mD (ret (.int 0))))) (mD (ret (.str (Str.ofString "call"))))) asB) (mAnd (bnd (mOp eqD (mD (mB lenF (mCons (mR 0) (ret [])))) (mD (ret (.int 4)))) asB) (bnd (mCall s__law_tag [] (mCons (mD (mOp ixD (mR 0) (mD (ret (.int 1))))) (ret []))) asB))) (mSeq (mRet (mAndV (mCall s_is_from [] (mCons (mD (mOp ixD (mR 0) (mD (ret (.int 2))))) (mCons (mD (ret (.int 1))) (ret [])))) (mCall s_is_from [] (mCons (mD (mOp ixD (mR 0) (mD (ret (.int 3))))) (mCons (mD (ret (.int 1))) (ret [])))))) mNil) mNil) (mSeq (mIfS (mAnd (bnd (mOp inD (mD (mOp ixD (mR 0) (mD (ret (.int 0))))) (mD (mTup (mConsD (ret (.str (Str.ofString "within"))) (mConsD (ret (.str (Str.ofString "calls"))) (ret [])))))) asB) (bnd (mOp eqD (mD (mB lenF (mCons (mR 0) (ret [])))) (mD (ret (.int 3)))) asB)) (mSeq (mRet (mAndV (mCall s_is_from [] (mCons (mD (mOp ixD (mR 0) (mD (ret (.int 1))))) (mCons (mD (ret (.int 1))) (ret [])))) (mCall ih [] (mCons (mD (mOp ixD (mR 0) (mD (ret (.int 2))))) (mCons (mD (mOp subD (mR 1) (mD (ret (.int 1))))) (ret [])))))) mNil) mNil) (mSeq (mIfS (mAnd (bnd (mOp inD (mD (mOp ixD (mR 0) (mD (ret (.int 0))))) (mD (mTup (mConsD (ret (.str (Str.ofString "all"))) (mConsD (ret (.str (Str.ofString "one"))) (ret [])))))) asB) (mAnd (bnd (mOp eqD (mD (mB lenF (mCons (mR 0) (ret [])))) (mD (ret (.int 2)))) asB) (bnd (mIsi "tuple" (mD (mOp ixD (mR 0) (mD (ret (.int 1)))))) asB))) (mSeq (mRet (mB allF (mCons (mD (lc__law_formed_1 ih)) (ret [])))) mNil) mNil) (mSeq (mRet (mOp eqD (mR 0) (mD (mTup (mConsD (ret (.str (Str.ofString "none"))) (ret [])))))) mNil)))))
noncomputable def s__law_formed : Nat → M Sl
  | 0 => stuck
  | n + 1 => mFn [] 1 (m__law_formed (s__law_formed n))
theorem r__law_formed (n : Nat) : s__law_formed (n + 1) = mFn [] 1 (m__law_formed (s__law_formed n)) := rfl
noncomputable def m__law_is_right : M Fl := (mSeq (mRet (mAndV (mCall (s__law_formed 30) [] (mCons (mR 0) (mCons (mD (ret (.int 6))) (ret [])))) (mOp eqD (mD (mLenSet (mCall (s__law_names_v2 30) [] (mCons (mR 0) (ret []))))) (mD (mB lenF (mCons (mD (mCall (s__law_names_v2 30) [] (mCons (mR 0) (ret [])))) (ret []))))))) mNil)
noncomputable def s__law_is_right : M Sl := mFn [] 0 m__law_is_right
end Lw
namespace Lw
open PySem L2 Bt
noncomputable def lp__law_pile_1 : M Fl := (mSeq (mApp 2 (mOp addD (mD (ret (.int 1))) (mD (mCall s__law_take [] (mCons (mR 0) (mCons (mD (mOp ixD (mD (mLst (mConsD (ret (.int 3)) (mConsD (mV 1) (ret []))))) (mD (mCall s__law_take [] (mCons (mR 0) (mCons (mD (ret (.int 2))) (ret []))))))) (ret []))))))) mNil)
noncomputable def fr__law_pile_1 : M Fl := (mFor [3] (mRng1 (mCons (mD (mCall s__law_take [] (mCons (mR 0) (mCons (mD (ret (.int 5))) (ret []))))) (ret []))) (gN 3) lp__law_pile_1)
noncomputable def m__law_pile : M Fl := (mSeq (mOwn 2 (mOpF mulL (mD (mLst (mConsD (ret (.int 1)) (ret [])))) (mD (mCall s__law_take [] (mCons (mR 0) (mCons (mD (ret (.int 6))) (ret []))))))) (mSeq fr__law_pile_1 (mSeq (mRetS (mCallO s__law_heap [] (mCons (mR 2) (ret [])))) mNil)))
noncomputable def s__law_pile : M Sl := mFn [2, 3] 2 m__law_pile
end Lw
namespace Lw
open PySem L2 Bt
noncomputable def m_k49_telling_company : M Fl := (mSeq (mExpr (mCall s_look_at_two [] (mCons (mR 0) (mCons (mR 1) (ret []))))) (mSeq (mExpr (mCall s_look_at_small [] (mCons (mR 0) (ret [])))) (mSeq (mExpr (mCall s_look_at_small [] (mCons (mR 1) (ret [])))) (mSeq (mSet (gN 2) (mCall s_outdone_at [] (mCons (mR 0) (mCons (mR 1) (ret []))))) (mSeq (mIfS (bnd (mOp eqD (mD (mB lenF (mCons (mR 2) (ret [])))) (mD (ret (.int 0)))) asB) (mSeq (mRet (ret .none)) mNil) mNil) (mSeq (mSet (gN 3) (mOp ixD (mR 2) (mD (ret (.int 0))))) (mSeq (mSet (gN 4) (mCall s_less_of [] (mCons (mR 1) (mCons (mR 3) (ret []))))) (mSeq (mSet (gN 5) (mOp mulD (mR 4) (mD (mOp subD (mR 3) (mD (ret (.int 2))))))) (mSeq (mAug (· + ·) 5 (mOp modD (mD (mOp subD (mD (mOp subD (mD (ret (.int 0))) (mR 4))) (mR 5))) (mD (mOp subD (mR 3) (mD (ret (.int 1))))))) (mSeq (mSet (gN 6) (mOp fdivD (mD (mOp addD (mR 4) (mR 5))) (mD (mOp subD (mR 3) (mD (ret (.int 1))))))) (mSeq (mRet (mTup (mConsD (mCallN s_from_counts [] (mNewO (mDisp (mPairC (ret (.int 1)) (mV 5) (mPairC (mV 3) (ret (.int 1)) (ret [])))) (ret []))) (mConsD (mTup (mConsD (ret (.str (Str.ofString "call"))) (mConsD (ret (.str (Str.ofString "a"))) (mConsD (mOp subD (mR 3) (mD (ret (.int 1)))) (mConsD (mV 6) (ret [])))))) (ret []))))) mNil)))))))))))
noncomputable def s_k49_telling_company : M Sl := mFn [2, 3, 4, 5, 6] 5 m_k49_telling_company
noncomputable def lp_k49__law_coins_1 : M Fl := (mSeq (mOwn 1 (mOpF addL (mR 1) (mD (mOp mulD (mD (mLst (mConsD (mV 2) (ret [])))) (mR 3))))) mNil)
noncomputable def fr_k49__law_coins_1 : M Fl := (mFor [2, 3] (mIt (mV 0)) (gTupM 2 (gConsM (gN 2) (gConsM (gN 3) gNilM))) lp_k49__law_coins_1)
noncomputable def m_k49__law_coins : M Fl := (mSeq (mOwn 1 (mLstF (ret []))) (mSeq fr_k49__law_coins_1 (mSeq (mRetS (mGive 1)) mNil)))
noncomputable def s_k49__law_coins : M Sl := mFn [1, 2, 3] 3 m_k49__law_coins
noncomputable def lp_k49__law_is_pile_1 : M Fl := (mSeq (mIfS (mOr (mNot (bnd (mIsi "tuple" (mR 1)) asB)) (bnd (mOp neD (mD (mB lenF (mCons (mR 1) (ret [])))) (mD (ret (.int 2)))) asB)) (mSeq (mRet (ret (.bool false))) mNil) mNil) (mSeq (mIfS (mOr (mNot (bnd (mCall s_is_from [] (mCons (mD (mOp ixD (mR 1) (mD (ret (.int 0))))) (mCons (mD (ret (.int 1))) (ret [])))) asB)) (mNot (bnd (mCall s_is_from [] (mCons (mD (mOp ixD (mR 1) (mD (ret (.int 1))))) (mCons (mD (ret (.int 1))) (ret [])))) asB))) (mSeq (mRet (ret (.bool false))) mNil) mNil) mNil))
noncomputable def fr_k49__law_is_pile_1 : M Fl := (mFor [1] (mIt (mV 0)) (gN 1) lp_k49__law_is_pile_1)
noncomputable def lc_k49__law_is_pile_1 : M D := (mLc (mZip (mConsD (mV 0) (mConsD (mSl (mR 0) (mPart (some (ret (.int 1)))) (mPart none)) (ret [])))) (gTupM 2 (gConsM (gN 2) (gConsM (gN 3) gNilM))) (ret true) (mOp ltD (mD (mOp ixD (mR 2) (mD (ret (.int 0))))) (mD (mOp ixD (mR 3) (mD (ret (.int 0)))))) [2, 3])
noncomputable def m_k49__law_is_pile : M Fl := (mSeq (mIfS (mNot (bnd (mIsi "tuple" (mR 0)) asB)) (mSeq (mRet (ret (.bool false))) mNil) mNil) (mSeq fr_k49__law_is_pile_1 (mSeq (mRet (mB allF (mCons (mD lc_k49__law_is_pile_1) (ret [])))) mNil)))
noncomputable def s_k49__law_is_pile : M Sl := mFn [1] 3 m_k49__law_is_pile
noncomputable def m_k49__law_changed : M Fl := (mSeq (mSetS 2 (mCallO s_k49__law_coins [] (mCons (mR 1) (ret [])))) (mSeq (mIfS (mOr (bnd (mOp eqD (mR 2) (mD (mLst (ret [])))) asB) (bnd (mOp eqD (mD (mCall s__law_take [] (mCons (mR 0) (mCons (mD (ret (.int 3))) (ret []))))) (mD (ret (.int 0)))) asB)) (mSeq (mRetS (mCallO s__law_heap [] (mCons (mD (mOp addD (mR 2) (mD (mLst (mConsD (mOp addD (mD (ret (.int 1))) (mD (mCall s__law_take [] (mCons (mR 0) (mCons (mD (ret (.int 9))) (ret [])))))) (ret [])))))) (ret [])))) mNil) mNil) (mSeq (mSet (gN 3) (mPop 2 (mD (mCall s__law_take [] (mCons (mR 0) (mCons (mD (mB lenF (mCons (mR 2) (ret [])))) (ret []))))))) (mSeq (mRetS (mCallO s__law_heap [] (mCons (mD (mOp addD (mR 2) (mD (mOp mulD (mD (mLst (mConsD (mOp addD (mR 3) (mD (mCall s__law_take [] (mCons (mR 0) (mCons (mD (ret (.int 3))) (ret [])))))) (ret [])))) (mD (mCall s__law_take [] (mCons (mR 0) (mCons (mD (ret (.int 2))) (ret []))))))))) (ret [])))) mNil))))
noncomputable def s_k49__law_changed : M Sl := mFn [2, 3] 2 m_k49__law_changed
noncomputable def lp_k49__law_together_1 : M Fl := (mSeq (mDPut 2 (mR 3) (mOp addD (mD (mDGet2 2 (mR 3) (ret (.int 0)))) (mR 4))) mNil)
noncomputable def fr_k49__law_together_1 : M Fl := (mFor [3, 4] (mIt (mV 1)) (gTupM 2 (gConsM (gN 3) (gConsM (gN 4) gNilM))) lp_k49__law_together_1)
noncomputable def lc_k49__law_together_1 : M D := (mLc (mIt (mSortD 2)) (gN 3) (ret true) (mTup (mConsD (mV 3) (mConsD (mDGet 2 (mR 3)) (ret [])))) [3])
noncomputable def m_k49__law_together : M Fl := (mSeq (mOwnO 2 (mDict (mR 0))) (mSeq fr_k49__law_together_1 (mSeq (mRet (mB tupleF (mCons (mD lc_k49__law_together_1) (ret [])))) mNil)))
noncomputable def s_k49__law_together : M Sl := mFn [2, 3, 4] 3 m_k49__law_together
noncomputable def lc_k49__law_due_1 : M D := (mLc (mIt (mOp addD (mR 0) (mR 1))) (gTupM 2 (gConsM (gN 3) (gConsM (gN 4) gNilM))) (ret true) (mOp addD (mR 3) (mD (ret (.int 1)))) [3, 4])
noncomputable def lc_k49__law_due_2 : M D := (mLc (mIt (mV 2)) (gN 5) (bnd (mOp ltD (mD (mCall s__law_under [] (mCons (mR 0) (mCons (mR 5) (ret []))))) (mD (mCall s__law_under [] (mCons (mR 1) (mCons (mR 5) (ret [])))))) asB) (mV 5) [5])
noncomputable def m_k49__law_due : M Fl := (mSeq (mSet (gN 2) lc_k49__law_due_1) (mSeq (mRet (mOp eqD (mD lc_k49__law_due_2) (mD (mLst (ret []))))) mNil))
noncomputable def s_k49__law_due : M Sl := mFn [2] 4 m_k49__law_due
noncomputable def m_k49__law_good : M Fl := (mSeq (mSet (gN 2) (mCall s_k49__law_due [] (mCons (mR 0) (mCons (mR 1) (ret []))))) (mSeq (mSet (gN 3) (mCall s_k49_telling_company [] (mCons (mR 0) (mCons (mR 1) (ret []))))) (mSeq (mIfS (mOr (bnd (mOp neD (mD (mCall s_outdoes [] (mCons (mR 0) (mCons (mR 1) (ret []))))) (mR 2)) asB) (mOr (mNot (bnd (mIsi "bool" (mD (mCall s_outdoes [] (mCons (mR 0) (mCons (mR 1) (ret [])))))) asB)) (bnd (mOp neD (mR 2) (mD (mOp isD (mR 3) (mD (ret .none))))) asB))) (mSeq (mRet (ret (.bool false))) mNil) mNil) (mSeq (mIfS (bnd (mV 2) asB) (mSeq (mRet (ret (.bool true))) mNil) mNil) (mSeq (mIfS (mOr (mNot (bnd (mIsi "tuple" (mR 3)) asB)) (mOr (bnd (mOp neD (mD (mB lenF (mCons (mR 3) (ret [])))) (mD (ret (.int 2)))) asB) (mOr (mNot (bnd (mCall s_k49__law_is_pile [] (mCons (mD (mOp ixD (mR 3) (mD (ret (.int 0))))) (ret []))) asB)) (mNot (bnd (mCall s__law_is_right [] (mCons (mD (mOp ixD (mR 3) (mD (ret (.int 1))))) (ret []))) asB))))) (mSeq (mRet (ret (.bool false))) mNil) mNil) (mSeq (mSet (gTupM 2 (gConsM (gN 4) (gConsM (gN 5) gNilM))) (mV 3)) (mSeq (mRet (mAndV (mCall s__law_holds [] (mCons (mD (mCall s_k49__law_together [] (mCons (mR 1) (mCons (mR 4) (ret []))))) (mCons (mR 5) (ret [])))) (mNotV (mCall s__law_holds [] (mCons (mD (mCall s_k49__law_together [] (mCons (mR 0) (mCons (mR 4) (ret []))))) (mCons (mR 5) (ret []))))))) mNil)))))))
noncomputable def s_k49__law_good : M Sl := mFn [2, 3, 4, 5] 4 m_k49__law_good
noncomputable def lp_k49_law_1 : M Fl := (mSeq (mSet (gN 5) (mCall s__law_pile [] (mCons (mR 3) (mCons (mD (ret (.int 12))) (ret []))))) (mSeq (mSet (gN 6) (mCall s_k49__law_changed [] (mCons (mR 3) (mCons (mR 5) (ret []))))) (mSeq (mIfS (bnd (mOp eqD (mD (mCall s__law_take [] (mCons (mR 3) (mCons (mD (ret (.int 3))) (ret []))))) (mD (ret (.int 0)))) asB) (mSeq (mSet (gN 6) (mCall s__law_pile [] (mCons (mR 3) (mCons (mD (ret (.int 12))) (ret []))))) mNil) mNil) (mSeq (mIfS (mOr (mNot (bnd (mCall s_k49__law_good [] (mCons (mR 5) (mCons (mR 6) (ret [])))) asB)) (mOr (mNot (bnd (mCall s_k49__law_good [] (mCons (mR 6) (mCons (mR 5) (ret [])))) asB)) (mNot (bnd (mCall s_k49__law_good [] (mCons (mR 5) (mCons (mR 5) (ret [])))) asB)))) (mSeq (mRet (ret (.bool false))) mNil) mNil) (mSeq (mSet (gN 7) (mTup (mConsD (mTup (mConsD (mOp addD (mD (ret (.int 1))) (mD (mCall s__law_take [] (mCons (mR 3) (mCons (mD (mOp powD (mD (ret (.int 10))) (mD (ret (.int 11))))) (ret [])))))) (mConsD (mOp addD (mD (ret (.int 1))) (mD (mCall s__law_take [] (mCons (mR 3) (mCons (mD (ret (.int 9))) (ret [])))))) (ret [])))) (ret [])))) (mSeq (mIfS (mOr (bnd (mOp neD (mD (mCall s_outdoes [] (mCons (mR 7) (mCons (mR 5) (ret []))))) (mD (mCall s_k49__law_due [] (mCons (mR 7) (mCons (mR 5) (ret [])))))) asB) (bnd (mOp neD (mD (mCall s_outdoes [] (mCons (mR 5) (mCons (mR 7) (ret []))))) (mD (mCall s_k49__law_due [] (mCons (mR 5) (mCons (mR 7) (ret [])))))) asB)) (mSeq (mRet (ret (.bool false))) mNil) mNil) mNil))))))
noncomputable def fr_k49_law_1 : M Fl := (mFor [4, 5, 6, 7] (mRng1 (mCons (mD (ret (.int 3))) (ret []))) (gN 4) lp_k49_law_1)
noncomputable def lp_k49_law_2 : M Fl := (mSeq (mOwn 3 (mLstF (mConsD (mCall s__law_cell [] (mCons (mR 0) (mCons (mR 1) (ret [])))) (ret [])))) (mSeq fr_k49_law_1 mNil))
noncomputable def fr_k49_law_2 : M Fl := (mFor [1, 3, 4, 5, 6, 7] (mRng1 (mCons (mD (mB maxF (mCons (mD (mB minF (mCons (mD (mLenScr 0)) (mCons (mD (ret (.int 6))) (ret []))))) (mCons (mD (ret (.int 1))) (ret []))))) (ret []))) (gN 1) lp_k49_law_2)
noncomputable def m_k49_law : M Fl := (mSeq fr_k49_law_2 (mSeq (mIfS (mOr (mNot (bnd (mCall s_k49__law_good [] (mCons (mD (mTup (mConsD (mTup (mConsD (ret (.int 2)) (mConsD (ret (.int 100)) (ret [])))) (ret [])))) (mCons (mD (mTup (mConsD (mTup (mConsD (ret (.int 1)) (mConsD (ret (.int 200)) (ret [])))) (ret [])))) (ret [])))) asB)) (mNot (bnd (mCall s_k49__law_good [] (mCons (mD (mTup (mConsD (mTup (mConsD (ret (.int 1)) (mConsD (ret (.int 200)) (ret [])))) (ret [])))) (mCons (mD (mTup (mConsD (mTup (mConsD (ret (.int 200)) (mConsD (ret (.int 1)) (ret [])))) (ret [])))) (ret [])))) asB))) (mSeq (mRet (ret (.bool false))) mNil) mNil) (mSeq (mSet (gN 2) (mLst (mConsD (mTup (mConsD (mTup (mConsD (ret (.int 1)) (mConsD (ret (.int 1)) (ret [])))) (mConsD (mTup (mConsD (ret (.int 2)) (mConsD (ret (.int 1)) (ret [])))) (mConsD (mTup (mConsD (ret (.int 4)) (mConsD (ret (.int 1)) (ret [])))) (ret []))))) (mConsD (mTup (mConsD (mTup (mConsD (ret (.int 1)) (mConsD (ret (.int 1)) (ret [])))) (mConsD (mTup (mConsD (ret (.int 2)) (mConsD (ret (.int 3)) (ret [])))) (ret [])))) (ret []))))) (mSeq (mRet (mAndV (mNotV (mCall s_outdoes [] (mCons (mD (mOp ixD (mR 2) (mD (ret (.int 0))))) (mCons (mD (mOp ixD (mR 2) (mD (ret (.int 1))))) (ret []))))) (mCall s_outdoes [] (mCons (mD (mOp ixD (mR 2) (mD (ret (.int 1))))) (mCons (mD (mOp ixD (mR 2) (mD (ret (.int 0))))) (ret [])))))) mNil))))
noncomputable def s_k49_law : M Sl := mFn [1, 2, 3, 4, 5, 6, 7] 7 m_k49_law
end Lw
namespace Lw
open PySem L2 Bt
def topS (i : Nat) : Stmt := PySem.Challenge.pw_blindtill_k49_tills_in_every_company.main.body.getD i (.Pass ⟨0, 0, 0, 0⟩)
abbrev t_is_from : Stmt := topS 6
abbrev N_is_from : List Str := ["thing", "least"]
theorem sc_is_from : FnScope N_is_from ["thing", "least"] (defScope t_is_from) := ⟨rfl, rfl, rfl, by decide +kernel, rfl, by decide +kernel, by decide +kernel⟩
abbrev t_is_lot : Stmt := topS 7
abbrev N_is_lot : List Str := ["thing"]
theorem sc_is_lot : FnScope N_is_lot ["thing"] (defScope t_is_lot) := ⟨rfl, rfl, rfl, by decide +kernel, rfl, by decide +kernel, by decide +kernel⟩
abbrev t_is_pile : Stmt := topS 8
abbrev N_is_pile : List Str := ["thing", "one", "other", "lot"]
theorem sc_is_pile : FnScope N_is_pile ["thing"] (defScope t_is_pile) := ⟨rfl, rfl, rfl, by decide +kernel, rfl, by decide +kernel, by decide +kernel⟩
abbrev t_look_at_pile : Stmt := topS 9
abbrev N_look_at_pile : List Str := ["thing"]
theorem sc_look_at_pile : FnScope N_look_at_pile ["thing"] (defScope t_look_at_pile) := ⟨rfl, rfl, rfl, by decide +kernel, rfl, by decide +kernel, by decide +kernel⟩
abbrev t_sum_of : Stmt := topS 10
abbrev N_sum_of : List Str := ["pile", "worth", "many"]
theorem sc_sum_of : FnScope N_sum_of ["pile"] (defScope t_sum_of) := ⟨rfl, rfl, rfl, by decide +kernel, rfl, by decide +kernel, by decide +kernel⟩
abbrev t_less_of : Stmt := topS 11
abbrev N_less_of : List Str := ["pile", "worth", "one", "many"]
theorem sc_less_of : FnScope N_less_of ["pile", "worth"] (defScope t_less_of) := ⟨rfl, rfl, rfl, by decide +kernel, rfl, by decide +kernel, by decide +kernel⟩
abbrev t_look_at_small : Stmt := topS 12
abbrev N_look_at_small : List Str := ["pile"]
theorem sc_look_at_small : FnScope N_look_at_small ["pile"] (defScope t_look_at_small) := ⟨rfl, rfl, rfl, by decide +kernel, rfl, by decide +kernel, by decide +kernel⟩
abbrev t_from_counts : Stmt := topS 13
abbrev N_from_counts : List Str := ["counts", "worth"]
theorem sc_from_counts : FnScope N_from_counts ["counts"] (defScope t_from_counts) := ⟨rfl, rfl, rfl, by decide +kernel, rfl, by decide +kernel, by decide +kernel⟩
abbrev t_look_at_two : Stmt := topS 15
abbrev N_look_at_two : List Str := ["one", "other"]
theorem sc_look_at_two : FnScope N_look_at_two ["one", "other"] (defScope t_look_at_two) := ⟨rfl, rfl, rfl, by decide +kernel, rfl, by decide +kernel, by decide +kernel⟩
abbrev t_outdone_at : Stmt := topS 16
abbrev N_outdone_at : List Str := ["one", "other", "bounds", "below", "worth", "many"]
theorem sc_outdone_at : FnScope N_outdone_at ["one", "other"] (defScope t_outdone_at) := ⟨rfl, rfl, rfl, by decide +kernel, rfl, by decide +kernel, by decide +kernel⟩
abbrev t_outdoes : Stmt := topS 17
abbrev N_outdoes : List Str := ["one", "other"]
theorem sc_outdoes : FnScope N_outdoes ["one", "other"] (defScope t_outdoes) := ⟨rfl, rfl, rfl, by decide +kernel, rfl, by decide +kernel, by decide +kernel⟩
abbrev t_telling_company : Stmt := topS 18
abbrev N_telling_company : List Str := ["one", "other", "found", "below", "there", "ones", "often"]
theorem sc_telling_company : FnScope N_telling_company ["one", "other"] (defScope t_telling_company) := ⟨rfl, rfl, rfl, by decide +kernel, rfl, by decide +kernel, by decide +kernel⟩
abbrev t__law_mixed : Stmt := topS 20
abbrev N__law_mixed : List Str := ["_law_cell_here", "_law_k", "_law_mix"]
theorem sc__law_mixed : FnScope N__law_mixed ["_law_cell_here", "_law_k"] (defScope t__law_mixed) := ⟨rfl, rfl, rfl, by decide +kernel, rfl, by decide +kernel, by decide +kernel⟩
abbrev t__law_cell : Stmt := topS 21
abbrev N__law_cell : List Str := ["_law_script", "_law_k", "_law_cell_here", "_law_found", "_law_j"]
theorem sc__law_cell : FnScope N__law_cell ["_law_script", "_law_k"] (defScope t__law_cell) := ⟨rfl, rfl, rfl, by decide +kernel, rfl, by decide +kernel, by decide +kernel⟩
abbrev t__law_take : Stmt := topS 22
abbrev N__law_take : List Str := ["_law_pile_here", "_law_size", "_law_digit"]
theorem sc__law_take : FnScope N__law_take ["_law_pile_here", "_law_size"] (defScope t__law_take) := ⟨rfl, rfl, rfl, by decide +kernel, rfl, by decide +kernel, by decide +kernel⟩
abbrev t__law_sum : Stmt := topS 23
abbrev N__law_sum : List Str := ["_law_pile_here", "_law_worth", "_law_many"]
theorem sc__law_sum : FnScope N__law_sum ["_law_pile_here"] (defScope t__law_sum) := ⟨rfl, rfl, rfl, by decide +kernel, rfl, by decide +kernel, by decide +kernel⟩
abbrev t__law_under : Stmt := topS 24
abbrev N__law_under : List Str := ["_law_pile_here", "_law_bound", "_law_worth", "_law_many"]
theorem sc__law_under : FnScope N__law_under ["_law_pile_here", "_law_bound"] (defScope t__law_under) := ⟨rfl, rfl, rfl, by decide +kernel, rfl, by decide +kernel, by decide +kernel⟩
abbrev t__law_heap : Stmt := topS 25
abbrev N__law_heap : List Str := ["_law_coins_here", "_law_found", "_law_coin"]
theorem sc__law_heap : FnScope N__law_heap ["_law_coins_here"] (defScope t__law_heap) := ⟨rfl, rfl, rfl, by decide +kernel, rfl, by decide +kernel, by decide +kernel⟩
abbrev t__law_coins : Stmt := topS 26
abbrev N__law_coins : List Str := ["_law_pile_here", "_law_found", "_law_worth", "_law_many"]
theorem sc__law_coins : FnScope N__law_coins ["_law_pile_here"] (defScope t__law_coins) := ⟨rfl, rfl, rfl, by decide +kernel, rfl, by decide +kernel, by decide +kernel⟩
abbrev t__law_length : Stmt := topS 27
abbrev N__law_length : List Str := ["_law_right", "_law_word", "_law_counts", "_law_part"]
theorem sc__law_length : FnScope N__law_length ["_law_right"] (defScope t__law_length) := ⟨rfl, rfl, rfl, by decide +kernel, rfl, by decide +kernel, by decide +kernel⟩
abbrev t__law_row : Stmt := topS 28
abbrev N__law_row : List Str := ["_law_right", "_law_bound", "_law_many", "_law_word", "_law_found", "_law_part", "_law_cut", "_law_row_here", "_law_j", "_law_one", "_law_pair", "_law_i"]
theorem sc__law_row : FnScope N__law_row ["_law_right", "_law_bound", "_law_many"] (defScope t__law_row) := ⟨rfl, rfl, rfl, by decide +kernel, rfl, by decide +kernel, by decide +kernel⟩
abbrev t__law_top : Stmt := topS 29
abbrev N__law_top : List Str := ["_law_right", "_law_bound", "_law_word", "_law_tops", "_law_part"]
theorem sc__law_top : FnScope N__law_top ["_law_right", "_law_bound"] (defScope t__law_top) := ⟨rfl, rfl, rfl, by decide +kernel, rfl, by decide +kernel, by decide +kernel⟩
abbrev t__law_holds : Stmt := topS 30
abbrev N__law_holds : List Str := ["_law_pile_here", "_law_right", "_law_worth", "_law_many"]
theorem sc__law_holds : FnScope N__law_holds ["_law_pile_here", "_law_right"] (defScope t__law_holds) := ⟨rfl, rfl, rfl, by decide +kernel, rfl, by decide +kernel, by decide +kernel⟩
abbrev t__law_whole_from : Stmt := topS 31
abbrev N__law_whole_from : List Str := ["_law_thing", "_law_least"]
theorem sc__law_whole_from : FnScope N__law_whole_from ["_law_thing", "_law_least"] (defScope t__law_whole_from) := ⟨rfl, rfl, rfl, by decide +kernel, rfl, by decide +kernel, by decide +kernel⟩
abbrev t__law_names : Stmt := topS 32
abbrev N__law_names : List Str := ["_law_right", "_law_found", "_law_parts", "_law_part"]
theorem sc__law_names : FnScope N__law_names ["_law_right"] (defScope t__law_names) := ⟨rfl, rfl, rfl, by decide +kernel, rfl, by decide +kernel, by decide +kernel⟩
abbrev t__law_tag : Stmt := topS 33
abbrev N__law_tag : List Str := ["_law_thing", "_law_sign"]
theorem sc__law_tag : FnScope N__law_tag ["_law_thing"] (defScope t__law_tag) := ⟨rfl, rfl, rfl, by decide +kernel, rfl, by decide +kernel, by decide +kernel⟩
abbrev t__law_formed : Stmt := topS 34
abbrev N__law_formed : List Str := ["_law_thing", "_law_deep", "_law_part"]
theorem sc__law_formed : FnScope N__law_formed ["_law_thing", "_law_deep"] (defScope t__law_formed) := ⟨rfl, rfl, rfl, by decide +kernel, rfl, by decide +kernel, by decide +kernel⟩
abbrev t__law_is_right : Stmt := topS 35
abbrev N__law_is_right : List Str := ["_law_thing"]
theorem sc__law_is_right : FnScope N__law_is_right ["_law_thing"] (defScope t__law_is_right) := ⟨rfl, rfl, rfl, by decide +kernel, rfl, by decide +kernel, by decide +kernel⟩
abbrev t__law_is_pile : Stmt := topS 36
abbrev N__law_is_pile : List Str := ["_law_thing", "_law_lot", "_law_one", "_law_other"]
theorem sc__law_is_pile : FnScope N__law_is_pile ["_law_thing"] (defScope t__law_is_pile) := ⟨rfl, rfl, rfl, by decide +kernel, rfl, by decide +kernel, by decide +kernel⟩
abbrev t__law_pile : Stmt := topS 37
abbrev N__law_pile : List Str := ["_law_digits", "_law_most_worth", "_law_coins_here", "_law_k"]
theorem sc__law_pile : FnScope N__law_pile ["_law_digits", "_law_most_worth"] (defScope t__law_pile) := ⟨rfl, rfl, rfl, by decide +kernel, rfl, by decide +kernel, by decide +kernel⟩
abbrev t__law_changed : Stmt := topS 38
abbrev N__law_changed : List Str := ["_law_digits", "_law_pile_here", "_law_coins_here", "_law_coin"]
theorem sc__law_changed : FnScope N__law_changed ["_law_digits", "_law_pile_here"] (defScope t__law_changed) := ⟨rfl, rfl, rfl, by decide +kernel, rfl, by decide +kernel, by decide +kernel⟩
abbrev t__law_together : Stmt := topS 39
abbrev N__law_together : List Str := ["_law_one", "_law_other", "_law_found", "_law_worth", "_law_many"]
theorem sc__law_together : FnScope N__law_together ["_law_one", "_law_other"] (defScope t__law_together) := ⟨rfl, rfl, rfl, by decide +kernel, rfl, by decide +kernel, by decide +kernel⟩
abbrev t__law_due : Stmt := topS 40
abbrev N__law_due : List Str := ["_law_one", "_law_other", "_law_bounds", "_law_worth", "_law_many", "_law_bound"]
theorem sc__law_due : FnScope N__law_due ["_law_one", "_law_other"] (defScope t__law_due) := ⟨rfl, rfl, rfl, by decide +kernel, rfl, by decide +kernel, by decide +kernel⟩
abbrev t__law_good : Stmt := topS 41
abbrev N__law_good : List Str := ["_law_one", "_law_other", "_law_due_here", "_law_told", "_law_company", "_law_right"]
theorem sc__law_good : FnScope N__law_good ["_law_one", "_law_other"] (defScope t__law_good) := ⟨rfl, rfl, rfl, by decide +kernel, rfl, by decide +kernel, by decide +kernel⟩
abbrev t_law : Stmt := topS 42
abbrev N_law : List Str := ["_law_script", "_law_turn", "_law_some", "_law_digits", "_law_k", "_law_one", "_law_other", "_law_great"]
theorem sc_law : FnScope N_law ["_law_script"] (defScope t_law) := ⟨rfl, rfl, rfl, by decide +kernel, rfl, by decide +kernel, by decide +kernel⟩
structure Adr where
  f_is_from : Addr
  d_is_from : FuncData
  f_is_lot : Addr
  d_is_lot : FuncData
  f_is_pile : Addr
  d_is_pile : FuncData
  f_look_at_pile : Addr
  d_look_at_pile : FuncData
  f_sum_of : Addr
  d_sum_of : FuncData
  f_less_of : Addr
  d_less_of : FuncData
  f_look_at_small : Addr
  d_look_at_small : FuncData
  f_from_counts : Addr
  d_from_counts : FuncData
  f_look_at_two : Addr
  d_look_at_two : FuncData
  f_outdone_at : Addr
  d_outdone_at : FuncData
  f_outdoes : Addr
  d_outdoes : FuncData
  f_telling_company : Addr
  d_telling_company : FuncData
  f__law_mixed : Addr
  d__law_mixed : FuncData
  f__law_cell : Addr
  d__law_cell : FuncData
  f__law_take : Addr
  d__law_take : FuncData
  f__law_sum : Addr
  d__law_sum : FuncData
  f__law_under : Addr
  d__law_under : FuncData
  f__law_heap : Addr
  d__law_heap : FuncData
  f__law_coins : Addr
  d__law_coins : FuncData
  f__law_length : Addr
  d__law_length : FuncData
  f__law_row : Addr
  d__law_row : FuncData
  f__law_top : Addr
  d__law_top : FuncData
  f__law_holds : Addr
  d__law_holds : FuncData
  f__law_whole_from : Addr
  d__law_whole_from : FuncData
  f__law_names : Addr
  d__law_names : FuncData
  f__law_tag : Addr
  d__law_tag : FuncData
  f__law_formed : Addr
  d__law_formed : FuncData
  f__law_is_right : Addr
  d__law_is_right : FuncData
  f__law_is_pile : Addr
  d__law_is_pile : FuncData
  f__law_pile : Addr
  d__law_pile : FuncData
  f__law_changed : Addr
  d__law_changed : FuncData
  f__law_together : Addr
  d__law_together : FuncData
  f__law_due : Addr
  d__law_due : FuncData
  f__law_good : Addr
  d__law_good : FuncData
  f_law : Addr
  d_law : FuncData
  x_NoPile : Addr
  x_TooGreat : Addr
structure Fx (K : PySem.W.Frag) (mg : Str → Option Value) (a : Adr) : Prop where
  b_all : mg "all" = none
  b_bool : mg "bool" = none
  b_dict : mg "dict" = none
  b_int : mg "int" = none
  b_isinstance : mg "isinstance" = none
  b_len : mg "len" = none
  b_max : mg "max" = none
  b_min : mg "min" = none
  b_range : mg "range" = none
  b_set : mg "set" = none
  b_sorted : mg "sorted" = none
  b_str : mg "str" = none
  b_sum : mg "sum" = none
  b_tuple : mg "tuple" = none
  b_zip : mg "zip" = none
  c_SMALL : ∃ t, mg "SMALL" = some (.int 200 t)
  x_ok : xAllB K = true
  x_NoPile : XN K mg "NoPile" a.x_NoPile
  x_TooGreat : XN K mg "TooGreat" a.x_TooGreat
  F_is_from : Fun K "is_from" "is_from" t_is_from a.f_is_from a.d_is_from
  g_is_from : mg "is_from" = some (.ref a.f_is_from)
  k_is_from : PySem.W.keepIn K (.ref a.f_is_from) = true
  B_is_from : Binds K a.d_is_from ["thing", "least"] []
  F_is_lot : Fun K "is_lot" "is_lot" t_is_lot a.f_is_lot a.d_is_lot
  g_is_lot : mg "is_lot" = some (.ref a.f_is_lot)
  k_is_lot : PySem.W.keepIn K (.ref a.f_is_lot) = true
  B_is_lot : Binds K a.d_is_lot ["thing"] []
  F_is_pile : Fun K "is_pile" "is_pile" t_is_pile a.f_is_pile a.d_is_pile
  g_is_pile : mg "is_pile" = some (.ref a.f_is_pile)
  k_is_pile : PySem.W.keepIn K (.ref a.f_is_pile) = true
  B_is_pile : Binds K a.d_is_pile ["thing"] []
  F_look_at_pile : Fun K "look_at_pile" "look_at_pile" t_look_at_pile a.f_look_at_pile a.d_look_at_pile
  g_look_at_pile : mg "look_at_pile" = some (.ref a.f_look_at_pile)
  k_look_at_pile : PySem.W.keepIn K (.ref a.f_look_at_pile) = true
  B_look_at_pile : Binds K a.d_look_at_pile ["thing"] []
  F_sum_of : Fun K "sum_of" "sum_of" t_sum_of a.f_sum_of a.d_sum_of
  g_sum_of : mg "sum_of" = some (.ref a.f_sum_of)
  k_sum_of : PySem.W.keepIn K (.ref a.f_sum_of) = true
  B_sum_of : Binds K a.d_sum_of ["pile"] []
  F_less_of : Fun K "less_of" "less_of" t_less_of a.f_less_of a.d_less_of
  g_less_of : mg "less_of" = some (.ref a.f_less_of)
  k_less_of : PySem.W.keepIn K (.ref a.f_less_of) = true
  B_less_of : Binds K a.d_less_of ["pile", "worth"] []
  F_look_at_small : Fun K "look_at_small" "look_at_small" t_look_at_small a.f_look_at_small a.d_look_at_small
  g_look_at_small : mg "look_at_small" = some (.ref a.f_look_at_small)
  k_look_at_small : PySem.W.keepIn K (.ref a.f_look_at_small) = true
  B_look_at_small : Binds K a.d_look_at_small ["pile"] []
  F_from_counts : Fun K "from_counts" "from_counts" t_from_counts a.f_from_counts a.d_from_counts
  g_from_counts : mg "from_counts" = some (.ref a.f_from_counts)
  k_from_counts : PySem.W.keepIn K (.ref a.f_from_counts) = true
  B_from_counts : Binds K a.d_from_counts ["counts"] []
  F_look_at_two : Fun K "look_at_two" "look_at_two" t_look_at_two a.f_look_at_two a.d_look_at_two
  g_look_at_two : mg "look_at_two" = some (.ref a.f_look_at_two)
  k_look_at_two : PySem.W.keepIn K (.ref a.f_look_at_two) = true
  B_look_at_two : Binds K a.d_look_at_two ["one", "other"] []
  F_outdone_at : Fun K "outdone_at" "outdone_at" t_outdone_at a.f_outdone_at a.d_outdone_at
  g_outdone_at : mg "outdone_at" = some (.ref a.f_outdone_at)
  k_outdone_at : PySem.W.keepIn K (.ref a.f_outdone_at) = true
  B_outdone_at : Binds K a.d_outdone_at ["one", "other"] []
  F_outdoes : Fun K "outdoes" "outdoes" t_outdoes a.f_outdoes a.d_outdoes
  g_outdoes : mg "outdoes" = some (.ref a.f_outdoes)
  k_outdoes : PySem.W.keepIn K (.ref a.f_outdoes) = true
  B_outdoes : Binds K a.d_outdoes ["one", "other"] []
  F_telling_company : Fun K "telling_company" "telling_company" t_telling_company a.f_telling_company a.d_telling_company
  g_telling_company : mg "telling_company" = some (.ref a.f_telling_company)
  k_telling_company : PySem.W.keepIn K (.ref a.f_telling_company) = true
  B_telling_company : Binds K a.d_telling_company ["one", "other"] []
  F__law_mixed : Fun K "_law_mixed" "_law_mixed" t__law_mixed a.f__law_mixed a.d__law_mixed
  g__law_mixed : mg "_law_mixed" = some (.ref a.f__law_mixed)
  k__law_mixed : PySem.W.keepIn K (.ref a.f__law_mixed) = true
  B__law_mixed : Binds K a.d__law_mixed ["_law_cell_here", "_law_k"] []
  F__law_cell : Fun K "_law_cell" "_law_cell" t__law_cell a.f__law_cell a.d__law_cell
  g__law_cell : mg "_law_cell" = some (.ref a.f__law_cell)
  k__law_cell : PySem.W.keepIn K (.ref a.f__law_cell) = true
  B__law_cell : Binds K a.d__law_cell ["_law_script", "_law_k"] []
  F__law_take : Fun K "_law_take" "_law_take" t__law_take a.f__law_take a.d__law_take
  g__law_take : mg "_law_take" = some (.ref a.f__law_take)
  k__law_take : PySem.W.keepIn K (.ref a.f__law_take) = true
  B__law_take : Binds K a.d__law_take ["_law_pile_here", "_law_size"] []
  F__law_sum : Fun K "_law_sum" "_law_sum" t__law_sum a.f__law_sum a.d__law_sum
  g__law_sum : mg "_law_sum" = some (.ref a.f__law_sum)
  k__law_sum : PySem.W.keepIn K (.ref a.f__law_sum) = true
  B__law_sum : Binds K a.d__law_sum ["_law_pile_here"] []
  F__law_under : Fun K "_law_under" "_law_under" t__law_under a.f__law_under a.d__law_under
  g__law_under : mg "_law_under" = some (.ref a.f__law_under)
  k__law_under : PySem.W.keepIn K (.ref a.f__law_under) = true
  B__law_under : Binds K a.d__law_under ["_law_pile_here", "_law_bound"] []
  F__law_heap : Fun K "_law_heap" "_law_heap" t__law_heap a.f__law_heap a.d__law_heap
  g__law_heap : mg "_law_heap" = some (.ref a.f__law_heap)
  k__law_heap : PySem.W.keepIn K (.ref a.f__law_heap) = true
  B__law_heap : Binds K a.d__law_heap ["_law_coins_here"] []
  F__law_coins : Fun K "_law_coins" "_law_coins" t__law_coins a.f__law_coins a.d__law_coins
  g__law_coins : mg "_law_coins" = some (.ref a.f__law_coins)
  k__law_coins : PySem.W.keepIn K (.ref a.f__law_coins) = true
  B__law_coins : Binds K a.d__law_coins ["_law_pile_here"] []
  F__law_length : Fun K "_law_length" "_law_length" t__law_length a.f__law_length a.d__law_length
  g__law_length : mg "_law_length" = some (.ref a.f__law_length)
  k__law_length : PySem.W.keepIn K (.ref a.f__law_length) = true
  B__law_length : Binds K a.d__law_length ["_law_right"] []
  F__law_row : Fun K "_law_row" "_law_row" t__law_row a.f__law_row a.d__law_row
  g__law_row : mg "_law_row" = some (.ref a.f__law_row)
  k__law_row : PySem.W.keepIn K (.ref a.f__law_row) = true
  B__law_row : Binds K a.d__law_row ["_law_right", "_law_bound", "_law_many"] []
  F__law_top : Fun K "_law_top" "_law_top" t__law_top a.f__law_top a.d__law_top
  g__law_top : mg "_law_top" = some (.ref a.f__law_top)
  k__law_top : PySem.W.keepIn K (.ref a.f__law_top) = true
  B__law_top : Binds K a.d__law_top ["_law_right", "_law_bound"] []
  F__law_holds : Fun K "_law_holds" "_law_holds" t__law_holds a.f__law_holds a.d__law_holds
  g__law_holds : mg "_law_holds" = some (.ref a.f__law_holds)
  k__law_holds : PySem.W.keepIn K (.ref a.f__law_holds) = true
  B__law_holds : Binds K a.d__law_holds ["_law_pile_here", "_law_right"] []
  F__law_whole_from : Fun K "_law_whole_from" "_law_whole_from" t__law_whole_from a.f__law_whole_from a.d__law_whole_from
  g__law_whole_from : mg "_law_whole_from" = some (.ref a.f__law_whole_from)
  k__law_whole_from : PySem.W.keepIn K (.ref a.f__law_whole_from) = true
  B__law_whole_from : Binds K a.d__law_whole_from ["_law_thing", "_law_least"] []
  F__law_names : Fun K "_law_names" "_law_names" t__law_names a.f__law_names a.d__law_names
  g__law_names : mg "_law_names" = some (.ref a.f__law_names)
  k__law_names : PySem.W.keepIn K (.ref a.f__law_names) = true
  B__law_names : Binds K a.d__law_names ["_law_right"] []
  F__law_tag : Fun K "_law_tag" "_law_tag" t__law_tag a.f__law_tag a.d__law_tag
  g__law_tag : mg "_law_tag" = some (.ref a.f__law_tag)
  k__law_tag : PySem.W.keepIn K (.ref a.f__law_tag) = true
  B__law_tag : Binds K a.d__law_tag ["_law_thing"] []
  F__law_formed : Fun K "_law_formed" "_law_formed" t__law_formed a.f__law_formed a.d__law_formed
  g__law_formed : mg "_law_formed" = some (.ref a.f__law_formed)
  k__law_formed : PySem.W.keepIn K (.ref a.f__law_formed) = true
  B__law_formed : Binds K a.d__law_formed ["_law_thing", "_law_deep"] []
  F__law_is_right : Fun K "_law_is_right" "_law_is_right" t__law_is_right a.f__law_is_right a.d__law_is_right
  g__law_is_right : mg "_law_is_right" = some (.ref a.f__law_is_right)
  k__law_is_right : PySem.W.keepIn K (.ref a.f__law_is_right) = true
  B__law_is_right : Binds K a.d__law_is_right ["_law_thing"] []
  F__law_is_pile : Fun K "_law_is_pile" "_law_is_pile" t__law_is_pile a.f__law_is_pile a.d__law_is_pile
  g__law_is_pile : mg "_law_is_pile" = some (.ref a.f__law_is_pile)
  k__law_is_pile : PySem.W.keepIn K (.ref a.f__law_is_pile) = true
  B__law_is_pile : Binds K a.d__law_is_pile ["_law_thing"] []
  F__law_pile : Fun K "_law_pile" "_law_pile" t__law_pile a.f__law_pile a.d__law_pile
  g__law_pile : mg "_law_pile" = some (.ref a.f__law_pile)
  k__law_pile : PySem.W.keepIn K (.ref a.f__law_pile) = true
  B__law_pile : Binds K a.d__law_pile ["_law_digits", "_law_most_worth"] []
  F__law_changed : Fun K "_law_changed" "_law_changed" t__law_changed a.f__law_changed a.d__law_changed
  g__law_changed : mg "_law_changed" = some (.ref a.f__law_changed)
  k__law_changed : PySem.W.keepIn K (.ref a.f__law_changed) = true
  B__law_changed : Binds K a.d__law_changed ["_law_digits", "_law_pile_here"] []
  F__law_together : Fun K "_law_together" "_law_together" t__law_together a.f__law_together a.d__law_together
  g__law_together : mg "_law_together" = some (.ref a.f__law_together)
  k__law_together : PySem.W.keepIn K (.ref a.f__law_together) = true
  B__law_together : Binds K a.d__law_together ["_law_one", "_law_other"] []
  F__law_due : Fun K "_law_due" "_law_due" t__law_due a.f__law_due a.d__law_due
  g__law_due : mg "_law_due" = some (.ref a.f__law_due)
  k__law_due : PySem.W.keepIn K (.ref a.f__law_due) = true
  B__law_due : Binds K a.d__law_due ["_law_one", "_law_other"] []
  F__law_good : Fun K "_law_good" "_law_good" t__law_good a.f__law_good a.d__law_good
  g__law_good : mg "_law_good" = some (.ref a.f__law_good)
  k__law_good : PySem.W.keepIn K (.ref a.f__law_good) = true
  B__law_good : Binds K a.d__law_good ["_law_one", "_law_other"] []
  F_law : Fun K "law" "law" t_law a.f_law a.d_law
  g_law : mg "law" = some (.ref a.f_law)
  k_law : PySem.W.keepIn K (.ref a.f_law) = true
section
variable {P : Program} {w : World} {K : PySem.W.Frag} {mg : Str → Option Value} {base : Heap} {a : Adr}
theorem ok_is_from (C : Fx K mg a) : FnOk P w K mg base (L2.CX P w) 1 a.f_is_from a.d_is_from ["thing", "least"] (spOf K mg 2 s_is_from) := by
  refine fn_okX (k := 0) C.F_is_from sc_is_from (by decide) (fun cdv A outer s H E hr => ?_)
  have po : PassesOwn (model P w) (cxOf (L2.CX P w) P w K mg base N_is_from "is_from" (defScope t_is_from) a.f_is_from cdv A outer s H E).A (cxOf (L2.CX P w) P w K mg base N_is_from "is_from" (defScope t_is_from) a.f_is_from cdv A outer s H E).env (cxOf (L2.CX P w) P w K mg base N_is_from "is_from" (defScope t_is_from) a.f_is_from cdv A outer s H E).xe := passes_of rfl
  have tk : Takes (cxOf (L2.CX P w) P w K mg base N_is_from "is_from" (defScope t_is_from) a.f_is_from cdv A outer s H E) (fun c dd _ H' => E c dd H') := takes_of rfl rfl rfl rfl
  unfold m_is_from
  exact SSs.ex (sss_cons (ss_ret (se_and (se_isiK K rfl (by rfl) C.b_isinstance (so_var (pv 0)) (pe_bltn (v := .ty "int") (by rfl) C.b_int (by decide +kernel) rfl) (by decide +kernel)) (se_and (se_not (se_isiK K rfl (by rfl) C.b_isinstance (so_var (pv 0)) (pe_bltn (v := .ty "bool") (by rfl) C.b_bool (by decide +kernel) rfl) (by decide +kernel))) (se_one (se_cmp op_ge ok_ge (nomark _) (so_var (pv 0)) (so_var (pv 1))))))) sss_nil) (by decide)
theorem ok_is_lot (C : Fx K mg a) : FnOk P w K mg base (L2.CX P w) 2 a.f_is_lot a.d_is_lot ["thing"] (spOf K mg 1 s_is_lot) := by
  refine fn_okX (k := 1) C.F_is_lot sc_is_lot (by decide) (fun cdv A outer s H E hr => ?_)
  have po : PassesOwn (model P w) (cxOf (L2.CX P w) P w K mg base N_is_lot "is_lot" (defScope t_is_lot) a.f_is_lot cdv A outer s H E).A (cxOf (L2.CX P w) P w K mg base N_is_lot "is_lot" (defScope t_is_lot) a.f_is_lot cdv A outer s H E).env (cxOf (L2.CX P w) P w K mg base N_is_lot "is_lot" (defScope t_is_lot) a.f_is_lot cdv A outer s H E).xe := passes_of rfl
  have tk : Takes (cxOf (L2.CX P w) P w K mg base N_is_lot "is_lot" (defScope t_is_lot) a.f_is_lot cdv A outer s H E) (fun c dd _ H' => E c dd H') := takes_of rfl rfl rfl rfl
  unfold m_is_lot
  exact SSs.ex (sss_cons (ss_ret (se_and (se_isiK K rfl (by rfl) C.b_isinstance (so_var (pv 0)) (pe_bltn (v := .ty "tuple") (by rfl) C.b_tuple (by decide +kernel) rfl) (by decide +kernel)) (se_and (se_cmp (oK_eq K rfl hr.units) ok_eq (nomark _) (SE.so (se_callB (cK_len K rfl) ok_len (by rfl) C.b_len (by decide +kernel) (so_cons (so_var (pv 0)) sos_nil))) (SE.so se_int)) (se_and (se_callC (ok_is_from C) rfl rfl rfl rfl rfl (hr.mono (by first | decide | omega)) (by rfl) C.g_is_from C.k_is_from C.B_is_from rfl tk (so_cons (SE.so (se_ixK K rfl (fun _ _ => rfl) (so_var (pv 0)) (SE.so se_int))) (so_cons (SE.so se_int) sos_nil)) (lm_cons (lm_cons lm_nil))) (se_one (se_callC (ok_is_from C) rfl rfl rfl rfl rfl (hr.mono (by first | decide | omega)) (by rfl) C.g_is_from C.k_is_from C.B_is_from rfl tk (so_cons (SE.so (se_ixK K rfl (fun _ _ => rfl) (so_var (pv 0)) (SE.so se_int))) (so_cons (SE.so se_int) sos_nil)) (lm_cons (lm_cons lm_nil)))))))) sss_nil) (by decide)
theorem ok_is_pile (C : Fx K mg a) : FnOk P w K mg base (L2.CX P w) 3 a.f_is_pile a.d_is_pile ["thing"] (spOf K mg 1 s_is_pile) := by
  refine fn_okX (k := 2) C.F_is_pile sc_is_pile (by decide) (fun cdv A outer s H E hr => ?_)
  have po : PassesOwn (model P w) (cxOf (L2.CX P w) P w K mg base N_is_pile "is_pile" (defScope t_is_pile) a.f_is_pile cdv A outer s H E).A (cxOf (L2.CX P w) P w K mg base N_is_pile "is_pile" (defScope t_is_pile) a.f_is_pile cdv A outer s H E).env (cxOf (L2.CX P w) P w K mg base N_is_pile "is_pile" (defScope t_is_pile) a.f_is_pile cdv A outer s H E).xe := passes_of rfl
  have tk : Takes (cxOf (L2.CX P w) P w K mg base N_is_pile "is_pile" (defScope t_is_pile) a.f_is_pile cdv A outer s H E) (fun c dd _ H' => E c dd H') := takes_of rfl rfl rfl rfl
  unfold m_is_pile lc_is_pile_2 lc_is_pile_1
  exact SSs.ex (sss_cons (ss_if (SW.st (sw_or (st_not (st_val (se_isiK K rfl (by rfl) C.b_isinstance (so_var (pv 0)) (pe_bltn (v := .ty "tuple") (by rfl) C.b_tuple (by decide +kernel) rfl) (by decide +kernel)))) (sw_or1 (st_not (st_val (se_callB (cK_all K rfl rfl) ok_all (by rfl) C.b_all (by decide +kernel) (so_cons (SE.so (se_lc (own := [("lot", 3)]) rfl sc_is_pile.nd (si_seqK K rfl (se_var (pv 0))) (blkOk_by (own := [("lot", 3)]) (N := N_is_pile) (sc := defScope t_is_pile) (by decide +kernel)) (fun _ _ _ _ _ => (sg_name (pg_name (i := 3) sc_is_pile.nd rfl (by first | exact Or.inl rfl | exact Or.inr rfl)))) (by decide) (fun _ _ _ _ _ => sts_nil) (fun _ _ _ _ _ => (se_callC (ok_is_lot C) rfl rfl rfl rfl rfl (hr.mono (by first | decide | omega)) (by rfl) C.g_is_lot C.k_is_lot C.B_is_lot rfl takes0 (so_cons (so_var (pv 3)) sos_nil) (lm_cons lm_nil))))) sos_nil))))))) (sss_cons (ss_ret se_bl) sss_nil) sss_nil) (sss_cons (ss_ret (se_callB (cK_all K rfl rfl) ok_all (by rfl) C.b_all (by decide +kernel) (so_cons (SE.so (se_lc (own := [("one", 1), ("other", 2)]) rfl sc_is_pile.nd (si_zipK K rfl (by rfl) C.b_zip (sa_cons (se_var (pv 0)) (sa_cons (se_slK K rfl (so_var (pv 0)) (sp_some se_int) sp_none) sa_nil))) (blkOk_by (own := [("one", 1), ("other", 2)]) (N := N_is_pile) (sc := defScope t_is_pile) (by decide +kernel)) (fun _ _ _ _ _ => (sg_tupK K rfl rfl (sgs_cons (sg_name (pg_name (i := 1) sc_is_pile.nd rfl (by first | exact Or.inl rfl | exact Or.inr rfl))) (sgs_cons (sg_name (pg_name (i := 2) sc_is_pile.nd rfl (by first | exact Or.inl rfl | exact Or.inr rfl))) sgs_nil)))) (by decide) (fun _ _ _ _ _ => sts_nil) (fun _ _ _ _ _ => (se_cmp op_lt ok_lt (nomark _) (SE.so (se_ixK K rfl (fun _ _ => rfl) (so_var (pv 1)) (SE.so se_int))) (SE.so (se_ixK K rfl (fun _ _ => rfl) (so_var (pv 2)) (SE.so se_int))))))) sos_nil))) sss_nil)) (by decide)
theorem ok_look_at_pile (C : Fx K mg a) : FnOk P w K mg base (L2.CX P w) 4 a.f_look_at_pile a.d_look_at_pile ["thing"] (spOf K mg 1 s_look_at_pile) := by
  refine fn_okX (k := 3) C.F_look_at_pile sc_look_at_pile (by decide) (fun cdv A outer s H E hr => ?_)
  have po : PassesOwn (model P w) (cxOf (L2.CX P w) P w K mg base N_look_at_pile "look_at_pile" (defScope t_look_at_pile) a.f_look_at_pile cdv A outer s H E).A (cxOf (L2.CX P w) P w K mg base N_look_at_pile "look_at_pile" (defScope t_look_at_pile) a.f_look_at_pile cdv A outer s H E).env (cxOf (L2.CX P w) P w K mg base N_look_at_pile "look_at_pile" (defScope t_look_at_pile) a.f_look_at_pile cdv A outer s H E).xe := passes_of rfl
  have tk : Takes (cxOf (L2.CX P w) P w K mg base N_look_at_pile "look_at_pile" (defScope t_look_at_pile) a.f_look_at_pile cdv A outer s H E) (fun c dd _ H' => E c dd H') := takes_of rfl rfl rfl rfl
  unfold m_look_at_pile
  exact SSs.ex (sss_cons (ss_if (st_not (st_val (se_callC (ok_is_pile C) rfl rfl rfl rfl rfl (hr.mono (by first | decide | omega)) (by rfl) C.g_is_pile C.k_is_pile C.B_is_pile rfl tk (so_cons (so_var (pv 0)) sos_nil) (lm_cons lm_nil)))) (sss_cons (ss_raise0 K rfl rfl C.x_ok C.x_NoPile ⟨by decide, rfl⟩ rfl tk (by rfl)) sss_nil) sss_nil) sss_nil) (by decide)
theorem ok_sum_of (C : Fx K mg a) : FnOk P w K mg base (L2.CX P w) 1 a.f_sum_of a.d_sum_of ["pile"] (spOf K mg 1 s_sum_of) := by
  refine fn_okX (k := 0) C.F_sum_of sc_sum_of (by decide) (fun cdv A outer s H E hr => ?_)
  have po : PassesOwn (model P w) (cxOf (L2.CX P w) P w K mg base N_sum_of "sum_of" (defScope t_sum_of) a.f_sum_of cdv A outer s H E).A (cxOf (L2.CX P w) P w K mg base N_sum_of "sum_of" (defScope t_sum_of) a.f_sum_of cdv A outer s H E).env (cxOf (L2.CX P w) P w K mg base N_sum_of "sum_of" (defScope t_sum_of) a.f_sum_of cdv A outer s H E).xe := passes_of rfl
  have tk : Takes (cxOf (L2.CX P w) P w K mg base N_sum_of "sum_of" (defScope t_sum_of) a.f_sum_of cdv A outer s H E) (fun c dd _ H' => E c dd H') := takes_of rfl rfl rfl rfl
  unfold m_sum_of lc_sum_of_1
  exact SSs.ex (sss_cons (ss_ret (se_callB (cK_sum K rfl rfl) ok_sum (by rfl) C.b_sum (by decide +kernel) (so_cons (SE.so (se_lc (own := [("worth", 1), ("many", 2)]) rfl sc_sum_of.nd (si_seqK K rfl (se_var (pv 0))) (blkOk_by (own := [("worth", 1), ("many", 2)]) (N := N_sum_of) (sc := defScope t_sum_of) (by decide +kernel)) (fun _ _ _ _ _ => (sg_tupK K rfl rfl (sgs_cons (sg_name (pg_name (i := 1) sc_sum_of.nd rfl (by first | exact Or.inl rfl | exact Or.inr rfl))) (sgs_cons (sg_name (pg_name (i := 2) sc_sum_of.nd rfl (by first | exact Or.inl rfl | exact Or.inr rfl))) sgs_nil)))) (by decide) (fun _ _ _ _ _ => sts_nil) (fun _ _ _ _ _ => (se_op (oK_mul K rfl) ok_mul (so_var (pv 1)) (so_var (pv 2)))))) sos_nil))) sss_nil) (by decide)
theorem ok_less_of (C : Fx K mg a) : FnOk P w K mg base (L2.CX P w) 1 a.f_less_of a.d_less_of ["pile", "worth"] (spOf K mg 2 s_less_of) := by
  refine fn_okX (k := 0) C.F_less_of sc_less_of (by decide) (fun cdv A outer s H E hr => ?_)
  have po : PassesOwn (model P w) (cxOf (L2.CX P w) P w K mg base N_less_of "less_of" (defScope t_less_of) a.f_less_of cdv A outer s H E).A (cxOf (L2.CX P w) P w K mg base N_less_of "less_of" (defScope t_less_of) a.f_less_of cdv A outer s H E).env (cxOf (L2.CX P w) P w K mg base N_less_of "less_of" (defScope t_less_of) a.f_less_of cdv A outer s H E).xe := passes_of rfl
  have tk : Takes (cxOf (L2.CX P w) P w K mg base N_less_of "less_of" (defScope t_less_of) a.f_less_of cdv A outer s H E) (fun c dd _ H' => E c dd H') := takes_of rfl rfl rfl rfl
  unfold m_less_of lc_less_of_1
  exact SSs.ex (sss_cons (ss_ret (se_callB (cK_sum K rfl rfl) ok_sum (by rfl) C.b_sum (by decide +kernel) (so_cons (SE.so (se_lc (own := [("one", 2), ("many", 3)]) rfl sc_less_of.nd (si_seqK K rfl (se_var (pv 0))) (blkOk_by (own := [("one", 2), ("many", 3)]) (N := N_less_of) (sc := defScope t_less_of) (by decide +kernel)) (fun _ _ _ _ _ => (sg_tupK K rfl rfl (sgs_cons (sg_name (pg_name (i := 2) sc_less_of.nd rfl (by first | exact Or.inl rfl | exact Or.inr rfl))) (sgs_cons (sg_name (pg_name (i := 3) sc_less_of.nd rfl (by first | exact Or.inl rfl | exact Or.inr rfl))) sgs_nil)))) (by decide) (fun _ _ _ _ _ => (sts_one (st_cmp op_lt ok_lt (nomark _) (so_var (pv 2)) (so_var (pv 1))))) (fun _ _ _ _ _ => (se_op (oK_mul K rfl) ok_mul (so_var (pv 2)) (so_var (pv 3)))))) sos_nil))) sss_nil) (by decide)
theorem ok_look_at_small (C : Fx K mg a) : FnOk P w K mg base (L2.CX P w) 2 a.f_look_at_small a.d_look_at_small ["pile"] (spOf K mg 1 s_look_at_small) := by
  refine fn_okX (k := 1) C.F_look_at_small sc_look_at_small (by decide) (fun cdv A outer s H E hr => ?_)
  have po : PassesOwn (model P w) (cxOf (L2.CX P w) P w K mg base N_look_at_small "look_at_small" (defScope t_look_at_small) a.f_look_at_small cdv A outer s H E).A (cxOf (L2.CX P w) P w K mg base N_look_at_small "look_at_small" (defScope t_look_at_small) a.f_look_at_small cdv A outer s H E).env (cxOf (L2.CX P w) P w K mg base N_look_at_small "look_at_small" (defScope t_look_at_small) a.f_look_at_small cdv A outer s H E).xe := passes_of rfl
  have tk : Takes (cxOf (L2.CX P w) P w K mg base N_look_at_small "look_at_small" (defScope t_look_at_small) a.f_look_at_small cdv A outer s H E) (fun c dd _ H' => E c dd H') := takes_of rfl rfl rfl rfl
  unfold m_look_at_small
  exact SSs.ex (sss_cons (ss_if (st_cmp op_gt ok_gt (nomark _) (SE.so (se_callC (ok_sum_of C) rfl rfl rfl rfl rfl (hr.mono (by first | decide | omega)) (by rfl) C.g_sum_of C.k_sum_of C.B_sum_of rfl tk (so_cons (so_var (pv 0)) sos_nil) (lm_cons lm_nil))) (SE.so (se_gint (by rfl) C.c_SMALL))) (sss_cons (ss_raise0 K rfl rfl C.x_ok C.x_TooGreat ⟨by decide, rfl⟩ rfl tk (by rfl)) sss_nil) sss_nil) sss_nil) (by decide)
theorem ok_from_counts (C : Fx K mg a) : FnOk P w K mg base (L2.CX P w) 1 a.f_from_counts a.d_from_counts ["counts"] (spOf K mg 1 s_from_counts) := by
  refine fn_okX (k := 0) C.F_from_counts sc_from_counts (by decide) (fun cdv A outer s H E hr => ?_)
  have po : PassesOwn (model P w) (cxOf (L2.CX P w) P w K mg base N_from_counts "from_counts" (defScope t_from_counts) a.f_from_counts cdv A outer s H E).A (cxOf (L2.CX P w) P w K mg base N_from_counts "from_counts" (defScope t_from_counts) a.f_from_counts cdv A outer s H E).env (cxOf (L2.CX P w) P w K mg base N_from_counts "from_counts" (defScope t_from_counts) a.f_from_counts cdv A outer s H E).xe := passes_of rfl
  have tk : Takes (cxOf (L2.CX P w) P w K mg base N_from_counts "from_counts" (defScope t_from_counts) a.f_from_counts cdv A outer s H E) (fun c dd _ H' => E c dd H') := takes_of rfl rfl rfl rfl
  unfold m_from_counts lc_from_counts_1
  exact SSs.ex (sss_cons (ss_ret (se_callTy (cK_tuple K rfl) ok_tuple (by rfl) C.b_tuple (by decide +kernel) (so_cons (SE.so (se_lc (own := [("worth", 1)]) rfl sc_from_counts.nd (si_seqK K rfl (se_sortD (pe_callB (call_sortD rfl) (by rfl) C.b_sorted (by decide +kernel) (pa_cons (pv 0) pa_nil)))) (blkOk_by (own := [("worth", 1)]) (N := N_from_counts) (sc := defScope t_from_counts) (by decide +kernel)) (fun _ _ _ _ _ => (sg_name (pg_name (i := 1) sc_from_counts.nd rfl (by first | exact Or.inl rfl | exact Or.inr rfl)))) (by decide) (fun _ _ _ _ _ => (sts_one (st_cmp op_gt ok_gt (nomark _) (SE.so (se_dget (fun h => pe_dget (hu1 hr.units) (pv 0) h (fun _ _ => rfl)) (so_var (pv 1)))) (SE.so se_int)))) (fun _ _ _ _ _ => (se_tup (sa_cons (se_var (pv 1)) (sa_cons (se_dget (fun h => pe_dget (hu1 hr.units) (pv 0) h (fun _ _ => rfl)) (so_var (pv 1))) sa_nil)))))) sos_nil))) sss_nil) (by decide)
theorem ok_look_at_two (C : Fx K mg a) : FnOk P w K mg base (L2.CX P w) 5 a.f_look_at_two a.d_look_at_two ["one", "other"] (spOf K mg 2 s_look_at_two) := by
  refine fn_okX (k := 4) C.F_look_at_two sc_look_at_two (by decide) (fun cdv A outer s H E hr => ?_)
  have po : PassesOwn (model P w) (cxOf (L2.CX P w) P w K mg base N_look_at_two "look_at_two" (defScope t_look_at_two) a.f_look_at_two cdv A outer s H E).A (cxOf (L2.CX P w) P w K mg base N_look_at_two "look_at_two" (defScope t_look_at_two) a.f_look_at_two cdv A outer s H E).env (cxOf (L2.CX P w) P w K mg base N_look_at_two "look_at_two" (defScope t_look_at_two) a.f_look_at_two cdv A outer s H E).xe := passes_of rfl
  have tk : Takes (cxOf (L2.CX P w) P w K mg base N_look_at_two "look_at_two" (defScope t_look_at_two) a.f_look_at_two cdv A outer s H E) (fun c dd _ H' => E c dd H') := takes_of rfl rfl rfl rfl
  unfold m_look_at_two
  exact SSs.ex (sss_cons (ss_expr (fun h => ps_expr h) (se_callC (ok_look_at_pile C) rfl rfl rfl rfl rfl (hr.mono (by first | decide | omega)) (by rfl) C.g_look_at_pile C.k_look_at_pile C.B_look_at_pile rfl tk (so_cons (so_var (pv 0)) sos_nil) (lm_cons lm_nil))) (sss_cons (ss_expr (fun h => ps_expr h) (se_callC (ok_look_at_pile C) rfl rfl rfl rfl rfl (hr.mono (by first | decide | omega)) (by rfl) C.g_look_at_pile C.k_look_at_pile C.B_look_at_pile rfl tk (so_cons (so_var (pv 1)) sos_nil) (lm_cons lm_nil))) sss_nil)) (by decide)
theorem ok_outdone_at (C : Fx K mg a) : FnOk P w K mg base (L2.CX P w) 2 a.f_outdone_at a.d_outdone_at ["one", "other"] (spOf K mg 2 s_outdone_at) := by
  refine fn_okX (k := 1) C.F_outdone_at sc_outdone_at (by decide) (fun cdv A outer s H E hr => ?_)
  have po : PassesOwn (model P w) (cxOf (L2.CX P w) P w K mg base N_outdone_at "outdone_at" (defScope t_outdone_at) a.f_outdone_at cdv A outer s H E).A (cxOf (L2.CX P w) P w K mg base N_outdone_at "outdone_at" (defScope t_outdone_at) a.f_outdone_at cdv A outer s H E).env (cxOf (L2.CX P w) P w K mg base N_outdone_at "outdone_at" (defScope t_outdone_at) a.f_outdone_at cdv A outer s H E).xe := passes_of rfl
  have tk : Takes (cxOf (L2.CX P w) P w K mg base N_outdone_at "outdone_at" (defScope t_outdone_at) a.f_outdone_at cdv A outer s H E) (fun c dd _ H' => E c dd H') := takes_of rfl rfl rfl rfl
  unfold m_outdone_at lc_outdone_at_2 lc_outdone_at_1
  exact SSs.ex (sss_cons (ss_set (i := 2) sc_outdone_at.nd rfl (by first | exact Or.inl rfl | exact Or.inr rfl) (se_sortI (own := [("worth", 4), ("many", 5)]) (by rfl) C.b_sorted rfl sc_outdone_at.nd (si_seqK K rfl (se_op (oK_add K rfl) ok_add (so_var (pv 0)) (so_var (pv 1)))) (blkOk_by (own := [("worth", 4), ("many", 5)]) (N := N_outdone_at) (sc := defScope t_outdone_at) (by decide +kernel)) (fun _ _ _ _ _ => (sg_tupK K rfl rfl (sgs_cons (sg_name (pg_name (i := 4) sc_outdone_at.nd rfl (by first | exact Or.inl rfl | exact Or.inr rfl))) (sgs_cons (sg_name (pg_name (i := 5) sc_outdone_at.nd rfl (by first | exact Or.inl rfl | exact Or.inr rfl))) sgs_nil)))) (by decide) (fun _ _ _ _ _ => sts_nil) (fun _ _ _ _ _ => (se_op (oK_add K rfl) ok_add (so_var (pv 4)) (SE.so se_int))))) (sss_cons (ss_retS (SFO.sv (SF.o (sf_lc (own := [("below", 3)]) rfl sc_outdone_at.nd (si_seqK K rfl (se_var (pv 2))) (blkOk_by (own := [("below", 3)]) (N := N_outdone_at) (sc := defScope t_outdone_at) (by decide +kernel)) (fun _ _ _ _ _ => (sg_name (pg_name (i := 3) sc_outdone_at.nd rfl (by first | exact Or.inl rfl | exact Or.inr rfl)))) (by decide) (fun _ _ _ _ _ => (sts_one (st_cmp op_lt ok_lt (nomark _) (SE.so (se_callC (ok_less_of C) rfl rfl rfl rfl rfl (hr.mono (by first | decide | omega)) (by rfl) C.g_less_of C.k_less_of C.B_less_of rfl takes0 (so_cons (so_var (pv 0)) (so_cons (so_var (pv 3)) sos_nil)) (lm_cons (lm_cons lm_nil)))) (SE.so (se_callC (ok_less_of C) rfl rfl rfl rfl rfl (hr.mono (by first | decide | omega)) (by rfl) C.g_less_of C.k_less_of C.B_less_of rfl takes0 (so_cons (so_var (pv 1)) (so_cons (so_var (pv 3)) sos_nil)) (lm_cons (lm_cons lm_nil))))))) (fun _ _ _ _ _ => (se_var (pv 3))))))) sss_nil)) (by decide)
theorem ok_outdoes (C : Fx K mg a) : FnOk P w K mg base (L2.CX P w) 6 a.f_outdoes a.d_outdoes ["one", "other"] (spOf K mg 2 s_outdoes) := by
  refine fn_okX (k := 5) C.F_outdoes sc_outdoes (by decide) (fun cdv A outer s H E hr => ?_)
  have po : PassesOwn (model P w) (cxOf (L2.CX P w) P w K mg base N_outdoes "outdoes" (defScope t_outdoes) a.f_outdoes cdv A outer s H E).A (cxOf (L2.CX P w) P w K mg base N_outdoes "outdoes" (defScope t_outdoes) a.f_outdoes cdv A outer s H E).env (cxOf (L2.CX P w) P w K mg base N_outdoes "outdoes" (defScope t_outdoes) a.f_outdoes cdv A outer s H E).xe := passes_of rfl
  have tk : Takes (cxOf (L2.CX P w) P w K mg base N_outdoes "outdoes" (defScope t_outdoes) a.f_outdoes cdv A outer s H E) (fun c dd _ H' => E c dd H') := takes_of rfl rfl rfl rfl
  unfold m_outdoes
  exact SSs.ex (sss_cons (ss_expr (fun h => ps_expr h) (se_callC (ok_look_at_two C) rfl rfl rfl rfl rfl (hr.mono (by first | decide | omega)) (by rfl) C.g_look_at_two C.k_look_at_two C.B_look_at_two rfl tk (so_cons (so_var (pv 0)) (so_cons (so_var (pv 1)) sos_nil)) (lm_cons (lm_cons lm_nil)))) (sss_cons (ss_ret (se_cmp (oK_eq K rfl hr.units) ok_eq (nomark _) (SE.so (se_callB (cK_len K rfl) ok_len (by rfl) C.b_len (by decide +kernel) (so_cons (SE.so (se_callC (ok_outdone_at C) rfl rfl rfl rfl rfl (hr.mono (by first | decide | omega)) (by rfl) C.g_outdone_at C.k_outdone_at C.B_outdone_at rfl tk (so_cons (so_var (pv 0)) (so_cons (so_var (pv 1)) sos_nil)) (lm_cons (lm_cons lm_nil)))) sos_nil))) (SE.so se_int))) sss_nil)) (by decide)
theorem ok_telling_company (C : Fx K mg a) : FnOk P w K mg base (L2.CX P w) 6 a.f_telling_company a.d_telling_company ["one", "other"] (spOf K mg 2 s_k49_telling_company) := by
  refine fn_okX (k := 5) C.F_telling_company sc_telling_company (by decide) (fun cdv A outer s H E hr => ?_)
  have po : PassesOwn (model P w) (cxOf (L2.CX P w) P w K mg base N_telling_company "telling_company" (defScope t_telling_company) a.f_telling_company cdv A outer s H E).A (cxOf (L2.CX P w) P w K mg base N_telling_company "telling_company" (defScope t_telling_company) a.f_telling_company cdv A outer s H E).env (cxOf (L2.CX P w) P w K mg base N_telling_company "telling_company" (defScope t_telling_company) a.f_telling_company cdv A outer s H E).xe := passes_of rfl
  have tk : Takes (cxOf (L2.CX P w) P w K mg base N_telling_company "telling_company" (defScope t_telling_company) a.f_telling_company cdv A outer s H E) (fun c dd _ H' => E c dd H') := takes_of rfl rfl rfl rfl
  unfold m_k49_telling_company
  exact SSs.ex (sss_cons (ss_expr (fun h => ps_expr h) (se_callC (ok_look_at_two C) rfl rfl rfl rfl rfl (hr.mono (by first | decide | omega)) (by rfl) C.g_look_at_two C.k_look_at_two C.B_look_at_two rfl tk (so_cons (so_var (pv 0)) (so_cons (so_var (pv 1)) sos_nil)) (lm_cons (lm_cons lm_nil)))) (sss_cons (ss_expr (fun h => ps_expr h) (se_callC (ok_look_at_small C) rfl rfl rfl rfl rfl (hr.mono (by first | decide | omega)) (by rfl) C.g_look_at_small C.k_look_at_small C.B_look_at_small rfl tk (so_cons (so_var (pv 0)) sos_nil) (lm_cons lm_nil))) (sss_cons (ss_expr (fun h => ps_expr h) (se_callC (ok_look_at_small C) rfl rfl rfl rfl rfl (hr.mono (by first | decide | omega)) (by rfl) C.g_look_at_small C.k_look_at_small C.B_look_at_small rfl tk (so_cons (so_var (pv 1)) sos_nil) (lm_cons lm_nil))) (sss_cons (ss_set (i := 2) sc_telling_company.nd rfl (by first | exact Or.inl rfl | exact Or.inr rfl) (se_callC (ok_outdone_at C) rfl rfl rfl rfl rfl (hr.mono (by first | decide | omega)) (by rfl) C.g_outdone_at C.k_outdone_at C.B_outdone_at rfl tk (so_cons (so_var (pv 0)) (so_cons (so_var (pv 1)) sos_nil)) (lm_cons (lm_cons lm_nil)))) (sss_cons (ss_if (st_cmp (oK_eq K rfl hr.units) ok_eq (nomark _) (SE.so (se_callB (cK_len K rfl) ok_len (by rfl) C.b_len (by decide +kernel) (so_cons (so_var (pv 2)) sos_nil))) (SE.so se_int)) (sss_cons (ss_ret se_non) sss_nil) sss_nil) (sss_cons (ss_set (i := 3) sc_telling_company.nd rfl (by first | exact Or.inl rfl | exact Or.inr rfl) (se_ixK K rfl (fun _ _ => rfl) (so_var (pv 2)) (SE.so se_int))) (sss_cons (ss_set (i := 4) sc_telling_company.nd rfl (by first | exact Or.inl rfl | exact Or.inr rfl) (se_callC (ok_less_of C) rfl rfl rfl rfl rfl (hr.mono (by first | decide | omega)) (by rfl) C.g_less_of C.k_less_of C.B_less_of rfl tk (so_cons (so_var (pv 1)) (so_cons (so_var (pv 3)) sos_nil)) (lm_cons (lm_cons lm_nil)))) (sss_cons (ss_set (i := 5) sc_telling_company.nd rfl (by first | exact Or.inl rfl | exact Or.inr rfl) (se_op (oK_mul K rfl) ok_mul (so_var (pv 4)) (SE.so (se_op op_sub ok_sub (so_var (pv 3)) (SE.so se_int))))) (sss_cons (ss_aug (fun h => ps_aug (i := 5) sc_telling_company.nd rfl (by first | exact Or.inl rfl | exact Or.inr rfl) h ip_add) (se_op op_mod ok_mod (SE.so (se_op op_sub ok_sub (SE.so (se_op op_sub ok_sub (SE.so se_int) (so_var (pv 4)))) (so_var (pv 5)))) (SE.so (se_op op_sub ok_sub (so_var (pv 3)) (SE.so se_int))))) (sss_cons (ss_set (i := 6) sc_telling_company.nd rfl (by first | exact Or.inl rfl | exact Or.inr rfl) (se_op op_fdivW ok_fdiv (SE.so (se_op (oK_add K rfl) ok_add (so_var (pv 4)) (so_var (pv 5)))) (SE.so (se_op op_sub ok_sub (so_var (pv 3)) (SE.so se_int))))) (sss_cons (ss_ret (se_tup (sa_cons (se_callNC (ok_from_counts C) rfl rfl rfl rfl rfl (hr.mono (by first | decide | omega)) (by rfl) C.g_from_counts C.k_from_counts C.B_from_counts rfl tk (so_newO (sfo_disp (sps_cons se_int (se_var (pv 5)) (sps_cons (se_var (pv 3)) se_int sps_nil))) sos_nil) (lm_newO lm_nil)) (sa_cons (se_tup (sa_cons se_str (sa_cons se_str (sa_cons (se_op op_sub ok_sub (so_var (pv 3)) (SE.so se_int)) (sa_cons (se_var (pv 6)) sa_nil))))) sa_nil)))) sss_nil))))))))))) (by decide)
theorem ok__law_mixed (C : Fx K mg a) : FnOk P w K mg base (L2.CX P w) 1 a.f__law_mixed a.d__law_mixed ["_law_cell_here", "_law_k"] (spOf K mg 2 s__law_mixed) := by
  refine fn_okX (k := 0) C.F__law_mixed sc__law_mixed (by decide) (fun cdv A outer s H E hr => ?_)
  have po : PassesOwn (model P w) (cxOf (L2.CX P w) P w K mg base N__law_mixed "_law_mixed" (defScope t__law_mixed) a.f__law_mixed cdv A outer s H E).A (cxOf (L2.CX P w) P w K mg base N__law_mixed "_law_mixed" (defScope t__law_mixed) a.f__law_mixed cdv A outer s H E).env (cxOf (L2.CX P w) P w K mg base N__law_mixed "_law_mixed" (defScope t__law_mixed) a.f__law_mixed cdv A outer s H E).xe := passes_of rfl
  have tk : Takes (cxOf (L2.CX P w) P w K mg base N__law_mixed "_law_mixed" (defScope t__law_mixed) a.f__law_mixed cdv A outer s H E) (fun c dd _ H' => E c dd H') := takes_of rfl rfl rfl rfl
  unfold m__law_mixed
  exact SSs.ex (sss_cons (ss_set (i := 2) sc__law_mixed.nd rfl (by first | exact Or.inl rfl | exact Or.inr rfl) (se_op op_mod ok_mod (SE.so (se_op (oK_add K rfl) ok_add (SE.so (se_op (oK_add K rfl) ok_add (SE.so (se_op (oK_mul K rfl) ok_mul (SE.so (se_op op_mod ok_mod (so_var (pv 0)) (SE.so se_int))) (SE.so se_int))) (SE.so (se_op (oK_mul K rfl) ok_mul (so_var (pv 1)) (SE.so se_int))))) (SE.so se_int))) (SE.so se_int))) (sss_cons (ss_set (i := 2) sc__law_mixed.nd rfl (by first | exact Or.inl rfl | exact Or.inr rfl) (se_op op_mod ok_mod (SE.so (se_op (oK_mul K rfl) ok_mul (so_var (pv 2)) (so_var (pv 2)))) (SE.so se_int))) (sss_cons (ss_ret (se_op op_mod ok_mod (SE.so (se_op (oK_mul K rfl) ok_mul (so_var (pv 2)) (SE.so (se_op (oK_add K rfl) ok_add (so_var (pv 2)) (SE.so se_int))))) (SE.so se_int))) sss_nil))) (by decide)
theorem ok__law_cell (C : Fx K mg a) : FnOk P w K mg base (L2.CX P w) 2 a.f__law_cell a.d__law_cell ["_law_script", "_law_k"] (spOf K mg 2 s__law_cell) := by
  refine fn_okX (k := 1) C.F__law_cell sc__law_cell (by decide) (fun cdv A outer s H E hr => ?_)
  have po : PassesOwn (model P w) (cxOf (L2.CX P w) P w K mg base N__law_cell "_law_cell" (defScope t__law_cell) a.f__law_cell cdv A outer s H E).A (cxOf (L2.CX P w) P w K mg base N__law_cell "_law_cell" (defScope t__law_cell) a.f__law_cell cdv A outer s H E).env (cxOf (L2.CX P w) P w K mg base N__law_cell "_law_cell" (defScope t__law_cell) a.f__law_cell cdv A outer s H E).xe := passes_of rfl
  have tk : Takes (cxOf (L2.CX P w) P w K mg base N__law_cell "_law_cell" (defScope t__law_cell) a.f__law_cell cdv A outer s H E) (fun c dd _ H' => E c dd H') := takes_of rfl rfl rfl rfl
  unfold m__law_cell fr__law_cell_1 lp__law_cell_1
  exact SSs.ex (sss_cons (ss_set (i := 2) sc__law_cell.nd rfl (by first | exact Or.inl rfl | exact Or.inr rfl) se_int) (sss_cons (ss_if (st_cmp op_lt ok_lt (nomark _) (so_var (pv 1)) (SE.so (se_lenScr (pe_callB call_len (by rfl) C.b_len PySem.boot_len (pa_cons (pv 0) pa_nil))))) (sss_cons (ss_set (i := 2) sc__law_cell.nd rfl (by first | exact Or.inl rfl | exact Or.inr rfl) (se_ixScr (fun h => pe_ix ix_B (pv 0) h (fun _ _ => rfl)) (so_var (pv 1)))) sss_nil) sss_nil) (sss_cons (ss_if (st_cmp op_ge ok_ge (nomark _) (so_var (pv 2)) (SE.so (se_op op_pow ok_pow (SE.so se_int) (SE.so se_int)))) (sss_cons (ss_ret (se_op op_mod ok_mod (SE.so (se_op op_sub ok_sub (so_var (pv 2)) (SE.so (se_op op_pow ok_pow (SE.so se_int) (SE.so se_int))))) (SE.so (se_op (oK_mul K rfl) ok_mul (SE.so (se_op (oK_mul K rfl) ok_mul (SE.so (se_op (oK_mul K rfl) ok_mul (SE.so (se_op op_pow ok_pow (SE.so se_int) (SE.so se_int))) (SE.so (se_op op_pow ok_pow (SE.so se_int) (SE.so se_int))))) (SE.so (se_op op_pow ok_pow (SE.so se_int) (SE.so se_int))))) (SE.so (se_op op_pow ok_pow (SE.so se_int) (SE.so se_int))))))) sss_nil) sss_nil) (sss_cons (ss_set (i := 3) sc__law_cell.nd rfl (by first | exact Or.inl rfl | exact Or.inr rfl) se_int) (sss_cons (ss_for [4] po rfl (si_range1 (fun h => pi_range1 (by rfl) C.b_range h) (so_cons (SE.so se_int) sos_nil)) (sg_name (pg_name (i := 4) sc__law_cell.nd rfl (by first | exact Or.inl rfl | exact Or.inr rfl))) (sss_cons (ss_set (i := 3) sc__law_cell.nd rfl (by first | exact Or.inl rfl | exact Or.inr rfl) (se_op (oK_add K rfl) ok_add (SE.so (se_op (oK_mul K rfl) ok_mul (so_var (pv 3)) (SE.so se_int))) (SE.so (se_callC (ok__law_mixed C) rfl rfl rfl rfl rfl (hr.mono (by first | decide | omega)) (by rfl) C.g__law_mixed C.k__law_mixed C.B__law_mixed rfl tk (so_cons (so_var (pv 2)) (so_cons (SE.so (se_op (oK_add K rfl) ok_add (SE.so (se_op (oK_add K rfl) ok_add (SE.so (se_op (oK_mul K rfl) ok_mul (SE.so se_int) (so_var (pv 1)))) (SE.so (se_op (oK_mul K rfl) ok_mul (SE.so se_int) (so_var (pv 4)))))) (SE.so (se_op (oK_mul K rfl) ok_mul (so_var (pv 4)) (so_var (pv 4)))))) sos_nil)) (lm_cons (lm_cons lm_nil)))))) sss_nil)) (sss_cons (ss_ret (se_var (pv 3))) sss_nil)))))) (by decide)
theorem ok__law_take (C : Fx K mg a) : FnOk P w K mg base (L2.CX P w) 1 a.f__law_take a.d__law_take ["_law_pile_here", "_law_size"] (spOf K mg 2 s__law_take) := by
  refine fn_okX (k := 0) C.F__law_take sc__law_take (by decide) (fun cdv A outer s H E hr => ?_)
  have po : PassesOwn (model P w) (cxOf (L2.CX P w) P w K mg base N__law_take "_law_take" (defScope t__law_take) a.f__law_take cdv A outer s H E).A (cxOf (L2.CX P w) P w K mg base N__law_take "_law_take" (defScope t__law_take) a.f__law_take cdv A outer s H E).env (cxOf (L2.CX P w) P w K mg base N__law_take "_law_take" (defScope t__law_take) a.f__law_take cdv A outer s H E).xe := passes_of rfl
  have tk : Takes (cxOf (L2.CX P w) P w K mg base N__law_take "_law_take" (defScope t__law_take) a.f__law_take cdv A outer s H E) (fun c dd _ H' => E c dd H') := takes_of rfl rfl rfl rfl
  unfold m__law_take
  exact SSs.ex (sss_cons (ss_set (i := 2) sc__law_take.nd rfl (by first | exact Or.inl rfl | exact Or.inr rfl) (se_op op_mod ok_mod (SE.so (se_ixK K rfl (fun _ _ => rfl) (so_var (pv 0)) (SE.so se_int))) (so_var (pv 1)))) (sss_cons (ss_put (fun he hk => ps_asg he (pg_sub (pv 0) hk set_list)) (se_op op_fdivW ok_fdiv (SE.so (se_ixK K rfl (fun _ _ => rfl) (so_var (pv 0)) (SE.so se_int))) (so_var (pv 1))) (SE.so se_int)) (sss_cons (ss_ret (se_var (pv 2))) sss_nil))) (by decide)
theorem ok__law_sum (C : Fx K mg a) : FnOk P w K mg base (L2.CX P w) 1 a.f__law_sum a.d__law_sum ["_law_pile_here"] (spOf K mg 1 s_sum_of) := by
  refine fn_okX (k := 0) C.F__law_sum sc__law_sum (by decide) (fun cdv A outer s H E hr => ?_)
  have po : PassesOwn (model P w) (cxOf (L2.CX P w) P w K mg base N__law_sum "_law_sum" (defScope t__law_sum) a.f__law_sum cdv A outer s H E).A (cxOf (L2.CX P w) P w K mg base N__law_sum "_law_sum" (defScope t__law_sum) a.f__law_sum cdv A outer s H E).env (cxOf (L2.CX P w) P w K mg base N__law_sum "_law_sum" (defScope t__law_sum) a.f__law_sum cdv A outer s H E).xe := passes_of rfl
  have tk : Takes (cxOf (L2.CX P w) P w K mg base N__law_sum "_law_sum" (defScope t__law_sum) a.f__law_sum cdv A outer s H E) (fun c dd _ H' => E c dd H') := takes_of rfl rfl rfl rfl
  unfold m_sum_of lc_sum_of_1
  exact SSs.ex (sss_cons (ss_ret (se_callB (cK_sum K rfl rfl) ok_sum (by rfl) C.b_sum (by decide +kernel) (so_cons (SE.so (se_lc (own := [("_law_worth", 1), ("_law_many", 2)]) rfl sc__law_sum.nd (si_seqK K rfl (se_var (pv 0))) (blkOk_by (own := [("_law_worth", 1), ("_law_many", 2)]) (N := N__law_sum) (sc := defScope t__law_sum) (by decide +kernel)) (fun _ _ _ _ _ => (sg_tupK K rfl rfl (sgs_cons (sg_name (pg_name (i := 1) sc__law_sum.nd rfl (by first | exact Or.inl rfl | exact Or.inr rfl))) (sgs_cons (sg_name (pg_name (i := 2) sc__law_sum.nd rfl (by first | exact Or.inl rfl | exact Or.inr rfl))) sgs_nil)))) (by decide) (fun _ _ _ _ _ => sts_nil) (fun _ _ _ _ _ => (se_op (oK_mul K rfl) ok_mul (so_var (pv 1)) (so_var (pv 2)))))) sos_nil))) sss_nil) (by decide)
theorem ok__law_under (C : Fx K mg a) : FnOk P w K mg base (L2.CX P w) 1 a.f__law_under a.d__law_under ["_law_pile_here", "_law_bound"] (spOf K mg 2 s__law_under) := by
  refine fn_okX (k := 0) C.F__law_under sc__law_under (by decide) (fun cdv A outer s H E hr => ?_)
  have po : PassesOwn (model P w) (cxOf (L2.CX P w) P w K mg base N__law_under "_law_under" (defScope t__law_under) a.f__law_under cdv A outer s H E).A (cxOf (L2.CX P w) P w K mg base N__law_under "_law_under" (defScope t__law_under) a.f__law_under cdv A outer s H E).env (cxOf (L2.CX P w) P w K mg base N__law_under "_law_under" (defScope t__law_under) a.f__law_under cdv A outer s H E).xe := passes_of rfl
  have tk : Takes (cxOf (L2.CX P w) P w K mg base N__law_under "_law_under" (defScope t__law_under) a.f__law_under cdv A outer s H E) (fun c dd _ H' => E c dd H') := takes_of rfl rfl rfl rfl
  unfold m__law_under lc__law_under_1
  exact SSs.ex (sss_cons (ss_ret (se_callB (cK_sum K rfl rfl) ok_sum (by rfl) C.b_sum (by decide +kernel) (so_cons (SE.so (se_lc (own := [("_law_worth", 2), ("_law_many", 3)]) rfl sc__law_under.nd (si_seqK K rfl (se_var (pv 0))) (blkOk_by (own := [("_law_worth", 2), ("_law_many", 3)]) (N := N__law_under) (sc := defScope t__law_under) (by decide +kernel)) (fun _ _ _ _ _ => (sg_tupK K rfl rfl (sgs_cons (sg_name (pg_name (i := 2) sc__law_under.nd rfl (by first | exact Or.inl rfl | exact Or.inr rfl))) (sgs_cons (sg_name (pg_name (i := 3) sc__law_under.nd rfl (by first | exact Or.inl rfl | exact Or.inr rfl))) sgs_nil)))) (by decide) (fun _ _ _ _ _ => (sts_one (SW.st (sw_or (st_cmp op_isN ok_is (nomark _) (so_var (pv 1)) (SE.so se_non)) (sw_or1 (st_cmp op_lt ok_lt (nomark _) (so_var (pv 2)) (so_var (pv 1)))))))) (fun _ _ _ _ _ => (se_op (oK_mul K rfl) ok_mul (so_var (pv 2)) (so_var (pv 3)))))) sos_nil))) sss_nil) (by decide)
theorem ok__law_heap (C : Fx K mg a) : FnOk P w K mg base (L2.CX P w) 1 a.f__law_heap a.d__law_heap ["_law_coins_here"] (spOf K mg 1 s__law_heap) := by
  refine fn_okX (k := 0) C.F__law_heap sc__law_heap (by decide) (fun cdv A outer s H E hr => ?_)
  have po : PassesOwn (model P w) (cxOf (L2.CX P w) P w K mg base N__law_heap "_law_heap" (defScope t__law_heap) a.f__law_heap cdv A outer s H E).A (cxOf (L2.CX P w) P w K mg base N__law_heap "_law_heap" (defScope t__law_heap) a.f__law_heap cdv A outer s H E).env (cxOf (L2.CX P w) P w K mg base N__law_heap "_law_heap" (defScope t__law_heap) a.f__law_heap cdv A outer s H E).xe := passes_of rfl
  have tk : Takes (cxOf (L2.CX P w) P w K mg base N__law_heap "_law_heap" (defScope t__law_heap) a.f__law_heap cdv A outer s H E) (fun c dd _ H' => E c dd H') := takes_of rfl rfl rfl rfl
  unfold m__law_heap fr__law_heap_1 lp__law_heap_1
  exact SSs.ex (sss_cons (ss_own (fun h => ps_set (i := 1) sc__law_heap.nd rfl (by first | exact Or.inl rfl | exact Or.inr rfl) h) (sf_lst sa_nil)) (sss_cons (ss_for [2] po rfl (si_seqK K rfl (se_callB (cK_sorted K rfl hr.units) ok_sorted (by rfl) C.b_sorted (by decide +kernel) (so_cons (so_var (pv 0)) sos_nil))) (sg_name (pg_name (i := 2) sc__law_heap.nd rfl (by first | exact Or.inl rfl | exact Or.inr rfl))) (sss_cons (ss_if (SW.st (sw_and (st_cmp (oK_ne K rfl hr.units) ok_ne (nomark _) (so_var (pv 1)) (SE.so (se_lst sa_nil))) (sw_and1 (st_cmp (oK_eq K rfl hr.units) ok_eq (nomark _) (SE.so (se_ixK K rfl (fun _ _ => rfl) (SE.so (se_ixK K rfl (fun _ _ => rfl) (so_var (pv 1)) (SE.so (se_neg (SE.so se_int))))) (SE.so se_int))) (so_var (pv 2)))))) (sss_cons (ss_put (fun he hk => ps_asg he (pg_sub (pv 1) hk set_list)) (se_tup (sa_cons (se_var (pv 2)) (sa_cons (se_op (oK_add K rfl) ok_add (SE.so (se_ixK K rfl (fun _ _ => rfl) (SE.so (se_ixK K rfl (fun _ _ => rfl) (so_var (pv 1)) (SE.so (se_neg (SE.so se_int))))) (SE.so se_int))) (SE.so se_int)) sa_nil))) (SE.so (se_neg (SE.so se_int)))) sss_nil) (sss_cons (ss_app (fun h => ps_expr (pe_bm PySem.F.plainAttrs_list PySem.F.slot_list_append PySem.F.type_list_append mt_append (pv 1) (pa_cons h pa_nil))) (se_tup (sa_cons (se_var (pv 2)) (sa_cons se_int sa_nil)))) sss_nil)) sss_nil)) (sss_cons (ss_ret (se_callTy (cK_tuple K rfl) ok_tuple (by rfl) C.b_tuple (by decide +kernel) (so_cons (so_var (pv 1)) sos_nil))) sss_nil))) (by decide)
theorem ok__law_coins (C : Fx K mg a) : FnOk P w K mg base (L2.CX P w) 1 a.f__law_coins a.d__law_coins ["_law_pile_here"] (spOf K mg 1 s_k49__law_coins) := by
  refine fn_okX (k := 0) C.F__law_coins sc__law_coins (by decide) (fun cdv A outer s H E hr => ?_)
  have po : PassesOwn (model P w) (cxOf (L2.CX P w) P w K mg base N__law_coins "_law_coins" (defScope t__law_coins) a.f__law_coins cdv A outer s H E).A (cxOf (L2.CX P w) P w K mg base N__law_coins "_law_coins" (defScope t__law_coins) a.f__law_coins cdv A outer s H E).env (cxOf (L2.CX P w) P w K mg base N__law_coins "_law_coins" (defScope t__law_coins) a.f__law_coins cdv A outer s H E).xe := passes_of rfl
  have tk : Takes (cxOf (L2.CX P w) P w K mg base N__law_coins "_law_coins" (defScope t__law_coins) a.f__law_coins cdv A outer s H E) (fun c dd _ H' => E c dd H') := takes_of rfl rfl rfl rfl
  unfold m_k49__law_coins fr_k49__law_coins_1 lp_k49__law_coins_1
  exact SSs.ex (sss_cons (ss_own (fun h => ps_set (i := 1) sc__law_coins.nd rfl (by first | exact Or.inl rfl | exact Or.inr rfl) h) (sf_lst sa_nil)) (sss_cons (ss_for [2, 3] po rfl (si_seqK K rfl (se_var (pv 0))) (sg_tupK K rfl rfl (sgs_cons (sg_name (pg_name (i := 2) sc__law_coins.nd rfl (by first | exact Or.inl rfl | exact Or.inr rfl))) (sgs_cons (sg_name (pg_name (i := 3) sc__law_coins.nd rfl (by first | exact Or.inl rfl | exact Or.inr rfl))) sgs_nil))) (sss_cons (ss_own (fun h => ps_set (i := 1) sc__law_coins.nd rfl (by first | exact Or.inl rfl | exact Or.inr rfl) h) (sf_op (oK_add K rfl) okF_add (so_var (pv 1)) (SE.so (se_op (oK_mul K rfl) ok_mul (SE.so (se_lst (sa_cons (se_var (pv 2)) sa_nil))) (so_var (pv 3)))))) sss_nil)) (sss_cons (ss_retS (sv_give (pv 1))) sss_nil))) (by decide)
theorem ok__law_length (C : Fx K mg a) : ∀ n, FnOk P w K mg base (L2.CX P w) (1 + n) a.f__law_length a.d__law_length ["_law_right"] (spOf K mg 1 (s__law_length n)) := by
  intro n
  induction n with
  | zero => exact fn_rec0 rfl
  | succ n IH =>
  rw [← Nat.add_assoc, r__law_length]
  refine fn_okX C.F__law_length sc__law_length (by decide) (fun cdv A outer s H E hr => ?_)
  have po : PassesOwn (model P w) (cxOf (L2.CX P w) P w K mg base N__law_length "_law_length" (defScope t__law_length) a.f__law_length cdv A outer s H E).A (cxOf (L2.CX P w) P w K mg base N__law_length "_law_length" (defScope t__law_length) a.f__law_length cdv A outer s H E).env (cxOf (L2.CX P w) P w K mg base N__law_length "_law_length" (defScope t__law_length) a.f__law_length cdv A outer s H E).xe := passes_of rfl
  have tk : Takes (cxOf (L2.CX P w) P w K mg base N__law_length "_law_length" (defScope t__law_length) a.f__law_length cdv A outer s H E) (fun c dd _ H' => E c dd H') := takes_of rfl rfl rfl rfl
  unfold m__law_length lc__law_length_1
  exact SSs.ex (sss_cons (ss_set (i := 1) sc__law_length.nd rfl (by first | exact Or.inl rfl | exact Or.inr rfl) (se_ixK K rfl (fun _ _ => rfl) (so_var (pv 0)) (SE.so se_int))) (sss_cons (ss_if (st_cmp (oK_eq K rfl hr.units) ok_eq (nomark _) (so_var (pv 1)) (SE.so se_str)) (sss_cons (ss_ret (se_ixK K rfl (fun _ _ => rfl) (so_var (pv 0)) (SE.so se_int))) sss_nil) sss_nil) (sss_cons (ss_if (st_cmp (oK_in K rfl) ok_in (by rfl) (so_var (pv 1)) (SE.so (se_tup (sa_cons se_str (sa_cons se_str sa_nil))))) (sss_cons (ss_ret (se_callB (cK_min K rfl rfl) ok_min (by rfl) C.b_min (by decide +kernel) (so_cons (SE.so (se_ixK K rfl (fun _ _ => rfl) (so_var (pv 0)) (SE.so se_int))) (so_cons (SE.so (se_callC IH rfl rfl rfl rfl rfl (hr.mono (by first | decide | omega)) (by rfl) C.g__law_length C.k__law_length C.B__law_length rfl tk (so_cons (SE.so (se_ixK K rfl (fun _ _ => rfl) (so_var (pv 0)) (SE.so se_int))) sos_nil) (lm_cons lm_nil))) sos_nil)))) sss_nil) sss_nil) (sss_cons (ss_if (st_cmp (oK_eq K rfl hr.units) ok_eq (nomark _) (so_var (pv 1)) (SE.so se_str)) (sss_cons (ss_ret se_int) sss_nil) sss_nil) (sss_cons (ss_setLc (i := 2) (own := [("_law_part", 3)]) rfl sc__law_length.nd rfl rfl (sw_true rfl rfl rfl (by decide +kernel)) (si_seqK K rfl (se_ixK K rfl (fun _ _ => rfl) (so_var (pv 0)) (SE.so se_int))) (blkOk_by (own := [("_law_part", 3)]) (N := N__law_length) (sc := defScope t__law_length) (by decide +kernel)) (fun _ _ _ _ _ => (sg_name (pg_name (i := 3) sc__law_length.nd rfl (by first | exact Or.inl rfl | exact Or.inr rfl)))) (by decide) (fun _ _ _ _ _ => sts_nil) (fun _ _ _ _ _ => (se_callC IH rfl rfl rfl rfl rfl (hr.mono (by first | decide | omega)) (by rfl) C.g__law_length C.k__law_length C.B__law_length rfl takes0 (so_cons (so_var (pv 3)) sos_nil) (lm_cons lm_nil)))) (sss_cons (ss_ret (se_if (st_cmp (oK_eq K rfl hr.units) ok_eq (nomark _) (so_var (pv 1)) (SE.so se_str)) (se_callB (cK_sum K rfl rfl) ok_sum (by rfl) C.b_sum (by decide +kernel) (so_cons (so_var (pv 2)) sos_nil)) (se_callB (cK_max K rfl rfl) ok_max (by rfl) C.b_max (by decide +kernel) (so_cons (SE.so (se_op (oK_add K rfl) ok_add (so_var (pv 2)) (SE.so (se_lst (sa_cons se_int sa_nil))))) sos_nil)))) sss_nil)))))) (by decide)
theorem ok__law_row (C : Fx K mg a) : ∀ n, FnOk P w K mg base (L2.CX P w) (1 + n) a.f__law_row a.d__law_row ["_law_right", "_law_bound", "_law_many"] (spOf K mg 3 (s__law_row n)) := by
  intro n
  induction n with
  | zero => exact fn_rec0 rfl
  | succ n IH =>
  rw [← Nat.add_assoc, r__law_row]
  refine fn_okX C.F__law_row sc__law_row (by decide) (fun cdv A outer s H E hr => ?_)
  have po : PassesOwn (model P w) (cxOf (L2.CX P w) P w K mg base N__law_row "_law_row" (defScope t__law_row) a.f__law_row cdv A outer s H E).A (cxOf (L2.CX P w) P w K mg base N__law_row "_law_row" (defScope t__law_row) a.f__law_row cdv A outer s H E).env (cxOf (L2.CX P w) P w K mg base N__law_row "_law_row" (defScope t__law_row) a.f__law_row cdv A outer s H E).xe := passes_of rfl
  have tk : Takes (cxOf (L2.CX P w) P w K mg base N__law_row "_law_row" (defScope t__law_row) a.f__law_row cdv A outer s H E) (fun c dd _ H' => E c dd H') := takes_of rfl rfl rfl rfl
  unfold m__law_row fr__law_row_1 lp__law_row_1 lc__law_row_6 lc__law_row_5 lc__law_row_4 lc__law_row_3 lc__law_row_2 lc__law_row_1
  exact SSs.ex (sss_cons (ss_set (i := 3) sc__law_row.nd rfl (by first | exact Or.inl rfl | exact Or.inr rfl) (se_ixK K rfl (fun _ _ => rfl) (so_var (pv 0)) (SE.so se_int))) (sss_cons (ss_if (st_cmp (oK_eq K rfl hr.units) ok_eq (nomark _) (so_var (pv 3)) (SE.so se_str)) (sss_cons (ss_set (i := 6) sc__law_row.nd rfl (by first | exact Or.inl rfl | exact Or.inr rfl) (se_if (st_cmp op_isN ok_is (nomark _) (so_var (pv 1)) (SE.so se_non)) (se_ixK K rfl (fun _ _ => rfl) (so_var (pv 0)) (SE.so se_int)) (se_callB (cK_min K rfl rfl) ok_min (by rfl) C.b_min (by decide +kernel) (so_cons (SE.so (se_ixK K rfl (fun _ _ => rfl) (so_var (pv 0)) (SE.so se_int))) (so_cons (SE.so (se_op op_sub ok_sub (so_var (pv 1)) (SE.so se_int))) sos_nil))))) (sss_cons (ss_retS (SFO.sv (SF.o (sf_lc (own := [("_law_j", 8)]) rfl sc__law_row.nd (si_range1 (fun h => pi_range1 (by rfl) C.b_range h) (so_cons (SE.so (se_op (oK_add K rfl) ok_add (so_var (pv 2)) (SE.so se_int))) sos_nil)) (blkOk_by (own := [("_law_j", 8)]) (N := N__law_row) (sc := defScope t__law_row) (by decide +kernel)) (fun _ _ _ _ _ => (sg_name (pg_name (i := 8) sc__law_row.nd rfl (by first | exact Or.inl rfl | exact Or.inr rfl)))) (by decide) (fun _ _ _ _ _ => sts_nil) (fun _ _ _ _ _ => (se_op (oK_mul K rfl) ok_mul (SE.so (se_callB (cK_min K rfl rfl) ok_min (by rfl) C.b_min (by decide +kernel) (so_cons (SE.so (se_ixK K rfl (fun _ _ => rfl) (so_var (pv 0)) (SE.so se_int))) (so_cons (so_var (pv 8)) sos_nil)))) (so_var (pv 6)))))))) sss_nil)) sss_nil) (sss_cons (ss_if (st_cmp (oK_eq K rfl hr.units) ok_eq (nomark _) (so_var (pv 3)) (SE.so se_str)) (sss_cons (ss_retS (SFO.sv (SF.o (sf_lc (own := [("_law_one", 9)]) rfl sc__law_row.nd (si_seqK K rfl (se_callC IH rfl rfl rfl rfl rfl (hr.mono (by first | decide | omega)) (by rfl) C.g__law_row C.k__law_row C.B__law_row rfl tk (so_cons (SE.so (se_ixK K rfl (fun _ _ => rfl) (so_var (pv 0)) (SE.so se_int))) (so_cons (so_var (pv 1)) (so_cons (so_var (pv 2)) sos_nil))) (lm_cons (lm_cons (lm_cons lm_nil))))) (blkOk_by (own := [("_law_one", 9)]) (N := N__law_row) (sc := defScope t__law_row) (by decide +kernel)) (fun _ _ _ _ _ => (sg_name (pg_name (i := 9) sc__law_row.nd rfl (by first | exact Or.inl rfl | exact Or.inr rfl)))) (by decide) (fun _ _ _ _ _ => sts_nil) (fun _ _ _ _ _ => (se_callB (cK_min K rfl rfl) ok_min (by rfl) C.b_min (by decide +kernel) (so_cons (SE.so (se_ixK K rfl (fun _ _ => rfl) (so_var (pv 0)) (SE.so se_int))) (so_cons (so_var (pv 9)) sos_nil)))))))) sss_nil) sss_nil) (sss_cons (ss_if (st_cmp (oK_eq K rfl hr.units) ok_eq (nomark _) (so_var (pv 3)) (SE.so se_str)) (sss_cons (ss_set (i := 4) sc__law_row.nd rfl (by first | exact Or.inl rfl | exact Or.inr rfl) (se_callC IH rfl rfl rfl rfl rfl (hr.mono (by first | decide | omega)) (by rfl) C.g__law_row C.k__law_row C.B__law_row rfl tk (so_cons (SE.so (se_ixK K rfl (fun _ _ => rfl) (so_var (pv 0)) (SE.so se_int))) (so_cons (so_var (pv 1)) (so_cons (so_var (pv 2)) sos_nil))) (lm_cons (lm_cons (lm_cons lm_nil))))) (sss_cons (ss_retS (SFO.sv (SF.o (sf_lc (own := [("_law_j", 8)]) rfl sc__law_row.nd (si_range1 (fun h => pi_range1 (by rfl) C.b_range h) (so_cons (SE.so (se_op (oK_add K rfl) ok_add (so_var (pv 2)) (SE.so se_int))) sos_nil)) (blkOk_by (own := [("_law_j", 8)]) (N := N__law_row) (sc := defScope t__law_row) (by decide +kernel)) (fun _ _ _ _ _ => (sg_name (pg_name (i := 8) sc__law_row.nd rfl (by first | exact Or.inl rfl | exact Or.inr rfl)))) (by decide) (fun _ _ _ _ _ => sts_nil) (fun _ _ _ _ _ => (se_ixK K rfl (fun _ _ => rfl) (so_var (pv 4)) (SE.so (se_callB (cK_min K rfl rfl) ok_min (by rfl) C.b_min (by decide +kernel) (so_cons (so_var (pv 8)) (so_cons (SE.so (se_ixK K rfl (fun _ _ => rfl) (so_var (pv 0)) (SE.so se_int))) sos_nil)))))))))) sss_nil)) sss_nil) (sss_cons (ss_set (i := 4) sc__law_row.nd rfl (by first | exact Or.inl rfl | exact Or.inr rfl) (se_op (oK_mul K rfl) ok_mul (SE.so (se_lst (sa_cons se_int sa_nil))) (SE.so (se_op (oK_add K rfl) ok_add (so_var (pv 2)) (SE.so se_int))))) (sss_cons (ss_if (st_cmp (oK_eq K rfl hr.units) ok_eq (nomark _) (so_var (pv 3)) (SE.so se_str)) (sss_cons (ss_ret (se_var (pv 4))) sss_nil) sss_nil) (sss_cons (ss_for [5, 7] po rfl (si_seqK K rfl (se_ixK K rfl (fun _ _ => rfl) (so_var (pv 0)) (SE.so se_int))) (sg_name (pg_name (i := 5) sc__law_row.nd rfl (by first | exact Or.inl rfl | exact Or.inr rfl))) (sss_cons (ss_set (i := 7) sc__law_row.nd rfl (by first | exact Or.inl rfl | exact Or.inr rfl) (se_callC IH rfl rfl rfl rfl rfl (hr.mono (by first | decide | omega)) (by rfl) C.g__law_row C.k__law_row C.B__law_row rfl tk (so_cons (so_var (pv 5)) (so_cons (so_var (pv 1)) (so_cons (so_var (pv 2)) sos_nil))) (lm_cons (lm_cons (lm_cons lm_nil))))) (sss_cons (ss_if (st_cmp (oK_eq K rfl hr.units) ok_eq (nomark _) (so_var (pv 3)) (SE.so se_str)) (sss_cons (ss_set (i := 4) sc__law_row.nd rfl (by first | exact Or.inl rfl | exact Or.inr rfl) (se_lc (own := [("_law_pair", 10)]) rfl sc__law_row.nd (si_zipEK K rfl (fun h => pi_zipN (by rfl) C.b_zip h) (sa_cons (se_var (pv 4)) (sa_cons (se_var (pv 7)) sa_nil))) (blkOk_by (own := [("_law_pair", 10)]) (N := N__law_row) (sc := defScope t__law_row) (by decide +kernel)) (fun _ _ _ _ _ => (sg_name (pg_name (i := 10) sc__law_row.nd rfl (by first | exact Or.inl rfl | exact Or.inr rfl)))) (by decide) (fun _ _ _ _ _ => sts_nil) (fun _ _ _ _ _ => (se_callB (cK_maxT K rfl rfl hr.units) ok_maxT (by rfl) C.b_max (by decide +kernel) (so_cons (so_var (pv 10)) sos_nil))))) sss_nil) (sss_cons (ss_set (i := 4) sc__law_row.nd rfl (by first | exact Or.inl rfl | exact Or.inr rfl) (se_lc (own := [("_law_j", 8)]) rfl sc__law_row.nd (si_range1 (fun h => pi_range1 (by rfl) C.b_range h) (so_cons (SE.so (se_op (oK_add K rfl) ok_add (so_var (pv 2)) (SE.so se_int))) sos_nil)) (blkOk_by (own := [("_law_j", 8)]) (N := N__law_row) (sc := defScope t__law_row) (by decide +kernel)) (fun _ _ _ _ _ => (sg_name (pg_name (i := 8) sc__law_row.nd rfl (by first | exact Or.inl rfl | exact Or.inr rfl)))) (by decide) (fun _ _ _ _ _ => sts_nil) (fun _ _ _ _ _ => (se_callB (cK_max K rfl rfl) ok_max (by rfl) C.b_max (by decide +kernel) (so_cons (SE.so (se_lc (own := [("_law_i", 11)]) rfl sc__law_row.nd (si_range1 (fun h => pi_range1 (by rfl) C.b_range h) (so_cons (SE.so (se_op (oK_add K rfl) ok_add (so_var (pv 8)) (SE.so se_int))) sos_nil)) (blkOk_by (own := [("_law_i", 11)]) (N := N__law_row) (sc := relS _ (defScope t__law_row)) (by decide +kernel)) (fun _ _ _ _ _ => (sg_name (pg_name (i := 11) sc__law_row.nd rfl (by first | exact Or.inl rfl | exact Or.inr rfl)))) (by decide) (fun _ _ _ _ _ => sts_nil) (fun _ _ _ _ _ => (se_op (oK_add K rfl) ok_add (SE.so (se_ixK K rfl (fun _ _ => rfl) (so_var (pv 4)) (so_var (pv 11)))) (SE.so (se_ixK K rfl (fun _ _ => rfl) (so_var (pv 7)) (SE.so (se_op op_sub ok_sub (so_var (pv 8)) (so_var (pv 11)))))))))) sos_nil))))) sss_nil)) sss_nil))) (sss_cons (ss_ret (se_var (pv 4))) sss_nil)))))))) (by decide)
theorem ok__law_top (C : Fx K mg a) : ∀ n, FnOk P w K mg base (L2.CX P w) (32 + n) a.f__law_top a.d__law_top ["_law_right", "_law_bound"] (spOf K mg 2 (s__law_top n)) := by
  intro n
  induction n with
  | zero => exact fn_rec0 rfl
  | succ n IH =>
  rw [← Nat.add_assoc, r__law_top]
  refine fn_okX C.F__law_top sc__law_top (by decide) (fun cdv A outer s H E hr => ?_)
  have po : PassesOwn (model P w) (cxOf (L2.CX P w) P w K mg base N__law_top "_law_top" (defScope t__law_top) a.f__law_top cdv A outer s H E).A (cxOf (L2.CX P w) P w K mg base N__law_top "_law_top" (defScope t__law_top) a.f__law_top cdv A outer s H E).env (cxOf (L2.CX P w) P w K mg base N__law_top "_law_top" (defScope t__law_top) a.f__law_top cdv A outer s H E).xe := passes_of rfl
  have tk : Takes (cxOf (L2.CX P w) P w K mg base N__law_top "_law_top" (defScope t__law_top) a.f__law_top cdv A outer s H E) (fun c dd _ H' => E c dd H') := takes_of rfl rfl rfl rfl
  unfold m__law_top lc__law_top_1
  exact SSs.ex (sss_cons (ss_set (i := 2) sc__law_top.nd rfl (by first | exact Or.inl rfl | exact Or.inr rfl) (se_ixK K rfl (fun _ _ => rfl) (so_var (pv 0)) (SE.so se_int))) (sss_cons (ss_if (st_cmp (oK_eq K rfl hr.units) ok_eq (nomark _) (so_var (pv 2)) (SE.so se_str)) (sss_cons (ss_ret (se_op (oK_mul K rfl) ok_mul (SE.so (se_ixK K rfl (fun _ _ => rfl) (so_var (pv 0)) (SE.so se_int))) (SE.so (se_if (st_cmp op_isN ok_is (nomark _) (so_var (pv 1)) (SE.so se_non)) (se_ixK K rfl (fun _ _ => rfl) (so_var (pv 0)) (SE.so se_int)) (se_callB (cK_min K rfl rfl) ok_min (by rfl) C.b_min (by decide +kernel) (so_cons (SE.so (se_ixK K rfl (fun _ _ => rfl) (so_var (pv 0)) (SE.so se_int))) (so_cons (SE.so (se_op op_sub ok_sub (so_var (pv 1)) (SE.so se_int))) sos_nil))))))) sss_nil) sss_nil) (sss_cons (ss_if (st_cmp (oK_eq K rfl hr.units) ok_eq (nomark _) (so_var (pv 2)) (SE.so se_str)) (sss_cons (ss_ret (se_callB (cK_min K rfl rfl) ok_min (by rfl) C.b_min (by decide +kernel) (so_cons (SE.so (se_ixK K rfl (fun _ _ => rfl) (so_var (pv 0)) (SE.so se_int))) (so_cons (SE.so (se_callC IH rfl rfl rfl rfl rfl (hr.mono (by first | decide | omega)) (by rfl) C.g__law_top C.k__law_top C.B__law_top rfl tk (so_cons (SE.so (se_ixK K rfl (fun _ _ => rfl) (so_var (pv 0)) (SE.so se_int))) (so_cons (so_var (pv 1)) sos_nil)) (lm_cons (lm_cons lm_nil)))) sos_nil)))) sss_nil) sss_nil) (sss_cons (ss_if (st_cmp (oK_eq K rfl hr.units) ok_eq (nomark _) (so_var (pv 2)) (SE.so se_str)) (sss_cons (ss_ret (se_ixK K rfl (fun _ _ => rfl) (SE.so (se_callC (ok__law_row C 30) rfl rfl rfl rfl rfl (hr.mono (by first | decide | omega)) (by rfl) C.g__law_row C.k__law_row C.B__law_row rfl tk (so_cons (SE.so (se_ixK K rfl (fun _ _ => rfl) (so_var (pv 0)) (SE.so se_int))) (so_cons (so_var (pv 1)) (so_cons (SE.so (se_callB (cK_min K rfl rfl) ok_min (by rfl) C.b_min (by decide +kernel) (so_cons (SE.so (se_ixK K rfl (fun _ _ => rfl) (so_var (pv 0)) (SE.so se_int))) (so_cons (SE.so (se_callC (ok__law_length C 30) rfl rfl rfl rfl rfl (hr.mono (by first | decide | omega)) (by rfl) C.g__law_length C.k__law_length C.B__law_length rfl tk (so_cons (SE.so (se_ixK K rfl (fun _ _ => rfl) (so_var (pv 0)) (SE.so se_int))) sos_nil) (lm_cons lm_nil))) sos_nil)))) sos_nil))) (lm_cons (lm_cons (lm_cons lm_nil))))) (SE.so (se_neg (SE.so se_int))))) sss_nil) sss_nil) (sss_cons (ss_if (st_cmp (oK_eq K rfl hr.units) ok_eq (nomark _) (so_var (pv 2)) (SE.so se_str)) (sss_cons (ss_ret se_int) sss_nil) sss_nil) (sss_cons (ss_setLc (i := 3) (own := [("_law_part", 4)]) rfl sc__law_top.nd rfl rfl (sw_true rfl rfl rfl (by decide +kernel)) (si_seqK K rfl (se_ixK K rfl (fun _ _ => rfl) (so_var (pv 0)) (SE.so se_int))) (blkOk_by (own := [("_law_part", 4)]) (N := N__law_top) (sc := defScope t__law_top) (by decide +kernel)) (fun _ _ _ _ _ => (sg_name (pg_name (i := 4) sc__law_top.nd rfl (by first | exact Or.inl rfl | exact Or.inr rfl)))) (by decide) (fun _ _ _ _ _ => sts_nil) (fun _ _ _ _ _ => (se_callC IH rfl rfl rfl rfl rfl (hr.mono (by first | decide | omega)) (by rfl) C.g__law_top C.k__law_top C.B__law_top rfl takes0 (so_cons (so_var (pv 4)) (so_cons (so_var (pv 1)) sos_nil)) (lm_cons (lm_cons lm_nil))))) (sss_cons (ss_ret (se_if (st_cmp (oK_eq K rfl hr.units) ok_eq (nomark _) (so_var (pv 2)) (SE.so se_str)) (se_callB (cK_sum K rfl rfl) ok_sum (by rfl) C.b_sum (by decide +kernel) (so_cons (so_var (pv 3)) sos_nil)) (se_callB (cK_max K rfl rfl) ok_max (by rfl) C.b_max (by decide +kernel) (so_cons (SE.so (se_op (oK_add K rfl) ok_add (so_var (pv 3)) (SE.so (se_lst (sa_cons se_int sa_nil))))) sos_nil)))) sss_nil))))))) (by decide)
theorem ok__law_holds (C : Fx K mg a) : FnOk P w K mg base (L2.CX P w) 63 a.f__law_holds a.d__law_holds ["_law_pile_here", "_law_right"] (spOf K mg 2 s__law_holds) := by
  refine fn_okX (k := 62) C.F__law_holds sc__law_holds (by decide) (fun cdv A outer s H E hr => ?_)
  have po : PassesOwn (model P w) (cxOf (L2.CX P w) P w K mg base N__law_holds "_law_holds" (defScope t__law_holds) a.f__law_holds cdv A outer s H E).A (cxOf (L2.CX P w) P w K mg base N__law_holds "_law_holds" (defScope t__law_holds) a.f__law_holds cdv A outer s H E).env (cxOf (L2.CX P w) P w K mg base N__law_holds "_law_holds" (defScope t__law_holds) a.f__law_holds cdv A outer s H E).xe := passes_of rfl
  have tk : Takes (cxOf (L2.CX P w) P w K mg base N__law_holds "_law_holds" (defScope t__law_holds) a.f__law_holds cdv A outer s H E) (fun c dd _ H' => E c dd H') := takes_of rfl rfl rfl rfl
  unfold m__law_holds fr__law_holds_1 lp__law_holds_1
  exact SSs.ex (sss_cons (ss_for [2, 3] po rfl (si_seqK K rfl (se_var (pv 0))) (sg_tupK K rfl rfl (sgs_cons (sg_name (pg_name (i := 2) sc__law_holds.nd rfl (by first | exact Or.inl rfl | exact Or.inr rfl))) (sgs_cons (sg_name (pg_name (i := 3) sc__law_holds.nd rfl (by first | exact Or.inl rfl | exact Or.inr rfl))) sgs_nil))) (sss_cons (ss_if (SW.st (sw_and (st_cmp op_gt ok_gt (nomark _) (so_var (pv 2)) (SE.so se_int)) (sw_and1 (st_cmp op_gt ok_gt (nomark _) (SE.so (se_callC (ok__law_top C 30) rfl rfl rfl rfl rfl (hr.mono (by first | decide | omega)) (by rfl) C.g__law_top C.k__law_top C.B__law_top rfl tk (so_cons (so_var (pv 1)) (so_cons (so_var (pv 2)) sos_nil)) (lm_cons (lm_cons lm_nil)))) (SE.so (se_callC (ok__law_under C) rfl rfl rfl rfl rfl (hr.mono (by first | decide | omega)) (by rfl) C.g__law_under C.k__law_under C.B__law_under rfl tk (so_cons (so_var (pv 0)) (so_cons (so_var (pv 2)) sos_nil)) (lm_cons (lm_cons lm_nil)))))))) (sss_cons (ss_ret se_bl) sss_nil) sss_nil) sss_nil)) (sss_cons (ss_ret (se_cmp op_le ok_le (nomark _) (SE.so (se_callC (ok__law_top C 30) rfl rfl rfl rfl rfl (hr.mono (by first | decide | omega)) (by rfl) C.g__law_top C.k__law_top C.B__law_top rfl tk (so_cons (so_var (pv 1)) (so_cons (SE.so se_non) sos_nil)) (lm_cons (lm_cons lm_nil)))) (SE.so (se_callC (ok__law_sum C) rfl rfl rfl rfl rfl (hr.mono (by first | decide | omega)) (by rfl) C.g__law_sum C.k__law_sum C.B__law_sum rfl tk (so_cons (so_var (pv 0)) sos_nil) (lm_cons lm_nil))))) sss_nil)) (by decide)
theorem ok__law_whole_from (C : Fx K mg a) : FnOk P w K mg base (L2.CX P w) 1 a.f__law_whole_from a.d__law_whole_from ["_law_thing", "_law_least"] (spOf K mg 2 s_is_from) := by
  refine fn_okX (k := 0) C.F__law_whole_from sc__law_whole_from (by decide) (fun cdv A outer s H E hr => ?_)
  have po : PassesOwn (model P w) (cxOf (L2.CX P w) P w K mg base N__law_whole_from "_law_whole_from" (defScope t__law_whole_from) a.f__law_whole_from cdv A outer s H E).A (cxOf (L2.CX P w) P w K mg base N__law_whole_from "_law_whole_from" (defScope t__law_whole_from) a.f__law_whole_from cdv A outer s H E).env (cxOf (L2.CX P w) P w K mg base N__law_whole_from "_law_whole_from" (defScope t__law_whole_from) a.f__law_whole_from cdv A outer s H E).xe := passes_of rfl
  have tk : Takes (cxOf (L2.CX P w) P w K mg base N__law_whole_from "_law_whole_from" (defScope t__law_whole_from) a.f__law_whole_from cdv A outer s H E) (fun c dd _ H' => E c dd H') := takes_of rfl rfl rfl rfl
  unfold m_is_from
  exact SSs.ex (sss_cons (ss_ret (se_and (se_isiK K rfl (by rfl) C.b_isinstance (so_var (pv 0)) (pe_bltn (v := .ty "int") (by rfl) C.b_int (by decide +kernel) rfl) (by decide +kernel)) (se_and (se_not (se_isiK K rfl (by rfl) C.b_isinstance (so_var (pv 0)) (pe_bltn (v := .ty "bool") (by rfl) C.b_bool (by decide +kernel) rfl) (by decide +kernel))) (se_one (se_cmp op_ge ok_ge (nomark _) (so_var (pv 0)) (so_var (pv 1))))))) sss_nil) (by decide)
theorem ok__law_names (C : Fx K mg a) : ∀ n, FnOk P w K mg base (L2.CX P w) (1 + n) a.f__law_names a.d__law_names ["_law_right"] (spOf K mg 1 (s__law_names_v2 n)) := by
  intro n
  induction n with
  | zero => exact fn_rec0 rfl
  | succ n IH =>
  rw [← Nat.add_assoc, r__law_names_v2]
  refine fn_okX C.F__law_names sc__law_names (by decide) (fun cdv A outer s H E hr => ?_)
  have po : PassesOwn (model P w) (cxOf (L2.CX P w) P w K mg base N__law_names "_law_names" (defScope t__law_names) a.f__law_names cdv A outer s H E).A (cxOf (L2.CX P w) P w K mg base N__law_names "_law_names" (defScope t__law_names) a.f__law_names cdv A outer s H E).env (cxOf (L2.CX P w) P w K mg base N__law_names "_law_names" (defScope t__law_names) a.f__law_names cdv A outer s H E).xe := passes_of rfl
  have tk : Takes (cxOf (L2.CX P w) P w K mg base N__law_names "_law_names" (defScope t__law_names) a.f__law_names cdv A outer s H E) (fun c dd _ H' => E c dd H') := takes_of rfl rfl rfl rfl
  unfold m__law_names_v2 fr__law_names_v2_1 lp__law_names_v2_1
  exact SSs.ex (sss_cons (ss_if (st_cmp (oK_eq K rfl hr.units) ok_eq (nomark _) (SE.so (se_ixK K rfl (fun _ _ => rfl) (so_var (pv 0)) (SE.so se_int))) (SE.so se_str)) (sss_cons (ss_retS (SFO.sv (SF.o (sf_lst (sa_cons (se_ixK K rfl (fun _ _ => rfl) (so_var (pv 0)) (SE.so se_int)) sa_nil))))) sss_nil) sss_nil) (sss_cons (ss_set (i := 1) sc__law_names.nd rfl (by first | exact Or.inl rfl | exact Or.inr rfl) (se_lst sa_nil)) (sss_cons (ss_set (i := 2) sc__law_names.nd rfl (by first | exact Or.inl rfl | exact Or.inr rfl) (se_if (st_cmp (oK_in K rfl) ok_in (by rfl) (SE.so (se_ixK K rfl (fun _ _ => rfl) (so_var (pv 0)) (SE.so se_int))) (SE.so (se_tup (sa_cons se_str (sa_cons se_str sa_nil))))) (se_ixK K rfl (fun _ _ => rfl) (so_var (pv 0)) (SE.so se_int)) (se_slK K rfl (so_var (pv 0)) (sp_some se_int) sp_none))) (sss_cons (ss_for [3] po rfl (si_seqK K rfl (se_var (pv 2))) (sg_name (pg_name (i := 3) sc__law_names.nd rfl (by first | exact Or.inl rfl | exact Or.inr rfl))) (sss_cons (ss_set (i := 1) sc__law_names.nd rfl (by first | exact Or.inl rfl | exact Or.inr rfl) (se_op (oK_add K rfl) ok_add (so_var (pv 1)) (SE.so (se_callC IH rfl rfl rfl rfl rfl (hr.mono (by first | decide | omega)) (by rfl) C.g__law_names C.k__law_names C.B__law_names rfl tk (so_cons (so_var (pv 3)) sos_nil) (lm_cons lm_nil))))) sss_nil)) (sss_cons (ss_ret (se_var (pv 1))) sss_nil))))) (by decide)
theorem ok__law_tag (C : Fx K mg a) : FnOk P w K mg base (L2.CX P w) 1 a.f__law_tag a.d__law_tag ["_law_thing"] (spOf K mg 1 s__law_tag) := by
  refine fn_okX (k := 0) C.F__law_tag sc__law_tag (by decide) (fun cdv A outer s H E hr => ?_)
  have po : PassesOwn (model P w) (cxOf (L2.CX P w) P w K mg base N__law_tag "_law_tag" (defScope t__law_tag) a.f__law_tag cdv A outer s H E).A (cxOf (L2.CX P w) P w K mg base N__law_tag "_law_tag" (defScope t__law_tag) a.f__law_tag cdv A outer s H E).env (cxOf (L2.CX P w) P w K mg base N__law_tag "_law_tag" (defScope t__law_tag) a.f__law_tag cdv A outer s H E).xe := passes_of rfl
  have tk : Takes (cxOf (L2.CX P w) P w K mg base N__law_tag "_law_tag" (defScope t__law_tag) a.f__law_tag cdv A outer s H E) (fun c dd _ H' => E c dd H') := takes_of rfl rfl rfl rfl
  unfold m__law_tag lc__law_tag_1
  exact SSs.ex (sss_cons (ss_if (SW.st (sw_or (st_not (st_val (se_isiK K rfl (by rfl) C.b_isinstance (so_var (pv 0)) (pe_bltn (v := .ty "str") (by rfl) C.b_str (by decide +kernel) rfl) (by decide +kernel)))) (sw_or1 (st_not (st_chain op_lt op_lt ok_lt ok_lt (SE.so se_int) (SE.so (se_callB (cK_len K rfl) ok_len (by rfl) C.b_len (by decide +kernel) (so_cons (so_var (pv 0)) sos_nil))) (SE.so se_int)))))) (sss_cons (ss_ret se_bl) sss_nil) sss_nil) (sss_cons (ss_ret (se_callB (cK_all K rfl rfl) ok_all (by rfl) C.b_all (by decide +kernel) (so_cons (SE.so (se_lc (own := [("_law_sign", 1)]) rfl sc__law_tag.nd (si_seqK K rfl (se_var (pv 0))) (blkOk_by (own := [("_law_sign", 1)]) (N := N__law_tag) (sc := defScope t__law_tag) (by decide +kernel)) (fun _ _ _ _ _ => (sg_name (pg_name (i := 1) sc__law_tag.nd rfl (by first | exact Or.inl rfl | exact Or.inr rfl)))) (by decide) (fun _ _ _ _ _ => sts_nil) (fun _ _ _ _ _ => (se_cmp (oK_in K rfl) ok_in (by rfl) (so_var (pv 1)) (SE.so se_str))))) sos_nil))) sss_nil)) (by decide)
theorem ok__law_formed (C : Fx K mg a) : ∀ n, FnOk P w K mg base (L2.CX P w) (2 + n) a.f__law_formed a.d__law_formed ["_law_thing", "_law_deep"] (spOf K mg 2 (s__law_formed n)) := by
  intro n
  induction n with
  | zero => exact fn_rec0 rfl
  | succ n IH =>
  rw [← Nat.add_assoc, r__law_formed]
  refine fn_okX C.F__law_formed sc__law_formed (by decide) (fun cdv A outer s H E hr => ?_)
  have po : PassesOwn (model P w) (cxOf (L2.CX P w) P w K mg base N__law_formed "_law_formed" (defScope t__law_formed) a.f__law_formed cdv A outer s H E).A (cxOf (L2.CX P w) P w K mg base N__law_formed "_law_formed" (defScope t__law_formed) a.f__law_formed cdv A outer s H E).env (cxOf (L2.CX P w) P w K mg base N__law_formed "_law_formed" (defScope t__law_formed) a.f__law_formed cdv A outer s H E).xe := passes_of rfl
  have tk : Takes (cxOf (L2.CX P w) P w K mg base N__law_formed "_law_formed" (defScope t__law_formed) a.f__law_formed cdv A outer s H E) (fun c dd _ H' => E c dd H') := takes_of rfl rfl rfl rfl
  unfold m__law_formed lc__law_formed_1
  exact SSs.ex (sss_cons (ss_if (SW.st (sw_or (st_not (st_val (se_isiK K rfl (by rfl) C.b_isinstance (so_var (pv 0)) (pe_bltn (v := .ty "tuple") (by rfl) C.b_tuple (by decide +kernel) rfl) (by decide +kernel)))) (sw_or (st_cmp (oK_eq K rfl hr.units) ok_eq (nomark _) (SE.so (se_callB (cK_len K rfl) ok_len (by rfl) C.b_len (by decide +kernel) (so_cons (so_var (pv 0)) sos_nil))) (SE.so se_int)) (sw_or1 (st_cmp op_lt ok_lt (nomark _) (so_var (pv 1)) (SE.so se_int)))))) (sss_cons (ss_ret se_bl) sss_nil) sss_nil) (sss_cons (ss_if (SW.st (sw_and (st_cmp (oK_eq K rfl hr.units) ok_eq (nomark _) (SE.so (se_ixK K rfl (fun _ _ => rfl) (so_var (pv 0)) (SE.so se_int))) (SE.so se_str)) (sw_and (st_cmp (oK_eq K rfl hr.units) ok_eq (nomark _) (SE.so (se_callB (cK_len K rfl) ok_len (by rfl) C.b_len (by decide +kernel) (so_cons (so_var (pv 0)) sos_nil))) (SE.so se_int)) (sw_and1 (st_val (se_callC (ok__law_tag C) rfl rfl rfl rfl rfl (hr.mono (by first | decide | omega)) (by rfl) C.g__law_tag C.k__law_tag C.B__law_tag rfl tk (so_cons (SE.so (se_ixK K rfl (fun _ _ => rfl) (so_var (pv 0)) (SE.so se_int))) sos_nil) (lm_cons lm_nil))))))) (sss_cons (ss_ret (se_and (se_callC (ok__law_whole_from C) rfl rfl rfl rfl rfl (hr.mono (by first | decide | omega)) (by rfl) C.g__law_whole_from C.k__law_whole_from C.B__law_whole_from rfl tk (so_cons (SE.so (se_ixK K rfl (fun _ _ => rfl) (so_var (pv 0)) (SE.so se_int))) (so_cons (SE.so se_int) sos_nil)) (lm_cons (lm_cons lm_nil))) (se_one (se_callC (ok__law_whole_from C) rfl rfl rfl rfl rfl (hr.mono (by first | decide | omega)) (by rfl) C.g__law_whole_from C.k__law_whole_from C.B__law_whole_from rfl tk (so_cons (SE.so (se_ixK K rfl (fun _ _ => rfl) (so_var (pv 0)) (SE.so se_int))) (so_cons (SE.so se_int) sos_nil)) (lm_cons (lm_cons lm_nil)))))) sss_nil) sss_nil) (sss_cons (ss_if (SW.st (sw_and (st_cmp (oK_in K rfl) ok_in (by rfl) (SE.so (se_ixK K rfl (fun _ _ => rfl) (so_var (pv 0)) (SE.so se_int))) (SE.so (se_tup (sa_cons se_str (sa_cons se_str sa_nil))))) (sw_and1 (st_cmp (oK_eq K rfl hr.units) ok_eq (nomark _) (SE.so (se_callB (cK_len K rfl) ok_len (by rfl) C.b_len (by decide +kernel) (so_cons (so_var (pv 0)) sos_nil))) (SE.so se_int))))) (sss_cons (ss_ret (se_and (se_callC (ok__law_whole_from C) rfl rfl rfl rfl rfl (hr.mono (by first | decide | omega)) (by rfl) C.g__law_whole_from C.k__law_whole_from C.B__law_whole_from rfl tk (so_cons (SE.so (se_ixK K rfl (fun _ _ => rfl) (so_var (pv 0)) (SE.so se_int))) (so_cons (SE.so se_int) sos_nil)) (lm_cons (lm_cons lm_nil))) (se_one (se_callC IH rfl rfl rfl rfl rfl (hr.mono (by first | decide | omega)) (by rfl) C.g__law_formed C.k__law_formed C.B__law_formed rfl tk (so_cons (SE.so (se_ixK K rfl (fun _ _ => rfl) (so_var (pv 0)) (SE.so se_int))) (so_cons (SE.so (se_op op_sub ok_sub (so_var (pv 1)) (SE.so se_int))) sos_nil)) (lm_cons (lm_cons lm_nil)))))) sss_nil) sss_nil) (sss_cons (ss_if (SW.st (sw_and (st_cmp (oK_in K rfl) ok_in (by rfl) (SE.so (se_ixK K rfl (fun _ _ => rfl) (so_var (pv 0)) (SE.so se_int))) (SE.so (se_tup (sa_cons se_str (sa_cons se_str sa_nil))))) (sw_and (st_cmp (oK_eq K rfl hr.units) ok_eq (nomark _) (SE.so (se_callB (cK_len K rfl) ok_len (by rfl) C.b_len (by decide +kernel) (so_cons (so_var (pv 0)) sos_nil))) (SE.so se_int)) (sw_and1 (st_val (se_isiK K rfl (by rfl) C.b_isinstance (SE.so (se_ixK K rfl (fun _ _ => rfl) (so_var (pv 0)) (SE.so se_int))) (pe_bltn (v := .ty "tuple") (by rfl) C.b_tuple (by decide +kernel) rfl) (by decide +kernel))))))) (sss_cons (ss_ret (se_callB (cK_all K rfl rfl) ok_all (by rfl) C.b_all (by decide +kernel) (so_cons (SE.so (se_lc (own := [("_law_part", 2)]) rfl sc__law_formed.nd (si_seqK K rfl (se_ixK K rfl (fun _ _ => rfl) (so_var (pv 0)) (SE.so se_int))) (blkOk_by (own := [("_law_part", 2)]) (N := N__law_formed) (sc := defScope t__law_formed) (by decide +kernel)) (fun _ _ _ _ _ => (sg_name (pg_name (i := 2) sc__law_formed.nd rfl (by first | exact Or.inl rfl | exact Or.inr rfl)))) (by decide) (fun _ _ _ _ _ => sts_nil) (fun _ _ _ _ _ => (se_callC IH rfl rfl rfl rfl rfl (hr.mono (by first | decide | omega)) (by rfl) C.g__law_formed C.k__law_formed C.B__law_formed rfl takes0 (so_cons (so_var (pv 2)) (so_cons (SE.so (se_op op_sub ok_sub (so_var (pv 1)) (SE.so se_int))) sos_nil)) (lm_cons (lm_cons lm_nil)))))) sos_nil))) sss_nil) sss_nil) (sss_cons (ss_ret (se_cmp (oK_eq K rfl hr.units) ok_eq (nomark _) (so_var (pv 0)) (SE.so (se_tup (sa_cons se_str sa_nil))))) sss_nil))))) (by decide)
theorem ok__law_is_right (C : Fx K mg a) : FnOk P w K mg base (L2.CX P w) 33 a.f__law_is_right a.d__law_is_right ["_law_thing"] (spOf K mg 1 s__law_is_right) := by
  refine fn_okX (k := 32) C.F__law_is_right sc__law_is_right (by decide) (fun cdv A outer s H E hr => ?_)
  have po : PassesOwn (model P w) (cxOf (L2.CX P w) P w K mg base N__law_is_right "_law_is_right" (defScope t__law_is_right) a.f__law_is_right cdv A outer s H E).A (cxOf (L2.CX P w) P w K mg base N__law_is_right "_law_is_right" (defScope t__law_is_right) a.f__law_is_right cdv A outer s H E).env (cxOf (L2.CX P w) P w K mg base N__law_is_right "_law_is_right" (defScope t__law_is_right) a.f__law_is_right cdv A outer s H E).xe := passes_of rfl
  have tk : Takes (cxOf (L2.CX P w) P w K mg base N__law_is_right "_law_is_right" (defScope t__law_is_right) a.f__law_is_right cdv A outer s H E) (fun c dd _ H' => E c dd H') := takes_of rfl rfl rfl rfl
  unfold m__law_is_right
  exact SSs.ex (sss_cons (ss_ret (se_and (se_callC (ok__law_formed C 30) rfl rfl rfl rfl rfl (hr.mono (by first | decide | omega)) (by rfl) C.g__law_formed C.k__law_formed C.B__law_formed rfl tk (so_cons (so_var (pv 0)) (so_cons (SE.so se_int) sos_nil)) (lm_cons (lm_cons lm_nil))) (se_one (se_cmp (oK_eq K rfl hr.units) ok_eq (nomark _) (SE.so (se_lenSet rfl (by rfl) C.b_len (by rfl) C.b_set (se_callC (ok__law_names C 30) rfl rfl rfl rfl rfl (hr.mono (by first | decide | omega)) (by rfl) C.g__law_names C.k__law_names C.B__law_names rfl tk (so_cons (so_var (pv 0)) sos_nil) (lm_cons lm_nil)))) (SE.so (se_callB (cK_len K rfl) ok_len (by rfl) C.b_len (by decide +kernel) (so_cons (SE.so (se_callC (ok__law_names C 30) rfl rfl rfl rfl rfl (hr.mono (by first | decide | omega)) (by rfl) C.g__law_names C.k__law_names C.B__law_names rfl tk (so_cons (so_var (pv 0)) sos_nil) (lm_cons lm_nil))) sos_nil))))))) sss_nil) (by decide)
theorem ok__law_is_pile (C : Fx K mg a) : FnOk P w K mg base (L2.CX P w) 2 a.f__law_is_pile a.d__law_is_pile ["_law_thing"] (spOf K mg 1 s_k49__law_is_pile) := by
  refine fn_okX (k := 1) C.F__law_is_pile sc__law_is_pile (by decide) (fun cdv A outer s H E hr => ?_)
  have po : PassesOwn (model P w) (cxOf (L2.CX P w) P w K mg base N__law_is_pile "_law_is_pile" (defScope t__law_is_pile) a.f__law_is_pile cdv A outer s H E).A (cxOf (L2.CX P w) P w K mg base N__law_is_pile "_law_is_pile" (defScope t__law_is_pile) a.f__law_is_pile cdv A outer s H E).env (cxOf (L2.CX P w) P w K mg base N__law_is_pile "_law_is_pile" (defScope t__law_is_pile) a.f__law_is_pile cdv A outer s H E).xe := passes_of rfl
  have tk : Takes (cxOf (L2.CX P w) P w K mg base N__law_is_pile "_law_is_pile" (defScope t__law_is_pile) a.f__law_is_pile cdv A outer s H E) (fun c dd _ H' => E c dd H') := takes_of rfl rfl rfl rfl
  unfold m_k49__law_is_pile lc_k49__law_is_pile_1 fr_k49__law_is_pile_1 lp_k49__law_is_pile_1
  exact SSs.ex (sss_cons (ss_if (st_not (st_val (se_isiK K rfl (by rfl) C.b_isinstance (so_var (pv 0)) (pe_bltn (v := .ty "tuple") (by rfl) C.b_tuple (by decide +kernel) rfl) (by decide +kernel)))) (sss_cons (ss_ret se_bl) sss_nil) sss_nil) (sss_cons (ss_for [1] po rfl (si_seqK K rfl (se_var (pv 0))) (sg_name (pg_name (i := 1) sc__law_is_pile.nd rfl (by first | exact Or.inl rfl | exact Or.inr rfl))) (sss_cons (ss_if (SW.st (sw_or (st_not (st_val (se_isiK K rfl (by rfl) C.b_isinstance (so_var (pv 1)) (pe_bltn (v := .ty "tuple") (by rfl) C.b_tuple (by decide +kernel) rfl) (by decide +kernel)))) (sw_or1 (st_cmp (oK_ne K rfl hr.units) ok_ne (nomark _) (SE.so (se_callB (cK_len K rfl) ok_len (by rfl) C.b_len (by decide +kernel) (so_cons (so_var (pv 1)) sos_nil))) (SE.so se_int))))) (sss_cons (ss_ret se_bl) sss_nil) sss_nil) (sss_cons (ss_if (SW.st (sw_or (st_not (st_val (se_callC (ok__law_whole_from C) rfl rfl rfl rfl rfl (hr.mono (by first | decide | omega)) (by rfl) C.g__law_whole_from C.k__law_whole_from C.B__law_whole_from rfl tk (so_cons (SE.so (se_ixK K rfl (fun _ _ => rfl) (so_var (pv 1)) (SE.so se_int))) (so_cons (SE.so se_int) sos_nil)) (lm_cons (lm_cons lm_nil))))) (sw_or1 (st_not (st_val (se_callC (ok__law_whole_from C) rfl rfl rfl rfl rfl (hr.mono (by first | decide | omega)) (by rfl) C.g__law_whole_from C.k__law_whole_from C.B__law_whole_from rfl tk (so_cons (SE.so (se_ixK K rfl (fun _ _ => rfl) (so_var (pv 1)) (SE.so se_int))) (so_cons (SE.so se_int) sos_nil)) (lm_cons (lm_cons lm_nil)))))))) (sss_cons (ss_ret se_bl) sss_nil) sss_nil) sss_nil))) (sss_cons (ss_ret (se_callB (cK_all K rfl rfl) ok_all (by rfl) C.b_all (by decide +kernel) (so_cons (SE.so (se_lc (own := [("_law_one", 2), ("_law_other", 3)]) rfl sc__law_is_pile.nd (si_zipK K rfl (by rfl) C.b_zip (sa_cons (se_var (pv 0)) (sa_cons (se_slK K rfl (so_var (pv 0)) (sp_some se_int) sp_none) sa_nil))) (blkOk_by (own := [("_law_one", 2), ("_law_other", 3)]) (N := N__law_is_pile) (sc := defScope t__law_is_pile) (by decide +kernel)) (fun _ _ _ _ _ => (sg_tupK K rfl rfl (sgs_cons (sg_name (pg_name (i := 2) sc__law_is_pile.nd rfl (by first | exact Or.inl rfl | exact Or.inr rfl))) (sgs_cons (sg_name (pg_name (i := 3) sc__law_is_pile.nd rfl (by first | exact Or.inl rfl | exact Or.inr rfl))) sgs_nil)))) (by decide) (fun _ _ _ _ _ => sts_nil) (fun _ _ _ _ _ => (se_cmp op_lt ok_lt (nomark _) (SE.so (se_ixK K rfl (fun _ _ => rfl) (so_var (pv 2)) (SE.so se_int))) (SE.so (se_ixK K rfl (fun _ _ => rfl) (so_var (pv 3)) (SE.so se_int))))))) sos_nil))) sss_nil))) (by decide)
theorem ok__law_pile (C : Fx K mg a) : FnOk P w K mg base (L2.CX P w) 2 a.f__law_pile a.d__law_pile ["_law_digits", "_law_most_worth"] (spOf K mg 2 s__law_pile) := by
  refine fn_okX (k := 1) C.F__law_pile sc__law_pile (by decide) (fun cdv A outer s H E hr => ?_)
  have po : PassesOwn (model P w) (cxOf (L2.CX P w) P w K mg base N__law_pile "_law_pile" (defScope t__law_pile) a.f__law_pile cdv A outer s H E).A (cxOf (L2.CX P w) P w K mg base N__law_pile "_law_pile" (defScope t__law_pile) a.f__law_pile cdv A outer s H E).env (cxOf (L2.CX P w) P w K mg base N__law_pile "_law_pile" (defScope t__law_pile) a.f__law_pile cdv A outer s H E).xe := passes_of rfl
  have tk : Takes (cxOf (L2.CX P w) P w K mg base N__law_pile "_law_pile" (defScope t__law_pile) a.f__law_pile cdv A outer s H E) (fun c dd _ H' => E c dd H') := takes_of rfl rfl rfl rfl
  unfold m__law_pile fr__law_pile_1 lp__law_pile_1
  exact SSs.ex (sss_cons (ss_own (fun h => ps_set (i := 2) sc__law_pile.nd rfl (by first | exact Or.inl rfl | exact Or.inr rfl) h) (sf_op (oK_mul K rfl) okF_mul (SE.so (se_lst (sa_cons se_int sa_nil))) (SE.so (se_callC (ok__law_take C) rfl rfl rfl rfl rfl (hr.mono (by first | decide | omega)) (by rfl) C.g__law_take C.k__law_take C.B__law_take rfl tk (so_cons (so_var (pv 0)) (so_cons (SE.so se_int) sos_nil)) (lm_cons (lm_cons lm_nil)))))) (sss_cons (ss_for [3] po rfl (si_range1 (fun h => pi_range1 (by rfl) C.b_range h) (so_cons (SE.so (se_callC (ok__law_take C) rfl rfl rfl rfl rfl (hr.mono (by first | decide | omega)) (by rfl) C.g__law_take C.k__law_take C.B__law_take rfl tk (so_cons (so_var (pv 0)) (so_cons (SE.so se_int) sos_nil)) (lm_cons (lm_cons lm_nil)))) sos_nil)) (sg_name (pg_name (i := 3) sc__law_pile.nd rfl (by first | exact Or.inl rfl | exact Or.inr rfl))) (sss_cons (ss_app (fun h => ps_expr (pe_bm PySem.F.plainAttrs_list PySem.F.slot_list_append PySem.F.type_list_append mt_append (pv 2) (pa_cons h pa_nil))) (se_op (oK_add K rfl) ok_add (SE.so se_int) (SE.so (se_callC (ok__law_take C) rfl rfl rfl rfl rfl (hr.mono (by first | decide | omega)) (by rfl) C.g__law_take C.k__law_take C.B__law_take rfl tk (so_cons (so_var (pv 0)) (so_cons (SE.so (se_ixK K rfl (fun _ _ => rfl) (SE.so (se_lst (sa_cons se_int (sa_cons (se_var (pv 1)) sa_nil)))) (SE.so (se_callC (ok__law_take C) rfl rfl rfl rfl rfl (hr.mono (by first | decide | omega)) (by rfl) C.g__law_take C.k__law_take C.B__law_take rfl tk (so_cons (so_var (pv 0)) (so_cons (SE.so se_int) sos_nil)) (lm_cons (lm_cons lm_nil)))))) sos_nil)) (lm_cons (lm_cons lm_nil)))))) sss_nil)) (sss_cons (ss_retS (sv_callC (ok__law_heap C) rfl rfl rfl rfl rfl (hr.mono (by first | decide | omega)) (by rfl) C.g__law_heap C.k__law_heap C.B__law_heap rfl tk (so_cons (so_var (pv 2)) sos_nil) (lm_cons lm_nil))) sss_nil))) (by decide)
theorem ok__law_changed (C : Fx K mg a) : FnOk P w K mg base (L2.CX P w) 2 a.f__law_changed a.d__law_changed ["_law_digits", "_law_pile_here"] (spOf K mg 2 s_k49__law_changed) := by
  refine fn_okX (k := 1) C.F__law_changed sc__law_changed (by decide) (fun cdv A outer s H E hr => ?_)
  have po : PassesOwn (model P w) (cxOf (L2.CX P w) P w K mg base N__law_changed "_law_changed" (defScope t__law_changed) a.f__law_changed cdv A outer s H E).A (cxOf (L2.CX P w) P w K mg base N__law_changed "_law_changed" (defScope t__law_changed) a.f__law_changed cdv A outer s H E).env (cxOf (L2.CX P w) P w K mg base N__law_changed "_law_changed" (defScope t__law_changed) a.f__law_changed cdv A outer s H E).xe := passes_of rfl
  have tk : Takes (cxOf (L2.CX P w) P w K mg base N__law_changed "_law_changed" (defScope t__law_changed) a.f__law_changed cdv A outer s H E) (fun c dd _ H' => E c dd H') := takes_of rfl rfl rfl rfl
  unfold m_k49__law_changed
  exact SSs.ex (sss_cons (ss_setS (fun h => ps_set (i := 2) sc__law_changed.nd rfl (by first | exact Or.inl rfl | exact Or.inr rfl) h) (sv_callC (ok__law_coins C) rfl rfl rfl rfl rfl (hr.mono (by first | decide | omega)) (by rfl) C.g__law_coins C.k__law_coins C.B__law_coins rfl tk (so_cons (so_var (pv 1)) sos_nil) (lm_cons lm_nil))) (sss_cons (ss_if (SW.st (sw_or (st_cmp (oK_eq K rfl hr.units) ok_eq (nomark _) (so_var (pv 2)) (SE.so (se_lst sa_nil))) (sw_or1 (st_cmp (oK_eq K rfl hr.units) ok_eq (nomark _) (SE.so (se_callC (ok__law_take C) rfl rfl rfl rfl rfl (hr.mono (by first | decide | omega)) (by rfl) C.g__law_take C.k__law_take C.B__law_take rfl tk (so_cons (so_var (pv 0)) (so_cons (SE.so se_int) sos_nil)) (lm_cons (lm_cons lm_nil)))) (SE.so se_int))))) (sss_cons (ss_retS (sv_callC (ok__law_heap C) rfl rfl rfl rfl rfl (hr.mono (by first | decide | omega)) (by rfl) C.g__law_heap C.k__law_heap C.B__law_heap rfl tk (so_cons (SE.so (se_op (oK_add K rfl) ok_add (so_var (pv 2)) (SE.so (se_lst (sa_cons (se_op (oK_add K rfl) ok_add (SE.so se_int) (SE.so (se_callC (ok__law_take C) rfl rfl rfl rfl rfl (hr.mono (by first | decide | omega)) (by rfl) C.g__law_take C.k__law_take C.B__law_take rfl tk (so_cons (so_var (pv 0)) (so_cons (SE.so se_int) sos_nil)) (lm_cons (lm_cons lm_nil))))) sa_nil))))) sos_nil) (lm_cons lm_nil))) sss_nil) sss_nil) (sss_cons (ss_set (i := 3) sc__law_changed.nd rfl (by first | exact Or.inl rfl | exact Or.inr rfl) (se_popK (K := K) rfl (fun h => pe_bm PySem.F.plainAttrs_list PySem.F.slot_list_pop PySem.F.type_list_pop mt_popAt (pv 2) (pa_cons h pa_nil)) (SE.so (se_callC (ok__law_take C) rfl rfl rfl rfl rfl (hr.mono (by first | decide | omega)) (by rfl) C.g__law_take C.k__law_take C.B__law_take rfl tk (so_cons (so_var (pv 0)) (so_cons (SE.so (se_callB (cK_len K rfl) ok_len (by rfl) C.b_len (by decide +kernel) (so_cons (so_var (pv 2)) sos_nil))) sos_nil)) (lm_cons (lm_cons lm_nil)))))) (sss_cons (ss_retS (sv_callC (ok__law_heap C) rfl rfl rfl rfl rfl (hr.mono (by first | decide | omega)) (by rfl) C.g__law_heap C.k__law_heap C.B__law_heap rfl tk (so_cons (SE.so (se_op (oK_add K rfl) ok_add (so_var (pv 2)) (SE.so (se_op (oK_mul K rfl) ok_mul (SE.so (se_lst (sa_cons (se_op (oK_add K rfl) ok_add (so_var (pv 3)) (SE.so (se_callC (ok__law_take C) rfl rfl rfl rfl rfl (hr.mono (by first | decide | omega)) (by rfl) C.g__law_take C.k__law_take C.B__law_take rfl tk (so_cons (so_var (pv 0)) (so_cons (SE.so se_int) sos_nil)) (lm_cons (lm_cons lm_nil))))) sa_nil))) (SE.so (se_callC (ok__law_take C) rfl rfl rfl rfl rfl (hr.mono (by first | decide | omega)) (by rfl) C.g__law_take C.k__law_take C.B__law_take rfl tk (so_cons (so_var (pv 0)) (so_cons (SE.so se_int) sos_nil)) (lm_cons (lm_cons lm_nil)))))))) sos_nil) (lm_cons lm_nil))) sss_nil)))) (by decide)
theorem ok__law_together (C : Fx K mg a) : FnOk P w K mg base (L2.CX P w) 1 a.f__law_together a.d__law_together ["_law_one", "_law_other"] (spOf K mg 2 s_k49__law_together) := by
  refine fn_okX (k := 0) C.F__law_together sc__law_together (by decide) (fun cdv A outer s H E hr => ?_)
  have po : PassesOwn (model P w) (cxOf (L2.CX P w) P w K mg base N__law_together "_law_together" (defScope t__law_together) a.f__law_together cdv A outer s H E).A (cxOf (L2.CX P w) P w K mg base N__law_together "_law_together" (defScope t__law_together) a.f__law_together cdv A outer s H E).env (cxOf (L2.CX P w) P w K mg base N__law_together "_law_together" (defScope t__law_together) a.f__law_together cdv A outer s H E).xe := passes_of rfl
  have tk : Takes (cxOf (L2.CX P w) P w K mg base N__law_together "_law_together" (defScope t__law_together) a.f__law_together cdv A outer s H E) (fun c dd _ H' => E c dd H') := takes_of rfl rfl rfl rfl
  unfold m_k49__law_together lc_k49__law_together_1 fr_k49__law_together_1 lp_k49__law_together_1
  exact SSs.ex (sss_cons (ss_ownO (fun h => ps_set (i := 2) sc__law_together.nd rfl (by first | exact Or.inl rfl | exact Or.inr rfl) h) (sfo_dict (K := K) rfl (fun h => pe_callTy (call_dictA rfl) (by rfl) C.b_dict (by decide +kernel) (pa_cons h pa_nil)) (so_var (pv 0)))) (sss_cons (ss_for [3, 4] po rfl (si_seqK K rfl (se_var (pv 1))) (sg_tupK K rfl rfl (sgs_cons (sg_name (pg_name (i := 3) sc__law_together.nd rfl (by first | exact Or.inl rfl | exact Or.inr rfl))) (sgs_cons (sg_name (pg_name (i := 4) sc__law_together.nd rfl (by first | exact Or.inl rfl | exact Or.inr rfl))) sgs_nil))) (sss_cons (ss_dput (fun he hk => ps_dput (hu1 hr.units) (pv 2) hk he rfl) (se_op (oK_add K rfl) ok_add (SE.so (se_dget2 (fun h1 h2 => pe_dget2 (hu1 hr.units) (pv 2) h1 h2 ⟨rfl, rfl, rfl, rfl⟩) (so_var (pv 3)) se_int)) (so_var (pv 4))) (so_var (pv 3))) sss_nil)) (sss_cons (ss_ret (se_callTy (cK_tuple K rfl) ok_tuple (by rfl) C.b_tuple (by decide +kernel) (so_cons (SE.so (se_lc (own := [("_law_worth", 3)]) rfl sc__law_together.nd (si_seqK K rfl (se_sortD (pe_callB (call_sortD rfl) (by rfl) C.b_sorted (by decide +kernel) (pa_cons (pv 2) pa_nil)))) (blkOk_by (own := [("_law_worth", 3)]) (N := N__law_together) (sc := defScope t__law_together) (by decide +kernel)) (fun _ _ _ _ _ => (sg_name (pg_name (i := 3) sc__law_together.nd rfl (by first | exact Or.inl rfl | exact Or.inr rfl)))) (by decide) (fun _ _ _ _ _ => sts_nil) (fun _ _ _ _ _ => (se_tup (sa_cons (se_var (pv 3)) (sa_cons (se_dget (fun h => pe_dget (hu1 hr.units) (pv 2) h (fun _ _ => rfl)) (so_var (pv 3))) sa_nil)))))) sos_nil))) sss_nil))) (by decide)
theorem ok__law_due (C : Fx K mg a) : FnOk P w K mg base (L2.CX P w) 2 a.f__law_due a.d__law_due ["_law_one", "_law_other"] (spOf K mg 2 s_k49__law_due) := by
  refine fn_okX (k := 1) C.F__law_due sc__law_due (by decide) (fun cdv A outer s H E hr => ?_)
  have po : PassesOwn (model P w) (cxOf (L2.CX P w) P w K mg base N__law_due "_law_due" (defScope t__law_due) a.f__law_due cdv A outer s H E).A (cxOf (L2.CX P w) P w K mg base N__law_due "_law_due" (defScope t__law_due) a.f__law_due cdv A outer s H E).env (cxOf (L2.CX P w) P w K mg base N__law_due "_law_due" (defScope t__law_due) a.f__law_due cdv A outer s H E).xe := passes_of rfl
  have tk : Takes (cxOf (L2.CX P w) P w K mg base N__law_due "_law_due" (defScope t__law_due) a.f__law_due cdv A outer s H E) (fun c dd _ H' => E c dd H') := takes_of rfl rfl rfl rfl
  unfold m_k49__law_due lc_k49__law_due_2 lc_k49__law_due_1
  exact SSs.ex (sss_cons (ss_setLc (i := 2) (own := [("_law_worth", 3), ("_law_many", 4)]) rfl sc__law_due.nd rfl rfl (sw_true rfl rfl rfl (by decide +kernel)) (si_seqK K rfl (se_op (oK_add K rfl) ok_add (so_var (pv 0)) (so_var (pv 1)))) (blkOk_by (own := [("_law_worth", 3), ("_law_many", 4)]) (N := N__law_due) (sc := defScope t__law_due) (by decide +kernel)) (fun _ _ _ _ _ => (sg_tupK K rfl rfl (sgs_cons (sg_name (pg_name (i := 3) sc__law_due.nd rfl (by first | exact Or.inl rfl | exact Or.inr rfl))) (sgs_cons (sg_name (pg_name (i := 4) sc__law_due.nd rfl (by first | exact Or.inl rfl | exact Or.inr rfl))) sgs_nil)))) (by decide) (fun _ _ _ _ _ => sts_nil) (fun _ _ _ _ _ => (se_op (oK_add K rfl) ok_add (so_var (pv 3)) (SE.so se_int)))) (sss_cons (ss_ret (se_cmp (oK_eq K rfl hr.units) ok_eq (nomark _) (SE.so (se_lc (own := [("_law_bound", 5)]) rfl sc__law_due.nd (si_seqK K rfl (se_var (pv 2))) (blkOk_by (own := [("_law_bound", 5)]) (N := N__law_due) (sc := defScope t__law_due) (by decide +kernel)) (fun _ _ _ _ _ => (sg_name (pg_name (i := 5) sc__law_due.nd rfl (by first | exact Or.inl rfl | exact Or.inr rfl)))) (by decide) (fun _ _ _ _ _ => (sts_one (st_cmp op_lt ok_lt (nomark _) (SE.so (se_callC (ok__law_under C) rfl rfl rfl rfl rfl (hr.mono (by first | decide | omega)) (by rfl) C.g__law_under C.k__law_under C.B__law_under rfl takes0 (so_cons (so_var (pv 0)) (so_cons (so_var (pv 5)) sos_nil)) (lm_cons (lm_cons lm_nil)))) (SE.so (se_callC (ok__law_under C) rfl rfl rfl rfl rfl (hr.mono (by first | decide | omega)) (by rfl) C.g__law_under C.k__law_under C.B__law_under rfl takes0 (so_cons (so_var (pv 1)) (so_cons (so_var (pv 5)) sos_nil)) (lm_cons (lm_cons lm_nil))))))) (fun _ _ _ _ _ => (se_var (pv 5))))) (SE.so (se_lst sa_nil)))) sss_nil)) (by decide)
theorem ok__law_good (C : Fx K mg a) : FnOk P w K mg base (L2.CX P w) 64 a.f__law_good a.d__law_good ["_law_one", "_law_other"] (spOf K mg 2 s_k49__law_good) := by
  refine fn_okX (k := 63) C.F__law_good sc__law_good (by decide) (fun cdv A outer s H E hr => ?_)
  have po : PassesOwn (model P w) (cxOf (L2.CX P w) P w K mg base N__law_good "_law_good" (defScope t__law_good) a.f__law_good cdv A outer s H E).A (cxOf (L2.CX P w) P w K mg base N__law_good "_law_good" (defScope t__law_good) a.f__law_good cdv A outer s H E).env (cxOf (L2.CX P w) P w K mg base N__law_good "_law_good" (defScope t__law_good) a.f__law_good cdv A outer s H E).xe := passes_of rfl
  have tk : Takes (cxOf (L2.CX P w) P w K mg base N__law_good "_law_good" (defScope t__law_good) a.f__law_good cdv A outer s H E) (fun c dd _ H' => E c dd H') := takes_of rfl rfl rfl rfl
  unfold m_k49__law_good
  exact SSs.ex (sss_cons (ss_set (i := 2) sc__law_good.nd rfl (by first | exact Or.inl rfl | exact Or.inr rfl) (se_callC (ok__law_due C) rfl rfl rfl rfl rfl (hr.mono (by first | decide | omega)) (by rfl) C.g__law_due C.k__law_due C.B__law_due rfl tk (so_cons (so_var (pv 0)) (so_cons (so_var (pv 1)) sos_nil)) (lm_cons (lm_cons lm_nil)))) (sss_cons (ss_set (i := 3) sc__law_good.nd rfl (by first | exact Or.inl rfl | exact Or.inr rfl) (se_callC (ok_telling_company C) rfl rfl rfl rfl rfl (hr.mono (by first | decide | omega)) (by rfl) C.g_telling_company C.k_telling_company C.B_telling_company rfl tk (so_cons (so_var (pv 0)) (so_cons (so_var (pv 1)) sos_nil)) (lm_cons (lm_cons lm_nil)))) (sss_cons (ss_if (SW.st (sw_or (st_cmp (oK_ne K rfl hr.units) ok_ne (nomark _) (SE.so (se_callC (ok_outdoes C) rfl rfl rfl rfl rfl (hr.mono (by first | decide | omega)) (by rfl) C.g_outdoes C.k_outdoes C.B_outdoes rfl tk (so_cons (so_var (pv 0)) (so_cons (so_var (pv 1)) sos_nil)) (lm_cons (lm_cons lm_nil)))) (so_var (pv 2))) (sw_or (st_not (st_val (se_isiK K rfl (by rfl) C.b_isinstance (SE.so (se_callC (ok_outdoes C) rfl rfl rfl rfl rfl (hr.mono (by first | decide | omega)) (by rfl) C.g_outdoes C.k_outdoes C.B_outdoes rfl tk (so_cons (so_var (pv 0)) (so_cons (so_var (pv 1)) sos_nil)) (lm_cons (lm_cons lm_nil)))) (pe_bltn (v := .ty "bool") (by rfl) C.b_bool (by decide +kernel) rfl) (by decide +kernel)))) (sw_or1 (st_cmp (oK_ne K rfl hr.units) ok_ne (nomark _) (so_var (pv 2)) (SE.so (se_cmp op_isN ok_is (nomark _) (so_var (pv 3)) (SE.so se_non)))))))) (sss_cons (ss_ret se_bl) sss_nil) sss_nil) (sss_cons (ss_if (st_val (se_var (pv 2))) (sss_cons (ss_ret se_bl) sss_nil) sss_nil) (sss_cons (ss_if (SW.st (sw_or (st_not (st_val (se_isiK K rfl (by rfl) C.b_isinstance (so_var (pv 3)) (pe_bltn (v := .ty "tuple") (by rfl) C.b_tuple (by decide +kernel) rfl) (by decide +kernel)))) (sw_or (st_cmp (oK_ne K rfl hr.units) ok_ne (nomark _) (SE.so (se_callB (cK_len K rfl) ok_len (by rfl) C.b_len (by decide +kernel) (so_cons (so_var (pv 3)) sos_nil))) (SE.so se_int)) (sw_or (st_not (st_val (se_callC (ok__law_is_pile C) rfl rfl rfl rfl rfl (hr.mono (by first | decide | omega)) (by rfl) C.g__law_is_pile C.k__law_is_pile C.B__law_is_pile rfl tk (so_cons (SE.so (se_ixK K rfl (fun _ _ => rfl) (so_var (pv 3)) (SE.so se_int))) sos_nil) (lm_cons lm_nil)))) (sw_or1 (st_not (st_val (se_callC (ok__law_is_right C) rfl rfl rfl rfl rfl (hr.mono (by first | decide | omega)) (by rfl) C.g__law_is_right C.k__law_is_right C.B__law_is_right rfl tk (so_cons (SE.so (se_ixK K rfl (fun _ _ => rfl) (so_var (pv 3)) (SE.so se_int))) sos_nil) (lm_cons lm_nil))))))))) (sss_cons (ss_ret se_bl) sss_nil) sss_nil) (sss_cons (ss_asg (fun he hg => ps_asg he hg) (se_var (pv 3)) (sg_tupK K rfl rfl (sgs_cons (sg_name (pg_name (i := 4) sc__law_good.nd rfl (by first | exact Or.inl rfl | exact Or.inr rfl))) (sgs_cons (sg_name (pg_name (i := 5) sc__law_good.nd rfl (by first | exact Or.inl rfl | exact Or.inr rfl))) sgs_nil)))) (sss_cons (ss_ret (se_and (se_callC (ok__law_holds C) rfl rfl rfl rfl rfl (hr.mono (by first | decide | omega)) (by rfl) C.g__law_holds C.k__law_holds C.B__law_holds rfl tk (so_cons (SE.so (se_callC (ok__law_together C) rfl rfl rfl rfl rfl (hr.mono (by first | decide | omega)) (by rfl) C.g__law_together C.k__law_together C.B__law_together rfl tk (so_cons (so_var (pv 1)) (so_cons (so_var (pv 4)) sos_nil)) (lm_cons (lm_cons lm_nil)))) (so_cons (so_var (pv 5)) sos_nil)) (lm_cons (lm_cons lm_nil))) (se_one (se_not (se_callC (ok__law_holds C) rfl rfl rfl rfl rfl (hr.mono (by first | decide | omega)) (by rfl) C.g__law_holds C.k__law_holds C.B__law_holds rfl tk (so_cons (SE.so (se_callC (ok__law_together C) rfl rfl rfl rfl rfl (hr.mono (by first | decide | omega)) (by rfl) C.g__law_together C.k__law_together C.B__law_together rfl tk (so_cons (so_var (pv 0)) (so_cons (so_var (pv 4)) sos_nil)) (lm_cons (lm_cons lm_nil)))) (so_cons (so_var (pv 5)) sos_nil)) (lm_cons (lm_cons lm_nil))))))) sss_nil))))))) (by decide)
theorem ok_law (C : Fx K mg a) : FnOk P w K mg base CX0 65 a.f_law a.d_law ["_law_script"] (fun vs H Q E => spOf K mg 1 s_k49_law vs H Q E0) := by
  refine fn_ok0 (k := 64) C.F_law sc_law (by decide) (fun cdv A outer s H E hr => ?_)
  have po : PassesOwn (model P w) (cxOf CX0 P w K mg base N_law "law" (defScope t_law) a.f_law cdv A outer s H E).nox.A (cxOf CX0 P w K mg base N_law "law" (defScope t_law) a.f_law cdv A outer s H E).nox.env (cxOf CX0 P w K mg base N_law "law" (defScope t_law) a.f_law cdv A outer s H E).nox.xe := PassesOwn.never
  have tk : Takes (cxOf CX0 P w K mg base N_law "law" (defScope t_law) a.f_law cdv A outer s H E).nox W0 := takes0
  unfold m_k49_law fr_k49_law_2 lp_k49_law_2 fr_k49_law_1 lp_k49_law_1
  exact SSs.ex (sss_cons (ss_for [1, 3, 4, 5, 6, 7] po rfl (si_range1 (fun h => pi_range1 (by rfl) C.b_range h) (so_cons (SE.so (se_callB (cK_max K rfl rfl) ok_max (by rfl) C.b_max (by decide +kernel) (so_cons (SE.so (se_callB (cK_min K rfl rfl) ok_min (by rfl) C.b_min (by decide +kernel) (so_cons (SE.so (se_lenScr (pe_callB call_len (by rfl) C.b_len PySem.boot_len (pa_cons (pv 0) pa_nil)))) (so_cons (SE.so se_int) sos_nil)))) (so_cons (SE.so se_int) sos_nil)))) sos_nil)) (sg_name (pg_name (i := 1) sc_law.nd rfl (by first | exact Or.inl rfl | exact Or.inr rfl))) (sss_cons (ss_own (fun h => ps_set (i := 3) sc_law.nd rfl (by first | exact Or.inl rfl | exact Or.inr rfl) h) (sf_lst (sa_cons (se_callC (ok__law_cell C) rfl rfl rfl rfl rfl (hr.mono (by first | decide | omega)) (by rfl) C.g__law_cell C.k__law_cell C.B__law_cell rfl tk (so_cons (so_var (pv 0)) (so_cons (so_var (pv 1)) sos_nil)) (lm_cons (lm_cons lm_nil))) sa_nil))) (sss_cons (ss_for [4, 5, 6, 7] po rfl (si_range1 (fun h => pi_range1 (by rfl) C.b_range h) (so_cons (SE.so se_int) sos_nil)) (sg_name (pg_name (i := 4) sc_law.nd rfl (by first | exact Or.inl rfl | exact Or.inr rfl))) (sss_cons (ss_set (i := 5) sc_law.nd rfl (by first | exact Or.inl rfl | exact Or.inr rfl) (se_callC (ok__law_pile C) rfl rfl rfl rfl rfl (hr.mono (by first | decide | omega)) (by rfl) C.g__law_pile C.k__law_pile C.B__law_pile rfl tk (so_cons (so_var (pv 3)) (so_cons (SE.so se_int) sos_nil)) (lm_cons (lm_cons lm_nil)))) (sss_cons (ss_set (i := 6) sc_law.nd rfl (by first | exact Or.inl rfl | exact Or.inr rfl) (se_callC (ok__law_changed C) rfl rfl rfl rfl rfl (hr.mono (by first | decide | omega)) (by rfl) C.g__law_changed C.k__law_changed C.B__law_changed rfl tk (so_cons (so_var (pv 3)) (so_cons (so_var (pv 5)) sos_nil)) (lm_cons (lm_cons lm_nil)))) (sss_cons (ss_if (st_cmp (oK_eq K rfl hr.units) ok_eq (nomark _) (SE.so (se_callC (ok__law_take C) rfl rfl rfl rfl rfl (hr.mono (by first | decide | omega)) (by rfl) C.g__law_take C.k__law_take C.B__law_take rfl tk (so_cons (so_var (pv 3)) (so_cons (SE.so se_int) sos_nil)) (lm_cons (lm_cons lm_nil)))) (SE.so se_int)) (sss_cons (ss_set (i := 6) sc_law.nd rfl (by first | exact Or.inl rfl | exact Or.inr rfl) (se_callC (ok__law_pile C) rfl rfl rfl rfl rfl (hr.mono (by first | decide | omega)) (by rfl) C.g__law_pile C.k__law_pile C.B__law_pile rfl tk (so_cons (so_var (pv 3)) (so_cons (SE.so se_int) sos_nil)) (lm_cons (lm_cons lm_nil)))) sss_nil) sss_nil) (sss_cons (ss_if (SW.st (sw_or (st_not (st_val (se_callC (ok__law_good C) rfl rfl rfl rfl rfl (hr.mono (by first | decide | omega)) (by rfl) C.g__law_good C.k__law_good C.B__law_good rfl tk (so_cons (so_var (pv 5)) (so_cons (so_var (pv 6)) sos_nil)) (lm_cons (lm_cons lm_nil))))) (sw_or (st_not (st_val (se_callC (ok__law_good C) rfl rfl rfl rfl rfl (hr.mono (by first | decide | omega)) (by rfl) C.g__law_good C.k__law_good C.B__law_good rfl tk (so_cons (so_var (pv 6)) (so_cons (so_var (pv 5)) sos_nil)) (lm_cons (lm_cons lm_nil))))) (sw_or1 (st_not (st_val (se_callC (ok__law_good C) rfl rfl rfl rfl rfl (hr.mono (by first | decide | omega)) (by rfl) C.g__law_good C.k__law_good C.B__law_good rfl tk (so_cons (so_var (pv 5)) (so_cons (so_var (pv 5)) sos_nil)) (lm_cons (lm_cons lm_nil))))))))) (sss_cons (ss_ret se_bl) sss_nil) sss_nil) (sss_cons (ss_set (i := 7) sc_law.nd rfl (by first | exact Or.inl rfl | exact Or.inr rfl) (se_tup (sa_cons (se_tup (sa_cons (se_op (oK_add K rfl) ok_add (SE.so se_int) (SE.so (se_callC (ok__law_take C) rfl rfl rfl rfl rfl (hr.mono (by first | decide | omega)) (by rfl) C.g__law_take C.k__law_take C.B__law_take rfl tk (so_cons (so_var (pv 3)) (so_cons (SE.so (se_op op_pow ok_pow (SE.so se_int) (SE.so se_int))) sos_nil)) (lm_cons (lm_cons lm_nil))))) (sa_cons (se_op (oK_add K rfl) ok_add (SE.so se_int) (SE.so (se_callC (ok__law_take C) rfl rfl rfl rfl rfl (hr.mono (by first | decide | omega)) (by rfl) C.g__law_take C.k__law_take C.B__law_take rfl tk (so_cons (so_var (pv 3)) (so_cons (SE.so se_int) sos_nil)) (lm_cons (lm_cons lm_nil))))) sa_nil))) sa_nil))) (sss_cons (ss_if (SW.st (sw_or (st_cmp (oK_ne K rfl hr.units) ok_ne (nomark _) (SE.so (se_callC (ok_outdoes C) rfl rfl rfl rfl rfl (hr.mono (by first | decide | omega)) (by rfl) C.g_outdoes C.k_outdoes C.B_outdoes rfl tk (so_cons (so_var (pv 7)) (so_cons (so_var (pv 5)) sos_nil)) (lm_cons (lm_cons lm_nil)))) (SE.so (se_callC (ok__law_due C) rfl rfl rfl rfl rfl (hr.mono (by first | decide | omega)) (by rfl) C.g__law_due C.k__law_due C.B__law_due rfl tk (so_cons (so_var (pv 7)) (so_cons (so_var (pv 5)) sos_nil)) (lm_cons (lm_cons lm_nil))))) (sw_or1 (st_cmp (oK_ne K rfl hr.units) ok_ne (nomark _) (SE.so (se_callC (ok_outdoes C) rfl rfl rfl rfl rfl (hr.mono (by first | decide | omega)) (by rfl) C.g_outdoes C.k_outdoes C.B_outdoes rfl tk (so_cons (so_var (pv 5)) (so_cons (so_var (pv 7)) sos_nil)) (lm_cons (lm_cons lm_nil)))) (SE.so (se_callC (ok__law_due C) rfl rfl rfl rfl rfl (hr.mono (by first | decide | omega)) (by rfl) C.g__law_due C.k__law_due C.B__law_due rfl tk (so_cons (so_var (pv 5)) (so_cons (so_var (pv 7)) sos_nil)) (lm_cons (lm_cons lm_nil)))))))) (sss_cons (ss_ret se_bl) sss_nil) sss_nil) sss_nil))))))) sss_nil))) (sss_cons (ss_if (SW.st (sw_or (st_not (st_val (se_callC (ok__law_good C) rfl rfl rfl rfl rfl (hr.mono (by first | decide | omega)) (by rfl) C.g__law_good C.k__law_good C.B__law_good rfl tk (so_cons (SE.so (se_tup (sa_cons (se_tup (sa_cons se_int (sa_cons se_int sa_nil))) sa_nil))) (so_cons (SE.so (se_tup (sa_cons (se_tup (sa_cons se_int (sa_cons se_int sa_nil))) sa_nil))) sos_nil)) (lm_cons (lm_cons lm_nil))))) (sw_or1 (st_not (st_val (se_callC (ok__law_good C) rfl rfl rfl rfl rfl (hr.mono (by first | decide | omega)) (by rfl) C.g__law_good C.k__law_good C.B__law_good rfl tk (so_cons (SE.so (se_tup (sa_cons (se_tup (sa_cons se_int (sa_cons se_int sa_nil))) sa_nil))) (so_cons (SE.so (se_tup (sa_cons (se_tup (sa_cons se_int (sa_cons se_int sa_nil))) sa_nil))) sos_nil)) (lm_cons (lm_cons lm_nil)))))))) (sss_cons (ss_ret se_bl) sss_nil) sss_nil) (sss_cons (ss_set (i := 2) sc_law.nd rfl (by first | exact Or.inl rfl | exact Or.inr rfl) (se_lst (sa_cons (se_tup (sa_cons (se_tup (sa_cons se_int (sa_cons se_int sa_nil))) (sa_cons (se_tup (sa_cons se_int (sa_cons se_int sa_nil))) (sa_cons (se_tup (sa_cons se_int (sa_cons se_int sa_nil))) sa_nil)))) (sa_cons (se_tup (sa_cons (se_tup (sa_cons se_int (sa_cons se_int sa_nil))) (sa_cons (se_tup (sa_cons se_int (sa_cons se_int sa_nil))) sa_nil))) sa_nil)))) (sss_cons (ss_ret (se_and (se_not (se_callC (ok_outdoes C) rfl rfl rfl rfl rfl (hr.mono (by first | decide | omega)) (by rfl) C.g_outdoes C.k_outdoes C.B_outdoes rfl tk (so_cons (SE.so (se_ixK K rfl (fun _ _ => rfl) (so_var (pv 2)) (SE.so se_int))) (so_cons (SE.so (se_ixK K rfl (fun _ _ => rfl) (so_var (pv 2)) (SE.so se_int))) sos_nil)) (lm_cons (lm_cons lm_nil)))) (se_one (se_callC (ok_outdoes C) rfl rfl rfl rfl rfl (hr.mono (by first | decide | omega)) (by rfl) C.g_outdoes C.k_outdoes C.B_outdoes rfl tk (so_cons (SE.so (se_ixK K rfl (fun _ _ => rfl) (so_var (pv 2)) (SE.so se_int))) (so_cons (SE.so (se_ixK K rfl (fun _ _ => rfl) (so_var (pv 2)) (SE.so se_int))) sos_nil)) (lm_cons (lm_cons lm_nil)))))) sss_nil)))) (by decide)
end
end Lw
namespace Bt
open PySem L2
section
variable {α β : Type} (E : En)
theorem a_bnd (m : M α) (f : α → M β) : bnd m f E = (match m E with | .ok a E' => f a E' | .ex x E' => .ex x E' | .bad => .bad) := rfl
theorem a_ret (a : α) : Bt.ret a E = .ok a E := rfl
theorem a_stuck : (stuck : M α) E = .bad := rfl
theorem a_liftS (a : α) : lift (some a) E = .ok a E := rfl
theorem a_liftN : lift (none : Option α) E = .bad := rfl
theorem a_mOp (f : D → D → Option D) (ma mb : M Ag) : mOp f ma mb E = bnd ma (fun a => bnd mb fun b => fun E => match rsv E a, rsv E b with | some x, some y => lift (f x y) E | _, _ => .bad) E := rfl
theorem a_mOpF (f : D → D → Option (List D)) (ma mb : M Ag) : mOpF f ma mb E = bnd ma (fun a => bnd mb fun b => fun E => match rsv E a, rsv E b with | some x, some y => lift (f x y) E | _, _ => .bad) E := rfl
theorem a_mChain (f g : D → D → Option D) (ma mb mc : M Ag) : mChain f g ma mb mc E = bnd ma (fun a => bnd mb fun b => fun E => match rsv E a, rsv E b with
  | some x, some y => match f x y with
    | some (.bool true) => (bnd mc fun c => fun E => match rsv E b, rsv E c with
      | some y, some z => lift (g y z) E
      | _, _ => .bad) E
    | some (.bool false) => .ok (.bool false) E
    | _ => .bad
  | _, _ => .bad) E := rfl
theorem a_mD (m : M D) : mD m E = bnd m (fun d => Bt.ret (.d d)) E := rfl
theorem a_mR (i : Nat) : mR i E = (match E[i]? with | some (.dat _) => .ok (.r i) E | some (.ow _) => .ok (.r i) E | some (.scr _) => .ok (.r i) E | _ => .bad) := rfl
theorem a_mV (i : Nat) : mV i E = (match E[i]? with | some (.dat d) => .ok d E | _ => .bad) := rfl
theorem a_mFrz (i : Nat) : mFrz i E = (match E[i]? with | some ((.ow (.l ds))) => .ok (.list ds) (E.set i (.dat (.list ds))) | some (.dat d) => .ok d E | _ => .bad) := rfl
theorem a_rsvD (d : D) : rsv E (.d d) = some d := rfl
theorem a_rsvR (i : Nat) : rsv E (.r i) = (match E[i]? with | some (.dat d) => some d | some ((.ow (.l ds))) => some (.list ds) | _ => none) := rfl
theorem a_rsvs0 : rsvs E [] = some [] := rfl
theorem a_rsvs1 (a : Ag) (as : List Ag) : rsvs E (a :: as) = (match rsv E a, rsvs E as with | some d, some ds => some (d :: ds) | _, _ => none) := rfl
theorem a_mCons (m : M Ag) (ms : M (List Ag)) : mCons m ms E = bnd m (fun a => bnd ms fun as => Bt.ret (a :: as)) E := rfl
theorem a_mConsD (m : M D) (ms : M (List D)) : mConsD m ms E = bnd m (fun a => bnd ms fun as => Bt.ret (a :: as)) E := rfl
theorem a_mTup (ms : M (List D)) : mTup ms E = bnd ms (fun ds => fun E => if ds.length ≤ LIM then .ok (.tuple ds) E else .bad) E := rfl
theorem a_mLst (ms : M (List D)) : mLst ms E = bnd ms (fun ds => fun E => if ds.length ≤ LIM then .ok (.list ds) E else .bad) E := rfl
theorem a_mLstF (ms : M (List D)) : mLstF ms E = bnd ms (fun ds => fun E => if ds.length ≤ LIM then .ok ds E else .bad) E := rfl
theorem a_mIf (mt : M Bool) (x y : M α) : mIf mt x y E = bnd mt (fun b => if b then x else y) E := rfl
theorem a_mIfS (mt : M Bool) (x y : M Fl) : mIfS mt x y E = bnd mt (fun b => if b then x else y) E := rfl
theorem a_ite (c : Prop) [Decidable c] (x y : M α) : (if c then x else y) E = if c then x E else y E := by split <;> rfl
theorem a_mAnd (x y : M Bool) : mAnd x y E = bnd x (fun b => if b then y else Bt.ret false) E := rfl
theorem a_mOr (x y : M Bool) : mOr x y E = bnd x (fun b => if b then Bt.ret true else y) E := rfl
theorem a_mNot (x : M Bool) : mNot x E = bnd x (fun b => Bt.ret (!b)) E := rfl
theorem a_mAndV (x y : M D) : mAndV x y E = bnd x (fun d => match d with | .bool true => y | .bool false => Bt.ret (.bool false) | _ => stuck) E := rfl
theorem a_mOrV (x y : M D) : mOrV x y E = bnd x (fun d => match d with | .bool true => Bt.ret (.bool true) | .bool false => y | _ => stuck) E := rfl
theorem a_mNotV (x : M D) : mNotV x E = bnd x (fun d => match d with | .bool b => Bt.ret (.bool (!b)) | _ => stuck) E := rfl
theorem a_asB (b : Bool) : asB (.bool b) E = .ok b E := rfl
theorem a_mNeg (m : M Ag) : mNeg m E = bnd m (fun a => fun E => match rsv E a with | some (.int i) => .ok (.int (-i)) E | _ => .bad) E := rfl
theorem a_mB (f : List D → Option D) (ms : M (List Ag)) : mB f ms E = bnd ms (fun as => fun E => match rsvs E as with | some ds => lift (f ds) E | none => .bad) E := rfl
theorem a_mBF (f : List D → Option (List D)) (ms : M (List Ag)) : mBF f ms E = bnd ms (fun as => fun E => match rsvs E as with | some ds => lift (f ds) E | none => .bad) E := rfl
theorem a_mIsi (T : String) (m : M Ag) : mIsi T m E = bnd m (fun a => fun E => match rsv E a with | some d => if notX d then .ok (.bool (isiD T d)) E else .bad | none => .bad) E := rfl
theorem a_mCallO (Fm : M Sl) (dds : List D) (ms : M (List Ag)) : mCallO Fm dds ms E = bnd ms (fun ags => fun E => if apartA E ags then match argSl E ags with
  | none => .bad
  | some as => match Fm (as ++ dds.map .dat) with
    | .ok d as' => match putB E ags (as'.take ags.length) with
      | some E' => .ok d E'
      | none => .bad
    | .ex x as' => match putB E ags (as'.take ags.length) with
      | some E' => .ex x E'
      | none => .bad
    | .bad => .bad
  else .bad) E := rfl
theorem a_mCall (Fm : M Sl) (dds : List D) (ms : M (List Ag)) : mCall Fm dds ms E = bnd (mCallO Fm dds ms) thaw E := rfl
theorem a_mCallB (Fm : M Sl) (ms : M (List Ag)) : mCallB Fm ms E = bnd ms (fun ags => fun E => match borSl E ags with
  | none => .bad
  | some as => match Fm as with
    | .ok (.dat d) _ => if flatD d then .ok d E else .bad
    | .ex x _ => if flatX x then .ex x E else .bad
    | _ => .bad) E := rfl
theorem a_thawD (d : D) : thaw (.dat d) E = .ok d E := rfl
theorem a_thawL (ds : List D) : thaw (.ow (.l ds)) E = .ok (.list ds) E := rfl
theorem a_mCallKO (Fm : M Sl) (pk : List Pk) (n1 n2 : Nat) (ms1 ms2 : M (List D)) : mCallKO Fm pk n1 n2 ms1 ms2 E = bnd ms1 (fun ds1 => bnd ms2 fun ds2 => fun E => if ds1.length = n1 ∧ ds2.length = n2 then match Fm ((pk.map (pkD (ds1 ++ ds2))).map .dat) with
  | .ok d _ => .ok d E
  | .ex x _ => .ex x E
  | .bad => .bad
  else .bad) E := rfl
theorem a_mCallK (Fm : M Sl) (pk : List Pk) (n1 n2 : Nat) (ms1 ms2 : M (List D)) : mCallK Fm pk n1 n2 ms1 ms2 E = bnd (mCallKO Fm pk n1 n2 ms1 ms2) thaw E := rfl
theorem a_mSeq (a b : M Fl) : mSeq a b E = (match a E with | .ok .nx E' => b E' | r => r) := rfl
theorem a_mNil : mNil E = .ok .nx E := rfl
theorem a_mRet (m : M D) : mRet m E = bnd m (fun d => Bt.ret (.rt (.dat d))) E := rfl
theorem a_mRetS (m : M Sl) : mRetS m E = bnd m (fun d => Bt.ret (.rt d)) E := rfl
theorem a_mDat (m : M D) : mDat m E = bnd m (fun d => Bt.ret (.dat d)) E := rfl
theorem a_mObj (m : M Ob) : mObj m E = bnd m (fun d => Bt.ret (.ow d)) E := rfl
theorem a_mLstO (m : M (List D)) : mLstO m E = bnd m (fun d => Bt.ret (.l d)) E := rfl
theorem a_mSetS (i : Nat) (m : M Sl) : mSetS i m E = bnd m (fun z => fun E => if i < E.length then .ok .nx (E.set i z) else .bad) E := rfl
theorem a_mGive (i : Nat) : mGive i E = (match E[i]? with | some (.ow ob) => .ok (.ow ob) (E.set i .un) | some (.dat d) => .ok (.dat d) E | _ => .bad) := rfl
theorem a_mAsL (m : M D) : mAsL m E = bnd m asL E := rfl
theorem a_asL (ds : List D) : asL (.list ds) E = .ok ds E := rfl
theorem a_mExpr (m : M D) : mExpr m E = bnd m (fun _ => Bt.ret .nx) E := rfl
theorem a_mSet (g : MG) (m : M D) : mSet g m E = bnd m (fun d => fun E => match g d E with | some E' => .ok .nx E' | none => .bad) E := rfl
theorem a_gN (i : Nat) (d : D) : gN i d E = if i < E.length then some (E.set i (.dat d)) else none := rfl
theorem a_gTup (n : Nat) (ms : List D → En → Option En) (ds : List D) : gTupM n ms (.tuple ds) E = if ds.length = n then ms ds E else none := rfl
theorem a_gCons (m : MG) (ms : List D → En → Option En) (d : D) (ds : List D) : gConsM m ms (d :: ds) E = (m d E).bind (ms ds) := rfl
theorem a_gNil : gNilM [] E = some E := rfl
theorem a_mItL (ds : List D) : (lift (itemsOf (.list ds)) : M _) E = .ok ds E := rfl
theorem a_mItT (ds : List D) : (lift (itemsOf (.tuple ds)) : M _) E = .ok ds E := rfl
theorem a_mIt (m : M D) : mIt m E = bnd m (fun d => lift (itemsOf d)) E := rfl
theorem a_mPart0 : mPart none E = .ok none E := rfl
theorem a_mPart1 (m : M D) : mPart (some m) E = bnd m (fun d => match d with | .int i => Bt.ret (some i) | _ => stuck) E := rfl
theorem a_mSl (ma : M Ag) (ml mh : M (Option Int)) : mSl ma ml mh E = bnd ma (fun a => bnd ml fun lo => bnd mh fun hi => fun E => match rsv E a with | some d => lift (slD lo hi d) E | none => .bad) E := rfl
theorem a_mOwn (i : Nat) (m : M (List D)) : mOwn i m E = bnd m (fun ds => fun E => if i < E.length then .ok .nx (E.set i ((.ow (.l ds)))) else .bad) E := rfl
theorem a_mApp (i : Nat) (m : M D) : mApp i m E = (match E[i]? with
  | some ((.ow (.l _))) => (bnd m fun d => fun E => match E[i]? with
    | some ((.ow (.l ds))) => if ds.length < LIM then .ok .nx (E.set i ((.ow (.l (ds ++ [d]))))) else .bad
    | _ => .bad) E
  | _ => .bad) := rfl
theorem a_mPut (i : Nat) (mk : M Ag) (m : M D) : mPut i mk m E = bnd m (fun d => fun E => match E[i]? with
  | some ((.ow (.l _))) => (bnd mk fun a => fun E => match E[i]?, rsv E a with
    | some ((.ow (.l ds))), some (.int k) => match ixN ds.length k with
      | some j => .ok .nx (E.set i ((.ow (.l (ds.set j d)))))
      | none => .bad
    | _, _ => .bad) E
  | _ => .bad) E := rfl
theorem a_mAug (f : Int → Int → Int) (i : Nat) (m : M D) : mAug f i m E = (match E[i]? with
  | some (.dat (.int x)) => (bnd m fun d => fun E => match d with
    | .int y => if i < E.length then .ok .nx (E.set i (.dat (.int (f x y)))) else .bad
    | _ => .bad) E
  | _ => .bad) := rfl
theorem a_mRng1 (ms : M (List Ag)) : mRng1 ms E = bnd ms (fun as => fun E => match rsvs E as with | some [.int j] => if rgOk j then .ok (rangeD 0 j) E else .bad | _ => .bad) E := rfl
theorem a_mRng2 (ms : M (List Ag)) : mRng2 ms E = bnd ms (fun as => fun E => match rsvs E as with | some [.int i, .int j] => if rgOk i && rgOk j then .ok (rangeD i j) E else .bad | _ => .bad) E := rfl
theorem a_mZip (ms : M (List D)) : mZip ms E = bnd ms (fun ds => match ds with | [.list xs, .list ys] => Bt.ret (zipD xs ys) | [.tuple xs, .tuple ys] => Bt.ret (zipD xs ys) | _ => stuck) E := rfl
theorem a_mEnum (ms : M (List D)) : mEnum ms E = bnd ms (fun ds => match ds with | [.list xs] => Bt.ret (enumD xs) | _ => stuck) E := rfl
theorem a_mFor (ws : List Nat) (mi : M (List D)) (g : MG) (mb : M Fl) : mFor ws mi g mb E = bnd mi (fun its => forGo ws g mb its) E := rfl
theorem a_mRev (m : M Ag) : mRev m E = bnd m (fun a => fun E => match rsv E a with | some d => lift (revD d) E | none => .bad) E := rfl
theorem a_mDfl (f : D → D → Option D) (m : M Ag) (mz : M D) : mDfl f m mz E = bnd m (fun a => bnd mz fun z => fun E => match rsv E a with | some d => lift (f d z) E | none => .bad) E := rfl
theorem a_mRng3 (ms : M (List Ag)) : mRng3 ms E = bnd ms (fun as => fun E => match rsvs E as with | some [.int i, .int j, .int k] => if rgOk i && rgOk j && decide (k = -1) then .ok (downD i j) E else .bad | _ => .bad) E := rfl
theorem a_mPutAug (f : Int → Int → Int) (i : Nat) (mk : M Ag) (m : M D) : mPutAug f i mk m E = (match E[i]? with
  | some ((.ow (.l _))) => (bnd mk fun a => fun E => match E[i]?, rsv E a with
    | some ((.ow (.l ds))), some (.int k) => match atI ds k with
      | some (.int x) => (bnd m fun d => fun E => match d, E[i]? with
        | .int y, some ((.ow (.l ds))) => match ixN ds.length k with
          | some j => .ok .nx (E.set i ((.ow (.l (ds.set j (.int (f x y)))))))
          | none => .bad
        | _, _ => .bad) E
      | _ => .bad
    | _, _ => .bad) E
  | _ => .bad) := rfl
theorem a_mPop (i : Nat) (mk : M Ag) : mPop i mk E = (match E[i]? with
  | some ((.ow (.l _))) => (bnd mk fun a => fun E => match E[i]?, rsv E a with
    | some ((.ow (.l ds))), some (.int k) => match ixN ds.length k with
      | some j => match ds[j]? with
        | some d => if ds.length ≤ LIM then .ok d (E.set i ((.ow (.l (ds.eraseIdx j))))) else .bad
        | none => .bad
      | none => .bad
    | _, _ => .bad) E
  | _ => .bad) := rfl
theorem a_mFn (asg : List Nat) (nl : Nat) (m : M Fl) (as : En) : mFn asg nl m as = if okAsg asg as then match m (as ++ List.replicate nl .un) with
  | .ok f E' => match f, parBack as E' with
    | .rt d, some as' => .ok d as'
    | .nx, some as' => .ok (.dat .none) as'
    | _, _ => .bad
  | .ex x E' => match parBack as E' with
    | some as' => .ex x as'
    | none => .bad
  | .bad => .bad
  else .bad := rfl
theorem a_mLenScr (i : Nat) : mLenScr i E = (match E[i]? with | some (.scr ns) => .ok (.int (ns.length : Nat)) E | _ => .bad) := rfl
theorem a_mIxScr (i : Nat) (mk : M Ag) : mIxScr i mk E = (match E[i]? with
  | some (.scr ns) => (bnd mk fun a => fun E => match rsv E a with
    | some (.int k) => match atI ns k with
      | some n => .ok (.int n) E
      | none => .bad
    | _ => .bad) E
  | _ => .bad) := rfl
end
section
variable (E : En)
theorem a_mDGet (i : Nat) (mk : M Ag) : mDGet i mk E = (if isDic E i = true then (bnd mk fun a => fun E => match dkOf E i a with
    | some (es, k) => lift (valD es k) E
    | none => .bad) E else .bad) := rfl
theorem a_mDGet2 (i : Nat) (mk : M Ag) (mx : M D) : mDGet2 i mk mx E = (if isDic E i = true then (bnd mk fun a => bnd mx fun z => fun E => match dkOf E i a with
    | some (es, k) => .ok ((valD es k).getD z) E
    | none => .bad) E else .bad) := rfl
theorem a_mDIn (b : Bool) (i : Nat) (mk : M Ag) : mDIn b i mk E = bnd mk (fun a => fun E => match dkOf E i a with
    | some (es, k) => .ok (.bool ((valD es k).isSome == b)) E
    | none => .bad) E := rfl
theorem a_mDPut (i : Nat) (mk : M Ag) (m : M D) : mDPut i mk m E = bnd m (fun d => fun E => if isDic E i = true then (bnd mk fun a => fun E => match dkOf E i a with
    | some (es, k) => if es.length < LIM then .ok .nx (E.set i (.ow (.d (putD es k d)))) else .bad
    | none => .bad) E else .bad) E := rfl
theorem a_mDAug (f : Int → Int → Int) (i : Nat) (mk : M Ag) (m : M D) : mDAug f i mk m E = (if isDic E i = true then (bnd mk fun a => fun E => match dkOf E i a with
    | some (es, k) => match valD es k with
      | some (.int x) => (bnd m fun d => fun E => match d, E[i]? with
        | .int y, some (.ow (.d es2)) => if es2.length < LIM then .ok .nx (E.set i (.ow (.d (putD es2 k (.int (f x y)))))) else .bad
        | _, _ => .bad) E
      | _ => .bad
    | none => .bad) E else .bad) := rfl
theorem a_mOwnO (i : Nat) (m : M Ob) : mOwnO i m E = bnd m (fun ob => fun E => if i < E.length then .ok .nx (E.set i (.ow ob)) else .bad) E := rfl
theorem a_mDict (m : M Ag) : mDict m E = bnd m (fun a => fun E => match rsv E a with
  | some d => lift (dictF d) E
  | none => .bad) E := rfl
theorem a_mDNew : mDNew E = .ok (.d []) E := rfl
theorem a_mSortD (i : Nat) : mSortD i E = (match E[i]? with
  | some (.ow (.d es)) => match keysI es with
    | some ks => if ks.length < 1000 then .ok (.list ((sortI ks).map .int)) E else .bad
    | none => .bad
  | _ => .bad) := rfl
end
theorem notX_none : notX .none = true := rfl
theorem notX_bool (b : Bool) : notX (.bool b) = true := rfl
theorem notX_int (b : Int) : notX (.int b) = true := rfl
theorem notX_str (b : Str) : notX (.str b) = true := rfl
theorem notX_list (b : List D) : notX (.list b) = true := rfl
theorem notX_tuple (b : List D) : notX (.tuple b) = true := rfl
theorem isi_none (T : String) : isiD T .none = tyIs T "NoneType" := rfl
theorem isi_bool (T : String) (b : Bool) : isiD T (.bool b) = tyIs T "bool" := rfl
theorem isi_int (T : String) (b : Int) : isiD T (.int b) = tyIs T "int" := rfl
theorem isi_str (T : String) (b : Str) : isiD T (.str b) = tyIs T "str" := rfl
theorem isi_list (T : String) (b : List D) : isiD T (.list b) = tyIs T "list" := rfl
theorem isi_tuple (T : String) (b : List D) : isiD T (.tuple b) = tyIs T "tuple" := rfl
theorem backE_same {E E' : En} {vs : List Nat} (hw : wipeE E' vs = wipeE E vs) (hv : ∀ v ∈ vs, (∃ d, E[v]? = some (.dat d)) ∨ E[v]? = some .un) : backE E E' vs = E := by
  have hl : E'.length = E.length := by rw [← wipeE_length E' vs, hw, wipeE_length]
  have out : ∀ (A : En) (i : Nat) (us : List Nat), i ∉ us → (wipeE A us)[i]? = A[i]? := by
    intro A i us
    induction us with
    | nil => intro _; rfl
    | cons u us ih =>
      intro h
      have hne : u ≠ i := fun e => h (e ▸ List.mem_cons_self)
      show ((wipeE A us).set u .un)[i]? = _
      rw [List.getElem?_set_ne hne]
      exact ih fun z => h (List.mem_cons_of_mem _ z)
  refine List.ext_getElem? fun i => ?_
  by_cases h : i ∈ vs
  · rcases hv i h with ⟨d, e⟩ | e
    · rw [get_backE_in (by rw [hl]; exact (List.getElem?_eq_some_iff.mp e).1) h, e]
    · rw [get_backE_in (by rw [hl]; exact (List.getElem?_eq_some_iff.mp e).1) h, e]
  · rw [get_backE_out h, ← out E' i vs h, hw, out E i vs h]
noncomputable def elF (vs : List Nat) (g : MG) (mt : M Bool) (me : M D) (E : En) (d : D) : Option (Option D) := match g d E with
  | none => none
  | some E1 => match mt E1 with
    | .ok true E2 => match me E2 with
      | .ok y E3 => open Classical in if wipeE E3 vs = E then some (some y) else none
      | _ => none
    | .ok false E2 => open Classical in if wipeE E2 vs = E then some none else none
    | _ => none
theorem lcGo_el {α : Type} {vs : List Nat} {g : MG} {mt : M Bool} {me : M D} {E Ew : En} {en : α → D} {o : α → Option D} : ∀ (p : List α) (E1 : En) (acc : List D), wipeE E1 vs = Ew → (∀ q ∈ p, elF vs g mt me Ew (en q) = some (o q)) → acc.length + p.length ≤ LIM →
    ∃ E', wipeE E' vs = Ew ∧ lcGo vs g mt me E (p.map en) E1 acc = .ok (.list (acc ++ p.filterMap o)) (backE E E' vs)
  | [], E1, acc, h1, _, _ => ⟨E1, h1, by simp [lcGo]⟩
  | q :: p, E1, acc, h1, h, hl => by
    have hq := h q List.mem_cons_self
    have ih := fun E2 acc' e2 hl' => lcGo_el (E := E) p E2 acc' e2 (fun q hq => h q (List.mem_cons_of_mem _ hq)) hl'
    rw [List.length_cons] at hl
    rw [List.map_cons]
    unfold lcGo
    rw [h1]
    unfold elF at hq
    cases eg : g (en q) Ew with
    | none => rw [eg] at hq; cases hq
    | some E2 =>
      rw [eg] at hq
      dsimp only at hq ⊢
      cases et : mt E2 with
      | bad => rw [et] at hq; cases hq
      | ex _ _ => rw [et] at hq; cases hq
      | ok b E3 =>
        rw [et] at hq
        cases b with
        | false =>
          dsimp only at hq ⊢
          split at hq
          · rename_i hw
            have e := Option.some.inj hq
            rw [List.filterMap_cons_none e.symm]
            exact ih E3 acc hw (by omega)
          · cases hq
        | true =>
          dsimp only at hq ⊢
          cases em : me E3 with
          | bad => rw [em] at hq; cases hq
          | ex _ _ => rw [em] at hq; cases hq
          | ok y E4 =>
            rw [em] at hq
            dsimp only at hq ⊢
            split at hq
            · rename_i hw
              have e := Option.some.inj hq
              rw [if_pos (by omega), List.filterMap_cons_some e.symm]
              obtain ⟨E', q1, q2⟩ := ih E4 (acc ++ [y]) hw (by rw [List.length_append, List.length_singleton]; omega)
              exact ⟨E', q1, by rw [q2, List.append_assoc]; rfl⟩
            · cases hq
theorem lc_ok {α : Type} {mi : M (List D)} {vs : List Nat} {g : MG} {mt : M Bool} {me : M D} {E E0 : En} (p : List α) (en : α → D) (o : α → Option D) (hi : mi E0 = .ok (p.map en) E) (hv : ∀ v ∈ vs, (∃ d, E[v]? = some (.dat d)) ∨ E[v]? = some .un) (h : ∀ q ∈ p, elF vs g mt me (wipeE E vs) (en q) = some (o q)) (hl : p.length ≤ LIM) :
    mLc mi g mt me vs E0 = .ok (.list (p.filterMap o)) E := by
  unfold mLc bnd
  rw [hi]
  obtain ⟨E', h1, h2⟩ := lcGo_el (E := E) p E [] rfl h (by simpa using hl)
  show lcGo vs g mt me E (p.map en) E [] = _
  rw [h2, backE_same h1 hv, List.nil_append]
theorem fm_filter {α β : Type} (c : α → Bool) (y : α → β) : ∀ p : List α, (p.filterMap fun q => if c q = true then some (y q) else none) = (p.filter c).map y
  | [] => rfl
  | q :: p => by
    by_cases h : c q = true
    · rw [List.filterMap_cons_some (by rw [if_pos h]), List.filter_cons_of_pos h, List.map_cons, fm_filter c y p]
    · rw [List.filterMap_cons_none (by rw [if_neg h]), List.filter_cons_of_neg h, fm_filter c y p]
theorem lc_if {α : Type} {mi : M (List D)} {vs : List Nat} {g : MG} {mt : M Bool} {me : M D} {E E0 : En} (p : List α) (en : α → D) (c : α → Bool) (y : α → D) (hi : mi E0 = .ok (p.map en) E) (hv : ∀ v ∈ vs, (∃ d, E[v]? = some (.dat d)) ∨ E[v]? = some .un) (h : ∀ q ∈ p, elF vs g mt me (wipeE E vs) (en q) = some (if c q = true then some (y q) else none)) (hl : p.length ≤ LIM) :
    mLc mi g mt me vs E0 = .ok (.list ((p.filter c).map y)) E := by
  rw [lc_ok p en (fun q => if c q = true then some (y q) else none) hi hv h hl, fm_filter]
theorem lc_map {α : Type} {mi : M (List D)} {vs : List Nat} {g : MG} {mt : M Bool} {me : M D} {E E0 : En} (p : List α) (en : α → D) (y : α → D) (hi : mi E0 = .ok (p.map en) E) (hv : ∀ v ∈ vs, (∃ d, E[v]? = some (.dat d)) ∨ E[v]? = some .un) (h : ∀ q ∈ p, elF vs g mt me (wipeE E vs) (en q) = some (some (y q))) (hl : p.length ≤ LIM) :
    mLc mi g mt me vs E0 = .ok (.list (p.map y)) E := by
  rw [lc_ok p en (fun q => some (y q)) hi hv h hl]
  congr 2
  clear hi h hl
  induction p with
  | nil => rfl
  | cons q p ih => simp
theorem forGo_inv {ws : List Nat} {g : MG} {mb : M Fl} (I : List D → En → Prop) : ∀ (its : List D) (E : En), I its E → (∀ d ds E, I (d :: ds) E → ∃ E1 E2, g d E = some E1 ∧ (mb E1 = .ok .nx E2 ∨ mb E1 = .ok .ct E2) ∧ I ds (wipeE E2 ws)) → ∃ E', I [] E' ∧ forGo ws g mb its E = .ok .nx E'
  | [], E, h, _ => ⟨E, h, rfl⟩
  | d :: ds, E, h, hs => by
    obtain ⟨E1, E2, e1, e2, h2⟩ := hs d ds E h
    obtain ⟨E', h3, h4⟩ := forGo_inv I ds (wipeE E2 ws) h2 hs
    refine ⟨E', h3, ?_⟩
    unfold forGo
    rw [e1]
    dsimp only
    rcases e2 with e2 | e2 <;> rw [e2] <;> exact h4
theorem for_inv {ws : List Nat} {mi : M (List D)} {g : MG} {mb : M Fl} {E0 E : En} {its : List D} (I : List D → En → Prop) (hi : mi E0 = .ok its E) (h0 : I its E) (hs : ∀ d ds E, I (d :: ds) E → ∃ E1 E2, g d E = some E1 ∧ (mb E1 = .ok .nx E2 ∨ mb E1 = .ok .ct E2) ∧ I ds (wipeE E2 ws)) : ∃ E', I [] E' ∧ mFor ws mi g mb E0 = .ok .nx E' := by
  obtain ⟨E', h1, h2⟩ := forGo_inv I its E h0 hs
  exact ⟨E', h1, by unfold mFor bnd; rw [hi]; exact h2⟩
theorem for_same {α : Type} {ws : List Nat} {mi : M (List D)} {g : MG} {mb : M Fl} {E0 E : En} (p : List α) (en : α → D) (hi : mi E0 = .ok (p.map en) E) (h : ∀ q ∈ p, ∃ E1 E2, g (en q) E = some E1 ∧ (mb E1 = .ok .nx E2 ∨ mb E1 = .ok .ct E2) ∧ wipeE E2 ws = E) : mFor ws mi g mb E0 = .ok .nx E := by
  obtain ⟨E', ⟨h1, _⟩, h2⟩ := for_inv (ws := ws) (g := g) (mb := mb) (fun its E' => E' = E ∧ ∀ d ∈ its, ∃ q ∈ p, d = en q) hi ⟨rfl, fun d hd => by
    obtain ⟨q, hq, rfl⟩ := List.mem_map.mp hd
    exact ⟨q, hq, rfl⟩⟩ (fun d ds E' ⟨e, hd⟩ => by
    subst e
    obtain ⟨q, hq, rfl⟩ := hd d List.mem_cons_self
    obtain ⟨E1, E2, e1, e2, e3⟩ := h q hq
    exact ⟨E1, E2, e1, e2, e3, fun d' h' => hd d' (List.mem_cons_of_mem _ h')⟩)
  rw [h2, h1]
theorem rg_ok {i : Int} (h : -1000000 ≤ i) (h2 : i ≤ 1000000) : rgOk i = true := by
  exact rgOk_iff.mpr ⟨h, h2⟩
theorem rgOk_eq (i : Int) : rgOk i = (decide (-1000000 ≤ i) && decide (i ≤ 1000000)) := by
  rw [Bool.eq_iff_iff, rgOk_iff]
  simp
theorem rep_ok {n : Nat} {k : Int} (h1 : k ≤ 100000) (h2 : -100000 ≤ k) (h3 : n * k.toNat ≤ 100000) : repOk n k = true := repOk_iff.mpr ⟨h1, h2, h3⟩
theorem rangeD_mem {lo hi : Int} {d : D} (h : d ∈ rangeD lo hi) : ∃ i, d = .int i ∧ lo ≤ i ∧ i < hi := by
  unfold rangeD at h
  obtain ⟨k, hk, rfl⟩ := List.mem_map.mp h
  have := List.mem_range.mp hk
  exact ⟨_, rfl, by omega, by omega⟩
theorem rangeD_length {lo hi : Int} : (rangeD lo hi).length = (hi - lo).toNat := by unfold rangeD; rw [List.length_map, List.length_range]
theorem okI_of {i : Int} (h : -(10 ^ 300) ≤ i) (h2 : i ≤ 10 ^ 300) : okI i = true := by
  unfold okI
  refine decide_eq_true ?_
  by_cases z : i.natAbs = 0
  · rw [z]; decide
  · refine (Nat.log2_lt z).mpr (Nat.lt_of_le_of_lt (show i.natAbs ≤ 10 ^ 300 by omega) ?_)
    calc 10 ^ 300 ≤ 16 ^ 300 := Nat.pow_le_pow_left (by decide) _
      _ = 2 ^ 1200 := by rw [show (16 : Nat) = 2 ^ 4 from rfl, ← Nat.pow_mul]
      _ < 2 ^ 9000 := Nat.pow_lt_pow_right (by decide) (by decide)
theorem forGo_fold {α S : Type} {ws : List Nat} {g : MG} {mb : M Fl} {en : α → D} (st : S → En) (step : S → α → S) (I : S → List α → Prop) : ∀ (p : List α) (s : S), I s p →
    (∀ q p s, I s (q :: p) → (∃ E1 E2, g (en q) (st s) = some E1 ∧ (mb E1 = .ok .nx E2 ∨ mb E1 = .ok .ct E2) ∧ wipeE E2 ws = st (step s q)) ∧ I (step s q) p) → forGo ws g mb (p.map en) (st s) = .ok .nx (st (p.foldl step s)) ∧ I (p.foldl step s) []
  | [], s, h, _ => ⟨rfl, h⟩
  | q :: p, s, h, hs => by
    obtain ⟨⟨E1, E2, e1, e2, e3⟩, h2⟩ := hs q p s h
    have ih := forGo_fold st step I p (step s q) h2 hs
    refine ⟨?_, ih.2⟩
    rw [List.map_cons]
    unfold forGo
    rw [e1]
    dsimp only
    rcases e2 with e2 | e2 <;> rw [e2] <;> (dsimp only; rw [e3]; exact ih.1)
theorem for_fold {α S : Type} {ws : List Nat} {mi : M (List D)} {g : MG} {mb : M Fl} {E0 : En} {s : S} (p : List α) (en : α → D) (st : S → En) (step : S → α → S) (I : S → List α → Prop) (hi : mi E0 = .ok (p.map en) (st s)) (h0 : I s p)
    (hs : ∀ q p s, I s (q :: p) → (∃ E1 E2, g (en q) (st s) = some E1 ∧ (mb E1 = .ok .nx E2 ∨ mb E1 = .ok .ct E2) ∧ wipeE E2 ws = st (step s q)) ∧ I (step s q) p) : mFor ws mi g mb E0 = .ok .nx (st (p.foldl step s)) ∧ I (p.foldl step s) [] := by
  have := forGo_fold (ws := ws) (g := g) (mb := mb) (en := en) st step I p s h0 hs
  exact ⟨by unfold mFor bnd; rw [hi]; exact this.1, this.2⟩
theorem forGo_find {α : Type} {ws : List Nat} {g : MG} {mb : M Fl} {E : En} {en : α → D} (c : α → Bool) (r : Sl) (st : α → En) : ∀ (p : List α), (∀ q ∈ p, ∃ E1, g (en q) E = some E1 ∧ mb E1 = .ok (if c q = true then .rt r else .nx) (st q) ∧ wipeE (st q) ws = E) →
    forGo ws g mb (p.map en) E = match p.find? c with | some q => .ok (.rt r) (st q) | none => .ok .nx E
  | [], _ => rfl
  | q :: p, h => by
    obtain ⟨E1, e1, e2, e3⟩ := h q List.mem_cons_self
    have ih := forGo_find c r st p fun x hx => h x (List.mem_cons_of_mem _ hx)
    rw [List.map_cons]
    unfold forGo
    rw [e1]
    dsimp only
    rw [e2]
    by_cases z : c q = true
    · rw [if_pos z, List.find?_cons_of_pos z]
    · rw [if_neg z, List.find?_cons_of_neg z]
      dsimp only
      rw [e3]
      exact ih
theorem for_find {α : Type} {ws : List Nat} {mi : M (List D)} {g : MG} {mb : M Fl} {E0 E : En} (p : List α) (en : α → D) (c : α → Bool) (r : Sl) (st : α → En) (hi : mi E0 = .ok (p.map en) E) (h : ∀ q ∈ p, ∃ E1, g (en q) E = some E1 ∧ mb E1 = .ok (if c q = true then .rt r else .nx) (st q) ∧ wipeE (st q) ws = E) :
    mFor ws mi g mb E0 = match p.find? c with | some q => .ok (.rt r) (st q) | none => .ok .nx E := by
  unfold mFor bnd
  rw [hi]
  exact forGo_find c r st p h
structure Shp (n : Nat) (d : D) : Prop where
  lay : d.canLay0 = true
  dep : d.depth ≤ n
theorem Shp.ok {n : Nat} {d : D} (h : Shp n d) (hn : n ≤ 64 := by decide) : SeqAt.shaped d = true := by
  unfold SeqAt.shaped
  rw [h.lay]
  have := h.dep
  simp
  omega
theorem canLayAll_of : ∀ {ds : List D}, (∀ d ∈ ds, d.canLay0 = true) → PyData.canLayAll0 ds = true
  | [], _ => rfl
  | d :: ds, h => by
    unfold PyData.canLayAll0
    rw [h d List.mem_cons_self, canLayAll_of fun e he => h e (List.mem_cons_of_mem _ he)]
    rfl
theorem depthAll_of {n : Nat} : ∀ {ds : List D}, (∀ d ∈ ds, d.depth ≤ n) → PyData.depthAll ds ≤ n
  | [], _ => by simp [PyData.depthAll]
  | d :: ds, h => by
    have h1 := h d List.mem_cons_self
    have h2 := depthAll_of (n := n) (ds := ds) fun e he => h e (List.mem_cons_of_mem _ he)
    simp only [PyData.depthAll]
    omega
theorem shp_list {n : Nat} {ds : List D} (h : ∀ d ∈ ds, Shp n d) : Shp (n + 1) (.list ds) := by
  refine ⟨canLayAll_of fun d hd => (h d hd).lay, ?_⟩
  have := depthAll_of (n := n) fun d hd => (h d hd).dep
  simp only [PyData.depth]
  omega
theorem shp_tup {n : Nat} {ds : List D} (h : ∀ d ∈ ds, Shp n d) : Shp (n + 1) (.tuple ds) := by
  refine ⟨canLayAll_of fun d hd => (h d hd).lay, ?_⟩
  have := depthAll_of (n := n) fun d hd => (h d hd).dep
  simp only [PyData.depth]
  omega
theorem shp_int (i : Int) : Shp 1 (.int i) := ⟨rfl, by simp [PyData.depth]⟩
theorem Shp.up {n m : Nat} {d : D} (h : Shp n d) (hm : n ≤ m) : Shp m d := ⟨h.lay, Nat.le_trans h.dep hm⟩
theorem shp_ints (ns : List Int) : Shp 2 (.list (ns.map .int)) := shp_list fun d hd => by
  obtain ⟨i, _, rfl⟩ := List.mem_map.mp hd
  exact shp_int i
theorem eqD_of {n m : Nat} {d e : D} (hd : Shp n d) (he : Shp m e) (hn : n ≤ 64 := by decide) (hm : m ≤ 64 := by decide) : eqD d e = some (.bool (PyData.eqv d e)) := by
  unfold eqD
  rw [hd.ok hn, he.ok hm]
  rfl
theorem neD_of {n m : Nat} {d e : D} (hd : Shp n d) (he : Shp m e) (hn : n ≤ 64 := by decide) (hm : m ≤ 64 := by decide) : neD d e = some (.bool (!PyData.eqv d e)) := by
  unfold neD
  rw [hd.ok hn, he.ok hm]
  rfl
mutual
theorem eqv_refl : ∀ d : D, d.canLay0 = true → PyData.eqv d d = true
  | .none, _ => rfl
  | .bool _, _ => by simp [PyData.eqv]
  | .int _, _ => by simp [PyData.eqv]
  | .str _, _ => by simp [PyData.eqv]
  | .list ds, h => eqvAll_refl ds h
  | .tuple ds, h => eqvAll_refl ds h
  | .dict _, h => nomatch h
theorem eqvAll_refl : ∀ ds : List D, PyData.canLayAll0 ds = true → PyData.eqvAll ds ds = true
  | [], _ => rfl
  | d :: ds, h => by
    unfold PyData.canLayAll0 at h
    rw [Bool.and_eq_true] at h
    unfold PyData.eqvAll
    rw [eqv_refl d h.1, eqvAll_refl ds h.2]
    rfl
end
theorem neD_self {n : Nat} {d : D} (hd : Shp n d) (hn : n ≤ 64 := by decide) : neD d d = some (.bool false) := by rw [neD_of hd hd hn hn, eqv_refl d hd.lay]; rfl
theorem sumF_map {α : Type} (f : α → Int) (p : List α) : sumF [.list (p.map fun q => .int (f q))] = some (.int (p.map f).sum) := by
  show (intsOf (p.map fun q => .int (f q))).map _ = _
  rw [show (p.map fun q => PyData.int (f q)) = (p.map f).map .int by rw [List.map_map]; rfl, intsOf_map]
  rfl
theorem allF_map {α : Type} (f : α → Bool) (p : List α) : allF [.list (p.map fun q => .bool (f q))] = some (.bool (p.all f)) := by
  show (boolsOf (p.map fun q => .bool (f q))).map _ = _
  rw [show (p.map fun q => PyData.bool (f q)) = (p.map f).map .bool by rw [List.map_map]; rfl, boolsOf_map]
  simp [List.all_map]
theorem sortedF_ints (ns : List Int) : sortedF [.list (ns.map .int)] = some (.list ((sortI ns).map .int)) := by
  unfold sortedF
  dsimp only
  rw [intsOf_map]
theorem eqD_int (i j : Int) : eqD (.int i) (.int j) = some (.bool (decide (i = j))) := by
  simp [eqD, SeqAt.shaped, PyData.canLay0, PyData.depth, PyData.eqv]
  rfl
theorem neD_int (i j : Int) : neD (.int i) (.int j) = some (.bool (!decide (i = j))) := by
  simp [neD, SeqAt.shaped, PyData.canLay0, PyData.depth, PyData.eqv]
  rfl
end Bt
namespace Bt
open PySem L2
section
variable {E : En}
theorem a_mRaise0 (c : Nat) : mRaise0 c E = .ex ⟨c, none⟩ E := rfl
theorem a_mRaise1 (c : Nat) (m : M D) : mRaise1 c m E = bnd m (fun d => fun E => .ex ⟨c, some d⟩ E) E := rfl
theorem a_mTry (c i : Nat) (mb ms : M Fl) : mTry c i mb ms E = (match mb E with
  | .ok f E' => .ok f E'
  | .ex x E' => if isSub x.cls c then (if i < E'.length then (match ms (E'.set i (.dat (xOf x))) with
      | .ok f E2 => .ok f (E2.set i .un)
      | _ => .bad) else .bad) else .ex x E'
  | .bad => .bad) := rfl
theorem a_mIsx (n : Nat) (m : M Ag) : mIsx n m E = bnd m (fun a => fun E => match rsv E a with
  | some d => (match isCls n d with
    | some b => .ok (.bool b) E
    | none => .bad)
  | none => .bad) E := rfl
theorem a_mFld (cs : List Nat) (m : M Ag) : mFld cs m E = bnd m (fun a => fun E => match rsv E a with
  | some (.dict [(.int c, .none), (.none, d)]) => if c.toNat ∈ cs then .ok d E else .bad
  | _ => .bad) E := rfl
theorem a_mMeth (f : D → D → Option D) (ma mb : M Ag) : mMeth f ma mb E = bnd ma (fun a => fun E0 => match rsv E0 a with
  | some (.list _) => (bnd mb fun b => fun E => match rsv E a, rsv E b with
    | some (.list ds), some y => lift (f (.list ds) y) E
    | _, _ => .bad) E0
  | _ => .bad) E := rfl
theorem a_mExt (i : Nat) (m : M D) : mExt i m E = (match E[i]? with
  | some ((.ow (.l _))) => (bnd m fun d => fun E => match E[i]?, d with
    | some ((.ow (.l ds))), .list es => if ds.length + es.length ≤ LIM then .ok .nx (E.set i ((.ow (.l (ds ++ es))))) else .bad
    | _, _ => .bad) E
  | _ => .bad) := rfl
theorem a_mExtB (i : Nat) (m : M D) : mExtB i m E = (match E[i]? with
  | some ((.ow (.l _))) => (bnd m fun d => fun E => match E[i]?, d with
    | some ((.ow (.l ds))), .list es => if ds.length + es.length ≤ LIM then .ok .nx (E.set i ((.ow (.l (ds ++ es))))) else .bad
    | some ((.ow (.l ds))), .tuple es => if ds.length + es.length ≤ LIM then .ok .nx (E.set i ((.ow (.l (ds ++ es))))) else .bad
    | _, _ => .bad) E
  | _ => .bad) := rfl
theorem a_mNew0 (c : Nat) : mNew0 c E = .ok (.dict [(.int c, .none)]) E := rfl
theorem a_mNewN (c : Nat) : mNewN c E = .ok (.dict [(.int c, .none), (.none, .none)]) E := rfl
theorem a_mNew1 (c : Nat) (m : M D) : mNew1 c m E = bnd m (fun d => ret (.dict [(.int c, .none), (.none, d)])) E := rfl
theorem a_mIsxO (m : M Ag) : mIsxO m E = bnd m (fun a => fun E => match rsv E a with
  | some (.dict ((.int _, .none) :: _)) => .ok (.bool false) E
  | _ => .bad) E := rfl
theorem a_mIsVE : mIsVE E = .ok (.bool false) E := rfl
theorem a_mPar (i j : Nat) (ms : M (List D)) : mPar i j ms E = bnd ms (fun ds => fun E => match ds with
  | [d1, d2] => if i < E.length ∧ j < E.length then .ok .nx ((E.set i (.dat d1)).set j (.dat d2)) else .bad
  | _ => .bad) E := rfl
theorem isCls_x (n : Nat) (c : Int) (r : List (D × D)) : isCls n (.dict ((.int c, .none) :: r)) = some (isSub c.toNat n || n == 17) := rfl
theorem isCls_n (n : Nat) : isCls n .none = if n < 17 then some false else none := rfl
theorem xOf_0 (c : Nat) : xOf ⟨c, none⟩ = .dict [(.int c, .none)] := rfl
theorem xOf_1 (c : Nat) (d : D) : xOf ⟨c, some d⟩ = .dict [(.int c, .none), (.none, d)] := rfl
theorem isSub_0 (a : Nat) : isSub a 0 = true := by unfold isSub; simp
theorem lift_some {α : Type} (a : α) : Bt.lift (some a) E = .ok a E := rfl
end
theorem shp_str (x : Str) (h : (PyData.str x).canLay0 = true) : Shp 1 (.str x) := ⟨h, by simp [PyData.depth]⟩
theorem ll0 : ((0 : Nat) ≤ LIM) = True := eq_true (by decide)
theorem ll1 : ((1 : Nat) ≤ LIM) = True := eq_true (by decide)
theorem ll2 : ((2 : Nat) ≤ LIM) = True := eq_true (by decide)
theorem ll3 : ((3 : Nat) ≤ LIM) = True := eq_true (by decide)
theorem ll4 : ((4 : Nat) ≤ LIM) = True := eq_true (by decide)
theorem ll5 : ((5 : Nat) ≤ LIM) = True := eq_true (by decide)
theorem ll6 : ((6 : Nat) ≤ LIM) = True := eq_true (by decide)
theorem ll7 : ((7 : Nat) ≤ LIM) = True := eq_true (by decide)
theorem ll8 : ((8 : Nat) ≤ LIM) = True := eq_true (by decide)
theorem ll9 : ((9 : Nat) ≤ LIM) = True := eq_true (by decide)
theorem ll10 : ((10 : Nat) ≤ LIM) = True := eq_true (by decide)
theorem ll11 : ((11 : Nat) ≤ LIM) = True := eq_true (by decide)
theorem ll12 : ((12 : Nat) ≤ LIM) = True := eq_true (by decide)
theorem ll13 : ((13 : Nat) ≤ LIM) = True := eq_true (by decide)
theorem ll14 : ((14 : Nat) ≤ LIM) = True := eq_true (by decide)
theorem ll15 : ((15 : Nat) ≤ LIM) = True := eq_true (by decide)
theorem ll16 : ((16 : Nat) ≤ LIM) = True := eq_true (by decide)
section
variable {E : En}
theorem a_mRaiseN (c : Nat) : mRaiseN c E = .ex ⟨c, some .none⟩ E := rfl
theorem a_mTry0 (c : Nat) (mb ms : M Fl) : mTry0 c mb ms E = (match mb E with
  | .ok f E1 => .ok f E1
  | .ex z E1 => if isSub z.cls c = true then match ms E1 with
    | .ok f E2 => .ok f E2
    | _ => .bad
    else .ex z E1
  | .bad => .bad) := rfl
theorem a_mZipE (ms : M (List D)) : mZipE ms E = bnd ms (fun ds => match ds with
  | [.list xs, .list ys] => fun E => if xs.length = ys.length then .ok (zipD xs ys) E else .bad
  | _ => stuck) E := rfl
theorem a_mLrg2 (ma mb : M Ag) : mLrg2 ma mb E = bnd ma (fun x => bnd mb fun y => fun E => match rsv E x, rsv E y with
  | some (.int i), some (.int j) => if rgOk i && rgOk j then .ok (.list (rangeD i j)) E else .bad
  | _, _ => .bad) E := rfl
theorem a_mLrg1 (ma : M Ag) : mLrg1 ma E = bnd ma (fun x => fun E => match rsv E x with
  | some (.int j) => if rgOk j then .ok (.list (rangeD 0 j)) E else .bad
  | _ => .bad) E := rfl
end
end Bt
local macro_rules
  | `(tactic| simp! [$a,*]) => `(tactic| simp [$a,*, Bt.a_bnd, Bt.a_ret, Bt.a_stuck, Bt.a_liftS, Bt.a_liftN, Bt.a_mOp, Bt.a_mOpF, Bt.a_mChain, Bt.a_mD, Bt.a_mR, Bt.a_mV, Bt.a_mFrz, Bt.a_rsvD, Bt.a_rsvR, Bt.a_rsvs0, Bt.a_rsvs1, Bt.a_mCons, Bt.a_mConsD, Bt.a_mTup, Bt.a_mLst, Bt.a_mLstF, Bt.a_mIf, Bt.a_mIfS, Bt.a_ite, Bt.a_mAnd, Bt.a_mOr, Bt.a_mNot, Bt.a_mAndV, Bt.a_mOrV, Bt.a_mNotV, Bt.a_asB, Bt.a_mNeg, Bt.a_mB, Bt.a_mBF, Bt.a_mIsi, Bt.a_mCall, Bt.a_mCallK, Bt.a_mCallO, Bt.a_mCallKO, Bt.a_mCallB, Bt.a_thawD, Bt.a_thawL, Bt.a_mRetS, Bt.a_mDat, Bt.a_mObj, Bt.a_mLstO, Bt.a_mSetS, Bt.a_mGive, Bt.a_mAsL, Bt.a_asL, Bt.a_mRev, Bt.a_mDfl, Bt.a_mRng3, Bt.a_mPutAug, Bt.a_mPop, Bt.a_mSeq, Bt.a_mNil, Bt.a_mRet, Bt.a_mExpr, Bt.a_mSet, Bt.a_gN, Bt.a_gTup, Bt.a_gCons, Bt.a_gNil, Bt.a_mItL, Bt.a_mItT, Bt.a_mIt, Bt.a_mPart0, Bt.a_mPart1, Bt.a_mSl, Bt.a_mOwn, Bt.a_mApp, Bt.a_mPut, Bt.a_mAug, Bt.a_mRng1, Bt.a_mRng2, Bt.a_mZip, Bt.a_mEnum, Bt.a_mFor, Bt.a_mFn, Bt.a_mLenScr, Bt.a_mIxScr, Bt.a_mDGet, Bt.a_mDGet2, Bt.a_mDIn, Bt.a_mDPut, Bt.a_mDAug, Bt.a_mOwnO, Bt.a_mDict, Bt.a_mDNew, Bt.a_mSortD, Bt.a_mRaise0, Bt.a_mRaise1, Bt.a_mTry, Bt.a_mIsx, Bt.a_mFld, Bt.a_mMeth, Bt.a_mExt, Bt.a_mExtB, Bt.a_mNew0, Bt.a_mNewN, Bt.a_mNew1, Bt.a_mIsxO, Bt.a_mIsVE, Bt.a_mPar, Bt.a_mRaiseN, Bt.a_mTry0, Bt.a_mZipE, Bt.a_mLrg2, Bt.a_mLrg1, Bt.argSl, Bt.apartA, Bt.isOwn, Bt.putB, Bt.okAsg, Bt.parBack, Bt.slD, Bt.addD, Bt.subD, Bt.mulD, Bt.fdivD, Bt.modD, Bt.powD, Bt.ltD, Bt.leD, Bt.gtD, Bt.geD, Bt.isD, Bt.isntD, Bt.isNone, Bt.ixD, Bt.lenF, Bt.intF, Bt.minF, Bt.maxF, Bt.tupleF, Bt.listF, Bt.notX_none, Bt.notX_bool, Bt.notX_int, Bt.notX_str, Bt.notX_list, Bt.notX_tuple, Bt.isi_none, Bt.isi_bool, Bt.isi_int, Bt.isi_str, Bt.isi_list, Bt.isi_tuple, Bt.tyIs, Bt.pkD, Bt.addL, Bt.mulL, Bt.listL, Bt.revD, Bt.borSl, Bt.flatD, Bt.isDic, Bt.dkOf, Bt.keyOf, Bt.isCls_x, Bt.isCls_n, Bt.xOf_0, Bt.xOf_1, Bt.isSub_0, Bt.lift_some, Bt.ll0, Bt.ll1, Bt.ll2, Bt.ll3, Bt.ll4, Bt.ll5, Bt.ll6, Bt.ll7, Bt.ll8, Bt.ll9, Bt.ll10, Bt.ll11, Bt.ll12, Bt.ll13, Bt.ll14, Bt.ll15, Bt.ll16])
namespace Lw
open PySem L2 Bt
theorem okS {i : Int} (h : -(10 ^ 30) ≤ i) (h2 : i ≤ 10 ^ 30) : okI i = true := okI_of (by omega) (by omega)
theorem take_ok (n s : Int) (h : 0 < s) (h2 : okI s = true) : s__law_take [(.ow (.l [.int n])), .dat (.int s)] = .ok (.dat (.int (n % s))) [(.ow (.l [.int (n / s)])), .dat (.int s)] := by
  simp! [s__law_take, m__law_take, atI, ixN, h, h2]
theorem mixed_ok (c k : Int) (h1 : 0 ≤ k) (h2 : k ≤ 10 ^ 6) : ∃ r, 0 ≤ r ∧ r < 2147483579 ∧ s__law_mixed [.dat (.int c), .dat (.int k)] = .ok (.dat (.int r)) [.dat (.int c), .dat (.int k)] := by
  have a0 : 0 ≤ c % 2147483647 := Int.emod_nonneg _ (by omega)
  have a1 : c % 2147483647 < 2147483647 := Int.emod_lt_of_pos _ (by omega)
  have o1 : okI (c % 2147483647) = true := okS (by omega) (by omega)
  have o2 : okI k = true := okS (by omega) (by omega)
  have o3 : okI 48271 = true := okS (by omega) (by omega)
  have o4 : okI 69621 = true := okS (by omega) (by omega)
  generalize e1 : (c % 2147483647 * 48271 + k * 69621 + 1048583) % 2147483629 = x
  have x0 : 0 ≤ x := by rw [← e1]; exact Int.emod_nonneg _ (by omega)
  have x1 : x < 2147483629 := by rw [← e1]; exact Int.emod_lt_of_pos _ (by omega)
  have o5 : okI x = true := okS (by omega) (by omega)
  generalize e2 : x * x % 2147483587 = y
  have y0 : 0 ≤ y := by rw [← e2]; exact Int.emod_nonneg _ (by omega)
  have y1 : y < 2147483587 := by rw [← e2]; exact Int.emod_lt_of_pos _ (by omega)
  have o6 : okI y = true := okS (by omega) (by omega)
  have o7 : okI (y + 2) = true := okS (by omega) (by omega)
  refine ⟨y * (y + 2) % 2147483579, Int.emod_nonneg _ (by omega), Int.emod_lt_of_pos _ (by omega), ?_⟩
  simp! [s__law_mixed, m__law_mixed, o1, o2, o3, o4, e1, o5, e2, o6, o7]
theorem B_pow (m : Nat) (h : m ≤ 24) : (2147483579 : Int) ^ m ≤ 10 ^ 300 := by
  have h1 : (2147483579 : Nat) ^ m ≤ 2147483579 ^ 24 := Nat.pow_le_pow_right (by decide) h
  have h2 : (2147483579 : Nat) ^ 24 ≤ 10 ^ 300 := by decide +kernel
  have h3 := Nat.le_trans h1 h2
  have h4 : ((2147483579 ^ m : Nat) : Int) ≤ ((10 ^ 300 : Nat) : Int) := Int.ofNat_le.mpr h3
  rw [Int.natCast_pow, Int.natCast_pow] at h4
  exact h4
def cellI (ns : List Int) (k c : Int) (ds : List D) (E : En) : Prop := ∃ x, E = [.scr ns, .dat (.int k), .dat (.int c), .dat (.int x), .un] ∧ 0 ≤ x ∧ x < 2147483579 ^ (24 - ds.length) ∧ ds.length ≤ 24 ∧ ∀ d ∈ ds, ∃ i, d = .int i ∧ 0 ≤ i ∧ i < 24
theorem cell_turn {ns : List Int} {k c : Int} (hk : 0 ≤ k) (hk2 : k ≤ 100) (d : D) (ds : List D) (E : En) (h : cellI ns k c (d :: ds) E) : ∃ E1 E2, gN 4 d E = some E1 ∧ (lp__law_cell_1 E1 = .ok .nx E2 ∨ lp__law_cell_1 E1 = .ok .ct E2) ∧ cellI ns k c ds (wipeE E2 [4]) := by
  obtain ⟨x, rfl, x0, x1, hl, hd⟩ := h
  obtain ⟨i, rfl, i0, i1⟩ := hd d List.mem_cons_self
  rw [List.length_cons] at x1 hl
  have hii : 0 ≤ i * i ∧ i * i ≤ 24 * 24 := ⟨Int.mul_nonneg i0 i0, Int.mul_le_mul (by omega) (by omega) i0 (by omega)⟩
  obtain ⟨r, r0, r1, hm⟩ := mixed_ok c (7 * k + 100 * i + i * i) (by omega) (by omega)
  have px := B_pow (24 - (ds.length + 1)) (by omega)
  have o1 : okI x = true := okI_of (by omega) (by omega)
  have o2 : okI 2147483579 = true := okS (by omega) (by omega)
  have o3 : okI 7 = true := okS (by omega) (by omega)
  have o4 : okI 100 = true := okS (by omega) (by omega)
  have o5 : okI k = true := okS (by omega) (by omega)
  have o6 : okI i = true := okS (by omega) (by omega)
  refine ⟨[.scr ns, .dat (.int k), .dat (.int c), .dat (.int x), .dat (.int i)], [.scr ns, .dat (.int k), .dat (.int c), .dat (.int (x * 2147483579 + r)), .dat (.int i)], rfl, .inl ?_, ?_⟩
  · simp! [lp__law_cell_1, hm, o1, o2, o3, o4, o5, o6]
  · refine ⟨_, rfl, by have := Int.mul_nonneg x0 (show (0 : Int) ≤ 2147483579 by omega); omega, ?_, by omega, fun d hd' => hd d (List.mem_cons_of_mem _ hd')⟩
    rw [show 24 - ds.length = 24 - (ds.length + 1) + 1 by omega, Int.pow_succ]
    have : (x + 1) * 2147483579 ≤ 2147483579 ^ (24 - (ds.length + 1)) * 2147483579 := Int.mul_le_mul_of_nonneg_right (by omega) (by omega)
    omega
theorem cell_loop (ns : List Int) (k c : Int) (hk : 0 ≤ k) (hk2 : k ≤ 100) : ∃ x, fr__law_cell_1 [.scr ns, .dat (.int k), .dat (.int c), .dat (.int 0), .un] = .ok .nx [.scr ns, .dat (.int k), .dat (.int c), .dat (.int x), .un] := by
  obtain ⟨E', ⟨x, rfl, _⟩, hf⟩ := for_inv (ws := [4]) (mi := mRng1 (mCons (mD (Bt.ret (.int 24))) (Bt.ret []))) (g := gN 4) (mb := lp__law_cell_1) (E0 := [.scr ns, .dat (.int k), .dat (.int c), .dat (.int 0), .un]) (cellI ns k c) (its := rangeD 0 24) (E := [.scr ns, .dat (.int k), .dat (.int c), .dat (.int 0), .un]) (by simp! [rgOk_eq]) ⟨0, rfl, Int.le_refl _, by rw [rangeD_length]; decide, by rw [rangeD_length]; decide, fun d hd => by
    obtain ⟨i, rfl, h1, h2⟩ := rangeD_mem hd
    exact ⟨i, rfl, h1, h2⟩⟩ (fun d ds E h => cell_turn hk hk2 d ds E h)
  exact ⟨x, hf⟩
theorem cell_ok (ns : List Int) (k : Int) (hk : 0 ≤ k) (hk2 : k ≤ 100) : ∃ n, s__law_cell [.scr ns, .dat (.int k)] = .ok (.dat (.int n)) [.scr ns, .dat (.int k)] := by
  have o : okI ((10 : Int) ^ 60) = true := okI_of (by decide) (by decide +kernel)
  have o2 : okI ((10 : Int) ^ 60 * 10 ^ 60) = true := okI_of (by decide) (by decide +kernel)
  have o3 : okI ((10 : Int) ^ 60 * 10 ^ 60 * 10 ^ 60) = true := okI_of (by decide) (by decide +kernel)
  simp at o o2 o3
  have key : ∀ c : Int, (∃ n, (if (1000000000000000000 : Int) ≤ c then (c - 1000000000000000000) % (10 ^ 60 * 10 ^ 60 * 10 ^ 60 * 10 ^ 60) = n else ∃ x, fr__law_cell_1 [.scr ns, .dat (.int k), .dat (.int c), .dat (.int 0), .un] = .ok .nx [.scr ns, .dat (.int k), .dat (.int c), .dat (.int x), .un] ∧ x = n)) := fun c => by
    by_cases z : (1000000000000000000 : Int) ≤ c
    · exact ⟨_, by rw [if_pos z]⟩
    · obtain ⟨x, hx⟩ := cell_loop ns k c hk hk2
      exact ⟨x, by rw [if_neg z]; exact ⟨x, hx, rfl⟩⟩
  by_cases z : k < (ns.length : Int)
  · obtain ⟨j, rfl⟩ := Int.eq_ofNat_of_zero_le hk
    have hj : j < ns.length := by omega
    have ha : atI ns ((j : Nat) : Int) = some ns[j] := atI_nat (List.getElem?_eq_getElem hj)
    obtain ⟨n, hn⟩ := key ns[j]
    refine ⟨n, ?_⟩
    by_cases z2 : (1000000000000000000 : Int) ≤ ns[j]
    · rw [if_pos z2] at hn
      rw [← hn]
      simp! [s__law_cell, m__law_cell, hj, ha, z2, o, o2, o3]
    · rw [if_neg z2] at hn
      obtain ⟨x, hx, rfl⟩ := hn
      simp! [s__law_cell, m__law_cell, hj, ha, z2, o, o2, o3, hx]
  · obtain ⟨n, hn⟩ := key 0
    refine ⟨n, ?_⟩
    rw [if_neg (by omega)] at hn
    obtain ⟨x, hx, rfl⟩ := hn
    simp! [s__law_cell, m__law_cell, z, o, o2, o3, hx]
end Lw
namespace Lw
open PySem L2 Bt
abbrev Pile := List (Int × Int)
def encL (q : Int × Int) : D := .tuple [.int q.1, .int q.2]
def enc (p : Pile) : D := .tuple (p.map encL)
structure Gd (p : Pile) : Prop where
  w1 : ∀ q ∈ p, 1 ≤ q.1
  w2 : ∀ q ∈ p, q.1 ≤ 10 ^ 13
  m1 : ∀ q ∈ p, 1 ≤ q.2
  m2 : ∀ q ∈ p, q.2 ≤ 10 ^ 13
  up : p.Pairwise fun a b => a.1 < b.1
  len : p.length ≤ 1000
def S (p : Pile) : Int := (p.map fun q => q.1 * q.2).sum
def L (p : Pile) (c : Int) : Int := ((p.filter fun q => decide (q.1 < c)).map fun q => q.1 * q.2).sum
theorem gd_lim {p : Pile} (h : Gd p) : p.length ≤ LIM := Nat.le_trans h.len (by decide)
theorem gd_ok1 {p : Pile} (h : Gd p) {q : Int × Int} (hq : q ∈ p) : okI q.1 = true := by
  have h1 := h.w1 q hq; have h2 := h.w2 q hq
  exact okS (by omega) (by omega)
theorem gd_ok2 {p : Pile} (h : Gd p) {q : Int × Int} (hq : q ∈ p) : okI q.2 = true := by
  have h3 := h.m1 q hq; have h4 := h.m2 q hq
  exact okS (by omega) (by omega)
theorem at0 {α : Type} (a : α) (l : List α) : atI (a :: l) 0 = some a := by simp [atI, ixN]
theorem at1 {α : Type} (a b : α) (l : List α) : atI (a :: b :: l) 1 = some b := by
  unfold atI ixN
  rw [if_pos (by omega), if_pos (by simp only [List.length_cons]; omega)]
  rfl
theorem is_from_int (i l : Int) : s_is_from [.dat (.int i), .dat (.int l)] = .ok (.dat (.bool (decide (l ≤ i)))) [.dat (.int i), .dat (.int l)] := by
  simp! [s_is_from, m_is_from]
theorem look_num (i l : Int) (h : l ≤ i) : s_look_at_number [.dat (.int i), .dat (.int l)] = .ok (.dat .none) [.dat (.int i), .dat (.int l)] := by
  simp! [s_look_at_number, m_look_at_number, is_from_int, h]
theorem is_lot_ok (q : Int × Int) : s_is_lot [.dat (encL q)] = .ok (.dat (.bool (decide (1 ≤ q.1) && decide (1 ≤ q.2)))) [.dat (encL q)] := by
  by_cases h : 1 ≤ q.1 <;> simp! [s_is_lot, m_is_lot, encL, is_from_int, atI, ixN, eqD_int, h]
theorem zipD_map {α β : Type} (f : α → D) (g : β → D) : ∀ (xs : List α) (ys : List β), zipD (xs.map f) (ys.map g) = (xs.zip ys).map fun q => .tuple [f q.1, g q.2]
  | [], _ => by simp [zipD]
  | _ :: _, [] => by simp [zipD]
  | x :: xs, y :: ys => by
    have := zipD_map f g xs ys
    unfold zipD at this ⊢
    simp [this]
theorem cut1 (xs : List D) : cutD xs (some 1) none = xs.drop 1 := by
  unfold cutD
  rw [show HT.sIx xs.length 0 (some 1) = min 1 xs.length from HT.sIx_nat xs.length 0 1, HT.sIx_none]
  cases xs with
  | nil => rfl
  | cons x r =>
    rw [show min 1 (x :: r).length = 1 by rw [List.length_cons]; omega]
    show (List.take ((x :: r).length - 1) r) = r
    rw [List.length_cons, Nat.add_sub_cancel]
    exact List.take_length
theorem up_zip {p : Pile} (h : p.Pairwise fun a b => a.1 < b.1) : ∀ q ∈ p.zip (p.drop 1), q.1.1 < q.2.1 := by
  induction p with
  | nil => intro q hq; simp at hq
  | cons a r ih =>
    intro q hq
    cases r with
    | nil => simp at hq
    | cons b r =>
      have hp := List.pairwise_cons.mp h
      rw [List.drop_one, List.tail_cons] at hq
      rcases List.mem_cons.mp (show q ∈ (a, b) :: (b :: r).zip r from hq) with rfl | hq
      · exact hp.1 b List.mem_cons_self
      · exact ih hp.2 q (by rw [List.drop_one, List.tail_cons]; exact hq)
theorem isi_enc (p : Pile) : isiD "tuple" (enc p) = true := rfl
theorem is_pile_ok {p : Pile} (h : Gd p) : s_is_pile [.dat (enc p)] = .ok (.dat (.bool true)) [.dat (enc p)] := by
  have e1 : lc_is_pile_1 [.dat (enc p), .un, .un, .un] = .ok (.list (p.map fun _ => .bool true)) [.dat (enc p), .un, .un, .un] := by
    unfold lc_is_pile_1
    exact lc_map p encL (fun _ => .bool true) (by simp! [enc]) (by simp) (fun q hq => by simp! [elF, wipeE, is_lot_ok, h.w1 q hq, h.m1 q hq]) (gd_lim h)
  have e2 : lc_is_pile_2 [.dat (enc p), .un, .un, .un] = .ok (.list ((p.zip (p.drop 1)).map fun _ => .bool true)) [.dat (enc p), .un, .un, .un] := by
    unfold lc_is_pile_2
    refine lc_map (p.zip (p.drop 1)) (fun q => .tuple [encL q.1, encL q.2]) (fun _ => .bool true) (by simp! [enc, cut1, ← List.map_tail, zipD_map]) (by simp) (fun q hq => by simp! [elF, wipeE, encL, atI, ixN, up_zip h.up q hq]) ?_
    rw [List.length_zip]
    have := gd_lim h
    omega
  simp! [s_is_pile, m_is_pile, e1, e2, allF_map, isi_enc, show notX (enc p) = true from rfl]
theorem look_pile {p : Pile} (h : Gd p) : s_look_at_pile [.dat (enc p)] = .ok (.dat .none) [.dat (enc p)] := by
  simp! [s_look_at_pile, m_look_at_pile, is_pile_ok h]
theorem sum_of_ok {p : Pile} (h : Gd p) : s_sum_of [.dat (enc p)] = .ok (.dat (.int (S p))) [.dat (enc p)] := by
  have e1 : lc_sum_of_1 [.dat (enc p), .un, .un] = .ok (.list (p.map fun q => .int (q.1 * q.2))) [.dat (enc p), .un, .un] := by
    unfold lc_sum_of_1
    exact lc_map p encL _ (by simp! [enc]) (by simp) (fun q hq => by simp! [elF, wipeE, encL, gd_ok1 h hq, gd_ok2 h hq]) (gd_lim h)
  simp! [s_sum_of, m_sum_of, e1, sumF_map, S]
theorem less_of_ok {p : Pile} (h : Gd p) (c : Int) : s_less_of [.dat (enc p), .dat (.int c)] = .ok (.dat (.int (L p c))) [.dat (enc p), .dat (.int c)] := by
  have e1 : lc_less_of_1 [.dat (enc p), .dat (.int c), .un, .un] = .ok (.list ((p.filter fun q => decide (q.1 < c)).map fun q => .int (q.1 * q.2))) [.dat (enc p), .dat (.int c), .un, .un] := by
    unfold lc_less_of_1
    exact lc_if p encL _ _ (by simp! [enc]) (by simp) (fun q hq => by by_cases z : q.1 < c <;> simp! [elF, wipeE, encL, gd_ok1 h hq, gd_ok2 h hq, z]) (gd_lim h)
  simp! [s_less_of, m_less_of, e1, sumF_map, L]
theorem law_under_ok {p : Pile} (h : Gd p) (c : Int) : s__law_under [.dat (enc p), .dat (.int c)] = .ok (.dat (.int (L p c))) [.dat (enc p), .dat (.int c)] := by
  have e1 : lc__law_under_1 [.dat (enc p), .dat (.int c), .un, .un] = .ok (.list ((p.filter fun q => decide (q.1 < c)).map fun q => .int (q.1 * q.2))) [.dat (enc p), .dat (.int c), .un, .un] := by
    unfold lc__law_under_1
    exact lc_if p encL _ _ (by simp! [enc]) (by simp) (fun q hq => by by_cases z : q.1 < c <;> simp! [elF, wipeE, encL, gd_ok1 h hq, gd_ok2 h hq, z]) (gd_lim h)
  simp! [s__law_under, m__law_under, e1, sumF_map, L]
end Lw
namespace Lw
open PySem L2 Bt
def coinsOf (p : Pile) : List Int := p.flatMap fun q => List.replicate q.2.toNat q.1
def hstep (acc : Pile) (c : Int) : Pile := match acc.getLast? with
  | some q => if q.1 = c then acc.dropLast ++ [(q.1, q.2 + 1)] else acc ++ [(c, 1)]
  | none => [(c, 1)]
theorem hstep_last (b : Pile) (q : Int × Int) (c : Int) : hstep (b ++ [q]) c = if q.1 = c then b ++ [(q.1, q.2 + 1)] else b ++ [q] ++ [(c, 1)] := by
  unfold hstep
  rw [List.getLast?_concat]
  simp
structure HI (done : List Int) (acc : Pile) : Prop where
  up : acc.Pairwise fun a b => a.1 < b.1
  one : ∀ q ∈ acc, 1 ≤ q.2
  coins : coinsOf acc = done
theorem mem_coins {p : Pile} (h : ∀ q ∈ p, 1 ≤ q.2) {q : Int × Int} (hq : q ∈ p) : q.1 ∈ coinsOf p := by
  unfold coinsOf
  refine List.mem_flatMap.mpr ⟨q, hq, ?_⟩
  have := h q hq
  exact List.mem_replicate.mpr ⟨by omega, rfl⟩
theorem coins_append (a b : Pile) : coinsOf (a ++ b) = coinsOf a ++ coinsOf b := by unfold coinsOf; rw [List.flatMap_append]
theorem coins_one (w m : Int) : coinsOf [(w, m)] = List.replicate m.toNat w := by simp [coinsOf]
theorem nil_or_last {α : Type} (l : List α) : l = [] ∨ ∃ b x, l = b ++ [x] := by
  rcases List.eq_nil_or_concat l with h | ⟨b, x, h⟩
  · exact .inl h
  · exact .inr ⟨b, x, by rw [h, List.concat_eq_append]⟩
theorem hstep_ok {done : List Int} {acc : Pile} {c : Int} (h : HI done acc) (hc : ∀ x ∈ done, x ≤ c) : HI (done ++ [c]) (hstep acc c) := by
  rcases nil_or_last acc with rfl | ⟨b, q, rfl⟩
  · refine ⟨by simp [hstep], by simp [hstep], ?_⟩
    have := h.coins
    rw [← this]
    simp [hstep, coinsOf]
  · rw [hstep_last]
    have h1 := h.one q (by simp)
    have hq : q.1 ≤ c := hc q.1 (by rw [← h.coins]; exact mem_coins h.one (by simp))
    have hu := List.pairwise_append.mp h.up
    have hcoins := h.coins
    by_cases z : q.1 = c
    · rw [if_pos z]
      refine ⟨List.pairwise_append.mpr ⟨hu.1, by simp, fun a ha d hd => ?_⟩, fun a ha => ?_, ?_⟩
      · rw [List.mem_singleton.mp hd]
        exact hu.2.2 a ha q (by simp)
      · rcases List.mem_append.mp ha with ha | ha
        · exact h.one a (List.mem_append_left _ ha)
        · rw [List.mem_singleton.mp ha]; show 1 ≤ q.2 + 1; omega
      · rw [← hcoins, coins_append, coins_append, coins_one, show [q] = [(q.1, q.2)] from rfl, coins_one, show (q.2 + 1).toNat = q.2.toNat + 1 by omega, List.replicate_succ', List.append_assoc, z]
    · rw [if_neg z]
      refine ⟨List.pairwise_append.mpr ⟨h.up, by simp, fun a ha d hd => ?_⟩, fun a ha => ?_, ?_⟩
      · rw [List.mem_singleton.mp hd]
        show a.1 < c
        rcases List.mem_append.mp ha with ha | ha
        · have := hu.2.2 a ha q (by simp); omega
        · rw [List.mem_singleton.mp ha]; omega
      · rcases List.mem_append.mp ha with ha | ha
        · exact h.one a ha
        · rw [List.mem_singleton.mp ha]; show (1 : Int) ≤ 1; omega
      · rw [coins_append, hcoins, coins_one]; rfl
theorem fold_ok : ∀ (r : List Int) (done : List Int) (acc : Pile), HI done acc → (done ++ r).Pairwise (· ≤ ·) → HI (done ++ r) (r.foldl hstep acc)
  | [], done, acc, h, _ => by rw [List.append_nil]; exact h
  | c :: r, done, acc, h, hp => by
    have hp' := List.pairwise_append.mp hp
    have h2 := hstep_ok (c := c) h fun x hx => hp'.2.2 x hx c List.mem_cons_self
    have := fold_ok r (done ++ [c]) (hstep acc c) h2 (by rw [List.append_assoc]; exact hp)
    rw [List.append_assoc] at this
    exact this
def heapOf (ns : List Int) : Pile := (sortI ns).foldl hstep []
theorem sortI_pair (ns : List Int) : (sortI ns).Pairwise (· ≤ ·) := by
  have p1 : (sortI ns).Pairwise (fun a b => decide (a ≤ b) = true) := List.pairwise_mergeSort (fun a b c h1 h2 => by simp at *; omega) (fun a b => by simp; omega) ns
  exact p1.imp fun h => of_decide_eq_true h
theorem sortI_perm (ns : List Int) : (sortI ns).Perm ns := List.mergeSort_perm ns _
theorem heap_HI (ns : List Int) : HI (sortI ns) (heapOf ns) := by
  have := fold_ok (sortI ns) [] [] ⟨by simp, by simp, rfl⟩ (by simpa using sortI_pair ns)
  rw [List.nil_append] at this
  exact this
theorem len_coins : ∀ {p : Pile}, (∀ q ∈ p, 1 ≤ q.2) → p.length ≤ (coinsOf p).length
  | [], _ => by simp
  | q :: p, h => by
    have := len_coins (p := p) fun x hx => h x (List.mem_cons_of_mem _ hx)
    have h1 := h q List.mem_cons_self
    rw [show q :: p = [(q.1, q.2)] ++ p from rfl, coins_append, coins_one, List.length_append, List.length_append, List.length_replicate]
    simp
    omega
theorem many_coins : ∀ {p : Pile}, (∀ q ∈ p, 1 ≤ q.2) → ∀ q ∈ p, q.2 ≤ (coinsOf p).length
  | [], _, q, hq => by cases hq
  | a :: p, h, q, hq => by
    rw [show a :: p = [(a.1, a.2)] ++ p from rfl, coins_append, coins_one, List.length_append, List.length_replicate]
    have ha := h a List.mem_cons_self
    rcases List.mem_cons.mp hq with rfl | hq
    · omega
    · have := many_coins (p := p) (fun x hx => h x (List.mem_cons_of_mem _ hx)) q hq
      omega
theorem heap_gd {ns : List Int} (h : ∀ n ∈ ns, 1 ≤ n ∧ n ≤ 10 ^ 13) (hl : ns.length ≤ 1000) : Gd (heapOf ns) := by
  have H := heap_HI ns
  have hm : ∀ q ∈ heapOf ns, q.1 ∈ ns := fun q hq => (sortI_perm ns).mem_iff.mp (by rw [← H.coins]; exact mem_coins H.one hq)
  have hlen : (coinsOf (heapOf ns)).length = ns.length := by rw [H.coins]; exact (sortI_perm ns).length_eq
  refine ⟨fun q hq => (h _ (hm q hq)).1, fun q hq => (h _ (hm q hq)).2, H.one, fun q hq => ?_, H.up, ?_⟩
  · have := many_coins H.one q hq; omega
  · have := len_coins H.one; omega
theorem shp_encL (q : Int × Int) : Shp 2 (encL q) := shp_tup fun d hd => by
  rcases List.mem_cons.mp hd with rfl | hd
  · exact shp_int _
  · rw [List.mem_singleton.mp hd]; exact shp_int _
theorem shp_encs (p : Pile) : Shp 3 (.list (p.map encL)) := shp_list fun d hd => by
  obtain ⟨q, _, rfl⟩ := List.mem_map.mp hd
  exact shp_encL q
theorem shp_nil : Shp 1 (.list []) := ⟨rfl, by simp [PyData.depth, PyData.depthAll]⟩
theorem ixN_last (n : Nat) (h : 0 < n) : ixN n (-1) = some (n - 1) := by
  unfold ixN
  rw [if_neg (by omega), if_pos (by omega)]
  congr 1
  omega
theorem heap_turn (x0 : Sl) (acc : Pile) (c : Int) (hl : acc.length < 1000) : lp__law_heap_1 [x0, (.ow (.l (acc.map encL))), .dat (.int c)] = .ok .nx [x0, (.ow (.l ((hstep acc c).map encL))), .dat (.int c)] := by
  rcases nil_or_last acc with rfl | ⟨b, ⟨w, m⟩, rfl⟩
  · simp! [lp__law_heap_1, neD_self shp_nil, hstep, encL, LIM]
  · have e1 : neD (.list ((b ++ [(w, m)]).map encL)) (.list []) = some (.bool true) := by
      rw [neD_of (shp_encs _) shp_nil, List.map_append]
      cases b <;> rfl
    have e2 : atI ((b ++ [(w, m)]).map encL) (-1) = some (encL (w, m)) := by rw [List.map_append]; exact atI_last _ _
    have e3 : ixN ((b ++ [(w, m)]).map encL).length (-1) = some b.length := by rw [ixN_last _ (by simp)]; simp
    rw [hstep_last]
    generalize ex : (b ++ [(w, m)]).map encL = X at e1 e2 e3
    by_cases z : w = c
    · subst z
      have e4 : X.set b.length (encL (w, m + 1)) = (b ++ [(w, m + 1)]).map encL := by rw [← ex]; simp
      simp only [if_pos]
      rw [← e4]
      clear e4 ex
      simp! [lp__law_heap_1, e1, e2, e3, encL, eqD_int, at0, at1, LIM]
    · have hb : X.length < LIM := by rw [← ex]; simp at hl ⊢; have : LIM = 100000 := rfl; omega
      have e4 : (b ++ [(w, m)] ++ [(c, 1)]).map encL = X ++ [encL (c, 1)] := by rw [List.map_append, ex]; rfl
      simp only [z, if_false]
      rw [e4]
      clear e4 ex
      simp! [lp__law_heap_1, e1, e2, e3, encL, eqD_int, z, at0, at1, hb, show (2 : Nat) ≤ LIM by decide]
theorem hstep_len (acc : Pile) (c : Int) : (hstep acc c).length ≤ acc.length + 1 := by
  rcases nil_or_last acc with rfl | ⟨b, q, rfl⟩
  · simp [hstep]
  · rw [hstep_last]; split <;> simp
theorem heap_ok (x0 : Sl) (ns : List Int) (hx : x0 = (.ow (.l (ns.map .int))) ∨ x0 = .dat (.list (ns.map .int))) (hl : ns.length ≤ 900) : s__law_heap [x0] = .ok (.dat (enc (heapOf ns))) [x0] := by
  have hr : mIt (mB sortedF (mCons (mR 0) (Bt.ret []))) [x0, (.ow (.l (([] : Pile).map encL))), .un] = .ok ((sortI ns).map .int) [x0, (.ow (.l (([] : Pile).map encL))), .un] := by
    rcases hx with rfl | rfl <;> simp! [sortedF_ints]
  have hlen : (sortI ns).length = ns.length := (sortI_perm ns).length_eq
  have hf := for_fold (ws := [2]) (g := gN 2) (mb := lp__law_heap_1) (E0 := [x0, (.ow (.l (([] : Pile).map encL))), .un]) (sortI ns) PyData.int (fun acc => [x0, (.ow (.l (acc.map encL))), .un]) hstep (fun acc r => acc.length + r.length ≤ 900) hr (by simp; omega) (fun c r acc hI => by
    rw [List.length_cons] at hI
    refine ⟨⟨_, _, rfl, .inl (heap_turn x0 acc c (by omega)), rfl⟩, ?_⟩
    have := hstep_len acc c
    omega)
  have e : fr__law_heap_1 [x0, (.ow (.l [])), .un] = .ok .nx [x0, (.ow (.l ((heapOf ns).map encL))), .un] := hf.1
  rcases hx with rfl | rfl <;> simp! [s__law_heap, m__law_heap, e, enc]
theorem repl_flat (n : Nat) (w : Int) : (List.replicate n [PyData.int w]).flatten = (List.replicate n w).map .int := by
  induction n with
  | zero => rfl
  | succ n ih => rw [List.replicate_succ, List.replicate_succ, List.flatten_cons, ih]; rfl
theorem coins_fold : ∀ (r : Pile) (done : List Int), r.foldl (fun (cs : List Int) (q : Int × Int) => cs ++ List.replicate q.2.toNat q.1) done = done ++ coinsOf r
  | [], done => by simp [coinsOf]
  | q :: r, done => by
    rw [List.foldl_cons, coins_fold r, show q :: r = [(q.1, q.2)] ++ r from rfl, coins_append, coins_one, List.append_assoc]
end Lw
namespace Lw
open PySem L2 Bt
end Lw
namespace Lw
open PySem L2 Bt
theorem sum_nnH : ∀ {ns : List Int}, (∀ n ∈ ns, 0 ≤ n) → 0 ≤ ns.sum
  | [], _ => by simp
  | n :: ns, h => by
    rw [List.sum_cons]
    have h1 := h n List.mem_cons_self
    have h2 := sum_nnH (ns := ns) fun m hm => h m (List.mem_cons_of_mem _ hm)
    omega
theorem sum_le {B : Int} (hB : 0 ≤ B) : ∀ {ns : List Int}, (∀ n ∈ ns, n ≤ B) → ns.sum ≤ ns.length * B
  | [], _ => by simp
  | n :: ns, h => by
    rw [List.sum_cons, List.length_cons]
    have h1 := h n List.mem_cons_self
    have h2 := sum_le hB (ns := ns) fun m hm => h m (List.mem_cons_of_mem _ hm)
    rw [Int.natCast_add, Int.add_mul]
    omega
theorem prod_b {p : Pile} (h : Gd p) {q : Int × Int} (hq : q ∈ p) : 1 ≤ q.1 * q.2 ∧ q.1 * q.2 ≤ 10 ^ 26 := by
  have h1 := h.w1 q hq; have h2 := h.w2 q hq; have h3 := h.m1 q hq; have h4 := h.m2 q hq
  refine ⟨by have := Int.mul_le_mul h1 h3 (by omega) (by omega); omega, ?_⟩
  have := Int.mul_le_mul h2 h4 (by omega) (by omega)
  omega
theorem S_b {p : Pile} (h : Gd p) : 0 ≤ S p ∧ S p ≤ 10 ^ 29 := by
  have h1 : ∀ n ∈ p.map (fun q => q.1 * q.2), 0 ≤ n ∧ n ≤ 10 ^ 26 := fun n hn => by
    obtain ⟨q, hq, rfl⟩ := List.mem_map.mp hn
    have := prod_b h hq
    exact ⟨by omega, this.2⟩
  refine ⟨sum_nnH fun n hn => (h1 n hn).1, ?_⟩
  have h2 := sum_le (B := 10 ^ 26) (by omega) fun n hn => (h1 n hn).2
  rw [List.length_map] at h2
  have := h.len
  unfold S
  omega
theorem L_le {p : Pile} (h : Gd p) (c : Int) : 0 ≤ L p c ∧ L p c ≤ S p := by
  unfold L S
  have h1 : ∀ q ∈ p, 0 ≤ q.1 * q.2 := fun q hq => by have := prod_b h hq; omega
  clear h
  induction p with
  | nil => simp
  | cons a r ih =>
    have ih := ih fun q hq => h1 q (List.mem_cons_of_mem _ hq)
    have ha := h1 a List.mem_cons_self
    by_cases z : a.1 < c
    · rw [List.filter_cons_of_pos (by simpa using z)]
      simp only [List.map_cons, List.sum_cons]
      omega
    · rw [List.filter_cons_of_neg (by simpa using z)]
      simp only [List.map_cons, List.sum_cons]
      omega
theorem ok1 {p : Pile} (h : Gd p) {q : Int × Int} (hq : q ∈ p) : okI (q.1 - 1) = true := by
  have h1 := h.w1 q hq; have h2 := h.w2 q hq
  exact okS (by omega) (by omega)
def un (p : Pile) (m : Int) : List Int := (p.filter fun q => decide (1 < q.1) && decide (L p q.1 < (m - 1) * (q.1 - 1))).map fun q => q.1
end Lw
namespace Lw
open PySem L2 Bt
def kv (q : Int × Int) : Key × D := (.inl q.1, .int q.2)
theorem pairs_enc : ∀ p : Pile, pairsOf (p.map encL) = some (p.map kv)
  | [] => rfl
  | q :: p => by
    rw [List.map_cons]
    unfold pairsOf
    rw [pairs_enc p]
    rfl
def has (c : Pile) (w : Int) : Bool := c.any fun q => decide (q.1 = w)
def cnt (c : Pile) (w : Int) : Int := ((c.find? fun q => decide (q.1 = w)).map (·.2)).getD 0
theorem val_kv (w : Int) : ∀ c : Pile, valD (c.map kv) (.inl w) = if has c w = true then some (.int (cnt c w)) else none
  | [] => rfl
  | q :: c => by
    have ih := val_kv w c
    unfold valD at ih ⊢
    by_cases z : q.1 = w
    · simp [kv, has, cnt, z]
    · rw [List.map_cons, List.find?_cons_of_neg (by simp [kv, z]), ih]
      unfold has cnt
      rw [List.any_cons, decide_eq_false z, Bool.false_or, List.find?_cons_of_neg (by simpa using z)]
theorem any_kv (w : Int) (c : Pile) : ((c.map kv).any fun e => decide (e.1 = Sum.inl w)) = has c w := by
  unfold has
  rw [List.any_map]
  congr 1
  funext q
  simp [kv]
theorem put_in {c : Pile} {w : Int} (n : Int) (h : has c w = true) : putD (c.map kv) (.inl w) (.int n) = (c.map fun q => if q.1 = w then (q.1, n) else q).map kv := by
  unfold putD
  rw [any_kv, if_pos h, List.map_map, List.map_map]
  refine List.map_congr_left fun q _ => ?_
  by_cases z : q.1 = w <;> simp [kv, z]
theorem put_new {c : Pile} {w : Int} (n : Int) (h : has c w = false) : putD (c.map kv) (.inl w) (.int n) = (c ++ [(w, n)]).map kv := by
  unfold putD
  rw [any_kv, if_neg (by rw [h]; exact Bool.false_ne_true), List.map_append]
  rfl
theorem has_iff {c : Pile} {w : Int} : has c w = true ↔ ∃ q ∈ c, q.1 = w := by
  unfold has
  rw [List.any_eq_true]
  simp
theorem has_false {c : Pile} {w : Int} (h : ∀ q ∈ c, q.1 ≠ w) : has c w = false := by
  cases e : has c w with
  | false => rfl
  | true => obtain ⟨q, hq, z⟩ := has_iff.mp e; exact absurd z (h q hq)
theorem merge_kv : ∀ (r done : Pile), (done ++ r).Pairwise (fun a b => a.1 ≠ b.1) → mergeD (done.map kv) (r.map kv) = (done ++ r).map kv
  | [], done, _ => by simp [mergeD]
  | q :: r, done, h => by
    have hn : has done q.1 = false := has_false fun x hx => (List.pairwise_append.mp h).2.2 x hx q List.mem_cons_self
    have ih := merge_kv r (done ++ [q]) (by rw [List.append_assoc]; exact h)
    unfold mergeD at ih ⊢
    rw [List.map_cons, List.foldl_cons, show putD (done.map kv) (kv q).1 (kv q).2 = (done ++ [(q.1, q.2)]).map kv from put_new q.2 hn]
    rw [List.append_assoc] at ih
    exact ih
theorem up_ne {p : Pile} (h : p.Pairwise fun a b => a.1 < b.1) : p.Pairwise fun a b => a.1 ≠ b.1 := h.imp fun h => by omega
theorem dict_enc {p : Pile} (h : Gd p) : dictF (enc p) = some (.d (p.map kv)) := by
  unfold enc dictF
  dsimp only
  rw [pairs_enc]
  have := merge_kv p [] (up_ne h.up)
  simp only [List.map_nil, List.nil_append] at this
  simp [this]
theorem keys_kv : ∀ c : Pile, keysI (c.map kv) = some (c.map (·.1))
  | [] => rfl
  | q :: c => by
    rw [List.map_cons]
    unfold keysI
    rw [keys_kv c]
    rfl
def fcG (c : Pile) : Pile := ((sortI (c.map (·.1))).filter fun w => decide (0 < cnt c w)).map fun w => (w, cnt c w)
theorem from_counts_ok (c : Pile) (hl : c.length < 1000) : s_from_counts [(.ow (.d (c.map kv)))] = .ok (.dat (enc (fcG c))) [(.ow (.d (c.map kv)))] := by
  have hs : ∀ w ∈ sortI (c.map (·.1)), has c w = true := fun w hw => by
    have := (sortI_perm _).mem_iff.mp hw
    obtain ⟨q, hq, rfl⟩ := List.mem_map.mp this
    exact has_iff.mpr ⟨q, hq, rfl⟩
  have e1 : lc_from_counts_1 [(.ow (.d (c.map kv))), .un] = .ok (.list (((sortI (c.map (·.1))).filter fun w => decide (0 < cnt c w)).map fun w => encL (w, cnt c w))) [(.ow (.d (c.map kv))), .un] := by
    have hLl : (sortI (c.map (·.1))).length ≤ LIM := by
      rw [(sortI_perm _).length_eq, List.length_map]
      have : LIM = 100000 := rfl
      omega
    unfold lc_from_counts_1
    refine lc_if (sortI (c.map (·.1))) PyData.int (fun w => decide (0 < cnt c w)) (fun w => encL (w, cnt c w)) ?_ ?_ ?_ hLl
    · simp! [keys_kv, hl]
    · simp
    · intro w hw
      by_cases z : 0 < cnt c w <;> simp! [elF, wipeE, encL, val_kv, hs w hw, z, show (2 : Nat) ≤ LIM by decide]
  simp! [s_from_counts, m_from_counts, e1, enc, fcG, List.map_map, Function.comp_def]
theorem cnt_mem : ∀ {c : Pile}, c.Pairwise (fun a b => a.1 ≠ b.1) → ∀ q ∈ c, cnt c q.1 = q.2
  | [], _, q, h => by cases h
  | a :: c, hp, q, h => by
    have hp' := List.pairwise_cons.mp hp
    by_cases z : a.1 = q.1
    · rcases List.mem_cons.mp h with rfl | h
      · simp [cnt]
      · exact absurd z (hp'.1 q h)
    · rcases List.mem_cons.mp h with rfl | h
      · exact absurd rfl z
      · have := cnt_mem hp'.2 q h
        unfold cnt at this ⊢
        rw [List.find?_cons_of_neg (by simpa using z)]
        exact this
structure TI (p c r : Pile) : Prop where
  keys : c.map (·.1) = p.map (·.1)
  sub : ∀ x ∈ r, ∃ q ∈ c, q.1 = x.1 ∧ x.2 ≤ q.2
  dist : r.Pairwise fun a b => a.1 ≠ b.1
end Lw
namespace Lw
open PySem L2 Bt
theorem strOkW (s : String) : PyData.strOk (Str.ofString s) = true := by
  unfold PyData.strOk
  rw [Str.ofString_eq_toList]
  simp only [List.size_toArray, List.length_map, List.all_toArray', List.all_toArray, List.all_map, List.all_eq_true, Function.comp]
  intro c _
  have := c.valid
  simp only [UInt32.isValidChar, Nat.isValidChar] at this
  exact decide_eq_true (by show c.val.toNat < 1114112; omega)
theorem beqS (a b : Str) : (a == b) = decide (a = b) := by
  rw [Bool.eq_iff_iff, beq_iff_eq, decide_eq_true_eq]
theorem eqS {a b : Str} (ha : PyData.strOk a = true) (hb : PyData.strOk b = true) : eqD (.str a) (.str b) = some (.bool (decide (a = b))) := by
  rw [eqD_of (shp_str _ (by simpa [PyData.canLay0] using ha)) (shp_str _ (by simpa [PyData.canLay0] using hb))]
  simp [PyData.eqv, beqS]
theorem inS2 {a x y : Str} : inD (.str a) (.tuple [.str x, .str y]) = some (.bool (decide (a = x) || decide (a = y))) := by
  have e1 : (x == a) = decide (a = x) := by rw [beqS, decide_eq_decide]; exact ⟨Eq.symm, Eq.symm⟩
  have e2 : (y == a) = decide (a = y) := by rw [beqS, decide_eq_decide]; exact ⟨Eq.symm, Eq.symm⟩
  unfold inD
  simp [flatD, PyData.eqv, e1, e2]
abbrev wNone : Str := Str.ofString "none"
abbrev wCall : Str := Str.ofString "call"
abbrev wAll : Str := Str.ofString "all"
abbrev wOne : Str := Str.ofString "one"
abbrev wWithin : Str := Str.ofString "within"
abbrev wCalls : Str := Str.ofString "calls"
theorem dw_none_none : decide (Str.ofString "none" = Str.ofString "none") = true := by decide +kernel
theorem dw_none_call : decide (Str.ofString "none" = Str.ofString "call") = false := by decide +kernel
theorem dw_none_all : decide (Str.ofString "none" = Str.ofString "all") = false := by decide +kernel
theorem dw_none_one : decide (Str.ofString "none" = Str.ofString "one") = false := by decide +kernel
theorem dw_none_within : decide (Str.ofString "none" = Str.ofString "within") = false := by decide +kernel
theorem dw_none_calls : decide (Str.ofString "none" = Str.ofString "calls") = false := by decide +kernel
theorem dw_call_none : decide (Str.ofString "call" = Str.ofString "none") = false := by decide +kernel
theorem dw_call_call : decide (Str.ofString "call" = Str.ofString "call") = true := by decide +kernel
theorem dw_call_all : decide (Str.ofString "call" = Str.ofString "all") = false := by decide +kernel
theorem dw_call_one : decide (Str.ofString "call" = Str.ofString "one") = false := by decide +kernel
theorem dw_call_within : decide (Str.ofString "call" = Str.ofString "within") = false := by decide +kernel
theorem dw_call_calls : decide (Str.ofString "call" = Str.ofString "calls") = false := by decide +kernel
theorem dw_all_none : decide (Str.ofString "all" = Str.ofString "none") = false := by decide +kernel
theorem dw_all_call : decide (Str.ofString "all" = Str.ofString "call") = false := by decide +kernel
theorem dw_all_all : decide (Str.ofString "all" = Str.ofString "all") = true := by decide +kernel
theorem dw_all_one : decide (Str.ofString "all" = Str.ofString "one") = false := by decide +kernel
theorem dw_all_within : decide (Str.ofString "all" = Str.ofString "within") = false := by decide +kernel
theorem dw_all_calls : decide (Str.ofString "all" = Str.ofString "calls") = false := by decide +kernel
theorem dw_one_none : decide (Str.ofString "one" = Str.ofString "none") = false := by decide +kernel
theorem dw_one_call : decide (Str.ofString "one" = Str.ofString "call") = false := by decide +kernel
theorem dw_one_all : decide (Str.ofString "one" = Str.ofString "all") = false := by decide +kernel
theorem dw_one_one : decide (Str.ofString "one" = Str.ofString "one") = true := by decide +kernel
theorem dw_one_within : decide (Str.ofString "one" = Str.ofString "within") = false := by decide +kernel
theorem dw_one_calls : decide (Str.ofString "one" = Str.ofString "calls") = false := by decide +kernel
theorem dw_within_none : decide (Str.ofString "within" = Str.ofString "none") = false := by decide +kernel
theorem dw_within_call : decide (Str.ofString "within" = Str.ofString "call") = false := by decide +kernel
theorem dw_within_all : decide (Str.ofString "within" = Str.ofString "all") = false := by decide +kernel
theorem dw_within_one : decide (Str.ofString "within" = Str.ofString "one") = false := by decide +kernel
theorem dw_within_within : decide (Str.ofString "within" = Str.ofString "within") = true := by decide +kernel
theorem dw_within_calls : decide (Str.ofString "within" = Str.ofString "calls") = false := by decide +kernel
theorem dw_calls_none : decide (Str.ofString "calls" = Str.ofString "none") = false := by decide +kernel
theorem dw_calls_call : decide (Str.ofString "calls" = Str.ofString "call") = false := by decide +kernel
theorem dw_calls_all : decide (Str.ofString "calls" = Str.ofString "all") = false := by decide +kernel
theorem dw_calls_one : decide (Str.ofString "calls" = Str.ofString "one") = false := by decide +kernel
theorem dw_calls_within : decide (Str.ofString "calls" = Str.ofString "within") = false := by decide +kernel
theorem dw_calls_calls : decide (Str.ofString "calls" = Str.ofString "calls") = true := by decide +kernel
theorem ew_none_none : eqD (.str (Str.ofString "none")) (.str (Str.ofString "none")) = some (.bool true) := by rw [eqS (strOkW _) (strOkW _), dw_none_none]
theorem ew_none_call : eqD (.str (Str.ofString "none")) (.str (Str.ofString "call")) = some (.bool false) := by rw [eqS (strOkW _) (strOkW _), dw_none_call]
theorem ew_none_all : eqD (.str (Str.ofString "none")) (.str (Str.ofString "all")) = some (.bool false) := by rw [eqS (strOkW _) (strOkW _), dw_none_all]
theorem ew_none_one : eqD (.str (Str.ofString "none")) (.str (Str.ofString "one")) = some (.bool false) := by rw [eqS (strOkW _) (strOkW _), dw_none_one]
theorem ew_none_within : eqD (.str (Str.ofString "none")) (.str (Str.ofString "within")) = some (.bool false) := by rw [eqS (strOkW _) (strOkW _), dw_none_within]
theorem ew_none_calls : eqD (.str (Str.ofString "none")) (.str (Str.ofString "calls")) = some (.bool false) := by rw [eqS (strOkW _) (strOkW _), dw_none_calls]
theorem ew_call_none : eqD (.str (Str.ofString "call")) (.str (Str.ofString "none")) = some (.bool false) := by rw [eqS (strOkW _) (strOkW _), dw_call_none]
theorem ew_call_call : eqD (.str (Str.ofString "call")) (.str (Str.ofString "call")) = some (.bool true) := by rw [eqS (strOkW _) (strOkW _), dw_call_call]
theorem ew_call_all : eqD (.str (Str.ofString "call")) (.str (Str.ofString "all")) = some (.bool false) := by rw [eqS (strOkW _) (strOkW _), dw_call_all]
theorem ew_call_one : eqD (.str (Str.ofString "call")) (.str (Str.ofString "one")) = some (.bool false) := by rw [eqS (strOkW _) (strOkW _), dw_call_one]
theorem ew_call_within : eqD (.str (Str.ofString "call")) (.str (Str.ofString "within")) = some (.bool false) := by rw [eqS (strOkW _) (strOkW _), dw_call_within]
theorem ew_call_calls : eqD (.str (Str.ofString "call")) (.str (Str.ofString "calls")) = some (.bool false) := by rw [eqS (strOkW _) (strOkW _), dw_call_calls]
theorem ew_all_none : eqD (.str (Str.ofString "all")) (.str (Str.ofString "none")) = some (.bool false) := by rw [eqS (strOkW _) (strOkW _), dw_all_none]
theorem ew_all_call : eqD (.str (Str.ofString "all")) (.str (Str.ofString "call")) = some (.bool false) := by rw [eqS (strOkW _) (strOkW _), dw_all_call]
theorem ew_all_all : eqD (.str (Str.ofString "all")) (.str (Str.ofString "all")) = some (.bool true) := by rw [eqS (strOkW _) (strOkW _), dw_all_all]
theorem ew_all_one : eqD (.str (Str.ofString "all")) (.str (Str.ofString "one")) = some (.bool false) := by rw [eqS (strOkW _) (strOkW _), dw_all_one]
theorem ew_all_within : eqD (.str (Str.ofString "all")) (.str (Str.ofString "within")) = some (.bool false) := by rw [eqS (strOkW _) (strOkW _), dw_all_within]
theorem ew_all_calls : eqD (.str (Str.ofString "all")) (.str (Str.ofString "calls")) = some (.bool false) := by rw [eqS (strOkW _) (strOkW _), dw_all_calls]
theorem ew_one_none : eqD (.str (Str.ofString "one")) (.str (Str.ofString "none")) = some (.bool false) := by rw [eqS (strOkW _) (strOkW _), dw_one_none]
theorem ew_one_call : eqD (.str (Str.ofString "one")) (.str (Str.ofString "call")) = some (.bool false) := by rw [eqS (strOkW _) (strOkW _), dw_one_call]
theorem ew_one_all : eqD (.str (Str.ofString "one")) (.str (Str.ofString "all")) = some (.bool false) := by rw [eqS (strOkW _) (strOkW _), dw_one_all]
theorem ew_one_one : eqD (.str (Str.ofString "one")) (.str (Str.ofString "one")) = some (.bool true) := by rw [eqS (strOkW _) (strOkW _), dw_one_one]
theorem ew_one_within : eqD (.str (Str.ofString "one")) (.str (Str.ofString "within")) = some (.bool false) := by rw [eqS (strOkW _) (strOkW _), dw_one_within]
theorem ew_one_calls : eqD (.str (Str.ofString "one")) (.str (Str.ofString "calls")) = some (.bool false) := by rw [eqS (strOkW _) (strOkW _), dw_one_calls]
theorem ew_within_none : eqD (.str (Str.ofString "within")) (.str (Str.ofString "none")) = some (.bool false) := by rw [eqS (strOkW _) (strOkW _), dw_within_none]
theorem ew_within_call : eqD (.str (Str.ofString "within")) (.str (Str.ofString "call")) = some (.bool false) := by rw [eqS (strOkW _) (strOkW _), dw_within_call]
theorem ew_within_all : eqD (.str (Str.ofString "within")) (.str (Str.ofString "all")) = some (.bool false) := by rw [eqS (strOkW _) (strOkW _), dw_within_all]
theorem ew_within_one : eqD (.str (Str.ofString "within")) (.str (Str.ofString "one")) = some (.bool false) := by rw [eqS (strOkW _) (strOkW _), dw_within_one]
theorem ew_within_within : eqD (.str (Str.ofString "within")) (.str (Str.ofString "within")) = some (.bool true) := by rw [eqS (strOkW _) (strOkW _), dw_within_within]
theorem ew_within_calls : eqD (.str (Str.ofString "within")) (.str (Str.ofString "calls")) = some (.bool false) := by rw [eqS (strOkW _) (strOkW _), dw_within_calls]
theorem ew_calls_none : eqD (.str (Str.ofString "calls")) (.str (Str.ofString "none")) = some (.bool false) := by rw [eqS (strOkW _) (strOkW _), dw_calls_none]
theorem ew_calls_call : eqD (.str (Str.ofString "calls")) (.str (Str.ofString "call")) = some (.bool false) := by rw [eqS (strOkW _) (strOkW _), dw_calls_call]
theorem ew_calls_all : eqD (.str (Str.ofString "calls")) (.str (Str.ofString "all")) = some (.bool false) := by rw [eqS (strOkW _) (strOkW _), dw_calls_all]
theorem ew_calls_one : eqD (.str (Str.ofString "calls")) (.str (Str.ofString "one")) = some (.bool false) := by rw [eqS (strOkW _) (strOkW _), dw_calls_one]
theorem ew_calls_within : eqD (.str (Str.ofString "calls")) (.str (Str.ofString "within")) = some (.bool false) := by rw [eqS (strOkW _) (strOkW _), dw_calls_within]
theorem ew_calls_calls : eqD (.str (Str.ofString "calls")) (.str (Str.ofString "calls")) = some (.bool true) := by rw [eqS (strOkW _) (strOkW _), dw_calls_calls]
theorem iw_none_all : inD (.str (Str.ofString "none")) (.tuple [.str (Str.ofString "all"), .str (Str.ofString "one")]) = some (.bool false) := by rw [inS2, dw_none_all, dw_none_one]; rfl
theorem iw_none_within : inD (.str (Str.ofString "none")) (.tuple [.str (Str.ofString "within"), .str (Str.ofString "calls")]) = some (.bool false) := by rw [inS2, dw_none_within, dw_none_calls]; rfl
theorem iw_call_all : inD (.str (Str.ofString "call")) (.tuple [.str (Str.ofString "all"), .str (Str.ofString "one")]) = some (.bool false) := by rw [inS2, dw_call_all, dw_call_one]; rfl
theorem iw_call_within : inD (.str (Str.ofString "call")) (.tuple [.str (Str.ofString "within"), .str (Str.ofString "calls")]) = some (.bool false) := by rw [inS2, dw_call_within, dw_call_calls]; rfl
theorem iw_all_all : inD (.str (Str.ofString "all")) (.tuple [.str (Str.ofString "all"), .str (Str.ofString "one")]) = some (.bool true) := by rw [inS2, dw_all_all, dw_all_one]; rfl
theorem iw_all_within : inD (.str (Str.ofString "all")) (.tuple [.str (Str.ofString "within"), .str (Str.ofString "calls")]) = some (.bool false) := by rw [inS2, dw_all_within, dw_all_calls]; rfl
theorem iw_one_all : inD (.str (Str.ofString "one")) (.tuple [.str (Str.ofString "all"), .str (Str.ofString "one")]) = some (.bool true) := by rw [inS2, dw_one_all, dw_one_one]; rfl
theorem iw_one_within : inD (.str (Str.ofString "one")) (.tuple [.str (Str.ofString "within"), .str (Str.ofString "calls")]) = some (.bool false) := by rw [inS2, dw_one_within, dw_one_calls]; rfl
theorem iw_within_all : inD (.str (Str.ofString "within")) (.tuple [.str (Str.ofString "all"), .str (Str.ofString "one")]) = some (.bool false) := by rw [inS2, dw_within_all, dw_within_one]; rfl
theorem iw_within_within : inD (.str (Str.ofString "within")) (.tuple [.str (Str.ofString "within"), .str (Str.ofString "calls")]) = some (.bool true) := by rw [inS2, dw_within_within, dw_within_calls]; rfl
theorem iw_calls_all : inD (.str (Str.ofString "calls")) (.tuple [.str (Str.ofString "all"), .str (Str.ofString "one")]) = some (.bool false) := by rw [inS2, dw_calls_all, dw_calls_one]; rfl
theorem iw_calls_within : inD (.str (Str.ofString "calls")) (.tuple [.str (Str.ofString "within"), .str (Str.ofString "calls")]) = some (.bool true) := by rw [inS2, dw_calls_within, dw_calls_calls]; rfl
end Lw
namespace Lw
open PySem L2 Bt
def isFl (l : Int) : D → Bool
  | .int i => decide (l ≤ i)
  | _ => false
theorem is_from_gen (l : Int) (d : D) (h : notX d = true) : s_is_from [.dat d, .dat (.int l)] = .ok (.dat (.bool (isFl l d))) [.dat d, .dat (.int l)] := by
  cases d with
  | dict _ => exact absurd h Bool.false_ne_true
  | int i => rw [is_from_int]; rfl
  | none => simp! [s_is_from, m_is_from, isFl]
  | bool b => simp! [s_is_from, m_is_from, isFl]
  | str b => simp! [s_is_from, m_is_from, isFl]
  | list b => simp! [s_is_from, m_is_from, isFl]
  | tuple b => simp! [s_is_from, m_is_from, isFl]
end Lw
namespace Lw
open PySem L2 Bt
end Lw
namespace Lw
open PySem L2 Bt
def lets : Str := Str.ofString "abcdefghijklmnopqrstuvwxyz"
def nameS (x : Str) : Bool := decide (1 ≤ x.length) && decide (x.length ≤ 8) && x.cps.toList.all fun c => decide (c ∈ lets.cps.toList)
theorem inSign (c : Nat) (z : Str) : inD (.str ⟨#[c]⟩) (.str z) = some (.bool (decide (c ∈ z.cps.toList))) := rfl
theorem at2' {α : Type} (a b c : α) (l : List α) : atI (a :: b :: c :: l) 2 = some c := by
  unfold atI ixN
  rw [if_pos (by omega), if_pos (by simp only [List.length_cons]; omega)]
  rfl
end Lw
namespace Bt
open PySem L2
section
variable {E : En}
end
end Bt
namespace Lw
open PySem L2 Bt
inductive Rt where
  | none
  | call (nm : Str) (most times : Int)
  | all (rs : List Rt)
  | one (rs : List Rt)
  | within (n : Int) (r : Rt)
  | calls (n : Int) (r : Rt)
mutual
theorem Rt.ind {P : Rt → Prop} (h0 : P .none) (h1 : ∀ x m t, P (.call x m t)) (h2 : ∀ rs, (∀ r ∈ rs, P r) → P (.all rs)) (h3 : ∀ rs, (∀ r ∈ rs, P r) → P (.one rs)) (h4 : ∀ n r, P r → P (.within n r)) (h5 : ∀ n r, P r → P (.calls n r)) : ∀ r, P r
  | .none => h0
  | .call x m t => h1 x m t
  | .all rs => h2 rs (Rt.inds h0 h1 h2 h3 h4 h5 rs)
  | .one rs => h3 rs (Rt.inds h0 h1 h2 h3 h4 h5 rs)
  | .within n r => h4 n r (Rt.ind h0 h1 h2 h3 h4 h5 r)
  | .calls n r => h5 n r (Rt.ind h0 h1 h2 h3 h4 h5 r)
theorem Rt.inds {P : Rt → Prop} (h0 : P .none) (h1 : ∀ x m t, P (.call x m t)) (h2 : ∀ rs, (∀ r ∈ rs, P r) → P (.all rs)) (h3 : ∀ rs, (∀ r ∈ rs, P r) → P (.one rs)) (h4 : ∀ n r, P r → P (.within n r)) (h5 : ∀ n r, P r → P (.calls n r)) : ∀ rs : List Rt, ∀ r ∈ rs, P r
  | [], _, h => nomatch h
  | q :: qs, r, h => by
    rcases List.mem_cons.mp h with e | h
    · rw [e]; exact Rt.ind h0 h1 h2 h3 h4 h5 q
    · exact Rt.inds h0 h1 h2 h3 h4 h5 qs r h
end
mutual
def encR : Rt → D
  | .none => .tuple [.str wNone]
  | .call x m t => .tuple [.str wCall, .str x, .int m, .int t]
  | .all rs => .tuple [.str wAll, .tuple (encRs rs)]
  | .one rs => .tuple [.str wOne, .tuple (encRs rs)]
  | .within n r => .tuple [.str wWithin, .int n, encR r]
  | .calls n r => .tuple [.str wCalls, .int n, encR r]
def encRs : List Rt → List D
  | [] => []
  | r :: rs => encR r :: encRs rs
end
theorem encRs_map : ∀ rs : List Rt, encRs rs = rs.map encR
  | [] => rfl
  | r :: rs => by rw [encRs, encRs_map rs, List.map_cons]
mutual
def dep : Rt → Nat
  | .none => 1
  | .call _ _ _ => 1
  | .all rs => 1 + deps rs
  | .one rs => 1 + deps rs
  | .within _ r => 1 + dep r
  | .calls _ r => 1 + dep r
def deps : List Rt → Nat
  | [] => 0
  | r :: rs => max (dep r) (deps rs)
end
theorem dep_mem {rs : List Rt} {r : Rt} (h : r ∈ rs) : dep r ≤ deps rs := by
  induction rs with
  | nil => cases h
  | cons q qs ih =>
    rw [deps]
    rcases List.mem_cons.mp h with rfl | h
    · exact Nat.le_max_left _ _
    · exact Nat.le_trans (ih h) (Nat.le_max_right _ _)
mutual
def wfR : Rt → Prop
  | .none => True
  | .call x m t => nameS x = true ∧ PyData.strOk x = true ∧ 1 ≤ m ∧ 1 ≤ t
  | .all rs => rs.length ≤ 1000 ∧ wfRs rs
  | .one rs => rs.length ≤ 1000 ∧ wfRs rs
  | .within n r => 1 ≤ n ∧ wfR r
  | .calls n r => 1 ≤ n ∧ wfR r
def wfRs : List Rt → Prop
  | [] => True
  | r :: rs => wfR r ∧ wfRs rs
end
theorem wf_mem {rs : List Rt} (h : wfRs rs) {r : Rt} (hr : r ∈ rs) : wfR r := by
  induction rs with
  | nil => cases hr
  | cons q qs ih =>
    rw [wfRs] at h
    rcases List.mem_cons.mp hr with rfl | hr
    · exact h.1
    · exact ih h.2 hr
theorem wfRs_of {rs : List Rt} (h : ∀ r ∈ rs, wfR r) : wfRs rs := by
  induction rs with
  | nil => trivial
  | cons q qs ih => exact ⟨h q List.mem_cons_self, ih fun r hr => h r (List.mem_cons_of_mem _ hr)⟩
theorem ok_none : PyData.strOk wNone = true ∧ wNone.length ≤ 1000 := ⟨strOkW _, by decide +kernel⟩
theorem ok_all : PyData.strOk wAll = true ∧ wAll.length ≤ 1000 := ⟨strOkW _, by decide +kernel⟩
end Lw
namespace Lw
open PySem L2 Bt
mutual
def callsR : Rt → List (Str × Int × Int)
  | .none => []
  | .call x m t => [(x, m, t)]
  | .all rs => callsRs rs
  | .one rs => callsRs rs
  | .within _ r => callsR r
  | .calls _ r => callsR r
def callsRs : List Rt → List (Str × Int × Int)
  | [] => []
  | r :: rs => callsR r ++ callsRs rs
end
theorem callsRs_flat : ∀ rs : List Rt, callsRs rs = rs.flatMap callsR
  | [] => rfl
  | r :: rs => by rw [callsRs, callsRs_flat rs, List.flatMap_cons]
def partsR : Rt → List Rt
  | .all rs => rs
  | .one rs => rs
  | .within _ r => [r]
  | .calls _ r => [r]
  | _ => []
theorem at3' {α : Type} (a b c d : α) (l : List α) : atI (a :: b :: c :: d :: l) 3 = some d := by
  unfold atI ixN
  rw [if_pos (by omega), if_pos (by simp only [List.length_cons]; omega)]
  rfl
theorem dep_parts {r q : Rt} (h : q ∈ partsR r) : dep q < dep r := by
  cases r <;> simp [partsR] at h
  · have := dep_mem h; rw [dep]; omega
  · have := dep_mem h; rw [dep]; omega
  · subst h; rw [dep]; omega
  · subst h; rw [dep]; omega
def namesR (r : Rt) : List Str := (callsR r).map (·.1)
end Lw
namespace Lw
open PySem L2 Bt
noncomputable def m_cut_at : M Fl := (mSeq (mRet (mIf (bnd (mOp isD (mR 1) (mD (ret .none))) asB) (mV 0) (mB minF (mCons (mR 0) (mCons (mD (mOp subD (mR 1) (mD (ret (.int 1))))) (ret [])))))) mNil)
noncomputable def s_cut_at : M Sl := mFn [] 0 m_cut_at
noncomputable def lc_longest_of_1 (ih : M Sl) : M D := (mLc (mIt (mOp ixD (mR 3) (mD (ret (.int 0))))) (gN 4) (ret true) (mCall ih [] (mCons (mR 4) (ret []))) [4])
noncomputable def m_longest_of (ih : M Sl) : M Fl := (mSeq (mSet (gStarM (gN 2) 3) (mV 0)) (mSeq (mIfS (bnd (mOp eqD (mR 2) (mD (ret (.str (Str.ofString "none"))))) asB) (mSeq (mRet (ret (.int 0))) mNil) mNil) (mSeq (mIfS (bnd (mOp eqD (mR 2) (mD (ret (.str (Str.ofString "call"))))) asB) (mSeq (mRet (mOp ixD (mR 3) (mD (ret (.int 2))))) mNil) mNil) (mSeq (mIfS (bnd (mOp inD (mR 2) (mD (mTup (mConsD (ret (.str (Str.ofString "within"))) (mConsD (ret (.str (Str.ofString "calls"))) (ret [])))))) asB) (mSeq (mRet (mB minF (mCons (mD (mOp ixD (mR 3) (mD (ret (.int 0))))) (mCons (mD (mCall ih [] (mCons (mD (mOp ixD (mR 3) (mD (ret (.int 1))))) (ret [])))) (ret []))))) mNil) mNil) (mSeq (mSet (gN 1) (lc_longest_of_1 ih)) (mSeq (mRet (mIf (bnd (mOp eqD (mR 2) (mD (ret (.str (Str.ofString "all"))))) asB) (mB sumF (mCons (mR 1) (ret []))) (mDfl maxDf (mR 1) (ret (.int 0))))) mNil))))))
noncomputable def s_longest_of : Nat → M Sl
  | 0 => stuck
  | n + 1 => mFn [1, 2, 3] 4 (m_longest_of (s_longest_of n))
theorem r_longest_of (n : Nat) : s_longest_of (n + 1) = mFn [1, 2, 3] 4 (m_longest_of (s_longest_of n)) := rfl
noncomputable def lc_shared_out_1 : M D := (mLc (mRng1 (mCons (mD (mOp addD (mR 3) (mD (ret (.int 1))))) (ret []))) (gN 4) (ret true) (mOp addD (mD (mOp ixD (mR 0) (mR 4))) (mD (mOp ixD (mR 1) (mD (mOp subD (mR 3) (mR 4)))))) [4])
noncomputable def lc_shared_out_2 : M D := (mLc (mRng1 (mCons (mD (mOp addD (mR 2) (mD (ret (.int 1))))) (ret []))) (gN 3) (ret true) (mB maxF (mCons (mD lc_shared_out_1) (ret []))) [3])
noncomputable def m_shared_out : M Fl := (mSeq (mRetS (mObj (mLstO (mAsL lc_shared_out_2)))) mNil)
noncomputable def s_shared_out : M Sl := mFn [] 2 m_shared_out
noncomputable def lc_row_of_1 (ih : M Sl) : M D := (mLc (mRng1 (mCons (mD (mOp addD (mR 2) (mD (ret (.int 1))))) (ret []))) (gN 8) (ret true) (mOp mulD (mD (mB minF (mCons (mD (mOp ixD (mR 7) (mD (ret (.int 2))))) (mCons (mR 8) (ret []))))) (mD (mCall s_cut_at [] (mCons (mD (mOp ixD (mR 7) (mD (ret (.int 1))))) (mCons (mR 1) (ret [])))))) [8])
noncomputable def lc_row_of_2 (ih : M Sl) : M D := (mLc (mIt (mCall ih [] (mCons (mD (mOp ixD (mR 7) (mD (ret (.int 1))))) (mCons (mR 1) (mCons (mR 2) (ret [])))))) (gN 3) (ret true) (mB minF (mCons (mD (mOp ixD (mR 7) (mD (ret (.int 0))))) (mCons (mR 3) (ret [])))) [3])
noncomputable def lc_row_of_3 (ih : M Sl) : M D := (mLc (mRng1 (mCons (mD (mOp addD (mR 2) (mD (ret (.int 1))))) (ret []))) (gN 8) (ret true) (mOp ixD (mR 3) (mD (mB minF (mCons (mR 8) (mCons (mD (mOp ixD (mR 7) (mD (ret (.int 0))))) (ret [])))))) [8])
noncomputable def lc_row_of_4 (ih : M Sl) : M D := (mLc (mZipE (mConsD (mV 3) (mConsD (mV 6) (ret [])))) (gN 9) (ret true) (mB maxTF (mCons (mR 9) (ret []))) [9])
noncomputable def lp_row_of_1 (ih : M Sl) : M Fl := (mSeq (mSet (gN 6) (mCall ih [] (mCons (mR 4) (mCons (mR 1) (mCons (mR 2) (ret [])))))) (mSeq (mIfS (bnd (mOp eqD (mR 5) (mD (ret (.str (Str.ofString "one"))))) asB) (mSeq (mSet (gN 3) (lc_row_of_4 ih)) mNil) (mSeq (mSet (gN 3) (mCall s_shared_out [] (mCons (mR 3) (mCons (mR 6) (mCons (mR 2) (ret [])))))) mNil)) mNil))
noncomputable def fr_row_of_1 (ih : M Sl) : M Fl := (mFor [4, 6] (mIt (mOp ixD (mR 7) (mD (ret (.int 0))))) (gN 4) (lp_row_of_1 ih))
noncomputable def m_row_of (ih : M Sl) : M Fl := (mSeq (mSet (gStarM (gN 5) 7) (mV 0)) (mSeq (mIfS (bnd (mOp eqD (mR 5) (mD (ret (.str (Str.ofString "none"))))) asB) (mSeq (mRet (mOp mulD (mD (mLst (mConsD (ret (.int 0)) (ret [])))) (mD (mOp addD (mR 2) (mD (ret (.int 1))))))) mNil) mNil) (mSeq (mIfS (bnd (mOp eqD (mR 5) (mD (ret (.str (Str.ofString "call"))))) asB) (mSeq (mRetS (mObj (mLstO (mAsL (lc_row_of_1 ih))))) mNil) mNil) (mSeq (mIfS (bnd (mOp eqD (mR 5) (mD (ret (.str (Str.ofString "within"))))) asB) (mSeq (mRetS (mObj (mLstO (mAsL (lc_row_of_2 ih))))) mNil) mNil) (mSeq (mIfS (bnd (mOp eqD (mR 5) (mD (ret (.str (Str.ofString "calls"))))) asB) (mSeq (mSet (gN 3) (mCall ih [] (mCons (mD (mOp ixD (mR 7) (mD (ret (.int 1))))) (mCons (mR 1) (mCons (mD (mB minF (mCons (mR 2) (mCons (mD (mOp ixD (mR 7) (mD (ret (.int 0))))) (ret []))))) (ret [])))))) (mSeq (mRetS (mObj (mLstO (mAsL (lc_row_of_3 ih))))) mNil)) mNil) (mSeq (mSet (gN 3) (mOp mulD (mD (mLst (mConsD (ret (.int 0)) (ret [])))) (mD (mOp addD (mR 2) (mD (ret (.int 1))))))) (mSeq (fr_row_of_1 ih) (mSeq (mRet (mV 3)) mNil))))))))
noncomputable def s_row_of : Nat → M Sl
  | 0 => stuck
  | n + 1 => mFn [3, 4, 5, 6, 7] 7 (m_row_of (s_row_of n))
theorem r_row_of (n : Nat) : s_row_of (n + 1) = mFn [3, 4, 5, 6, 7] 7 (m_row_of (s_row_of n)) := rfl
noncomputable def lc_most_of_1 (ih : M Sl) : M D := (mLc (mIt (mOp ixD (mR 4) (mD (ret (.int 0))))) (gN 5) (ret true) (mCall ih [] (mCons (mR 5) (mCons (mR 1) (ret [])))) [5])
noncomputable def m_most_of (ih : M Sl) : M Fl := (mSeq (mSet (gStarM (gN 3) 4) (mV 0)) (mSeq (mIfS (bnd (mOp eqD (mR 3) (mD (ret (.str (Str.ofString "none"))))) asB) (mSeq (mRet (ret (.int 0))) mNil) mNil) (mSeq (mIfS (bnd (mOp eqD (mR 3) (mD (ret (.str (Str.ofString "call"))))) asB) (mSeq (mRet (mOp mulD (mD (mOp ixD (mR 4) (mD (ret (.int 2))))) (mD (mCall s_cut_at [] (mCons (mD (mOp ixD (mR 4) (mD (ret (.int 1))))) (mCons (mR 1) (ret []))))))) mNil) mNil) (mSeq (mIfS (bnd (mOp eqD (mR 3) (mD (ret (.str (Str.ofString "within"))))) asB) (mSeq (mRet (mB minF (mCons (mD (mOp ixD (mR 4) (mD (ret (.int 0))))) (mCons (mD (mCall ih [] (mCons (mD (mOp ixD (mR 4) (mD (ret (.int 1))))) (mCons (mR 1) (ret []))))) (ret []))))) mNil) mNil) (mSeq (mIfS (bnd (mOp eqD (mR 3) (mD (ret (.str (Str.ofString "calls"))))) asB) (mSeq (mRet (mOp ixD (mD (mCall (s_row_of 30) [] (mCons (mD (mOp ixD (mR 4) (mD (ret (.int 1))))) (mCons (mR 1) (mCons (mD (mB minF (mCons (mD (mOp ixD (mR 4) (mD (ret (.int 0))))) (mCons (mD (mCall (s_longest_of 30) [] (mCons (mD (mOp ixD (mR 4) (mD (ret (.int 1))))) (ret [])))) (ret []))))) (ret [])))))) (mD (mNeg (mD (ret (.int 1))))))) mNil) mNil) (mSeq (mSet (gN 2) (lc_most_of_1 ih)) (mSeq (mRet (mIf (bnd (mOp eqD (mR 3) (mD (ret (.str (Str.ofString "all"))))) asB) (mB sumF (mCons (mR 2) (ret []))) (mDfl maxDf (mR 2) (ret (.int 0))))) mNil)))))))
noncomputable def s_most_of : Nat → M Sl
  | 0 => stuck
  | n + 1 => mFn [2, 3, 4] 4 (m_most_of (s_most_of n))
theorem r_most_of (n : Nat) : s_most_of (n + 1) = mFn [2, 3, 4] 4 (m_most_of (s_most_of n)) := rfl
end Lw
namespace Lw
open PySem L2 Bt
def cutI (m : Int) : Option Int → Int
  | none => m
  | some b => min m (b - 1)
def encB : Option Int → D
  | none => .none
  | some b => .int b
mutual
def lenR : Rt → Int
  | .none => 0
  | .call _ _ t => t
  | .all rs => lenSum rs
  | .one rs => lenMax rs
  | .within n r => min n (lenR r)
  | .calls n r => min n (lenR r)
def lenSum : List Rt → Int
  | [] => 0
  | r :: rs => lenR r + lenSum rs
def lenMax : List Rt → Int
  | [] => 0
  | r :: rs => max (lenR r) (lenMax rs)
end
theorem lenSum_eq : ∀ rs : List Rt, lenSum rs = (rs.map lenR).sum
  | [] => rfl
  | r :: rs => by rw [lenSum, lenSum_eq rs, List.map_cons, List.sum_cons]
def max0 : List Int → Int
  | [] => 0
  | x :: xs => max x (max0 xs)
theorem lenMax_eq : ∀ rs : List Rt, lenMax rs = max0 (rs.map lenR)
  | [] => rfl
  | r :: rs => by rw [lenMax, lenMax_eq rs, List.map_cons, max0]
theorem max0_nn : ∀ {l : List Int}, 0 ≤ max0 l
  | [] => Int.le_refl _
  | x :: xs => by rw [max0]; exact Int.le_trans (max0_nn (l := xs)) (Int.le_max_right _ _)
theorem maxL_max0 : ∀ {l : List Int}, (∀ x ∈ l, 0 ≤ x) → l ≠ [] → maxL l = max0 l
  | [], _, h => absurd rfl h
  | [x], h, _ => by
    have := h x List.mem_cons_self
    show x = max x 0
    omega
  | x :: y :: r, h, _ => by
    show max x (maxL (y :: r)) = max x (max0 (y :: r))
    rw [maxL_max0 (fun z hz => h z (List.mem_cons_of_mem _ hz)) (List.cons_ne_nil _ _)]
theorem maxD_0 {l : List Int} (h : ∀ x ∈ l, 0 ≤ x) : maxDf (.list (l.map .int)) (.int 0) = some (.int (max0 l)) := by
  unfold maxDf
  simp only [intsOf_map]
  cases l with
  | nil => rfl
  | cons x xs =>
    show some (PyData.int (maxL (x :: xs))) = _
    rw [maxL_max0 h (List.cons_ne_nil _ _)]
theorem max0_le {l : List Int} {m : Int} (h : ∀ x ∈ l, x ≤ m) (hm : 0 ≤ m) : max0 l ≤ m := by
  induction l with
  | nil => exact hm
  | cons x xs ih =>
    rw [max0]
    have := h x List.mem_cons_self
    have := ih fun y hy => h y (List.mem_cons_of_mem _ hy)
    omega
theorem le_max0 {l : List Int} {x : Int} (h : x ∈ l) : x ≤ max0 l := by
  induction l with
  | nil => cases h
  | cons y ys ih =>
    rw [max0]
    rcases List.mem_cons.mp h with rfl | h
    · omega
    · have := ih h; omega
theorem sum_nn {l : List Int} (h : ∀ x ∈ l, 0 ≤ x) : 0 ≤ l.sum := by
  induction l with
  | nil => simp
  | cons x xs ih =>
    rw [List.sum_cons]
    have := h x List.mem_cons_self
    have := ih fun y hy => h y (List.mem_cons_of_mem _ hy)
    omega
theorem len_nn (r : Rt) : wfR r → 0 ≤ lenR r := by
  induction r using Rt.ind with
  | h0 => intro _; simp [lenR]
  | h1 x m t => intro h; simp only [wfR] at h; simp only [lenR]; omega
  | h2 rs ih => intro h; simp only [wfR] at h; rw [lenR, lenSum_eq]; exact sum_nn fun x hx => by obtain ⟨r, hr, rfl⟩ := List.mem_map.mp hx; exact ih r hr (wf_mem h.2 hr)
  | h3 rs ih => intro h; rw [lenR, lenMax_eq]; exact max0_nn
  | h4 n r ih => intro h; simp only [wfR] at h; have := ih h.2; simp only [lenR]; omega
  | h5 n r ih => intro h; simp only [wfR] at h; have := ih h.2; simp only [lenR]; omega
theorem wf_len {rs : List Rt} (h : rs.length ≤ 1000) : rs.length ≤ LIM := Nat.le_trans h (by decide)
theorem longest_ok : ∀ (n : Nat) (r : Rt), dep r ≤ n → wfR r → s_longest_of n [.dat (encR r)] = .ok (.dat (.int (lenR r))) [.dat (encR r)] := by
  intro n
  induction n with
  | zero => intro r h; cases r <;> simp [dep] at h
  | succ n ih =>
    intro r hd hw
    rw [r_longest_of]
    cases r with
    | none => simp! [m_longest_of, encR, lenR, gStarM, gN, ew_none_none, ew_none_call, ew_none_all, ew_none_one, ew_none_within, ew_none_calls, ew_call_none, ew_call_call, ew_call_all, ew_call_one, ew_call_within, ew_call_calls, ew_all_none, ew_all_call, ew_all_all, ew_all_one, ew_all_within, ew_all_calls, ew_one_none, ew_one_call, ew_one_all, ew_one_one, ew_one_within, ew_one_calls, ew_within_none, ew_within_call, ew_within_all, ew_within_one, ew_within_within, ew_within_calls, ew_calls_none, ew_calls_call, ew_calls_all, ew_calls_one, ew_calls_within, ew_calls_calls, iw_none_all, iw_none_within, iw_call_all, iw_call_within, iw_all_all, iw_all_within, iw_one_all, iw_one_within, iw_within_all, iw_within_within, iw_calls_all, iw_calls_within]
    | call x m t => simp! [m_longest_of, encR, lenR, gStarM, gN, at2', ew_none_none, ew_none_call, ew_none_all, ew_none_one, ew_none_within, ew_none_calls, ew_call_none, ew_call_call, ew_call_all, ew_call_one, ew_call_within, ew_call_calls, ew_all_none, ew_all_call, ew_all_all, ew_all_one, ew_all_within, ew_all_calls, ew_one_none, ew_one_call, ew_one_all, ew_one_one, ew_one_within, ew_one_calls, ew_within_none, ew_within_call, ew_within_all, ew_within_one, ew_within_within, ew_within_calls, ew_calls_none, ew_calls_call, ew_calls_all, ew_calls_one, ew_calls_within, ew_calls_calls, iw_none_all, iw_none_within, iw_call_all, iw_call_within, iw_all_all, iw_all_within, iw_one_all, iw_one_within, iw_within_all, iw_within_within, iw_calls_all, iw_calls_within]
    | within k q =>
      simp only [dep] at hd
      simp only [wfR] at hw
      simp! [m_longest_of, encR, lenR, gStarM, gN, at0, at1, ih q (by omega) hw.2, ew_none_none, ew_none_call, ew_none_all, ew_none_one, ew_none_within, ew_none_calls, ew_call_none, ew_call_call, ew_call_all, ew_call_one, ew_call_within, ew_call_calls, ew_all_none, ew_all_call, ew_all_all, ew_all_one, ew_all_within, ew_all_calls, ew_one_none, ew_one_call, ew_one_all, ew_one_one, ew_one_within, ew_one_calls, ew_within_none, ew_within_call, ew_within_all, ew_within_one, ew_within_within, ew_within_calls, ew_calls_none, ew_calls_call, ew_calls_all, ew_calls_one, ew_calls_within, ew_calls_calls, iw_none_all, iw_none_within, iw_call_all, iw_call_within, iw_all_all, iw_all_within, iw_one_all, iw_one_within, iw_within_all, iw_within_within, iw_calls_all, iw_calls_within]
    | calls k q =>
      simp only [dep] at hd
      simp only [wfR] at hw
      simp! [m_longest_of, encR, lenR, gStarM, gN, at0, at1, ih q (by omega) hw.2, ew_none_none, ew_none_call, ew_none_all, ew_none_one, ew_none_within, ew_none_calls, ew_call_none, ew_call_call, ew_call_all, ew_call_one, ew_call_within, ew_call_calls, ew_all_none, ew_all_call, ew_all_all, ew_all_one, ew_all_within, ew_all_calls, ew_one_none, ew_one_call, ew_one_all, ew_one_one, ew_one_within, ew_one_calls, ew_within_none, ew_within_call, ew_within_all, ew_within_one, ew_within_within, ew_within_calls, ew_calls_none, ew_calls_call, ew_calls_all, ew_calls_one, ew_calls_within, ew_calls_calls, iw_none_all, iw_none_within, iw_call_all, iw_call_within, iw_all_all, iw_all_within, iw_one_all, iw_one_within, iw_within_all, iw_within_within, iw_calls_all, iw_calls_within]
    | all rs =>
      simp only [dep] at hd
      simp only [wfR] at hw
      have e : lc_longest_of_1 (s_longest_of n) [.dat (.tuple [.str wAll, .tuple (rs.map encR)]), .un, .dat (.str wAll), .dat (.list [.tuple (rs.map encR)]), .un] = .ok (.list (rs.map fun r => .int (lenR r))) [.dat (.tuple [.str wAll, .tuple (rs.map encR)]), .un, .dat (.str wAll), .dat (.list [.tuple (rs.map encR)]), .un] := by
        unfold lc_longest_of_1
        exact lc_map rs encR _ (by simp! [at0, itemsOf]) (by simp) (fun q hq => by simp! [elF, wipeE, gN, ih q (by have := dep_mem hq; omega) (wf_mem hw.2 hq)]) (wf_len hw.1)
      simp! [m_longest_of, encR, lenR, gStarM, gN, at0, e, encRs_map, sumF_map, lenSum_eq, ew_none_none, ew_none_call, ew_none_all, ew_none_one, ew_none_within, ew_none_calls, ew_call_none, ew_call_call, ew_call_all, ew_call_one, ew_call_within, ew_call_calls, ew_all_none, ew_all_call, ew_all_all, ew_all_one, ew_all_within, ew_all_calls, ew_one_none, ew_one_call, ew_one_all, ew_one_one, ew_one_within, ew_one_calls, ew_within_none, ew_within_call, ew_within_all, ew_within_one, ew_within_within, ew_within_calls, ew_calls_none, ew_calls_call, ew_calls_all, ew_calls_one, ew_calls_within, ew_calls_calls, iw_none_all, iw_none_within, iw_call_all, iw_call_within, iw_all_all, iw_all_within, iw_one_all, iw_one_within, iw_within_all, iw_within_within, iw_calls_all, iw_calls_within]
    | one rs =>
      simp only [dep] at hd
      simp only [wfR] at hw
      have e : lc_longest_of_1 (s_longest_of n) [.dat (.tuple [.str wOne, .tuple (rs.map encR)]), .un, .dat (.str wOne), .dat (.list [.tuple (rs.map encR)]), .un] = .ok (.list (rs.map fun r => .int (lenR r))) [.dat (.tuple [.str wOne, .tuple (rs.map encR)]), .un, .dat (.str wOne), .dat (.list [.tuple (rs.map encR)]), .un] := by
        unfold lc_longest_of_1
        exact lc_map rs encR _ (by simp! [at0, itemsOf]) (by simp) (fun q hq => by simp! [elF, wipeE, gN, ih q (by have := dep_mem hq; omega) (wf_mem hw.2 hq)]) (wf_len hw.1)
      have e2 : maxDf (.list (rs.map fun r => .int (lenR r))) (.int 0) = some (.int (lenMax rs)) := by
        rw [lenMax_eq, ← maxD_0 (fun x hx => by obtain ⟨r, hr, rfl⟩ := List.mem_map.mp hx; exact len_nn r (wf_mem hw.2 hr)), List.map_map]
        rfl
      simp! [m_longest_of, encR, lenR, gStarM, gN, at0, e, e2, encRs_map, ew_none_none, ew_none_call, ew_none_all, ew_none_one, ew_none_within, ew_none_calls, ew_call_none, ew_call_call, ew_call_all, ew_call_one, ew_call_within, ew_call_calls, ew_all_none, ew_all_call, ew_all_all, ew_all_one, ew_all_within, ew_all_calls, ew_one_none, ew_one_call, ew_one_all, ew_one_one, ew_one_within, ew_one_calls, ew_within_none, ew_within_call, ew_within_all, ew_within_one, ew_within_within, ew_within_calls, ew_calls_none, ew_calls_call, ew_calls_all, ew_calls_one, ew_calls_within, ew_calls_calls, iw_none_all, iw_none_within, iw_call_all, iw_call_within, iw_all_all, iw_all_within, iw_one_all, iw_one_within, iw_within_all, iw_within_within, iw_calls_all, iw_calls_within]
end Lw
namespace Lw
open PySem L2 Bt
def lb (b : Option Int) (w t : Int) : Option Int := match b with
  | none => if w - 1 ≤ t then none else some t
  | some c => if c ≤ w then some t else some ((c - 1) * (t / (w - 1)) + t % (w - 1))
structure BOk (b : Option Int) : Prop where
  lo : ∀ c, b = some c → 1 ≤ c
  hi : ∀ c, b = some c → c ≤ 10 ^ 13
def lfA (p : Pile) (a : Int) : Pile := (p.filter fun q => decide (1 < q.1)).map fun q => (q.1, L p q.1 - min a (q.1 - 1))
theorem lfA_mem {p : Pile} (h : Gd p) {a : Int} (ha : 0 ≤ a) {x : Int × Int} (hx : x ∈ lfA p a) : 2 ≤ x.1 ∧ x.1 ≤ 10 ^ 13 ∧ x.2 = L p x.1 - min a (x.1 - 1) ∧ x.2 ≤ 10 ^ 29 := by
  unfold lfA at hx
  obtain ⟨q, hq, rfl⟩ := List.mem_map.mp hx
  obtain ⟨h1, h2⟩ := List.mem_filter.mp hq
  simp at h2
  have := L_le h q.1
  have := S_b h
  have := h.w2 q h1
  exact ⟨by show 2 ≤ q.1; omega, this, rfl, by show L p q.1 - min a (q.1 - 1) ≤ 10 ^ 29; omega⟩
def bad (p : Pile) (a : Int) : Bool := decide (S p - a < 0) || (lfA p a).any fun x => decide (x.2 < 0)
def bndL (p : Pile) (a : Int) (b : Option Int) : List Int := ((lfA p a).map fun x => lb b x.1 x.2).filterMap id
def lsum (p : Pile) (a : Int) (b : Option Int) : Option Int := if bad p a = true then none else if b = some 1 then some 0 else some (minL ((S p - a) :: bndL p a b))
def Holds (o : Option Int) (t : Int) : Prop := ∀ x, o = some x → t ≤ x
theorem minL_le_iff {n : Int} : ∀ {ns : List Int}, ns ≠ [] → (n ≤ minL ns ↔ ∀ y ∈ ns, n ≤ y) := fun {ns} hn => ⟨fun h y hy => Int.le_trans h (minL_le hy), fun h => h _ (minL_mem hn)⟩
theorem lsum_iff {p : Pile} {a : Int} {b : Option Int} {x : Int} (hb : b ≠ some 1) (e : lsum p a b = some x) (t : Int) : t ≤ x ↔ t ≤ S p - a ∧ ∀ x ∈ lfA p a, Holds (lb b x.1 x.2) t := by
  unfold lsum at e
  by_cases zb : bad p a = true
  · rw [if_pos zb] at e; cases e
  · rw [if_neg zb, if_neg hb] at e
    rw [← Option.some.inj e, minL_le_iff (List.cons_ne_nil _ _)]
    constructor
    · intro h
      refine ⟨h _ List.mem_cons_self, fun x hx y e => h y (List.mem_cons_of_mem _ (List.mem_filterMap.mpr ⟨some y, ?_, rfl⟩))⟩
      rw [← e]
      exact List.mem_map.mpr ⟨x, hx, rfl⟩
    · intro h y hy
      rcases List.mem_cons.mp hy with rfl | hy
      · exact h.1
      · obtain ⟨o, ho, e⟩ := List.mem_filterMap.mp hy
        obtain ⟨x, hx, rfl⟩ := List.mem_map.mp ho
        exact h.2 x hx y e
def cut (b : Option Int) (t w : Int) : Int := match b with
  | some c => if 1 < c then (t / (c - 1)) * min (c - 1) (w - 1) + 1 * min (t % (c - 1)) (w - 1) else 1 * min t (w - 1)
  | none => 1 * min t (w - 1)
theorem lin_lt {a q m : Int} (hm : 0 < m) (h : q < a) : q * m + m ≤ a * m := by
  have : (q + 1) * m ≤ a * m := Int.mul_le_mul_of_nonneg_right (by omega) (by omega)
  rw [Int.add_mul, Int.one_mul] at this
  exact this
theorem cut_iff {b : Option Int} (hb : BOk b) (h1 : b ≠ some 1) {t w l : Int} (ht : 0 ≤ t) (hw : 2 ≤ w) (hl : 0 ≤ l) : cut b t w ≤ l ↔ Holds (lb b w l) t := by
  cases b with
  | none =>
    show 1 * min t (w - 1) ≤ l ↔ Holds (if w - 1 ≤ l then none else some l) t
    by_cases z : w - 1 ≤ l
    · rw [if_pos z]
      exact ⟨fun _ x e => (nomatch e), fun _ => by omega⟩
    · rw [if_neg z]
      exact ⟨fun h x e => by cases e; omega, fun h => by have := h l rfl; omega⟩
  | some c =>
    have hc1 := hb.lo c rfl
    have hc : 2 ≤ c := by
      have : c ≠ 1 := fun e => h1 (by rw [e])
      omega
    show (if 1 < c then (t / (c - 1)) * min (c - 1) (w - 1) + 1 * min (t % (c - 1)) (w - 1) else 1 * min t (w - 1)) ≤ l ↔ Holds (if c ≤ w then some l else some ((c - 1) * (l / (w - 1)) + l % (w - 1))) t
    rw [if_pos (by omega)]
    have e1 : t = (c - 1) * (t / (c - 1)) + t % (c - 1) := (Int.mul_ediv_add_emod t (c - 1)).symm
    have r0 : 0 ≤ t % (c - 1) := Int.emod_nonneg _ (by omega)
    have r1 : t % (c - 1) < c - 1 := Int.emod_lt_of_pos _ (by omega)
    have q0 : 0 ≤ t / (c - 1) := Int.ediv_nonneg ht (by omega)
    generalize hq : t / (c - 1) = q at *
    generalize hr : t % (c - 1) = r at *
    by_cases z : c ≤ w
    · rw [if_pos z, Int.min_eq_left (show c - 1 ≤ w - 1 by omega), Int.min_eq_left (show r ≤ w - 1 by omega)]
      have e2 : q * (c - 1) = (c - 1) * q := Int.mul_comm _ _
      exact ⟨fun h x e => by cases e; omega, fun h => by have := h l rfl; omega⟩
    · rw [if_neg z, Int.min_eq_right (show w - 1 ≤ c - 1 by omega)]
      have e2 : l = (w - 1) * (l / (w - 1)) + l % (w - 1) := (Int.mul_ediv_add_emod l (w - 1)).symm
      have s0 : 0 ≤ l % (w - 1) := Int.emod_nonneg _ (by omega)
      have s1 : l % (w - 1) < w - 1 := Int.emod_lt_of_pos _ (by omega)
      generalize ha : l / (w - 1) = a at *
      generalize hs : l % (w - 1) = s at *
      have c1 : (c - 1) * q = q * (c - 1) := Int.mul_comm _ _
      have c2 : (c - 1) * a = a * (c - 1) := Int.mul_comm _ _
      have c3 : (w - 1) * a = a * (w - 1) := Int.mul_comm _ _
      rcases Int.lt_trichotomy q a with h | h | h
      · have k1 := lin_lt (m := c - 1) (by omega) h
        have k2 := lin_lt (m := w - 1) (by omega) h
        exact ⟨fun _ x e => by cases e; omega, fun _ => by omega⟩
      · subst h
        exact ⟨fun h x e => by cases e; omega, fun h => by have := h _ rfl; omega⟩
      · have k1 := lin_lt (m := c - 1) (by omega) h
        have k2 := lin_lt (m := w - 1) (by omega) h
        exact ⟨fun h2 x e => by cases e; omega, fun h2 => by have := h2 _ rfl; omega⟩
end Lw
namespace Lw
open PySem L2 Bt
def conv (f g : Nat → Int) : Nat → Int := fun j => maxL ((List.range (j + 1)).map fun i => f i + g (j - i))
def pmax (f g : Nat → Int) : Nat → Int := fun j => max (f j) (g j)
mutual
def rowF (b : Option Int) : Rt → Nat → Int
  | .none => fun _ => 0
  | .call _ m t => fun j => min t j * cutI m b
  | .all rs => rowAll b rs fun _ => 0
  | .one rs => rowOne b rs fun _ => 0
  | .within n r => fun j => min n (rowF b r j)
  | .calls n r => fun j => rowF b r (min j n.toNat)
def rowAll (b : Option Int) : List Rt → (Nat → Int) → Nat → Int
  | [], f => f
  | r :: rs, f => rowAll b rs (conv f (rowF b r))
def rowOne (b : Option Int) : List Rt → (Nat → Int) → Nat → Int
  | [], f => f
  | r :: rs, f => rowOne b rs (pmax f (rowF b r))
end
theorem rowAll_eq (b : Option Int) : ∀ (rs : List Rt) (f : Nat → Int), rowAll b rs f = rs.foldl (fun f r => conv f (rowF b r)) f
  | [], f => by rw [rowAll]; rfl
  | r :: rs, f => by rw [rowAll, rowAll_eq b rs, List.foldl_cons]
theorem rowOne_eq (b : Option Int) : ∀ (rs : List Rt) (f : Nat → Int), rowOne b rs f = rs.foldl (fun f r => pmax f (rowF b r)) f
  | [], f => by rw [rowOne]; rfl
  | r :: rs, f => by rw [rowOne, rowOne_eq b rs, List.foldl_cons]
def rowL (f : Nat → Int) (c : Nat) : List D := (List.range (c + 1)).map fun j => .int (f j)
def BdR (r : Rt) : Prop := ∀ q ∈ callsR r, q.2.1 ≤ 10 ^ 100 ∧ q.2.2 ≤ 10 ^ 100
def BdB : Option Int → Prop
  | none => True
  | some b => -(10 ^ 100) ≤ b ∧ b ≤ 10 ^ 100
theorem bd_all {rs : List Rt} (h : BdR (.all rs)) {r : Rt} (hr : r ∈ rs) : BdR r := fun q hq => h q (by rw [callsR, callsRs_flat]; exact List.mem_flatMap.mpr ⟨r, hr, hq⟩)
theorem bd_one {rs : List Rt} (h : BdR (.one rs)) {r : Rt} (hr : r ∈ rs) : BdR r := fun q hq => h q (by rw [callsR, callsRs_flat]; exact List.mem_flatMap.mpr ⟨r, hr, hq⟩)
theorem rangeN (c : Nat) : rangeD 0 ((c : Int) + 1) = (List.range (c + 1)).map fun (j : Nat) => .int (j : Int) := by
  unfold rangeD
  rw [show ((c : Int) + 1 - 0).toNat = c + 1 by omega]
  simp
theorem rgN (c : Nat) (h : c ≤ 100000) : rgOk ((c : Int) + 1) = true := rgOk_iff.mpr ⟨by omega, by omega⟩
theorem cut_ok (m : Int) (b : Option Int) : s_cut_at [.dat (.int m), .dat (encB b)] = .ok (.dat (.int (cutI m b))) [.dat (.int m), .dat (encB b)] := by
  cases b <;> simp! [s_cut_at, m_cut_at, encB, cutI]
theorem atN {l : List D} {i : Nat} (h : i < l.length) : atI l (i : Int) = l[i]? := by
  unfold atI ixN
  rw [if_pos (by omega), if_pos (by omega)]
  rfl
theorem row_at {f : Nat → Int} {c i : Nat} (h : i ≤ c) : atI (rowL f c) (i : Int) = some (.int (f i)) := by
  unfold rowL
  rw [atN (by simp; omega), List.getElem?_map, List.getElem?_range (by omega)]
  rfl
theorem row_len (f : Nat → Int) (c : Nat) : (rowL f c).length = c + 1 := by unfold rowL; simp
theorem maxF_map {α : Type} (f : α → Int) (p : List α) (h : p ≠ []) : maxF [.list (p.map fun q => .int (f q))] = some (.int (maxL (p.map f))) := by
  have e : intsOf (p.map fun q => PyData.int (f q)) = some (p.map f) := by
    rw [show (p.map fun q => PyData.int (f q)) = (p.map f).map .int by rw [List.map_map]; rfl, intsOf_map]
  cases p with
  | nil => exact absurd rfl h
  | cons a as =>
    show (match intsOf ((a :: as).map fun q => PyData.int (f q)) with | some (n :: ns) => some (PyData.int (maxL (n :: ns))) | _ => none) = _
    rw [e]
    rfl
theorem shared_ok (f g : Nat → Int) (c : Nat) (hc : c ≤ 10000) : s_shared_out [.dat (.list (rowL f c)), .dat (.list (rowL g c)), .dat (.int (c : Nat))] = .ok ((.ow (.l (rowL (conv f g) c)))) [.dat (.list (rowL f c)), .dat (.list (rowL g c)), .dat (.int (c : Nat))] := by
  have e1 : ∀ j, j ≤ c → lc_shared_out_1 [.dat (.list (rowL f c)), .dat (.list (rowL g c)), .dat (.int (c : Nat)), .dat (.int (j : Nat)), .un] = .ok (.list ((List.range (j + 1)).map fun i => .int (f i + g (j - i)))) [.dat (.list (rowL f c)), .dat (.list (rowL g c)), .dat (.int (c : Nat)), .dat (.int (j : Nat)), .un] := by
    intro j hj
    unfold lc_shared_out_1
    refine lc_map (List.range (j + 1)) (fun i => .int (i : Nat)) _ (by simp! [rgN j (by omega), rangeN]) (by simp) (fun i hi => ?_) (by rw [List.length_range]; exact Nat.le_trans (by omega : j + 1 ≤ 100000) (Nat.le_refl _))
    have hi' : i ≤ j := by have := List.mem_range.mp hi; omega
    have e2 : ((j : Int) - (i : Int)) = ((j - i : Nat) : Int) := by omega
    simp! [elF, wipeE, gN, row_at (f := f) (show i ≤ c by omega), e2, row_at (f := g) (show j - i ≤ c by omega)]
  have e : lc_shared_out_2 [.dat (.list (rowL f c)), .dat (.list (rowL g c)), .dat (.int (c : Nat)), .un, .un] = .ok (.list (rowL (conv f g) c)) [.dat (.list (rowL f c)), .dat (.list (rowL g c)), .dat (.int (c : Nat)), .un, .un] := by
    unfold lc_shared_out_2 rowL
    refine lc_map (List.range (c + 1)) (fun i => .int (i : Nat)) _ (by simp! [rgN c (by omega), rangeN]) (by simp) (fun j hj => ?_) (by rw [List.length_range]; exact Nat.le_trans (by omega : c + 1 ≤ 100000) (Nat.le_refl _))
    have hj' : j ≤ c := by have := List.mem_range.mp hj; omega
    have e2 := e1 j hj'
    have e3 : maxF [.list ((List.range (j + 1)).map fun i => .int (f i + g (j - i)))] = some (.int (conv f g j)) := maxF_map (fun i => f i + g (j - i)) _ (by simp)
    unfold rowL at e2
    simp [elF, wipeE, gN, Bt.a_bnd, Bt.a_ret, Bt.a_stuck, Bt.a_liftS, Bt.a_liftN, Bt.a_mOp, Bt.a_mOpF, Bt.a_mChain, Bt.a_mD, Bt.a_mR, Bt.a_mV, Bt.a_mFrz, Bt.a_rsvD, Bt.a_rsvR, Bt.a_rsvs0, Bt.a_rsvs1, Bt.a_mCons, Bt.a_mConsD, Bt.a_mTup, Bt.a_mLst, Bt.a_mLstF, Bt.a_mIf, Bt.a_mIfS, Bt.a_ite, Bt.a_mAnd, Bt.a_mOr, Bt.a_mNot, Bt.a_mAndV, Bt.a_mOrV, Bt.a_mNotV, Bt.a_asB, Bt.a_mNeg, Bt.a_mB, Bt.a_mBF, Bt.a_mIsi, Bt.a_mCall, Bt.a_mCallK, Bt.a_mCallO, Bt.a_mCallKO, Bt.a_mCallB, Bt.a_thawD, Bt.a_thawL, Bt.a_mRetS, Bt.a_mDat, Bt.a_mObj, Bt.a_mLstO, Bt.a_mSetS, Bt.a_mGive, Bt.a_mAsL, Bt.a_asL, Bt.a_mRev, Bt.a_mDfl, Bt.a_mRng3, Bt.a_mPutAug, Bt.a_mPop, Bt.a_mSeq, Bt.a_mNil, Bt.a_mRet, Bt.a_mExpr, Bt.a_mSet, Bt.a_gN, Bt.a_gTup, Bt.a_gCons, Bt.a_gNil, Bt.a_mItL, Bt.a_mItT, Bt.a_mIt, Bt.a_mPart0, Bt.a_mPart1, Bt.a_mSl, Bt.a_mOwn, Bt.a_mApp, Bt.a_mPut, Bt.a_mAug, Bt.a_mRng1, Bt.a_mRng2, Bt.a_mZip, Bt.a_mEnum, Bt.a_mFor, Bt.a_mFn, Bt.a_mLenScr, Bt.a_mIxScr, Bt.a_mDGet, Bt.a_mDGet2, Bt.a_mDIn, Bt.a_mDPut, Bt.a_mDAug, Bt.a_mOwnO, Bt.a_mDict, Bt.a_mDNew, Bt.a_mSortD, Bt.a_mRaise0, Bt.a_mRaise1, Bt.a_mTry, Bt.a_mIsx, Bt.a_mFld, Bt.a_mMeth, Bt.a_mExt, Bt.a_mExtB, Bt.a_mNew0, Bt.a_mNewN, Bt.a_mNew1, Bt.a_mIsxO, Bt.a_mIsVE, Bt.a_mPar, Bt.a_mRaiseN, Bt.a_mTry0, Bt.a_mZipE, Bt.a_mLrg2, Bt.a_mLrg1, Bt.argSl, Bt.apartA, Bt.isOwn, Bt.putB, Bt.okAsg, Bt.parBack, Bt.slD, Bt.addD, Bt.subD, Bt.mulD, Bt.fdivD, Bt.modD, Bt.powD, Bt.ltD, Bt.leD, Bt.gtD, Bt.geD, Bt.isD, Bt.isntD, Bt.isNone, Bt.ixD, Bt.lenF, Bt.intF, Bt.minF, Bt.tupleF, Bt.listF, Bt.notX_none, Bt.notX_bool, Bt.notX_int, Bt.notX_str, Bt.notX_list, Bt.notX_tuple, Bt.isi_none, Bt.isi_bool, Bt.isi_int, Bt.isi_str, Bt.isi_list, Bt.isi_tuple, Bt.tyIs, Bt.pkD, Bt.addL, Bt.mulL, Bt.listL, Bt.revD, Bt.borSl, Bt.flatD, Bt.isDic, Bt.dkOf, Bt.keyOf, Bt.isCls_x, Bt.isCls_n, Bt.xOf_0, Bt.xOf_1, Bt.isSub_0, Bt.lift_some, Bt.ll0, Bt.ll1, Bt.ll2, Bt.ll3, Bt.ll4, Bt.ll5, Bt.ll6, Bt.ll7, Bt.ll8, Bt.ll9, Bt.ll10, Bt.ll11, Bt.ll12, Bt.ll13, Bt.ll14, Bt.ll15, Bt.ll16, e2, e3]
  simp! [s_shared_out, m_shared_out, e]
end Lw
namespace Lw
open PySem L2 Bt
theorem rep1 (c : Nat) : List.replicate (c + 1) (PyData.int 0) = rowL (fun _ => 0) c := by
  unfold rowL
  rw [List.map_const', List.length_range]
theorem rpk (c : Nat) (h : c ≤ 10000) : repOk 1 ((c : Int) + 1) = true := repOk_iff.mpr ⟨by omega, by omega, by omega⟩
theorem cut_bd {m : Int} {b : Option Int} (h1 : 1 ≤ m) (h2 : m ≤ 10 ^ 100) (hb : BdB b) : okI (cutI m b) = true := by
  cases b with
  | none => exact okI_of (by simp only [cutI]; omega) (by simp only [cutI]; omega)
  | some b => simp only [BdB] at hb; exact okI_of (by simp only [cutI]; omega) (by simp only [cutI]; omega)
def IsRow (sl : Sl) (ds : List D) : Prop := ∀ E : En, thaw sl E = .ok (.list ds) E
theorem zip_row (f g : Nat → Int) (c : Nat) : zipD (rowL f c) (rowL g c) = (List.range (c + 1)).map fun j => .tuple [.int (f j), .int (g j)] := by
  unfold zipD rowL
  rw [List.zipWith_map, List.zipWith_self]
theorem maxT2 (a b : Int) : maxTF [.tuple [.int a, .int b]] = some (.int (max a b)) := rfl
theorem row_ok : ∀ (n : Nat) (r : Rt) (b : Option Int) (c : Nat), dep r ≤ n → wfR r → BdR r → BdB b → c ≤ 10000 → ∃ sl, s_row_of n [.dat (encR r), .dat (encB b), .dat (.int (c : Nat))] = .ok sl [.dat (encR r), .dat (encB b), .dat (.int (c : Nat))] ∧ IsRow sl (rowL (rowF b r) c) := by
  intro n
  induction n with
  | zero => intro r b c h; cases r <;> simp [dep] at h
  | succ n ih =>
    intro r b c hd hw hB hb hc
    rw [r_row_of]
    have hL : c + 1 ≤ LIM := Nat.le_trans (by omega : c + 1 ≤ 100000) (Nat.le_refl _)
    cases r with
    | none =>
      refine ⟨.dat (.list (rowL (fun _ => 0) c)), ?_, fun _ => by rw [rowF]; rfl⟩
      simp! [m_row_of, encR, gStarM, gN, rpk c hc, rep1, LIM, ew_none_none, ew_none_call, ew_none_all, ew_none_one, ew_none_within, ew_none_calls, ew_call_none, ew_call_call, ew_call_all, ew_call_one, ew_call_within, ew_call_calls, ew_all_none, ew_all_call, ew_all_all, ew_all_one, ew_all_within, ew_all_calls, ew_one_none, ew_one_call, ew_one_all, ew_one_one, ew_one_within, ew_one_calls, ew_within_none, ew_within_call, ew_within_all, ew_within_one, ew_within_within, ew_within_calls, ew_calls_none, ew_calls_call, ew_calls_all, ew_calls_one, ew_calls_within, ew_calls_calls, iw_none_all, iw_none_within, iw_call_all, iw_call_within, iw_all_all, iw_all_within, iw_one_all, iw_one_within, iw_within_all, iw_within_within, iw_calls_all, iw_calls_within]
    | call x m t =>
      simp only [wfR] at hw
      have hq := hB (x, m, t) (by simp [callsR])
      have o2 := cut_bd hw.2.2.1 hq.1 hb
      have e : lc_row_of_1 (s_row_of n) [.dat (encR (.call x m t)), .dat (encB b), .dat (.int (c : Nat)), .un, .un, .dat (.str wCall), .un, .dat (.list [.str x, .int m, .int t]), .un, .un] = .ok (.list (rowL (rowF b (.call x m t)) c)) [.dat (encR (.call x m t)), .dat (encB b), .dat (.int (c : Nat)), .un, .un, .dat (.str wCall), .un, .dat (.list [.str x, .int m, .int t]), .un, .un] := by
        unfold lc_row_of_1 rowL
        refine lc_map (List.range (c + 1)) (fun i => .int (i : Nat)) _ (by simp! [rgN c (by omega), rangeN]) (by simp) (fun j hj => ?_) (by rw [List.length_range]; exact hL)
        have hj' : j ≤ c := by have := List.mem_range.mp hj; omega
        have o1 : okI (min t (j : Int)) = true := okI_of (by omega) (by omega)
        simp! [elF, wipeE, gN, at1, at2', cut_ok, o1, o2, rowF]
      refine ⟨(.ow (.l (rowL (rowF b (.call x m t)) c))), ?_, fun _ => rfl⟩
      rw [encR] at e ⊢
      simp! [m_row_of, gStarM, gN, e, ew_none_none, ew_none_call, ew_none_all, ew_none_one, ew_none_within, ew_none_calls, ew_call_none, ew_call_call, ew_call_all, ew_call_one, ew_call_within, ew_call_calls, ew_all_none, ew_all_call, ew_all_all, ew_all_one, ew_all_within, ew_all_calls, ew_one_none, ew_one_call, ew_one_all, ew_one_one, ew_one_within, ew_one_calls, ew_within_none, ew_within_call, ew_within_all, ew_within_one, ew_within_within, ew_within_calls, ew_calls_none, ew_calls_call, ew_calls_all, ew_calls_one, ew_calls_within, ew_calls_calls, iw_none_all, iw_none_within, iw_call_all, iw_call_within, iw_all_all, iw_all_within, iw_one_all, iw_one_within, iw_within_all, iw_within_within, iw_calls_all, iw_calls_within]
    | within k q =>
      simp only [wfR] at hw
      simp only [dep] at hd
      obtain ⟨sl, e1, e2⟩ := ih q b c (by omega) hw.2 (fun z hz => hB z (by rw [callsR]; exact hz)) hb hc
      have e : lc_row_of_2 (s_row_of n) [.dat (encR (.within k q)), .dat (encB b), .dat (.int (c : Nat)), .un, .un, .dat (.str wWithin), .un, .dat (.list [.int k, encR q]), .un, .un] = .ok (.list (rowL (rowF b (.within k q)) c)) [.dat (encR (.within k q)), .dat (encB b), .dat (.int (c : Nat)), .un, .un, .dat (.str wWithin), .un, .dat (.list [.int k, encR q]), .un, .un] := by
        unfold lc_row_of_2
        have hi : mIt (mCall (s_row_of n) [] (mCons (mD (mOp ixD (mR 7) (mD (Bt.ret (.int 1))))) (mCons (mR 1) (mCons (mR 2) (Bt.ret []))))) [.dat (encR (.within k q)), .dat (encB b), .dat (.int (c : Nat)), .un, .un, .dat (.str wWithin), .un, .dat (.list [.int k, encR q]), .un, .un] = .ok (rowL (rowF b q) c) [.dat (encR (.within k q)), .dat (encB b), .dat (.int (c : Nat)), .un, .un, .dat (.str wWithin), .un, .dat (.list [.int k, encR q]), .un, .un] := by
          simp! [at1, e1, e2 _, itemsOf]
        unfold rowL at hi ⊢
        refine lc_map (List.range (c + 1)) (fun i => .int (rowF b q i)) _ hi (by simp) (fun j hj => ?_) (by rw [List.length_range]; exact hL)
        simp! [elF, wipeE, gN, at0, rowF]
      refine ⟨(.ow (.l (rowL (rowF b (.within k q)) c))), ?_, fun _ => rfl⟩
      rw [encR] at e ⊢
      simp! [m_row_of, gStarM, gN, e, ew_none_none, ew_none_call, ew_none_all, ew_none_one, ew_none_within, ew_none_calls, ew_call_none, ew_call_call, ew_call_all, ew_call_one, ew_call_within, ew_call_calls, ew_all_none, ew_all_call, ew_all_all, ew_all_one, ew_all_within, ew_all_calls, ew_one_none, ew_one_call, ew_one_all, ew_one_one, ew_one_within, ew_one_calls, ew_within_none, ew_within_call, ew_within_all, ew_within_one, ew_within_within, ew_within_calls, ew_calls_none, ew_calls_call, ew_calls_all, ew_calls_one, ew_calls_within, ew_calls_calls, iw_none_all, iw_none_within, iw_call_all, iw_call_within, iw_all_all, iw_all_within, iw_one_all, iw_one_within, iw_within_all, iw_within_within, iw_calls_all, iw_calls_within]
    | calls k q =>
      simp only [wfR] at hw
      simp only [dep] at hd
      obtain ⟨sl, e1, e2⟩ := ih q b (min c k.toNat) (by omega) hw.2 (fun z hz => hB z (by rw [callsR]; exact hz)) hb (by omega)
      have ec : min (c : Int) k = ((min c k.toNat : Nat) : Int) := by omega
      have e : lc_row_of_3 (s_row_of n) [.dat (encR (.calls k q)), .dat (encB b), .dat (.int (c : Nat)), .dat (.list (rowL (rowF b q) (min c k.toNat))), .un, .dat (.str wCalls), .un, .dat (.list [.int k, encR q]), .un, .un] = .ok (.list (rowL (rowF b (.calls k q)) c)) [.dat (encR (.calls k q)), .dat (encB b), .dat (.int (c : Nat)), .dat (.list (rowL (rowF b q) (min c k.toNat))), .un, .dat (.str wCalls), .un, .dat (.list [.int k, encR q]), .un, .un] := by
        unfold lc_row_of_3
        have hi : mRng1 (mCons (mD (mOp addD (mR 2) (mD (Bt.ret (.int 1))))) (Bt.ret [])) [.dat (encR (.calls k q)), .dat (encB b), .dat (.int (c : Nat)), .dat (.list (rowL (rowF b q) (min c k.toNat))), .un, .dat (.str wCalls), .un, .dat (.list [.int k, encR q]), .un, .un] = .ok ((List.range (c + 1)).map fun (i : Nat) => .int (i : Int)) [.dat (encR (.calls k q)), .dat (encB b), .dat (.int (c : Nat)), .dat (.list (rowL (rowF b q) (min c k.toNat))), .un, .dat (.str wCalls), .un, .dat (.list [.int k, encR q]), .un, .un] := by
          simp! [rgN c (by omega), rangeN]
        rw [show rowL (rowF b (.calls k q)) c = (List.range (c + 1)).map fun j => .int (rowF b (.calls k q) j) from rfl]
        refine lc_map (List.range (c + 1)) (fun i => .int (i : Nat)) _ hi (by simp) (fun j hj => ?_) (by rw [List.length_range]; exact hL)
        have hj' : j ≤ c := by have := List.mem_range.mp hj; omega
        have ej : min (j : Int) k = ((min j k.toNat : Nat) : Int) := by omega
        simp! [elF, wipeE, gN, at0, ej, row_at (f := rowF b q) (show min j k.toNat ≤ min c k.toNat by omega), rowF]
      refine ⟨(.ow (.l (rowL (rowF b (.calls k q)) c))), ?_, fun _ => rfl⟩
      rw [encR] at e ⊢
      simp! [m_row_of, gStarM, gN, at0, at1, ec, e1, e2 _, e, ew_none_none, ew_none_call, ew_none_all, ew_none_one, ew_none_within, ew_none_calls, ew_call_none, ew_call_call, ew_call_all, ew_call_one, ew_call_within, ew_call_calls, ew_all_none, ew_all_call, ew_all_all, ew_all_one, ew_all_within, ew_all_calls, ew_one_none, ew_one_call, ew_one_all, ew_one_one, ew_one_within, ew_one_calls, ew_within_none, ew_within_call, ew_within_all, ew_within_one, ew_within_within, ew_within_calls, ew_calls_none, ew_calls_call, ew_calls_all, ew_calls_one, ew_calls_within, ew_calls_calls, iw_none_all, iw_none_within, iw_call_all, iw_call_within, iw_all_all, iw_all_within, iw_one_all, iw_one_within, iw_within_all, iw_within_within, iw_calls_all, iw_calls_within]
    | all rs =>
      simp only [wfR] at hw
      simp only [dep] at hd
      let st : (Nat → Int) → En := fun f => [.dat (.tuple [.str wAll, .tuple (rs.map encR)]), .dat (encB b), .dat (.int (c : Nat)), .dat (.list (rowL f c)), .un, .dat (.str wAll), .un, .dat (.list [.tuple (rs.map encR)]), .un, .un]
      have e : fr_row_of_1 (s_row_of n) (st fun _ => 0) = .ok .nx (st (rs.foldl (fun f r => conv f (rowF b r)) fun _ => 0)) := by
        unfold fr_row_of_1
        refine (for_fold rs encR st (fun f r => conv f (rowF b r)) (fun _ p => ∀ q ∈ p, q ∈ rs) (by simp! [st, at0, itemsOf]) (fun q hq => hq) (fun q p f hI => ⟨?_, fun z hz => hI z (List.mem_cons_of_mem _ hz)⟩)).1
        have hq := hI q List.mem_cons_self
        obtain ⟨sl, e1, e2⟩ := ih q b c (by have := dep_mem hq; omega) (wf_mem hw.2 hq) (bd_all hB hq) hb hc
        refine ⟨[.dat (.tuple [.str wAll, .tuple (rs.map encR)]), .dat (encB b), .dat (.int (c : Nat)), .dat (.list (rowL f c)), .dat (encR q), .dat (.str wAll), .un, .dat (.list [.tuple (rs.map encR)]), .un, .un], [.dat (.tuple [.str wAll, .tuple (rs.map encR)]), .dat (encB b), .dat (.int (c : Nat)), .dat (.list (rowL (conv f (rowF b q)) c)), .dat (encR q), .dat (.str wAll), .dat (.list (rowL (rowF b q) c)), .dat (.list [.tuple (rs.map encR)]), .un, .un], by simp [st, gN], .inl ?_, by simp [st, wipeE]⟩
        simp! [lp_row_of_1, gN, e1, e2 _, shared_ok f (rowF b q) c hc, ew_none_none, ew_none_call, ew_none_all, ew_none_one, ew_none_within, ew_none_calls, ew_call_none, ew_call_call, ew_call_all, ew_call_one, ew_call_within, ew_call_calls, ew_all_none, ew_all_call, ew_all_all, ew_all_one, ew_all_within, ew_all_calls, ew_one_none, ew_one_call, ew_one_all, ew_one_one, ew_one_within, ew_one_calls, ew_within_none, ew_within_call, ew_within_all, ew_within_one, ew_within_within, ew_within_calls, ew_calls_none, ew_calls_call, ew_calls_all, ew_calls_one, ew_calls_within, ew_calls_calls, iw_none_all, iw_none_within, iw_call_all, iw_call_within, iw_all_all, iw_all_within, iw_one_all, iw_one_within, iw_within_all, iw_within_within, iw_calls_all, iw_calls_within]
      refine ⟨.dat (.list (rowL (rowF b (.all rs)) c)), ?_, fun _ => rfl⟩
      rw [rowF, rowAll_eq, encR, encRs_map]
      simp only [st] at e
      simp! [m_row_of, gStarM, gN, rpk c hc, rep1, e, LIM, ew_none_none, ew_none_call, ew_none_all, ew_none_one, ew_none_within, ew_none_calls, ew_call_none, ew_call_call, ew_call_all, ew_call_one, ew_call_within, ew_call_calls, ew_all_none, ew_all_call, ew_all_all, ew_all_one, ew_all_within, ew_all_calls, ew_one_none, ew_one_call, ew_one_all, ew_one_one, ew_one_within, ew_one_calls, ew_within_none, ew_within_call, ew_within_all, ew_within_one, ew_within_within, ew_within_calls, ew_calls_none, ew_calls_call, ew_calls_all, ew_calls_one, ew_calls_within, ew_calls_calls, iw_none_all, iw_none_within, iw_call_all, iw_call_within, iw_all_all, iw_all_within, iw_one_all, iw_one_within, iw_within_all, iw_within_within, iw_calls_all, iw_calls_within]
    | one rs =>
      simp only [wfR] at hw
      simp only [dep] at hd
      let st : (Nat → Int) → En := fun f => [.dat (.tuple [.str wOne, .tuple (rs.map encR)]), .dat (encB b), .dat (.int (c : Nat)), .dat (.list (rowL f c)), .un, .dat (.str wOne), .un, .dat (.list [.tuple (rs.map encR)]), .un, .un]
      have e : fr_row_of_1 (s_row_of n) (st fun _ => 0) = .ok .nx (st (rs.foldl (fun f r => pmax f (rowF b r)) fun _ => 0)) := by
        unfold fr_row_of_1
        refine (for_fold rs encR st (fun f r => pmax f (rowF b r)) (fun _ p => ∀ q ∈ p, q ∈ rs) (by simp! [st, at0, itemsOf]) (fun q hq => hq) (fun q p f hI => ⟨?_, fun z hz => hI z (List.mem_cons_of_mem _ hz)⟩)).1
        have hq := hI q List.mem_cons_self
        obtain ⟨sl, e1, e2⟩ := ih q b c (by have := dep_mem hq; omega) (wf_mem hw.2 hq) (bd_one hB hq) hb hc
        have e3 : lc_row_of_4 (s_row_of n) [.dat (.tuple [.str wOne, .tuple (rs.map encR)]), .dat (encB b), .dat (.int (c : Nat)), .dat (.list (rowL f c)), .dat (encR q), .dat (.str wOne), .dat (.list (rowL (rowF b q) c)), .dat (.list [.tuple (rs.map encR)]), .un, .un] = .ok (.list (rowL (pmax f (rowF b q)) c)) [.dat (.tuple [.str wOne, .tuple (rs.map encR)]), .dat (encB b), .dat (.int (c : Nat)), .dat (.list (rowL f c)), .dat (encR q), .dat (.str wOne), .dat (.list (rowL (rowF b q) c)), .dat (.list [.tuple (rs.map encR)]), .un, .un] := by
          unfold lc_row_of_4
          rw [show rowL (pmax f (rowF b q)) c = (List.range (c + 1)).map fun j => .int (pmax f (rowF b q) j) from rfl]
          refine lc_map (List.range (c + 1)) (fun j => .tuple [.int (f j), .int (rowF b q j)]) _ (by simp! [row_len, zip_row]) (by simp) (fun j hj => ?_) (by rw [List.length_range]; exact hL)
          simp! [elF, wipeE, gN, maxT2, pmax]
        refine ⟨[.dat (.tuple [.str wOne, .tuple (rs.map encR)]), .dat (encB b), .dat (.int (c : Nat)), .dat (.list (rowL f c)), .dat (encR q), .dat (.str wOne), .un, .dat (.list [.tuple (rs.map encR)]), .un, .un], [.dat (.tuple [.str wOne, .tuple (rs.map encR)]), .dat (encB b), .dat (.int (c : Nat)), .dat (.list (rowL (pmax f (rowF b q)) c)), .dat (encR q), .dat (.str wOne), .dat (.list (rowL (rowF b q) c)), .dat (.list [.tuple (rs.map encR)]), .un, .un], by simp [st, gN], .inl ?_, by simp [st, wipeE]⟩
        simp! [lp_row_of_1, gN, e1, e2 _, e3, ew_none_none, ew_none_call, ew_none_all, ew_none_one, ew_none_within, ew_none_calls, ew_call_none, ew_call_call, ew_call_all, ew_call_one, ew_call_within, ew_call_calls, ew_all_none, ew_all_call, ew_all_all, ew_all_one, ew_all_within, ew_all_calls, ew_one_none, ew_one_call, ew_one_all, ew_one_one, ew_one_within, ew_one_calls, ew_within_none, ew_within_call, ew_within_all, ew_within_one, ew_within_within, ew_within_calls, ew_calls_none, ew_calls_call, ew_calls_all, ew_calls_one, ew_calls_within, ew_calls_calls, iw_none_all, iw_none_within, iw_call_all, iw_call_within, iw_all_all, iw_all_within, iw_one_all, iw_one_within, iw_within_all, iw_within_within, iw_calls_all, iw_calls_within]
      refine ⟨.dat (.list (rowL (rowF b (.one rs)) c)), ?_, fun _ => rfl⟩
      rw [rowF, rowOne_eq, encR, encRs_map]
      simp only [st] at e
      simp! [m_row_of, gStarM, gN, rpk c hc, rep1, e, LIM, ew_none_none, ew_none_call, ew_none_all, ew_none_one, ew_none_within, ew_none_calls, ew_call_none, ew_call_call, ew_call_all, ew_call_one, ew_call_within, ew_call_calls, ew_all_none, ew_all_call, ew_all_all, ew_all_one, ew_all_within, ew_all_calls, ew_one_none, ew_one_call, ew_one_all, ew_one_one, ew_one_within, ew_one_calls, ew_within_none, ew_within_call, ew_within_all, ew_within_one, ew_within_within, ew_within_calls, ew_calls_none, ew_calls_call, ew_calls_all, ew_calls_one, ew_calls_within, ew_calls_calls, iw_none_all, iw_none_within, iw_call_all, iw_call_within, iw_all_all, iw_all_within, iw_one_all, iw_one_within, iw_within_all, iw_within_within, iw_calls_all, iw_calls_within]
end Lw
namespace Lw
open PySem L2 Bt
mutual
def topR (b : Option Int) : Rt → Int
  | .none => 0
  | .call _ m t => t * cutI m b
  | .all rs => topSum b rs
  | .one rs => topMax b rs
  | .within n r => min n (topR b r)
  | .calls n r => rowF b r (min n (lenR r)).toNat
def topSum (b : Option Int) : List Rt → Int
  | [] => 0
  | r :: rs => topR b r + topSum b rs
def topMax (b : Option Int) : List Rt → Int
  | [] => 0
  | r :: rs => max (topR b r) (topMax b rs)
end
theorem topSum_eq (b : Option Int) : ∀ rs : List Rt, topSum b rs = (rs.map (topR b)).sum
  | [] => rfl
  | r :: rs => by rw [topSum, topSum_eq b rs, List.map_cons, List.sum_cons]
theorem topMax_eq (b : Option Int) : ∀ rs : List Rt, topMax b rs = max0 (rs.map (topR b))
  | [] => rfl
  | r :: rs => by rw [topMax, topMax_eq b rs, List.map_cons, max0]
def OkB : Option Int → Prop
  | none => True
  | some b => 1 ≤ b ∧ b ≤ 10 ^ 100
theorem OkB.bd {b : Option Int} (h : OkB b) : BdB b := by
  cases b with
  | none => trivial
  | some b => simp only [OkB] at h; exact ⟨by omega, by omega⟩
theorem cut_nn {m : Int} {b : Option Int} (h : 1 ≤ m) (hb : OkB b) : 0 ≤ cutI m b := by
  cases b with
  | none => simp only [cutI]; omega
  | some b => simp only [OkB] at hb; simp only [cutI]; omega
theorem conv_nn {f g : Nat → Int} (hf : ∀ j, 0 ≤ f j) (hg : ∀ j, 0 ≤ g j) (j : Nat) : 0 ≤ conv f g j := by
  unfold conv
  have h : f 0 + g (j - 0) ∈ (List.range (j + 1)).map fun i => f i + g (j - i) := List.mem_map.mpr ⟨0, List.mem_range.mpr (by omega), rfl⟩
  have := maxL_ge h
  have := hf 0
  have := hg (j - 0)
  omega
theorem row_nn (b : Option Int) (hb : OkB b) (r : Rt) : wfR r → ∀ j, 0 ≤ rowF b r j := by
  induction r using Rt.ind with
  | h0 => intro _ j; simp [rowF]
  | h1 x m t =>
    intro h j
    simp only [wfR] at h
    simp only [rowF]
    exact Int.mul_nonneg (by omega) (cut_nn h.2.2.1 hb)
  | h2 rs ih =>
    intro h
    simp only [wfR] at h
    rw [rowF, rowAll_eq]
    have : ∀ (qs : List Rt) (f : Nat → Int), (∀ q ∈ qs, q ∈ rs) → (∀ j, 0 ≤ f j) → ∀ j, 0 ≤ qs.foldl (fun f r => conv f (rowF b r)) f j := by
      intro qs
      induction qs with
      | nil => intro f _ hf; exact hf
      | cons q qs ihq =>
        intro f hs hf
        exact ihq _ (fun z hz => hs z (List.mem_cons_of_mem _ hz)) (conv_nn hf (ih q (hs q List.mem_cons_self) (wf_mem h.2 (hs q List.mem_cons_self))))
    exact this rs _ (fun _ hq => hq) (fun _ => Int.le_refl _)
  | h3 rs ih =>
    intro h
    simp only [wfR] at h
    rw [rowF, rowOne_eq]
    have : ∀ (qs : List Rt) (f : Nat → Int), (∀ j, 0 ≤ f j) → ∀ j, 0 ≤ qs.foldl (fun f r => pmax f (rowF b r)) f j := by
      intro qs
      induction qs with
      | nil => intro f hf; exact hf
      | cons q qs ihq =>
        intro f hf
        refine ihq _ fun j => ?_
        have := hf j
        show 0 ≤ max (f j) (rowF b q j)
        omega
    exact this rs _ (fun _ => Int.le_refl _)
  | h4 n r ih =>
    intro h j
    simp only [wfR] at h
    have := ih h.2 j
    simp only [rowF]
    omega
  | h5 n r ih =>
    intro h j
    simp only [wfR] at h
    simp only [rowF]
    exact ih h.2 _
theorem top_nn (b : Option Int) (hb : OkB b) (r : Rt) : wfR r → 0 ≤ topR b r := by
  induction r using Rt.ind with
  | h0 => intro _; simp [topR]
  | h1 x m t => intro h; simp only [wfR] at h; rw [topR]; exact Int.mul_nonneg (by omega) (cut_nn h.2.2.1 hb)
  | h2 rs ih => intro h; simp only [wfR] at h; rw [topR, topSum_eq]; exact sum_nn fun x hx => by obtain ⟨r, hr, rfl⟩ := List.mem_map.mp hx; exact ih r hr (wf_mem h.2 hr)
  | h3 rs ih => intro h; rw [topR, topMax_eq]; exact max0_nn
  | h4 n r ih => intro h; simp only [wfR] at h; have := ih h.2; simp only [topR]; omega
  | h5 n r ih => intro h; simp only [wfR] at h; rw [topR]; exact row_nn b hb r h.2 _
theorem row_last (f : Nat → Int) (c : Nat) : atI (rowL f c) (-1) = some (.int (f c)) := by
  unfold atI ixN
  rw [if_neg (by omega), row_len, if_pos (by omega)]
  show (rowL f c)[(-1 + ((c + 1 : Nat) : Int)).toNat]? = _
  rw [show (-1 + ((c + 1 : Nat) : Int)).toNat = c by omega]
  unfold rowL
  rw [List.getElem?_map, List.getElem?_range (by omega)]
  rfl
def totC (l : List (Str × Int × Int)) : Int := (l.map (·.2.2)).sum
theorem totC_app (a b : List (Str × Int × Int)) : totC (a ++ b) = totC a + totC b := by simp [totC]
theorem tot_nn {l : List (Str × Int × Int)} (h : ∀ q ∈ l, 1 ≤ q.2.2) : 0 ≤ totC l := sum_nn fun x hx => by
  obtain ⟨q, hq, rfl⟩ := List.mem_map.mp hx
  have := h q hq
  omega
theorem wf_calls (r : Rt) : wfR r → ∀ q ∈ callsR r, nameS q.1 = true ∧ PyData.strOk q.1 = true ∧ 1 ≤ q.2.1 ∧ 1 ≤ q.2.2 := by
  induction r using Rt.ind with
  | h0 => intro _ q hq; simp [callsR] at hq
  | h1 x m t => intro h q hq; simp only [wfR] at h; simp only [callsR, List.mem_singleton] at hq; subst hq; exact h
  | h2 rs ih => intro h q hq; simp only [wfR] at h; rw [callsR, callsRs_flat] at hq; obtain ⟨r, hr, hq⟩ := List.mem_flatMap.mp hq; exact ih r hr (wf_mem h.2 hr) q hq
  | h3 rs ih => intro h q hq; simp only [wfR] at h; rw [callsR, callsRs_flat] at hq; obtain ⟨r, hr, hq⟩ := List.mem_flatMap.mp hq; exact ih r hr (wf_mem h.2 hr) q hq
  | h4 n r ih => intro h; simp only [wfR] at h; rw [callsR]; exact ih h.2
  | h5 n r ih => intro h; simp only [wfR] at h; rw [callsR]; exact ih h.2
theorem tot_flat {rs : List Rt} : totC (rs.flatMap callsR) = (rs.map fun r => totC (callsR r)).sum := by
  induction rs with
  | nil => rfl
  | cons r rs ih => rw [List.flatMap_cons, totC_app, ih, List.map_cons, List.sum_cons]
theorem tot_part {rs : List Rt} {r : Rt} (hw : wfRs rs) (hr : r ∈ rs) : totC (callsR r) ≤ totC (rs.flatMap callsR) := by
  induction rs with
  | nil => cases hr
  | cons q qs ih =>
    rw [wfRs] at hw
    rw [List.flatMap_cons, totC_app]
    have h1 := tot_nn fun z hz => (wf_calls q hw.1 z hz).2.2.2
    have h2 : 0 ≤ totC (qs.flatMap callsR) := tot_nn fun z hz => by
      obtain ⟨a, ha, hz⟩ := List.mem_flatMap.mp hz
      exact (wf_calls a (wf_mem hw.2 ha) z hz).2.2.2
    rcases List.mem_cons.mp hr with rfl | hr
    · omega
    · have := ih hw.2 hr; omega
theorem len_tot (r : Rt) : wfR r → lenR r ≤ totC (callsR r) := by
  induction r using Rt.ind with
  | h0 => intro _; simp [lenR, callsR, totC]
  | h1 x m t => intro _; simp [lenR, callsR, totC]
  | h2 rs ih =>
    intro h
    simp only [wfR] at h
    rw [lenR, lenSum_eq, callsR, callsRs_flat, tot_flat]
    have : ∀ qs : List Rt, (∀ q ∈ qs, q ∈ rs) → (qs.map lenR).sum ≤ (qs.map fun r => totC (callsR r)).sum := by
      intro qs
      induction qs with
      | nil => intro _; simp
      | cons q qs ihq =>
        intro hs
        have h1 := ih q (hs q List.mem_cons_self) (wf_mem h.2 (hs q List.mem_cons_self))
        have h2 := ihq fun z hz => hs z (List.mem_cons_of_mem _ hz)
        simp only [List.map_cons, List.sum_cons]
        omega
    exact this rs fun _ h => h
  | h3 rs ih =>
    intro h
    simp only [wfR] at h
    rw [lenR, lenMax_eq, callsR, callsRs_flat]
    refine max0_le (fun x hx => ?_) (tot_nn fun z hz => ?_)
    · obtain ⟨r, hr, rfl⟩ := List.mem_map.mp hx
      exact Int.le_trans (ih r hr (wf_mem h.2 hr)) (tot_part h.2 hr)
    · obtain ⟨a, ha, hz⟩ := List.mem_flatMap.mp hz
      exact (wf_calls a (wf_mem h.2 ha) z hz).2.2.2
  | h4 n r ih => intro h; simp only [wfR] at h; have := ih h.2; simp only [lenR, callsR]; omega
  | h5 n r ih => intro h; simp only [wfR] at h; have := ih h.2; simp only [lenR, callsR]; omega
theorem most_ok : ∀ (n : Nat) (r : Rt) (b : Option Int), dep r ≤ n → n ≤ 30 → wfR r → BdR r → OkB b → totC (callsR r) ≤ 10000 → s_most_of n [.dat (encR r), .dat (encB b)] = .ok (.dat (.int (topR b r))) [.dat (encR r), .dat (encB b)] := by
  intro n
  induction n with
  | zero => intro r b h; cases r <;> simp [dep] at h
  | succ n ih =>
    intro r b hd hn hw hB hb ht
    rw [r_most_of]
    cases r with
    | none => simp! [m_most_of, encR, topR, gStarM, gN, ew_none_none, ew_none_call, ew_none_all, ew_none_one, ew_none_within, ew_none_calls, ew_call_none, ew_call_call, ew_call_all, ew_call_one, ew_call_within, ew_call_calls, ew_all_none, ew_all_call, ew_all_all, ew_all_one, ew_all_within, ew_all_calls, ew_one_none, ew_one_call, ew_one_all, ew_one_one, ew_one_within, ew_one_calls, ew_within_none, ew_within_call, ew_within_all, ew_within_one, ew_within_within, ew_within_calls, ew_calls_none, ew_calls_call, ew_calls_all, ew_calls_one, ew_calls_within, ew_calls_calls, iw_none_all, iw_none_within, iw_call_all, iw_call_within, iw_all_all, iw_all_within, iw_one_all, iw_one_within, iw_within_all, iw_within_within, iw_calls_all, iw_calls_within]
    | call x m t =>
      simp only [wfR] at hw
      have hq := hB (x, m, t) (by simp [callsR])
      have o2 := cut_bd hw.2.2.1 hq.1 hb.bd
      have h2 : t ≤ 10 ^ 100 := hq.2
      have o1 : okI t = true := okI_of (by omega) (by omega)
      simp! [m_most_of, encR, topR, gStarM, gN, at1, at2', cut_ok, o1, o2, ew_none_none, ew_none_call, ew_none_all, ew_none_one, ew_none_within, ew_none_calls, ew_call_none, ew_call_call, ew_call_all, ew_call_one, ew_call_within, ew_call_calls, ew_all_none, ew_all_call, ew_all_all, ew_all_one, ew_all_within, ew_all_calls, ew_one_none, ew_one_call, ew_one_all, ew_one_one, ew_one_within, ew_one_calls, ew_within_none, ew_within_call, ew_within_all, ew_within_one, ew_within_within, ew_within_calls, ew_calls_none, ew_calls_call, ew_calls_all, ew_calls_one, ew_calls_within, ew_calls_calls, iw_none_all, iw_none_within, iw_call_all, iw_call_within, iw_all_all, iw_all_within, iw_one_all, iw_one_within, iw_within_all, iw_within_within, iw_calls_all, iw_calls_within]
    | within k q =>
      simp only [dep] at hd
      simp only [wfR] at hw
      rw [callsR] at ht
      simp! [m_most_of, encR, topR, gStarM, gN, at0, at1, ih q b (by omega) (by omega) hw.2 (fun z hz => hB z (by rw [callsR]; exact hz)) hb ht, ew_none_none, ew_none_call, ew_none_all, ew_none_one, ew_none_within, ew_none_calls, ew_call_none, ew_call_call, ew_call_all, ew_call_one, ew_call_within, ew_call_calls, ew_all_none, ew_all_call, ew_all_all, ew_all_one, ew_all_within, ew_all_calls, ew_one_none, ew_one_call, ew_one_all, ew_one_one, ew_one_within, ew_one_calls, ew_within_none, ew_within_call, ew_within_all, ew_within_one, ew_within_within, ew_within_calls, ew_calls_none, ew_calls_call, ew_calls_all, ew_calls_one, ew_calls_within, ew_calls_calls, iw_none_all, iw_none_within, iw_call_all, iw_call_within, iw_all_all, iw_all_within, iw_one_all, iw_one_within, iw_within_all, iw_within_within, iw_calls_all, iw_calls_within]
    | calls k q =>
      simp only [dep] at hd
      simp only [wfR] at hw
      rw [callsR] at ht
      have hl := len_tot q hw.2
      have hl0 := len_nn q hw.2
      obtain ⟨sl, e1, e2⟩ := row_ok 30 q b (min k (lenR q)).toNat (by omega) hw.2 (fun z hz => hB z (by rw [callsR]; exact hz)) hb.bd (by omega)
      have ec : (((min k (lenR q)).toNat : Nat) : Int) = min k (lenR q) := by omega
      rw [ec] at e1
      simp! [m_most_of, encR, topR, gStarM, gN, at0, at1, longest_ok 30 q (by omega) hw.2, e1, e2 _, row_last, ew_none_none, ew_none_call, ew_none_all, ew_none_one, ew_none_within, ew_none_calls, ew_call_none, ew_call_call, ew_call_all, ew_call_one, ew_call_within, ew_call_calls, ew_all_none, ew_all_call, ew_all_all, ew_all_one, ew_all_within, ew_all_calls, ew_one_none, ew_one_call, ew_one_all, ew_one_one, ew_one_within, ew_one_calls, ew_within_none, ew_within_call, ew_within_all, ew_within_one, ew_within_within, ew_within_calls, ew_calls_none, ew_calls_call, ew_calls_all, ew_calls_one, ew_calls_within, ew_calls_calls, iw_none_all, iw_none_within, iw_call_all, iw_call_within, iw_all_all, iw_all_within, iw_one_all, iw_one_within, iw_within_all, iw_within_within, iw_calls_all, iw_calls_within]
    | all rs =>
      simp only [dep] at hd
      simp only [wfR] at hw
      rw [callsR, callsRs_flat] at ht
      have e : lc_most_of_1 (s_most_of n) [.dat (.tuple [.str wAll, .tuple (rs.map encR)]), .dat (encB b), .un, .dat (.str wAll), .dat (.list [.tuple (rs.map encR)]), .un] = .ok (.list (rs.map fun r => .int (topR b r))) [.dat (.tuple [.str wAll, .tuple (rs.map encR)]), .dat (encB b), .un, .dat (.str wAll), .dat (.list [.tuple (rs.map encR)]), .un] := by
        unfold lc_most_of_1
        exact lc_map rs encR _ (by simp! [at0, itemsOf]) (by simp) (fun q hq => by simp! [elF, wipeE, gN, ih q b (by have := dep_mem hq; omega) (by omega) (wf_mem hw.2 hq) (bd_all hB hq) hb (Int.le_trans (tot_part hw.2 hq) ht)]) (wf_len hw.1)
      simp! [m_most_of, encR, topR, gStarM, gN, at0, e, encRs_map, sumF_map, topSum_eq, ew_none_none, ew_none_call, ew_none_all, ew_none_one, ew_none_within, ew_none_calls, ew_call_none, ew_call_call, ew_call_all, ew_call_one, ew_call_within, ew_call_calls, ew_all_none, ew_all_call, ew_all_all, ew_all_one, ew_all_within, ew_all_calls, ew_one_none, ew_one_call, ew_one_all, ew_one_one, ew_one_within, ew_one_calls, ew_within_none, ew_within_call, ew_within_all, ew_within_one, ew_within_within, ew_within_calls, ew_calls_none, ew_calls_call, ew_calls_all, ew_calls_one, ew_calls_within, ew_calls_calls, iw_none_all, iw_none_within, iw_call_all, iw_call_within, iw_all_all, iw_all_within, iw_one_all, iw_one_within, iw_within_all, iw_within_within, iw_calls_all, iw_calls_within]
    | one rs =>
      simp only [dep] at hd
      simp only [wfR] at hw
      rw [callsR, callsRs_flat] at ht
      have e : lc_most_of_1 (s_most_of n) [.dat (.tuple [.str wOne, .tuple (rs.map encR)]), .dat (encB b), .un, .dat (.str wOne), .dat (.list [.tuple (rs.map encR)]), .un] = .ok (.list (rs.map fun r => .int (topR b r))) [.dat (.tuple [.str wOne, .tuple (rs.map encR)]), .dat (encB b), .un, .dat (.str wOne), .dat (.list [.tuple (rs.map encR)]), .un] := by
        unfold lc_most_of_1
        exact lc_map rs encR _ (by simp! [at0, itemsOf]) (by simp) (fun q hq => by simp! [elF, wipeE, gN, ih q b (by have := dep_mem hq; omega) (by omega) (wf_mem hw.2 hq) (bd_one hB hq) hb (Int.le_trans (tot_part hw.2 hq) ht)]) (wf_len hw.1)
      have e2 : maxDf (.list (rs.map fun r => .int (topR b r))) (.int 0) = some (.int (topMax b rs)) := by
        rw [topMax_eq, ← maxD_0 (fun x hx => by obtain ⟨r, hr, rfl⟩ := List.mem_map.mp hx; exact top_nn b hb r (wf_mem hw.2 hr)), List.map_map]
        rfl
      simp! [m_most_of, encR, topR, gStarM, gN, at0, e, e2, encRs_map, ew_none_none, ew_none_call, ew_none_all, ew_none_one, ew_none_within, ew_none_calls, ew_call_none, ew_call_call, ew_call_all, ew_call_one, ew_call_within, ew_call_calls, ew_all_none, ew_all_call, ew_all_all, ew_all_one, ew_all_within, ew_all_calls, ew_one_none, ew_one_call, ew_one_all, ew_one_one, ew_one_within, ew_one_calls, ew_within_none, ew_within_call, ew_within_all, ew_within_one, ew_within_within, ew_within_calls, ew_calls_none, ew_calls_call, ew_calls_all, ew_calls_one, ew_calls_within, ew_calls_calls, iw_none_all, iw_none_within, iw_call_all, iw_call_within, iw_all_all, iw_all_within, iw_one_all, iw_one_within, iw_within_all, iw_within_within, iw_calls_all, iw_calls_within]
mutual
def highR : Rt → Int
  | .none => 0
  | .call _ m _ => m
  | .all rs => highM rs
  | .one rs => highM rs
  | .within _ r => highR r
  | .calls _ r => highR r
def highM : List Rt → Int
  | [] => 0
  | r :: rs => max (highR r) (highM rs)
end
end Lw
namespace Lw
open PySem L2 Bt
structure GdR (r : Rt) : Prop where
  wf : wfR r
  dp : dep r ≤ 6
  cl : (callsR r).length ≤ 1000
  nd : (namesR r).Nodup
  bd : BdR r
  tt : totC (callsR r) ≤ 10000
theorem GdR.most {r : Rt} (h : GdR r) (b : Option Int) (hb : OkB b) : s_most_of 30 [.dat (encR r), .dat (encB b)] = .ok (.dat (.int (topR b r))) [.dat (encR r), .dat (encB b)] := most_ok 30 r b (by have := h.dp; omega) (by omega) h.wf h.bd hb h.tt
mutual
def numR : Rt → Int
  | .none => 0
  | .call _ m _ => m
  | .all rs => numM rs
  | .one rs => numM rs
  | .within n r => max n (numR r)
  | .calls _ r => numR r
def numM : List Rt → Int
  | [] => 0
  | r :: rs => max (numR r) (numM rs)
end
theorem numM_eq : ∀ rs : List Rt, numM rs = max0 (rs.map numR)
  | [] => rfl
  | r :: rs => by rw [numM, numM_eq rs, List.map_cons, max0]
theorem wf_part {r q : Rt} (hw : wfR r) (h : q ∈ partsR r) : wfR q := by
  cases r <;> simp [partsR] at h <;> simp only [wfR] at hw
  · exact wf_mem hw.2 h
  · exact wf_mem hw.2 h
  · subst h; exact hw.2
  · subst h; exact hw.2
theorem lim1 : 1 ≤ LIM := by decide
structure SmR (r : Rt) : Prop extends GdR r where
  nm : numR r ≤ 200
  tp : topR none r ≤ 200
end Lw
namespace Lw
open PySem L2 Bt
end Lw
namespace Lw
open PySem L2 Bt
theorem maxF_app0 {α : Type} (f : α → Int) (p : List α) (h : ∀ q ∈ p, 0 ≤ f q) : maxF [.list ((p.map fun q => .int (f q)) ++ [.int 0])] = some (.int (max0 (p.map f))) := by
  have e : intsOf ((p.map fun q => PyData.int (f q)) ++ [.int 0]) = some (p.map f ++ [0]) := by
    rw [show ((p.map fun q => PyData.int (f q)) ++ [.int 0]) = (p.map f ++ [0]).map .int by rw [List.map_append, List.map_map]; rfl, intsOf_map]
  have e2 : maxL (p.map f ++ [0]) = max0 (p.map f) := by
    refine (maxL_uniq ?_ fun y hy => ?_).symm
    · have : ∀ l : List Int, max0 l ∈ l ++ [0] := by
        intro l
        induction l with
        | nil => simp [max0]
        | cons x xs ih =>
          rw [max0]
          by_cases hx : max0 xs ≤ x
          · rw [Int.max_eq_left hx]; simp
          · rw [Int.max_eq_right (by omega)]; exact List.mem_cons_of_mem _ ih
      exact this _
    · rcases List.mem_append.mp hy with hy | hy
      · exact le_max0 hy
      · rw [List.mem_singleton.mp hy]; exact max0_nn
  show (match intsOf ((p.map fun q => PyData.int (f q)) ++ [.int 0]) with | some (n :: ns) => some (PyData.int (maxL (n :: ns))) | _ => none) = _
  rw [e, ← e2]
  cases p with
  | nil => rfl
  | cons a as => rfl
theorem lim2 : 2 ≤ LIM := by decide
theorem l_length : ∀ (n : Nat) (r : Rt), dep r ≤ n → wfR r → s__law_length n [.dat (encR r)] = .ok (.dat (.int (lenR r))) [.dat (encR r)] := by
  intro n
  induction n with
  | zero => intro r h; cases r <;> simp [dep] at h
  | succ n ih =>
    intro r hd hw
    rw [r__law_length]
    cases r with
    | none => simp! [m__law_length, encR, lenR, gN, at0, lim2, ew_none_none, ew_none_call, ew_none_all, ew_none_one, ew_none_within, ew_none_calls, ew_call_none, ew_call_call, ew_call_all, ew_call_one, ew_call_within, ew_call_calls, ew_all_none, ew_all_call, ew_all_all, ew_all_one, ew_all_within, ew_all_calls, ew_one_none, ew_one_call, ew_one_all, ew_one_one, ew_one_within, ew_one_calls, ew_within_none, ew_within_call, ew_within_all, ew_within_one, ew_within_within, ew_within_calls, ew_calls_none, ew_calls_call, ew_calls_all, ew_calls_one, ew_calls_within, ew_calls_calls, iw_none_all, iw_none_within, iw_call_all, iw_call_within, iw_all_all, iw_all_within, iw_one_all, iw_one_within, iw_within_all, iw_within_within, iw_calls_all, iw_calls_within]
    | call x m t => simp! [m__law_length, encR, lenR, gN, at0, at3', ew_none_none, ew_none_call, ew_none_all, ew_none_one, ew_none_within, ew_none_calls, ew_call_none, ew_call_call, ew_call_all, ew_call_one, ew_call_within, ew_call_calls, ew_all_none, ew_all_call, ew_all_all, ew_all_one, ew_all_within, ew_all_calls, ew_one_none, ew_one_call, ew_one_all, ew_one_one, ew_one_within, ew_one_calls, ew_within_none, ew_within_call, ew_within_all, ew_within_one, ew_within_within, ew_within_calls, ew_calls_none, ew_calls_call, ew_calls_all, ew_calls_one, ew_calls_within, ew_calls_calls, iw_none_all, iw_none_within, iw_call_all, iw_call_within, iw_all_all, iw_all_within, iw_one_all, iw_one_within, iw_within_all, iw_within_within, iw_calls_all, iw_calls_within]
    | within k q =>
      simp only [dep] at hd
      simp only [wfR] at hw
      simp! [m__law_length, encR, lenR, gN, at0, at1, at2', lim2, ih q (by omega) hw.2, ew_none_none, ew_none_call, ew_none_all, ew_none_one, ew_none_within, ew_none_calls, ew_call_none, ew_call_call, ew_call_all, ew_call_one, ew_call_within, ew_call_calls, ew_all_none, ew_all_call, ew_all_all, ew_all_one, ew_all_within, ew_all_calls, ew_one_none, ew_one_call, ew_one_all, ew_one_one, ew_one_within, ew_one_calls, ew_within_none, ew_within_call, ew_within_all, ew_within_one, ew_within_within, ew_within_calls, ew_calls_none, ew_calls_call, ew_calls_all, ew_calls_one, ew_calls_within, ew_calls_calls, iw_none_all, iw_none_within, iw_call_all, iw_call_within, iw_all_all, iw_all_within, iw_one_all, iw_one_within, iw_within_all, iw_within_within, iw_calls_all, iw_calls_within]
    | calls k q =>
      simp only [dep] at hd
      simp only [wfR] at hw
      simp! [m__law_length, encR, lenR, gN, at0, at1, at2', lim2, ih q (by omega) hw.2, ew_none_none, ew_none_call, ew_none_all, ew_none_one, ew_none_within, ew_none_calls, ew_call_none, ew_call_call, ew_call_all, ew_call_one, ew_call_within, ew_call_calls, ew_all_none, ew_all_call, ew_all_all, ew_all_one, ew_all_within, ew_all_calls, ew_one_none, ew_one_call, ew_one_all, ew_one_one, ew_one_within, ew_one_calls, ew_within_none, ew_within_call, ew_within_all, ew_within_one, ew_within_within, ew_within_calls, ew_calls_none, ew_calls_call, ew_calls_all, ew_calls_one, ew_calls_within, ew_calls_calls, iw_none_all, iw_none_within, iw_call_all, iw_call_within, iw_all_all, iw_all_within, iw_one_all, iw_one_within, iw_within_all, iw_within_within, iw_calls_all, iw_calls_within]
    | all rs =>
      simp only [dep] at hd
      simp only [wfR] at hw
      have hl1 : rs.length + 1 ≤ LIM := Nat.le_trans (Nat.succ_le_succ hw.1) (by decide)
      have em := maxF_app0 lenR rs fun q hq => len_nn q (wf_mem hw.2 hq)
      have e : lc__law_length_1 (s__law_length n) [.dat (.tuple [.str wAll, .tuple (rs.map encR)]), .dat (.str wAll), .un, .un] = .ok (.list (rs.map fun r => .int (lenR r))) [.dat (.tuple [.str wAll, .tuple (rs.map encR)]), .dat (.str wAll), .un, .un] := by
        unfold lc__law_length_1
        exact lc_map rs encR _ (by simp! [at1, itemsOf]) (by simp) (fun q hq => by simp! [elF, wipeE, gN, ih q (by have := dep_mem hq; omega) (wf_mem hw.2 hq)]) (wf_len hw.1)
      simp [m__law_length, encR, lenR, Bt.a_bnd, Bt.a_ret, Bt.a_stuck, Bt.a_liftS, Bt.a_liftN, Bt.a_mOp, Bt.a_mOpF, Bt.a_mChain, Bt.a_mD, Bt.a_mR, Bt.a_mV, Bt.a_mFrz, Bt.a_rsvD, Bt.a_rsvR, Bt.a_rsvs0, Bt.a_rsvs1, Bt.a_mCons, Bt.a_mConsD, Bt.a_mTup, Bt.a_mLst, Bt.a_mLstF, Bt.a_mIf, Bt.a_mIfS, Bt.a_ite, Bt.a_mAnd, Bt.a_mOr, Bt.a_mNot, Bt.a_mAndV, Bt.a_mOrV, Bt.a_mNotV, Bt.a_asB, Bt.a_mNeg, Bt.a_mB, Bt.a_mBF, Bt.a_mIsi, Bt.a_mCall, Bt.a_mCallK, Bt.a_mCallO, Bt.a_mCallKO, Bt.a_mCallB, Bt.a_thawD, Bt.a_thawL, Bt.a_mRetS, Bt.a_mDat, Bt.a_mObj, Bt.a_mLstO, Bt.a_mSetS, Bt.a_mGive, Bt.a_mAsL, Bt.a_asL, Bt.a_mRev, Bt.a_mDfl, Bt.a_mRng3, Bt.a_mPutAug, Bt.a_mPop, Bt.a_mSeq, Bt.a_mNil, Bt.a_mRet, Bt.a_mExpr, Bt.a_mSet, Bt.a_gN, Bt.a_gTup, Bt.a_gCons, Bt.a_gNil, Bt.a_mItL, Bt.a_mItT, Bt.a_mIt, Bt.a_mPart0, Bt.a_mPart1, Bt.a_mSl, Bt.a_mOwn, Bt.a_mApp, Bt.a_mPut, Bt.a_mAug, Bt.a_mRng1, Bt.a_mRng2, Bt.a_mZip, Bt.a_mEnum, Bt.a_mFor, Bt.a_mFn, Bt.a_mLenScr, Bt.a_mIxScr, Bt.a_mDGet, Bt.a_mDGet2, Bt.a_mDIn, Bt.a_mDPut, Bt.a_mDAug, Bt.a_mOwnO, Bt.a_mDict, Bt.a_mDNew, Bt.a_mSortD, Bt.a_mRaise0, Bt.a_mRaise1, Bt.a_mTry, Bt.a_mIsx, Bt.a_mFld, Bt.a_mMeth, Bt.a_mExt, Bt.a_mExtB, Bt.a_mNew0, Bt.a_mNewN, Bt.a_mNew1, Bt.a_mIsxO, Bt.a_mIsVE, Bt.a_mPar, Bt.a_mRaiseN, Bt.a_mTry0, Bt.a_mZipE, Bt.a_mLrg2, Bt.a_mLrg1, Bt.argSl, Bt.apartA, Bt.isOwn, Bt.putB, Bt.okAsg, Bt.parBack, Bt.slD, Bt.addD, Bt.subD, Bt.mulD, Bt.fdivD, Bt.modD, Bt.powD, Bt.ltD, Bt.leD, Bt.gtD, Bt.geD, Bt.isD, Bt.isntD, Bt.isNone, Bt.ixD, Bt.lenF, Bt.intF, Bt.minF, Bt.tupleF, Bt.listF, Bt.notX_none, Bt.notX_bool, Bt.notX_int, Bt.notX_str, Bt.notX_list, Bt.notX_tuple, Bt.isi_none, Bt.isi_bool, Bt.isi_int, Bt.isi_str, Bt.isi_list, Bt.isi_tuple, Bt.tyIs, Bt.pkD, Bt.addL, Bt.mulL, Bt.listL, Bt.revD, Bt.borSl, Bt.flatD, Bt.isDic, Bt.dkOf, Bt.keyOf, Bt.isCls_x, Bt.isCls_n, Bt.xOf_0, Bt.xOf_1, Bt.isSub_0, Bt.lift_some, Bt.ll0, Bt.ll1, Bt.ll2, Bt.ll3, Bt.ll4, Bt.ll5, Bt.ll6, Bt.ll7, Bt.ll8, Bt.ll9, Bt.ll10, Bt.ll11, Bt.ll12, Bt.ll13, Bt.ll14, Bt.ll15, Bt.ll16, gN, at0, e, em, hl1, lim1, lim2, encRs_map, sumF_map, lenSum_eq, lenMax_eq, ew_none_none, ew_none_call, ew_none_all, ew_none_one, ew_none_within, ew_none_calls, ew_call_none, ew_call_call, ew_call_all, ew_call_one, ew_call_within, ew_call_calls, ew_all_none, ew_all_call, ew_all_all, ew_all_one, ew_all_within, ew_all_calls, ew_one_none, ew_one_call, ew_one_all, ew_one_one, ew_one_within, ew_one_calls, ew_within_none, ew_within_call, ew_within_all, ew_within_one, ew_within_within, ew_within_calls, ew_calls_none, ew_calls_call, ew_calls_all, ew_calls_one, ew_calls_within, ew_calls_calls, iw_none_all, iw_none_within, iw_call_all, iw_call_within, iw_all_all, iw_all_within, iw_one_all, iw_one_within, iw_within_all, iw_within_within, iw_calls_all, iw_calls_within]
    | one rs =>
      simp only [dep] at hd
      simp only [wfR] at hw
      have hl1 : rs.length + 1 ≤ LIM := Nat.le_trans (Nat.succ_le_succ hw.1) (by decide)
      have em := maxF_app0 lenR rs fun q hq => len_nn q (wf_mem hw.2 hq)
      have e : lc__law_length_1 (s__law_length n) [.dat (.tuple [.str wOne, .tuple (rs.map encR)]), .dat (.str wOne), .un, .un] = .ok (.list (rs.map fun r => .int (lenR r))) [.dat (.tuple [.str wOne, .tuple (rs.map encR)]), .dat (.str wOne), .un, .un] := by
        unfold lc__law_length_1
        exact lc_map rs encR _ (by simp! [at1, itemsOf]) (by simp) (fun q hq => by simp! [elF, wipeE, gN, ih q (by have := dep_mem hq; omega) (wf_mem hw.2 hq)]) (wf_len hw.1)
      simp [m__law_length, encR, lenR, Bt.a_bnd, Bt.a_ret, Bt.a_stuck, Bt.a_liftS, Bt.a_liftN, Bt.a_mOp, Bt.a_mOpF, Bt.a_mChain, Bt.a_mD, Bt.a_mR, Bt.a_mV, Bt.a_mFrz, Bt.a_rsvD, Bt.a_rsvR, Bt.a_rsvs0, Bt.a_rsvs1, Bt.a_mCons, Bt.a_mConsD, Bt.a_mTup, Bt.a_mLst, Bt.a_mLstF, Bt.a_mIf, Bt.a_mIfS, Bt.a_ite, Bt.a_mAnd, Bt.a_mOr, Bt.a_mNot, Bt.a_mAndV, Bt.a_mOrV, Bt.a_mNotV, Bt.a_asB, Bt.a_mNeg, Bt.a_mB, Bt.a_mBF, Bt.a_mIsi, Bt.a_mCall, Bt.a_mCallK, Bt.a_mCallO, Bt.a_mCallKO, Bt.a_mCallB, Bt.a_thawD, Bt.a_thawL, Bt.a_mRetS, Bt.a_mDat, Bt.a_mObj, Bt.a_mLstO, Bt.a_mSetS, Bt.a_mGive, Bt.a_mAsL, Bt.a_asL, Bt.a_mRev, Bt.a_mDfl, Bt.a_mRng3, Bt.a_mPutAug, Bt.a_mPop, Bt.a_mSeq, Bt.a_mNil, Bt.a_mRet, Bt.a_mExpr, Bt.a_mSet, Bt.a_gN, Bt.a_gTup, Bt.a_gCons, Bt.a_gNil, Bt.a_mItL, Bt.a_mItT, Bt.a_mIt, Bt.a_mPart0, Bt.a_mPart1, Bt.a_mSl, Bt.a_mOwn, Bt.a_mApp, Bt.a_mPut, Bt.a_mAug, Bt.a_mRng1, Bt.a_mRng2, Bt.a_mZip, Bt.a_mEnum, Bt.a_mFor, Bt.a_mFn, Bt.a_mLenScr, Bt.a_mIxScr, Bt.a_mDGet, Bt.a_mDGet2, Bt.a_mDIn, Bt.a_mDPut, Bt.a_mDAug, Bt.a_mOwnO, Bt.a_mDict, Bt.a_mDNew, Bt.a_mSortD, Bt.a_mRaise0, Bt.a_mRaise1, Bt.a_mTry, Bt.a_mIsx, Bt.a_mFld, Bt.a_mMeth, Bt.a_mExt, Bt.a_mExtB, Bt.a_mNew0, Bt.a_mNewN, Bt.a_mNew1, Bt.a_mIsxO, Bt.a_mIsVE, Bt.a_mPar, Bt.a_mRaiseN, Bt.a_mTry0, Bt.a_mZipE, Bt.a_mLrg2, Bt.a_mLrg1, Bt.argSl, Bt.apartA, Bt.isOwn, Bt.putB, Bt.okAsg, Bt.parBack, Bt.slD, Bt.addD, Bt.subD, Bt.mulD, Bt.fdivD, Bt.modD, Bt.powD, Bt.ltD, Bt.leD, Bt.gtD, Bt.geD, Bt.isD, Bt.isntD, Bt.isNone, Bt.ixD, Bt.lenF, Bt.intF, Bt.minF, Bt.tupleF, Bt.listF, Bt.notX_none, Bt.notX_bool, Bt.notX_int, Bt.notX_str, Bt.notX_list, Bt.notX_tuple, Bt.isi_none, Bt.isi_bool, Bt.isi_int, Bt.isi_str, Bt.isi_list, Bt.isi_tuple, Bt.tyIs, Bt.pkD, Bt.addL, Bt.mulL, Bt.listL, Bt.revD, Bt.borSl, Bt.flatD, Bt.isDic, Bt.dkOf, Bt.keyOf, Bt.isCls_x, Bt.isCls_n, Bt.xOf_0, Bt.xOf_1, Bt.isSub_0, Bt.lift_some, Bt.ll0, Bt.ll1, Bt.ll2, Bt.ll3, Bt.ll4, Bt.ll5, Bt.ll6, Bt.ll7, Bt.ll8, Bt.ll9, Bt.ll10, Bt.ll11, Bt.ll12, Bt.ll13, Bt.ll14, Bt.ll15, Bt.ll16, gN, at0, e, em, hl1, lim1, lim2, encRs_map, sumF_map, lenSum_eq, lenMax_eq, ew_none_none, ew_none_call, ew_none_all, ew_none_one, ew_none_within, ew_none_calls, ew_call_none, ew_call_call, ew_call_all, ew_call_one, ew_call_within, ew_call_calls, ew_all_none, ew_all_call, ew_all_all, ew_all_one, ew_all_within, ew_all_calls, ew_one_none, ew_one_call, ew_one_all, ew_one_one, ew_one_within, ew_one_calls, ew_within_none, ew_within_call, ew_within_all, ew_within_one, ew_within_within, ew_within_calls, ew_calls_none, ew_calls_call, ew_calls_all, ew_calls_one, ew_calls_within, ew_calls_calls, iw_none_all, iw_none_within, iw_call_all, iw_call_within, iw_all_all, iw_all_within, iw_one_all, iw_one_within, iw_within_all, iw_within_within, iw_calls_all, iw_calls_within]
theorem l_row : ∀ (n : Nat) (r : Rt) (b : Option Int) (c : Nat), dep r ≤ n → wfR r → BdR r → BdB b → c ≤ 10000 → ∃ sl, s__law_row n [.dat (encR r), .dat (encB b), .dat (.int (c : Nat))] = .ok sl [.dat (encR r), .dat (encB b), .dat (.int (c : Nat))] ∧ IsRow sl (rowL (rowF b r) c) := by
  intro n
  induction n with
  | zero => intro r b c h; cases r <;> simp [dep] at h
  | succ n ih =>
    intro r b c hd hw hB hb hc
    rw [r__law_row]
    have hL : c + 1 ≤ LIM := Nat.le_trans (by omega : c + 1 ≤ 100000) (Nat.le_refl _)
    cases r with
    | none =>
      refine ⟨.dat (.list (rowL (fun _ => 0) c)), ?_, fun _ => by rw [rowF]; rfl⟩
      simp! [m__law_row, encR, gN, at0, rpk c hc, rep1, lim1, ew_none_none, ew_none_call, ew_none_all, ew_none_one, ew_none_within, ew_none_calls, ew_call_none, ew_call_call, ew_call_all, ew_call_one, ew_call_within, ew_call_calls, ew_all_none, ew_all_call, ew_all_all, ew_all_one, ew_all_within, ew_all_calls, ew_one_none, ew_one_call, ew_one_all, ew_one_one, ew_one_within, ew_one_calls, ew_within_none, ew_within_call, ew_within_all, ew_within_one, ew_within_within, ew_within_calls, ew_calls_none, ew_calls_call, ew_calls_all, ew_calls_one, ew_calls_within, ew_calls_calls, iw_none_all, iw_none_within, iw_call_all, iw_call_within, iw_all_all, iw_all_within, iw_one_all, iw_one_within, iw_within_all, iw_within_within, iw_calls_all, iw_calls_within]
    | call x m t =>
      simp only [wfR] at hw
      have hq := hB (x, m, t) (by simp [callsR])
      have o2 := cut_bd hw.2.2.1 hq.1 hb
      have e : lc__law_row_1 (s__law_row n) [.dat (encR (.call x m t)), .dat (encB b), .dat (.int (c : Nat)), .dat (.str wCall), .un, .un, .dat (.int (cutI m b)), .un, .un, .un, .un, .un] = .ok (.list (rowL (rowF b (.call x m t)) c)) [.dat (encR (.call x m t)), .dat (encB b), .dat (.int (c : Nat)), .dat (.str wCall), .un, .un, .dat (.int (cutI m b)), .un, .un, .un, .un, .un] := by
        unfold lc__law_row_1 rowL
        refine lc_map (List.range (c + 1)) (fun i => .int (i : Nat)) _ (by simp! [rgN c (by omega), rangeN]) (by simp) (fun j hj => ?_) (by rw [List.length_range]; exact hL)
        have hj' : j ≤ c := by have := List.mem_range.mp hj; omega
        have o1 : okI (min t (j : Int)) = true := okI_of (by omega) (by omega)
        simp! [elF, wipeE, gN, encR, at3', o1, o2, rowF]
      refine ⟨(.ow (.l (rowL (rowF b (.call x m t)) c))), ?_, fun _ => rfl⟩
      rw [encR] at e ⊢
      cases b with
      | none => simp only [cutI, encB] at e ⊢; simp! [m__law_row, gN, at0, at2', e, ew_none_none, ew_none_call, ew_none_all, ew_none_one, ew_none_within, ew_none_calls, ew_call_none, ew_call_call, ew_call_all, ew_call_one, ew_call_within, ew_call_calls, ew_all_none, ew_all_call, ew_all_all, ew_all_one, ew_all_within, ew_all_calls, ew_one_none, ew_one_call, ew_one_all, ew_one_one, ew_one_within, ew_one_calls, ew_within_none, ew_within_call, ew_within_all, ew_within_one, ew_within_within, ew_within_calls, ew_calls_none, ew_calls_call, ew_calls_all, ew_calls_one, ew_calls_within, ew_calls_calls, iw_none_all, iw_none_within, iw_call_all, iw_call_within, iw_all_all, iw_all_within, iw_one_all, iw_one_within, iw_within_all, iw_within_within, iw_calls_all, iw_calls_within]
      | some b => simp only [cutI, encB] at e ⊢; simp! [m__law_row, gN, at0, at2', e, ew_none_none, ew_none_call, ew_none_all, ew_none_one, ew_none_within, ew_none_calls, ew_call_none, ew_call_call, ew_call_all, ew_call_one, ew_call_within, ew_call_calls, ew_all_none, ew_all_call, ew_all_all, ew_all_one, ew_all_within, ew_all_calls, ew_one_none, ew_one_call, ew_one_all, ew_one_one, ew_one_within, ew_one_calls, ew_within_none, ew_within_call, ew_within_all, ew_within_one, ew_within_within, ew_within_calls, ew_calls_none, ew_calls_call, ew_calls_all, ew_calls_one, ew_calls_within, ew_calls_calls, iw_none_all, iw_none_within, iw_call_all, iw_call_within, iw_all_all, iw_all_within, iw_one_all, iw_one_within, iw_within_all, iw_within_within, iw_calls_all, iw_calls_within]
    | within k q =>
      simp only [wfR] at hw
      simp only [dep] at hd
      obtain ⟨sl, e1, e2⟩ := ih q b c (by omega) hw.2 (fun z hz => hB z (by rw [callsR]; exact hz)) hb hc
      have e : lc__law_row_2 (s__law_row n) [.dat (encR (.within k q)), .dat (encB b), .dat (.int (c : Nat)), .dat (.str wWithin), .un, .un, .un, .un, .un, .un, .un, .un] = .ok (.list (rowL (rowF b (.within k q)) c)) [.dat (encR (.within k q)), .dat (encB b), .dat (.int (c : Nat)), .dat (.str wWithin), .un, .un, .un, .un, .un, .un, .un, .un] := by
        unfold lc__law_row_2
        have hi : mIt (mCall (s__law_row n) [] (mCons (mD (mOp ixD (mR 0) (mD (Bt.ret (.int 2))))) (mCons (mR 1) (mCons (mR 2) (Bt.ret []))))) [.dat (encR (.within k q)), .dat (encB b), .dat (.int (c : Nat)), .dat (.str wWithin), .un, .un, .un, .un, .un, .un, .un, .un] = .ok (rowL (rowF b q) c) [.dat (encR (.within k q)), .dat (encB b), .dat (.int (c : Nat)), .dat (.str wWithin), .un, .un, .un, .un, .un, .un, .un, .un] := by
          rw [encR]
          simp! [at2', e1, e2 _, itemsOf]
        unfold rowL at hi ⊢
        refine lc_map (List.range (c + 1)) (fun i => .int (rowF b q i)) _ hi (by simp) (fun j hj => ?_) (by rw [List.length_range]; exact hL)
        rw [encR]
        simp! [elF, wipeE, gN, at1, rowF]
      refine ⟨(.ow (.l (rowL (rowF b (.within k q)) c))), ?_, fun _ => rfl⟩
      rw [encR] at e ⊢
      simp! [m__law_row, gN, at0, e, ew_none_none, ew_none_call, ew_none_all, ew_none_one, ew_none_within, ew_none_calls, ew_call_none, ew_call_call, ew_call_all, ew_call_one, ew_call_within, ew_call_calls, ew_all_none, ew_all_call, ew_all_all, ew_all_one, ew_all_within, ew_all_calls, ew_one_none, ew_one_call, ew_one_all, ew_one_one, ew_one_within, ew_one_calls, ew_within_none, ew_within_call, ew_within_all, ew_within_one, ew_within_within, ew_within_calls, ew_calls_none, ew_calls_call, ew_calls_all, ew_calls_one, ew_calls_within, ew_calls_calls, iw_none_all, iw_none_within, iw_call_all, iw_call_within, iw_all_all, iw_all_within, iw_one_all, iw_one_within, iw_within_all, iw_within_within, iw_calls_all, iw_calls_within]
    | calls k q =>
      simp only [wfR] at hw
      simp only [dep] at hd
      obtain ⟨sl, e1, e2⟩ := ih q b c (by omega) hw.2 (fun z hz => hB z (by rw [callsR]; exact hz)) hb hc
      have e : lc__law_row_3 (s__law_row n) [.dat (encR (.calls k q)), .dat (encB b), .dat (.int (c : Nat)), .dat (.str wCalls), .dat (.list (rowL (rowF b q) c)), .un, .un, .un, .un, .un, .un, .un] = .ok (.list (rowL (rowF b (.calls k q)) c)) [.dat (encR (.calls k q)), .dat (encB b), .dat (.int (c : Nat)), .dat (.str wCalls), .dat (.list (rowL (rowF b q) c)), .un, .un, .un, .un, .un, .un, .un] := by
        unfold lc__law_row_3
        have hi : mRng1 (mCons (mD (mOp addD (mR 2) (mD (Bt.ret (.int 1))))) (Bt.ret [])) [.dat (encR (.calls k q)), .dat (encB b), .dat (.int (c : Nat)), .dat (.str wCalls), .dat (.list (rowL (rowF b q) c)), .un, .un, .un, .un, .un, .un, .un] = .ok ((List.range (c + 1)).map fun (i : Nat) => .int (i : Int)) [.dat (encR (.calls k q)), .dat (encB b), .dat (.int (c : Nat)), .dat (.str wCalls), .dat (.list (rowL (rowF b q) c)), .un, .un, .un, .un, .un, .un, .un] := by
          simp! [rgN c (by omega), rangeN]
        rw [show rowL (rowF b (.calls k q)) c = (List.range (c + 1)).map fun j => .int (rowF b (.calls k q) j) from rfl]
        refine lc_map (List.range (c + 1)) (fun i => .int (i : Nat)) _ hi (by simp) (fun j hj => ?_) (by rw [List.length_range]; exact hL)
        have hj' : j ≤ c := by have := List.mem_range.mp hj; omega
        have ej : min (j : Int) k = ((min j k.toNat : Nat) : Int) := by omega
        rw [encR]
        simp! [elF, wipeE, gN, at1, ej, row_at (f := rowF b q) (show min j k.toNat ≤ c by omega), rowF]
      refine ⟨(.ow (.l (rowL (rowF b (.calls k q)) c))), ?_, fun _ => rfl⟩
      rw [encR] at e ⊢
      simp! [m__law_row, gN, at0, at1, at2', e1, e2 _, e, ew_none_none, ew_none_call, ew_none_all, ew_none_one, ew_none_within, ew_none_calls, ew_call_none, ew_call_call, ew_call_all, ew_call_one, ew_call_within, ew_call_calls, ew_all_none, ew_all_call, ew_all_all, ew_all_one, ew_all_within, ew_all_calls, ew_one_none, ew_one_call, ew_one_all, ew_one_one, ew_one_within, ew_one_calls, ew_within_none, ew_within_call, ew_within_all, ew_within_one, ew_within_within, ew_within_calls, ew_calls_none, ew_calls_call, ew_calls_all, ew_calls_one, ew_calls_within, ew_calls_calls, iw_none_all, iw_none_within, iw_call_all, iw_call_within, iw_all_all, iw_all_within, iw_one_all, iw_one_within, iw_within_all, iw_within_within, iw_calls_all, iw_calls_within]
    | all rs =>
      simp only [wfR] at hw
      simp only [dep] at hd
      let st : (Nat → Int) → En := fun f => [.dat (.tuple [.str wAll, .tuple (rs.map encR)]), .dat (encB b), .dat (.int (c : Nat)), .dat (.str wAll), .dat (.list (rowL f c)), .un, .un, .un, .un, .un, .un, .un]
      have e : fr__law_row_1 (s__law_row n) (st fun _ => 0) = .ok .nx (st (rs.foldl (fun f r => conv f (rowF b r)) fun _ => 0)) := by
        unfold fr__law_row_1
        refine (for_fold rs encR st (fun f r => conv f (rowF b r)) (fun _ p => ∀ q ∈ p, q ∈ rs) (by simp! [st, at1, itemsOf]) (fun q hq => hq) (fun q p f hI => ⟨?_, fun z hz => hI z (List.mem_cons_of_mem _ hz)⟩)).1
        have hq := hI q List.mem_cons_self
        obtain ⟨sl, e1, e2⟩ := ih q b c (by have := dep_mem hq; omega) (wf_mem hw.2 hq) (bd_all hB hq) hb hc
        have e4 : ∀ j, j ≤ c → lc__law_row_5 (s__law_row n) [.dat (.tuple [.str wAll, .tuple (rs.map encR)]), .dat (encB b), .dat (.int (c : Nat)), .dat (.str wAll), .dat (.list (rowL f c)), .dat (encR q), .un, .dat (.list (rowL (rowF b q) c)), .dat (.int (j : Nat)), .un, .un, .un] = .ok (.list ((List.range (j + 1)).map fun i => .int (f i + rowF b q (j - i)))) [.dat (.tuple [.str wAll, .tuple (rs.map encR)]), .dat (encB b), .dat (.int (c : Nat)), .dat (.str wAll), .dat (.list (rowL f c)), .dat (encR q), .un, .dat (.list (rowL (rowF b q) c)), .dat (.int (j : Nat)), .un, .un, .un] := by
          intro j hj
          unfold lc__law_row_5
          refine lc_map (List.range (j + 1)) (fun i => .int (i : Nat)) _ (by simp! [rgN j (by omega), rangeN]) (by simp) (fun i hi => ?_) (by rw [List.length_range]; exact Nat.le_trans (by omega : j + 1 ≤ 100000) (Nat.le_refl _))
          have hi' : i ≤ j := by have := List.mem_range.mp hi; omega
          have ei : ((j : Int) - (i : Int)) = ((j - i : Nat) : Int) := by omega
          simp! [elF, wipeE, gN, row_at (f := f) (show i ≤ c by omega), ei, row_at (f := rowF b q) (show j - i ≤ c by omega)]
        have e3 : lc__law_row_6 (s__law_row n) [.dat (.tuple [.str wAll, .tuple (rs.map encR)]), .dat (encB b), .dat (.int (c : Nat)), .dat (.str wAll), .dat (.list (rowL f c)), .dat (encR q), .un, .dat (.list (rowL (rowF b q) c)), .un, .un, .un, .un] = .ok (.list (rowL (conv f (rowF b q)) c)) [.dat (.tuple [.str wAll, .tuple (rs.map encR)]), .dat (encB b), .dat (.int (c : Nat)), .dat (.str wAll), .dat (.list (rowL f c)), .dat (encR q), .un, .dat (.list (rowL (rowF b q) c)), .un, .un, .un, .un] := by
          unfold lc__law_row_6
          rw [show rowL (conv f (rowF b q)) c = (List.range (c + 1)).map fun j => .int (conv f (rowF b q) j) from rfl]
          refine lc_map (List.range (c + 1)) (fun i => .int (i : Nat)) _ (by simp! [rgN c (by omega), rangeN]) (by simp) (fun j hj => ?_) (by rw [List.length_range]; exact hL)
          have hj' : j ≤ c := by have := List.mem_range.mp hj; omega
          have e5 := e4 j hj'
          have e6 : maxF [.list ((List.range (j + 1)).map fun i => .int (f i + rowF b q (j - i)))] = some (.int (conv f (rowF b q) j)) := maxF_map (fun i => f i + rowF b q (j - i)) _ (by simp)
          simp [elF, wipeE, gN, Bt.a_bnd, Bt.a_ret, Bt.a_stuck, Bt.a_liftS, Bt.a_liftN, Bt.a_mOp, Bt.a_mOpF, Bt.a_mChain, Bt.a_mD, Bt.a_mR, Bt.a_mV, Bt.a_mFrz, Bt.a_rsvD, Bt.a_rsvR, Bt.a_rsvs0, Bt.a_rsvs1, Bt.a_mCons, Bt.a_mConsD, Bt.a_mTup, Bt.a_mLst, Bt.a_mLstF, Bt.a_mIf, Bt.a_mIfS, Bt.a_ite, Bt.a_mAnd, Bt.a_mOr, Bt.a_mNot, Bt.a_mAndV, Bt.a_mOrV, Bt.a_mNotV, Bt.a_asB, Bt.a_mNeg, Bt.a_mB, Bt.a_mBF, Bt.a_mIsi, Bt.a_mCall, Bt.a_mCallK, Bt.a_mCallO, Bt.a_mCallKO, Bt.a_mCallB, Bt.a_thawD, Bt.a_thawL, Bt.a_mRetS, Bt.a_mDat, Bt.a_mObj, Bt.a_mLstO, Bt.a_mSetS, Bt.a_mGive, Bt.a_mAsL, Bt.a_asL, Bt.a_mRev, Bt.a_mDfl, Bt.a_mRng3, Bt.a_mPutAug, Bt.a_mPop, Bt.a_mSeq, Bt.a_mNil, Bt.a_mRet, Bt.a_mExpr, Bt.a_mSet, Bt.a_gN, Bt.a_gTup, Bt.a_gCons, Bt.a_gNil, Bt.a_mItL, Bt.a_mItT, Bt.a_mIt, Bt.a_mPart0, Bt.a_mPart1, Bt.a_mSl, Bt.a_mOwn, Bt.a_mApp, Bt.a_mPut, Bt.a_mAug, Bt.a_mRng1, Bt.a_mRng2, Bt.a_mZip, Bt.a_mEnum, Bt.a_mFor, Bt.a_mFn, Bt.a_mLenScr, Bt.a_mIxScr, Bt.a_mDGet, Bt.a_mDGet2, Bt.a_mDIn, Bt.a_mDPut, Bt.a_mDAug, Bt.a_mOwnO, Bt.a_mDict, Bt.a_mDNew, Bt.a_mSortD, Bt.a_mRaise0, Bt.a_mRaise1, Bt.a_mTry, Bt.a_mIsx, Bt.a_mFld, Bt.a_mMeth, Bt.a_mExt, Bt.a_mExtB, Bt.a_mNew0, Bt.a_mNewN, Bt.a_mNew1, Bt.a_mIsxO, Bt.a_mIsVE, Bt.a_mPar, Bt.a_mRaiseN, Bt.a_mTry0, Bt.a_mZipE, Bt.a_mLrg2, Bt.a_mLrg1, Bt.argSl, Bt.apartA, Bt.isOwn, Bt.putB, Bt.okAsg, Bt.parBack, Bt.slD, Bt.addD, Bt.subD, Bt.mulD, Bt.fdivD, Bt.modD, Bt.powD, Bt.ltD, Bt.leD, Bt.gtD, Bt.geD, Bt.isD, Bt.isntD, Bt.isNone, Bt.ixD, Bt.lenF, Bt.intF, Bt.minF, Bt.tupleF, Bt.listF, Bt.notX_none, Bt.notX_bool, Bt.notX_int, Bt.notX_str, Bt.notX_list, Bt.notX_tuple, Bt.isi_none, Bt.isi_bool, Bt.isi_int, Bt.isi_str, Bt.isi_list, Bt.isi_tuple, Bt.tyIs, Bt.pkD, Bt.addL, Bt.mulL, Bt.listL, Bt.revD, Bt.borSl, Bt.flatD, Bt.isDic, Bt.dkOf, Bt.keyOf, Bt.isCls_x, Bt.isCls_n, Bt.xOf_0, Bt.xOf_1, Bt.isSub_0, Bt.lift_some, Bt.ll0, Bt.ll1, Bt.ll2, Bt.ll3, Bt.ll4, Bt.ll5, Bt.ll6, Bt.ll7, Bt.ll8, Bt.ll9, Bt.ll10, Bt.ll11, Bt.ll12, Bt.ll13, Bt.ll14, Bt.ll15, Bt.ll16, e5, e6]
        refine ⟨[.dat (.tuple [.str wAll, .tuple (rs.map encR)]), .dat (encB b), .dat (.int (c : Nat)), .dat (.str wAll), .dat (.list (rowL f c)), .dat (encR q), .un, .un, .un, .un, .un, .un], [.dat (.tuple [.str wAll, .tuple (rs.map encR)]), .dat (encB b), .dat (.int (c : Nat)), .dat (.str wAll), .dat (.list (rowL (conv f (rowF b q)) c)), .dat (encR q), .un, .dat (.list (rowL (rowF b q) c)), .un, .un, .un, .un], by simp [st, gN], .inl ?_, by simp [st, wipeE]⟩
        simp! [lp__law_row_1, gN, e1, e2 _, e3, ew_none_none, ew_none_call, ew_none_all, ew_none_one, ew_none_within, ew_none_calls, ew_call_none, ew_call_call, ew_call_all, ew_call_one, ew_call_within, ew_call_calls, ew_all_none, ew_all_call, ew_all_all, ew_all_one, ew_all_within, ew_all_calls, ew_one_none, ew_one_call, ew_one_all, ew_one_one, ew_one_within, ew_one_calls, ew_within_none, ew_within_call, ew_within_all, ew_within_one, ew_within_within, ew_within_calls, ew_calls_none, ew_calls_call, ew_calls_all, ew_calls_one, ew_calls_within, ew_calls_calls, iw_none_all, iw_none_within, iw_call_all, iw_call_within, iw_all_all, iw_all_within, iw_one_all, iw_one_within, iw_within_all, iw_within_within, iw_calls_all, iw_calls_within]
      refine ⟨.dat (.list (rowL (rowF b (.all rs)) c)), ?_, fun _ => rfl⟩
      rw [rowF, rowAll_eq, encR, encRs_map]
      simp only [st] at e
      simp! [m__law_row, gN, at0, rpk c hc, rep1, e, lim1, ew_none_none, ew_none_call, ew_none_all, ew_none_one, ew_none_within, ew_none_calls, ew_call_none, ew_call_call, ew_call_all, ew_call_one, ew_call_within, ew_call_calls, ew_all_none, ew_all_call, ew_all_all, ew_all_one, ew_all_within, ew_all_calls, ew_one_none, ew_one_call, ew_one_all, ew_one_one, ew_one_within, ew_one_calls, ew_within_none, ew_within_call, ew_within_all, ew_within_one, ew_within_within, ew_within_calls, ew_calls_none, ew_calls_call, ew_calls_all, ew_calls_one, ew_calls_within, ew_calls_calls, iw_none_all, iw_none_within, iw_call_all, iw_call_within, iw_all_all, iw_all_within, iw_one_all, iw_one_within, iw_within_all, iw_within_within, iw_calls_all, iw_calls_within]
    | one rs =>
      simp only [wfR] at hw
      simp only [dep] at hd
      let st : (Nat → Int) → En := fun f => [.dat (.tuple [.str wOne, .tuple (rs.map encR)]), .dat (encB b), .dat (.int (c : Nat)), .dat (.str wOne), .dat (.list (rowL f c)), .un, .un, .un, .un, .un, .un, .un]
      have e : fr__law_row_1 (s__law_row n) (st fun _ => 0) = .ok .nx (st (rs.foldl (fun f r => pmax f (rowF b r)) fun _ => 0)) := by
        unfold fr__law_row_1
        refine (for_fold rs encR st (fun f r => pmax f (rowF b r)) (fun _ p => ∀ q ∈ p, q ∈ rs) (by simp! [st, at1, itemsOf]) (fun q hq => hq) (fun q p f hI => ⟨?_, fun z hz => hI z (List.mem_cons_of_mem _ hz)⟩)).1
        have hq := hI q List.mem_cons_self
        obtain ⟨sl, e1, e2⟩ := ih q b c (by have := dep_mem hq; omega) (wf_mem hw.2 hq) (bd_one hB hq) hb hc
        have e3 : lc__law_row_4 (s__law_row n) [.dat (.tuple [.str wOne, .tuple (rs.map encR)]), .dat (encB b), .dat (.int (c : Nat)), .dat (.str wOne), .dat (.list (rowL f c)), .dat (encR q), .un, .dat (.list (rowL (rowF b q) c)), .un, .un, .un, .un] = .ok (.list (rowL (pmax f (rowF b q)) c)) [.dat (.tuple [.str wOne, .tuple (rs.map encR)]), .dat (encB b), .dat (.int (c : Nat)), .dat (.str wOne), .dat (.list (rowL f c)), .dat (encR q), .un, .dat (.list (rowL (rowF b q) c)), .un, .un, .un, .un] := by
          unfold lc__law_row_4
          rw [show rowL (pmax f (rowF b q)) c = (List.range (c + 1)).map fun j => .int (pmax f (rowF b q) j) from rfl]
          refine lc_map (List.range (c + 1)) (fun j => .tuple [.int (f j), .int (rowF b q j)]) _ (by simp! [row_len, zip_row]) (by simp) (fun j hj => ?_) (by rw [List.length_range]; exact hL)
          simp! [elF, wipeE, gN, maxT2, pmax]
        refine ⟨[.dat (.tuple [.str wOne, .tuple (rs.map encR)]), .dat (encB b), .dat (.int (c : Nat)), .dat (.str wOne), .dat (.list (rowL f c)), .dat (encR q), .un, .un, .un, .un, .un, .un], [.dat (.tuple [.str wOne, .tuple (rs.map encR)]), .dat (encB b), .dat (.int (c : Nat)), .dat (.str wOne), .dat (.list (rowL (pmax f (rowF b q)) c)), .dat (encR q), .un, .dat (.list (rowL (rowF b q) c)), .un, .un, .un, .un], by simp [st, gN], .inl ?_, by simp [st, wipeE]⟩
        simp! [lp__law_row_1, gN, e1, e2 _, e3, ew_none_none, ew_none_call, ew_none_all, ew_none_one, ew_none_within, ew_none_calls, ew_call_none, ew_call_call, ew_call_all, ew_call_one, ew_call_within, ew_call_calls, ew_all_none, ew_all_call, ew_all_all, ew_all_one, ew_all_within, ew_all_calls, ew_one_none, ew_one_call, ew_one_all, ew_one_one, ew_one_within, ew_one_calls, ew_within_none, ew_within_call, ew_within_all, ew_within_one, ew_within_within, ew_within_calls, ew_calls_none, ew_calls_call, ew_calls_all, ew_calls_one, ew_calls_within, ew_calls_calls, iw_none_all, iw_none_within, iw_call_all, iw_call_within, iw_all_all, iw_all_within, iw_one_all, iw_one_within, iw_within_all, iw_within_within, iw_calls_all, iw_calls_within]
      refine ⟨.dat (.list (rowL (rowF b (.one rs)) c)), ?_, fun _ => rfl⟩
      rw [rowF, rowOne_eq, encR, encRs_map]
      simp only [st] at e
      simp! [m__law_row, gN, at0, rpk c hc, rep1, e, lim1, ew_none_none, ew_none_call, ew_none_all, ew_none_one, ew_none_within, ew_none_calls, ew_call_none, ew_call_call, ew_call_all, ew_call_one, ew_call_within, ew_call_calls, ew_all_none, ew_all_call, ew_all_all, ew_all_one, ew_all_within, ew_all_calls, ew_one_none, ew_one_call, ew_one_all, ew_one_one, ew_one_within, ew_one_calls, ew_within_none, ew_within_call, ew_within_all, ew_within_one, ew_within_within, ew_within_calls, ew_calls_none, ew_calls_call, ew_calls_all, ew_calls_one, ew_calls_within, ew_calls_calls, iw_none_all, iw_none_within, iw_call_all, iw_call_within, iw_all_all, iw_all_within, iw_one_all, iw_one_within, iw_within_all, iw_within_within, iw_calls_all, iw_calls_within]
end Lw
namespace Lw
open PySem L2 Bt
theorem l_top : ∀ (n : Nat) (r : Rt) (b : Option Int), dep r ≤ n → n ≤ 30 → wfR r → BdR r → OkB b → totC (callsR r) ≤ 10000 → s__law_top n [.dat (encR r), .dat (encB b)] = .ok (.dat (.int (topR b r))) [.dat (encR r), .dat (encB b)] := by
  intro n
  induction n with
  | zero => intro r b h; cases r <;> simp [dep] at h
  | succ n ih =>
    intro r b hd hn hw hB hb ht
    rw [r__law_top]
    cases r with
    | none => simp! [m__law_top, encR, topR, gN, at0, ew_none_none, ew_none_call, ew_none_all, ew_none_one, ew_none_within, ew_none_calls, ew_call_none, ew_call_call, ew_call_all, ew_call_one, ew_call_within, ew_call_calls, ew_all_none, ew_all_call, ew_all_all, ew_all_one, ew_all_within, ew_all_calls, ew_one_none, ew_one_call, ew_one_all, ew_one_one, ew_one_within, ew_one_calls, ew_within_none, ew_within_call, ew_within_all, ew_within_one, ew_within_within, ew_within_calls, ew_calls_none, ew_calls_call, ew_calls_all, ew_calls_one, ew_calls_within, ew_calls_calls, iw_none_all, iw_none_within, iw_call_all, iw_call_within, iw_all_all, iw_all_within, iw_one_all, iw_one_within, iw_within_all, iw_within_within, iw_calls_all, iw_calls_within]
    | call x m t =>
      simp only [wfR] at hw
      have hq := hB (x, m, t) (by simp [callsR])
      have h2 : t ≤ 10 ^ 100 := hq.2
      have o2 := cut_bd hw.2.2.1 hq.1 hb.bd
      have o1 : okI t = true := okI_of (by omega) (by omega)
      cases b with
      | none => simp only [cutI, encB, topR] at o2 ⊢; simp! [m__law_top, encR, gN, at0, at2', at3', o1, o2, ew_none_none, ew_none_call, ew_none_all, ew_none_one, ew_none_within, ew_none_calls, ew_call_none, ew_call_call, ew_call_all, ew_call_one, ew_call_within, ew_call_calls, ew_all_none, ew_all_call, ew_all_all, ew_all_one, ew_all_within, ew_all_calls, ew_one_none, ew_one_call, ew_one_all, ew_one_one, ew_one_within, ew_one_calls, ew_within_none, ew_within_call, ew_within_all, ew_within_one, ew_within_within, ew_within_calls, ew_calls_none, ew_calls_call, ew_calls_all, ew_calls_one, ew_calls_within, ew_calls_calls, iw_none_all, iw_none_within, iw_call_all, iw_call_within, iw_all_all, iw_all_within, iw_one_all, iw_one_within, iw_within_all, iw_within_within, iw_calls_all, iw_calls_within]
      | some b => simp only [cutI, encB, topR] at o2 ⊢; simp! [m__law_top, encR, gN, at0, at2', at3', o1, o2, ew_none_none, ew_none_call, ew_none_all, ew_none_one, ew_none_within, ew_none_calls, ew_call_none, ew_call_call, ew_call_all, ew_call_one, ew_call_within, ew_call_calls, ew_all_none, ew_all_call, ew_all_all, ew_all_one, ew_all_within, ew_all_calls, ew_one_none, ew_one_call, ew_one_all, ew_one_one, ew_one_within, ew_one_calls, ew_within_none, ew_within_call, ew_within_all, ew_within_one, ew_within_within, ew_within_calls, ew_calls_none, ew_calls_call, ew_calls_all, ew_calls_one, ew_calls_within, ew_calls_calls, iw_none_all, iw_none_within, iw_call_all, iw_call_within, iw_all_all, iw_all_within, iw_one_all, iw_one_within, iw_within_all, iw_within_within, iw_calls_all, iw_calls_within]
    | within k q =>
      simp only [dep] at hd
      simp only [wfR] at hw
      rw [callsR] at ht
      simp! [m__law_top, encR, topR, gN, at0, at1, at2', ih q b (by omega) (by omega) hw.2 (fun z hz => hB z (by rw [callsR]; exact hz)) hb ht, ew_none_none, ew_none_call, ew_none_all, ew_none_one, ew_none_within, ew_none_calls, ew_call_none, ew_call_call, ew_call_all, ew_call_one, ew_call_within, ew_call_calls, ew_all_none, ew_all_call, ew_all_all, ew_all_one, ew_all_within, ew_all_calls, ew_one_none, ew_one_call, ew_one_all, ew_one_one, ew_one_within, ew_one_calls, ew_within_none, ew_within_call, ew_within_all, ew_within_one, ew_within_within, ew_within_calls, ew_calls_none, ew_calls_call, ew_calls_all, ew_calls_one, ew_calls_within, ew_calls_calls, iw_none_all, iw_none_within, iw_call_all, iw_call_within, iw_all_all, iw_all_within, iw_one_all, iw_one_within, iw_within_all, iw_within_within, iw_calls_all, iw_calls_within]
    | calls k q =>
      simp only [dep] at hd
      simp only [wfR] at hw
      rw [callsR] at ht
      have hl := len_tot q hw.2
      have hl0 := len_nn q hw.2
      obtain ⟨sl, e1, e2⟩ := l_row 30 q b (min k (lenR q)).toNat (by omega) hw.2 (fun z hz => hB z (by rw [callsR]; exact hz)) hb.bd (by omega)
      have ec : (((min k (lenR q)).toNat : Nat) : Int) = min k (lenR q) := by omega
      rw [ec] at e1
      simp! [m__law_top, encR, topR, gN, at0, at1, at2', l_length 30 q (by omega) hw.2, e1, e2 _, row_last, ew_none_none, ew_none_call, ew_none_all, ew_none_one, ew_none_within, ew_none_calls, ew_call_none, ew_call_call, ew_call_all, ew_call_one, ew_call_within, ew_call_calls, ew_all_none, ew_all_call, ew_all_all, ew_all_one, ew_all_within, ew_all_calls, ew_one_none, ew_one_call, ew_one_all, ew_one_one, ew_one_within, ew_one_calls, ew_within_none, ew_within_call, ew_within_all, ew_within_one, ew_within_within, ew_within_calls, ew_calls_none, ew_calls_call, ew_calls_all, ew_calls_one, ew_calls_within, ew_calls_calls, iw_none_all, iw_none_within, iw_call_all, iw_call_within, iw_all_all, iw_all_within, iw_one_all, iw_one_within, iw_within_all, iw_within_within, iw_calls_all, iw_calls_within]
    | all rs =>
      simp only [dep] at hd
      simp only [wfR] at hw
      rw [callsR, callsRs_flat] at ht
      have hl1 : rs.length + 1 ≤ LIM := Nat.le_trans (Nat.succ_le_succ hw.1) (by decide)
      have em := maxF_app0 (topR b) rs fun q hq => top_nn b hb q (wf_mem hw.2 hq)
      have e : lc__law_top_1 (s__law_top n) [.dat (.tuple [.str wAll, .tuple (rs.map encR)]), .dat (encB b), .dat (.str wAll), .un, .un] = .ok (.list (rs.map fun r => .int (topR b r))) [.dat (.tuple [.str wAll, .tuple (rs.map encR)]), .dat (encB b), .dat (.str wAll), .un, .un] := by
        unfold lc__law_top_1
        exact lc_map rs encR _ (by simp! [at1, itemsOf]) (by simp) (fun q hq => by simp! [elF, wipeE, gN, ih q b (by have := dep_mem hq; omega) (by omega) (wf_mem hw.2 hq) (bd_all hB hq) hb (Int.le_trans (tot_part hw.2 hq) ht)]) (wf_len hw.1)
      simp [m__law_top, encR, topR, Bt.a_bnd, Bt.a_ret, Bt.a_stuck, Bt.a_liftS, Bt.a_liftN, Bt.a_mOp, Bt.a_mOpF, Bt.a_mChain, Bt.a_mD, Bt.a_mR, Bt.a_mV, Bt.a_mFrz, Bt.a_rsvD, Bt.a_rsvR, Bt.a_rsvs0, Bt.a_rsvs1, Bt.a_mCons, Bt.a_mConsD, Bt.a_mTup, Bt.a_mLst, Bt.a_mLstF, Bt.a_mIf, Bt.a_mIfS, Bt.a_ite, Bt.a_mAnd, Bt.a_mOr, Bt.a_mNot, Bt.a_mAndV, Bt.a_mOrV, Bt.a_mNotV, Bt.a_asB, Bt.a_mNeg, Bt.a_mB, Bt.a_mBF, Bt.a_mIsi, Bt.a_mCall, Bt.a_mCallK, Bt.a_mCallO, Bt.a_mCallKO, Bt.a_mCallB, Bt.a_thawD, Bt.a_thawL, Bt.a_mRetS, Bt.a_mDat, Bt.a_mObj, Bt.a_mLstO, Bt.a_mSetS, Bt.a_mGive, Bt.a_mAsL, Bt.a_asL, Bt.a_mRev, Bt.a_mDfl, Bt.a_mRng3, Bt.a_mPutAug, Bt.a_mPop, Bt.a_mSeq, Bt.a_mNil, Bt.a_mRet, Bt.a_mExpr, Bt.a_mSet, Bt.a_gN, Bt.a_gTup, Bt.a_gCons, Bt.a_gNil, Bt.a_mItL, Bt.a_mItT, Bt.a_mIt, Bt.a_mPart0, Bt.a_mPart1, Bt.a_mSl, Bt.a_mOwn, Bt.a_mApp, Bt.a_mPut, Bt.a_mAug, Bt.a_mRng1, Bt.a_mRng2, Bt.a_mZip, Bt.a_mEnum, Bt.a_mFor, Bt.a_mFn, Bt.a_mLenScr, Bt.a_mIxScr, Bt.a_mDGet, Bt.a_mDGet2, Bt.a_mDIn, Bt.a_mDPut, Bt.a_mDAug, Bt.a_mOwnO, Bt.a_mDict, Bt.a_mDNew, Bt.a_mSortD, Bt.a_mRaise0, Bt.a_mRaise1, Bt.a_mTry, Bt.a_mIsx, Bt.a_mFld, Bt.a_mMeth, Bt.a_mExt, Bt.a_mExtB, Bt.a_mNew0, Bt.a_mNewN, Bt.a_mNew1, Bt.a_mIsxO, Bt.a_mIsVE, Bt.a_mPar, Bt.a_mRaiseN, Bt.a_mTry0, Bt.a_mZipE, Bt.a_mLrg2, Bt.a_mLrg1, Bt.argSl, Bt.apartA, Bt.isOwn, Bt.putB, Bt.okAsg, Bt.parBack, Bt.slD, Bt.addD, Bt.subD, Bt.mulD, Bt.fdivD, Bt.modD, Bt.powD, Bt.ltD, Bt.leD, Bt.gtD, Bt.geD, Bt.isD, Bt.isntD, Bt.isNone, Bt.ixD, Bt.lenF, Bt.intF, Bt.minF, Bt.tupleF, Bt.listF, Bt.notX_none, Bt.notX_bool, Bt.notX_int, Bt.notX_str, Bt.notX_list, Bt.notX_tuple, Bt.isi_none, Bt.isi_bool, Bt.isi_int, Bt.isi_str, Bt.isi_list, Bt.isi_tuple, Bt.tyIs, Bt.pkD, Bt.addL, Bt.mulL, Bt.listL, Bt.revD, Bt.borSl, Bt.flatD, Bt.isDic, Bt.dkOf, Bt.keyOf, Bt.isCls_x, Bt.isCls_n, Bt.xOf_0, Bt.xOf_1, Bt.isSub_0, Bt.lift_some, Bt.ll0, Bt.ll1, Bt.ll2, Bt.ll3, Bt.ll4, Bt.ll5, Bt.ll6, Bt.ll7, Bt.ll8, Bt.ll9, Bt.ll10, Bt.ll11, Bt.ll12, Bt.ll13, Bt.ll14, Bt.ll15, Bt.ll16, gN, at0, e, em, hl1, lim1, encRs_map, sumF_map, topSum_eq, topMax_eq, ew_none_none, ew_none_call, ew_none_all, ew_none_one, ew_none_within, ew_none_calls, ew_call_none, ew_call_call, ew_call_all, ew_call_one, ew_call_within, ew_call_calls, ew_all_none, ew_all_call, ew_all_all, ew_all_one, ew_all_within, ew_all_calls, ew_one_none, ew_one_call, ew_one_all, ew_one_one, ew_one_within, ew_one_calls, ew_within_none, ew_within_call, ew_within_all, ew_within_one, ew_within_within, ew_within_calls, ew_calls_none, ew_calls_call, ew_calls_all, ew_calls_one, ew_calls_within, ew_calls_calls, iw_none_all, iw_none_within, iw_call_all, iw_call_within, iw_all_all, iw_all_within, iw_one_all, iw_one_within, iw_within_all, iw_within_within, iw_calls_all, iw_calls_within]
    | one rs =>
      simp only [dep] at hd
      simp only [wfR] at hw
      rw [callsR, callsRs_flat] at ht
      have hl1 : rs.length + 1 ≤ LIM := Nat.le_trans (Nat.succ_le_succ hw.1) (by decide)
      have em := maxF_app0 (topR b) rs fun q hq => top_nn b hb q (wf_mem hw.2 hq)
      have e : lc__law_top_1 (s__law_top n) [.dat (.tuple [.str wOne, .tuple (rs.map encR)]), .dat (encB b), .dat (.str wOne), .un, .un] = .ok (.list (rs.map fun r => .int (topR b r))) [.dat (.tuple [.str wOne, .tuple (rs.map encR)]), .dat (encB b), .dat (.str wOne), .un, .un] := by
        unfold lc__law_top_1
        exact lc_map rs encR _ (by simp! [at1, itemsOf]) (by simp) (fun q hq => by simp! [elF, wipeE, gN, ih q b (by have := dep_mem hq; omega) (by omega) (wf_mem hw.2 hq) (bd_one hB hq) hb (Int.le_trans (tot_part hw.2 hq) ht)]) (wf_len hw.1)
      simp [m__law_top, encR, topR, Bt.a_bnd, Bt.a_ret, Bt.a_stuck, Bt.a_liftS, Bt.a_liftN, Bt.a_mOp, Bt.a_mOpF, Bt.a_mChain, Bt.a_mD, Bt.a_mR, Bt.a_mV, Bt.a_mFrz, Bt.a_rsvD, Bt.a_rsvR, Bt.a_rsvs0, Bt.a_rsvs1, Bt.a_mCons, Bt.a_mConsD, Bt.a_mTup, Bt.a_mLst, Bt.a_mLstF, Bt.a_mIf, Bt.a_mIfS, Bt.a_ite, Bt.a_mAnd, Bt.a_mOr, Bt.a_mNot, Bt.a_mAndV, Bt.a_mOrV, Bt.a_mNotV, Bt.a_asB, Bt.a_mNeg, Bt.a_mB, Bt.a_mBF, Bt.a_mIsi, Bt.a_mCall, Bt.a_mCallK, Bt.a_mCallO, Bt.a_mCallKO, Bt.a_mCallB, Bt.a_thawD, Bt.a_thawL, Bt.a_mRetS, Bt.a_mDat, Bt.a_mObj, Bt.a_mLstO, Bt.a_mSetS, Bt.a_mGive, Bt.a_mAsL, Bt.a_asL, Bt.a_mRev, Bt.a_mDfl, Bt.a_mRng3, Bt.a_mPutAug, Bt.a_mPop, Bt.a_mSeq, Bt.a_mNil, Bt.a_mRet, Bt.a_mExpr, Bt.a_mSet, Bt.a_gN, Bt.a_gTup, Bt.a_gCons, Bt.a_gNil, Bt.a_mItL, Bt.a_mItT, Bt.a_mIt, Bt.a_mPart0, Bt.a_mPart1, Bt.a_mSl, Bt.a_mOwn, Bt.a_mApp, Bt.a_mPut, Bt.a_mAug, Bt.a_mRng1, Bt.a_mRng2, Bt.a_mZip, Bt.a_mEnum, Bt.a_mFor, Bt.a_mFn, Bt.a_mLenScr, Bt.a_mIxScr, Bt.a_mDGet, Bt.a_mDGet2, Bt.a_mDIn, Bt.a_mDPut, Bt.a_mDAug, Bt.a_mOwnO, Bt.a_mDict, Bt.a_mDNew, Bt.a_mSortD, Bt.a_mRaise0, Bt.a_mRaise1, Bt.a_mTry, Bt.a_mIsx, Bt.a_mFld, Bt.a_mMeth, Bt.a_mExt, Bt.a_mExtB, Bt.a_mNew0, Bt.a_mNewN, Bt.a_mNew1, Bt.a_mIsxO, Bt.a_mIsVE, Bt.a_mPar, Bt.a_mRaiseN, Bt.a_mTry0, Bt.a_mZipE, Bt.a_mLrg2, Bt.a_mLrg1, Bt.argSl, Bt.apartA, Bt.isOwn, Bt.putB, Bt.okAsg, Bt.parBack, Bt.slD, Bt.addD, Bt.subD, Bt.mulD, Bt.fdivD, Bt.modD, Bt.powD, Bt.ltD, Bt.leD, Bt.gtD, Bt.geD, Bt.isD, Bt.isntD, Bt.isNone, Bt.ixD, Bt.lenF, Bt.intF, Bt.minF, Bt.tupleF, Bt.listF, Bt.notX_none, Bt.notX_bool, Bt.notX_int, Bt.notX_str, Bt.notX_list, Bt.notX_tuple, Bt.isi_none, Bt.isi_bool, Bt.isi_int, Bt.isi_str, Bt.isi_list, Bt.isi_tuple, Bt.tyIs, Bt.pkD, Bt.addL, Bt.mulL, Bt.listL, Bt.revD, Bt.borSl, Bt.flatD, Bt.isDic, Bt.dkOf, Bt.keyOf, Bt.isCls_x, Bt.isCls_n, Bt.xOf_0, Bt.xOf_1, Bt.isSub_0, Bt.lift_some, Bt.ll0, Bt.ll1, Bt.ll2, Bt.ll3, Bt.ll4, Bt.ll5, Bt.ll6, Bt.ll7, Bt.ll8, Bt.ll9, Bt.ll10, Bt.ll11, Bt.ll12, Bt.ll13, Bt.ll14, Bt.ll15, Bt.ll16, gN, at0, e, em, hl1, lim1, encRs_map, sumF_map, topSum_eq, topMax_eq, ew_none_none, ew_none_call, ew_none_all, ew_none_one, ew_none_within, ew_none_calls, ew_call_none, ew_call_call, ew_call_all, ew_call_one, ew_call_within, ew_call_calls, ew_all_none, ew_all_call, ew_all_all, ew_all_one, ew_all_within, ew_all_calls, ew_one_none, ew_one_call, ew_one_all, ew_one_one, ew_one_within, ew_one_calls, ew_within_none, ew_within_call, ew_within_all, ew_within_one, ew_within_within, ew_within_calls, ew_calls_none, ew_calls_call, ew_calls_all, ew_calls_one, ew_calls_within, ew_calls_calls, iw_none_all, iw_none_within, iw_call_all, iw_call_within, iw_all_all, iw_all_within, iw_one_all, iw_one_within, iw_within_all, iw_within_within, iw_calls_all, iw_calls_within]
theorem GdR.ltop {r : Rt} (h : GdR r) (b : Option Int) (hb : OkB b) : s__law_top 30 [.dat (encR r), .dat (encB b)] = .ok (.dat (.int (topR b r))) [.dat (encR r), .dat (encB b)] := l_top 30 r b (by have := h.dp; omega) (by omega) h.wf h.bd hb h.tt
theorem GdR.ltopN {r : Rt} (h : GdR r) : s__law_top 30 [.dat (encR r), .dat .none] = .ok (.dat (.int (topR none r))) [.dat (encR r), .dat .none] := h.ltop none trivial
theorem GdR.ltopI {r : Rt} (h : GdR r) (b : Int) (h1 : 1 ≤ b) (h2 : b ≤ 10 ^ 100) : s__law_top 30 [.dat (encR r), .dat (.int b)] = .ok (.dat (.int (topR (some b) r))) [.dat (encR r), .dat (.int b)] := h.ltop (some b) ⟨h1, h2⟩
def holdsB (p : Pile) (r : Rt) : Bool := (p.all fun q => !(decide (1 < q.1) && decide (L p q.1 < topR (some q.1) r))) && decide (topR none r ≤ S p)
theorem holds_ok {p : Pile} {r : Rt} (hp : Gd p) (h : GdR r) : s__law_holds [.dat (enc p), .dat (encR r)] = .ok (.dat (.bool (holdsB p r))) [.dat (enc p), .dat (encR r)] := by
  have hi : mIt (mV 0) [.dat (enc p), .dat (encR r), .un, .un] = .ok (p.map encL) [.dat (enc p), .dat (encR r), .un, .un] := by simp! [enc, itemsOf]
  have hs : ∀ q ∈ p, ∃ E1, gTupM 2 (gConsM (gN 2) (gConsM (gN 3) gNilM)) (encL q) [.dat (enc p), .dat (encR r), .un, .un] = some E1 ∧ lp__law_holds_1 E1 = .ok (if (decide (1 < q.1) && decide (L p q.1 < topR (some q.1) r)) = true then .rt (.dat (.bool false)) else .nx) [.dat (enc p), .dat (encR r), .dat (.int q.1), .dat (.int q.2)] ∧ wipeE [.dat (enc p), .dat (encR r), .dat (.int q.1), .dat (.int q.2)] [2, 3] = [.dat (enc p), .dat (encR r), .un, .un] := by
    intro q hq
    have w1 := hp.w1 q hq
    have w2 := hp.w2 q hq
    have a1 := h.ltopI q.1 (by omega) (by omega)
    refine ⟨[.dat (enc p), .dat (encR r), .dat (.int q.1), .dat (.int q.2)], by simp [encL, gTupM, gConsM, gNilM, gN], ?_, by simp [wipeE]⟩
    by_cases c1 : 1 < q.1
    · by_cases c2 : L p q.1 < topR (some q.1) r
      · simp! [lp__law_holds_1, a1, law_under_ok hp, c1, c2]
      · simp! [lp__law_holds_1, a1, law_under_ok hp, c1, c2]
    · simp! [lp__law_holds_1, c1]
  have key := for_find (ws := [2, 3]) p encL (fun q => decide (1 < q.1) && decide (L p q.1 < topR (some q.1) r)) (.dat (.bool false)) (fun q => [.dat (enc p), .dat (encR r), .dat (.int q.1), .dat (.int q.2)]) hi hs
  unfold holdsB
  cases ef : p.find? (fun q => decide (1 < q.1) && decide (L p q.1 < topR (some q.1) r)) with
  | some q =>
    rw [ef] at key
    have e : fr__law_holds_1 [.dat (enc p), .dat (encR r), .un, .un] = .ok (.rt (.dat (.bool false))) [.dat (enc p), .dat (encR r), .dat (.int q.1), .dat (.int q.2)] := key
    have hq := List.find?_some ef
    have ha : (p.all fun q => !(decide (1 < q.1) && decide (L p q.1 < topR (some q.1) r))) = false := by
      rw [List.all_eq_false]
      exact ⟨q, List.mem_of_find?_eq_some ef, by simp only [hq]; simp⟩
    rw [ha]
    simp! [s__law_holds, m__law_holds, e]
  | none =>
    rw [ef] at key
    have e : fr__law_holds_1 [.dat (enc p), .dat (encR r), .un, .un] = .ok .nx [.dat (enc p), .dat (encR r), .un, .un] := key
    have ha : (p.all fun q => !(decide (1 < q.1) && decide (L p q.1 < topR (some q.1) r))) = true := by
      rw [List.all_eq_true]
      intro q hq
      have := List.find?_eq_none.mp ef q hq
      simp only [Bool.not_eq_true] at this
      rw [this]; rfl
    rw [ha]
    simp! [s__law_holds, m__law_holds, e, h.ltopN, sum_of_ok hp]
theorem holdsB_iff {p : Pile} {r : Rt} : holdsB p r = true ↔ (∀ q ∈ p, 1 < q.1 → topR (some q.1) r ≤ L p q.1) ∧ topR none r ≤ S p := by
  unfold holdsB
  rw [Bool.and_eq_true, List.all_eq_true, decide_eq_true_eq]
  refine and_congr_left fun _ => forall_congr' fun q => forall_congr' fun _ => ?_
  by_cases c1 : 1 < q.1 <;> simp [c1] <;> omega
end Lw
namespace Lw
open PySem L2 Bt
end Lw
namespace Lw
open PySem L2 Bt
structure Sz where
  z : Int
  w : Int
  t : Int
  c : Int
def Sz.up (s : Sz) : Sz := ⟨s.z + 1, s.w + 1, s.t + 1, s.c + 1⟩
mutual
def CrR (s : Sz) : Rt → Prop
  | .none => True
  | .call x m t => nameS x = true ∧ PyData.strOk x = true ∧ 1 ≤ m ∧ m ≤ s.z ∧ 1 ≤ t ∧ t ≤ s.t
  | .all rs => rs.length ≤ 3 ∧ CrRs s rs
  | .one rs => rs.length ≤ 3 ∧ CrRs s rs
  | .within n r => 1 ≤ n ∧ n ≤ s.w ∧ CrR s r
  | .calls n r => 1 ≤ n ∧ n ≤ s.c ∧ CrR s r
def CrRs (s : Sz) : List Rt → Prop
  | [] => True
  | r :: rs => CrR s r ∧ CrRs s rs
end
theorem crs_iff {s : Sz} {rs : List Rt} : CrRs s rs ↔ ∀ r ∈ rs, CrR s r := by
  induction rs with
  | nil => simp [CrRs]
  | cons q qs ih => rw [CrRs, ih]; simp
def Sz.le (s u : Sz) : Prop := s.z ≤ u.z ∧ s.w ≤ u.w ∧ s.t ≤ u.t ∧ s.c ≤ u.c
theorem Sz.le_up (s : Sz) : s.le s.up := by unfold Sz.le Sz.up; dsimp only; refine ⟨?_, ?_, ?_, ?_⟩ <;> omega
theorem CrR.mono {s u : Sz} (h : s.le u) (r : Rt) : CrR s r → CrR u r := by
  obtain ⟨h1, h2, h3, h4⟩ := h
  induction r using Rt.ind with
  | h0 => intro _; trivial
  | h1 x m t => intro h; simp only [CrR] at h ⊢; refine ⟨h.1, h.2.1, h.2.2.1, ?_, h.2.2.2.2.1, ?_⟩ <;> omega
  | h2 rs ih => intro h; simp only [CrR, crs_iff] at h ⊢; exact ⟨h.1, fun r hr => ih r hr (h.2 r hr)⟩
  | h3 rs ih => intro h; simp only [CrR, crs_iff] at h ⊢; exact ⟨h.1, fun r hr => ih r hr (h.2 r hr)⟩
  | h4 n r ih => intro h; simp only [CrR] at h ⊢; exact ⟨h.1, by omega, ih h.2.2⟩
  | h5 n r ih => intro h; simp only [CrR] at h ⊢; exact ⟨h.1, by omega, ih h.2.2⟩
theorem CrR.wf {s : Sz} (r : Rt) : CrR s r → wfR r := by
  induction r using Rt.ind with
  | h0 => intro _; trivial
  | h1 x m t => intro h; simp only [CrR, wfR] at h ⊢; exact ⟨h.1, h.2.1, h.2.2.1, h.2.2.2.2.1⟩
  | h2 rs ih => intro h; simp only [CrR, wfR, crs_iff] at h ⊢; exact ⟨by omega, wfRs_of fun r hr => ih r hr (h.2 r hr)⟩
  | h3 rs ih => intro h; simp only [CrR, wfR, crs_iff] at h ⊢; exact ⟨by omega, wfRs_of fun r hr => ih r hr (h.2 r hr)⟩
  | h4 n r ih => intro h; simp only [CrR, wfR] at h ⊢; exact ⟨h.1, ih h.2.2⟩
  | h5 n r ih => intro h; simp only [CrR, wfR] at h ⊢; exact ⟨h.1, ih h.2.2⟩
theorem CrR.calls {s : Sz} (r : Rt) : CrR s r → ∀ q ∈ callsR r, 1 ≤ q.2.1 ∧ q.2.1 ≤ s.z ∧ 1 ≤ q.2.2 ∧ q.2.2 ≤ s.t := by
  induction r using Rt.ind with
  | h0 => intro _ q hq; simp [callsR] at hq
  | h1 x m t => intro h q hq; simp only [CrR] at h; simp only [callsR, List.mem_singleton] at hq; subst hq; exact h.2.2
  | h2 rs ih =>
    intro h q hq
    simp only [CrR, crs_iff] at h
    rw [callsR, callsRs_flat] at hq
    obtain ⟨r, hr, hq⟩ := List.mem_flatMap.mp hq
    exact ih r hr (h.2 r hr) q hq
  | h3 rs ih =>
    intro h q hq
    simp only [CrR, crs_iff] at h
    rw [callsR, callsRs_flat] at hq
    obtain ⟨r, hr, hq⟩ := List.mem_flatMap.mp hq
    exact ih r hr (h.2 r hr) q hq
  | h4 n r ih => intro h q hq; simp only [CrR] at h; exact ih h.2.2 q (by simpa [callsR] using hq)
  | h5 n r ih => intro h q hq; simp only [CrR] at h; exact ih h.2.2 q (by simpa [callsR] using hq)
theorem CrR.num {s : Sz} {m : Int} (h0 : 0 ≤ m) (hz : s.z ≤ m) (hw : s.w ≤ m) (r : Rt) : CrR s r → numR r ≤ m := by
  induction r using Rt.ind with
  | h0 => intro _; simpa [numR] using h0
  | h1 x m t => intro h; simp only [CrR] at h; rw [numR]; omega
  | h2 rs ih =>
    intro h
    simp only [CrR, crs_iff] at h
    rw [numR, numM_eq]
    refine max0_le (fun x hx => ?_) h0
    obtain ⟨r, hr, rfl⟩ := List.mem_map.mp hx
    exact ih r hr (h.2 r hr)
  | h3 rs ih =>
    intro h
    simp only [CrR, crs_iff] at h
    rw [numR, numM_eq]
    refine max0_le (fun x hx => ?_) h0
    obtain ⟨r, hr, rfl⟩ := List.mem_map.mp hx
    exact ih r hr (h.2 r hr)
  | h4 n r ih => intro h; simp only [CrR] at h; rw [numR]; have := ih h.2.2; omega
  | h5 n r ih => intro h; simp only [CrR] at h; rw [numR]; exact ih h.2.2
def sumV (l : List (Str × Int × Int)) : Int := (l.map fun q => q.2.2 * q.2.1).sum
theorem sumV_app (a b : List (Str × Int × Int)) : sumV (a ++ b) = sumV a + sumV b := by simp [sumV]
theorem sumV_flat {rs : List Rt} : sumV (rs.flatMap callsR) = (rs.map fun r => sumV (callsR r)).sum := by
  induction rs with
  | nil => rfl
  | cons q qs ih => rw [List.flatMap_cons, sumV_app, ih, List.map_cons, List.sum_cons]
theorem sumV_nn (r : Rt) (h : wfR r) : 0 ≤ sumV (callsR r) := sum_nn fun x hx => by
  obtain ⟨q, hq, rfl⟩ := List.mem_map.mp hx
  have := wf_calls r h q hq
  exact Int.mul_nonneg (by omega) (by omega)
theorem maxL_le : ∀ {l : List Int} {m : Int}, (∀ x ∈ l, x ≤ m) → l ≠ [] → maxL l ≤ m
  | [], _, _, h => absurd rfl h
  | [x], m, h, _ => by simpa [maxL] using h x List.mem_cons_self
  | x :: y :: ys, m, h, _ => by
    have h1 := h x List.mem_cons_self
    have h2 := maxL_le (l := y :: ys) (m := m) (fun z hz => h z (List.mem_cons_of_mem _ hz)) (by simp)
    simp only [maxL] at h2 ⊢
    omega
theorem conv_le {f g : Nat → Int} {A B : Int} (hf : ∀ j, f j ≤ A) (hg : ∀ j, g j ≤ B) (j : Nat) : conv f g j ≤ A + B := by
  unfold conv
  refine maxL_le (fun x hx => ?_) (by simp)
  obtain ⟨i, _, rfl⟩ := List.mem_map.mp hx
  have := hf i
  have := hg (j - i)
  omega
theorem rows_all {rs : List Rt} (hr : ∀ r ∈ rs, ∀ j, rowF none r j ≤ sumV (callsR r)) : ∀ (f : Nat → Int) (A : Int), (∀ j, f j ≤ A) → ∀ j, rowAll none rs f j ≤ A + (rs.map fun r => sumV (callsR r)).sum := by
  induction rs with
  | nil => intro f A hf j; rw [rowAll]; simpa using hf j
  | cons q qs ih =>
    intro f A hf j
    rw [rowAll]
    have := ih (fun r h => hr r (List.mem_cons_of_mem _ h)) _ _ (conv_le hf (hr q List.mem_cons_self)) j
    rw [List.map_cons, List.sum_cons]
    omega
theorem rows_one {rs : List Rt} (hn : ∀ r ∈ rs, 0 ≤ sumV (callsR r)) (hr : ∀ r ∈ rs, ∀ j, rowF none r j ≤ sumV (callsR r)) : ∀ (f : Nat → Int) (A : Int), 0 ≤ A → (∀ j, f j ≤ A) → ∀ j, rowOne none rs f j ≤ A + (rs.map fun r => sumV (callsR r)).sum := by
  induction rs with
  | nil => intro f A hA hf j; rw [rowOne]; simpa using hf j
  | cons q qs ih =>
    intro f A hA hf j
    rw [rowOne]
    have n1 := hn q List.mem_cons_self
    have := ih (fun r h => hn r (List.mem_cons_of_mem _ h)) (fun r h => hr r (List.mem_cons_of_mem _ h)) (pmax f (rowF none q)) (A + sumV (callsR q)) (by omega) (fun j => by have := hf j; have := hr q List.mem_cons_self j; unfold pmax; omega) j
    rw [List.map_cons, List.sum_cons]
    omega
theorem row_sum (r : Rt) : wfR r → ∀ j, rowF none r j ≤ sumV (callsR r) := by
  induction r using Rt.ind with
  | h0 => intro _ j; simp [rowF, callsR, sumV]
  | h1 x m t =>
    intro h j
    simp only [wfR] at h
    simp only [rowF, callsR, sumV, cutI, List.map_cons, List.map_nil, List.sum_cons, List.sum_nil]
    have : min t (j : Int) * m ≤ t * m := Int.mul_le_mul_of_nonneg_right (by omega) (by omega)
    omega
  | h2 rs ih =>
    intro h j
    simp only [wfR] at h
    rw [rowF, callsR, callsRs_flat, sumV_flat]
    have := rows_all (fun r hr => ih r hr (wf_mem h.2 hr)) (fun _ => 0) 0 (fun _ => Int.le_refl _) j
    omega
  | h3 rs ih =>
    intro h j
    simp only [wfR] at h
    rw [rowF, callsR, callsRs_flat, sumV_flat]
    have := rows_one (fun r hr => sumV_nn r (wf_mem h.2 hr)) (fun r hr => ih r hr (wf_mem h.2 hr)) (fun _ => 0) 0 (Int.le_refl _) (fun _ => Int.le_refl _) j
    omega
  | h4 n r ih => intro h j; simp only [wfR] at h; have := ih h.2 j; simp only [rowF, callsR]; omega
  | h5 n r ih => intro h j; simp only [wfR] at h; simp only [rowF, callsR]; exact ih h.2 _
theorem sum_le_of {rs : List Rt} {f g : Rt → Int} (h : ∀ r ∈ rs, f r ≤ g r) : (rs.map f).sum ≤ (rs.map g).sum := by
  induction rs with
  | nil => simp
  | cons q qs ih =>
    simp only [List.map_cons, List.sum_cons]
    have := h q List.mem_cons_self
    have := ih fun r hr => h r (List.mem_cons_of_mem _ hr)
    omega
theorem max0_sum {l : List Int} (h : ∀ x ∈ l, 0 ≤ x) : max0 l ≤ l.sum := by
  induction l with
  | nil => simp [max0]
  | cons x xs ih =>
    rw [max0, List.sum_cons]
    have := h x List.mem_cons_self
    have := ih fun y hy => h y (List.mem_cons_of_mem _ hy)
    have := max0_nn (l := xs)
    omega
theorem top_sum (r : Rt) : wfR r → topR none r ≤ sumV (callsR r) := by
  induction r using Rt.ind with
  | h0 => intro _; simp [topR, callsR, sumV]
  | h1 x m t => intro h; simp [topR, callsR, sumV, cutI]
  | h2 rs ih =>
    intro h
    simp only [wfR] at h
    rw [topR, topSum_eq, callsR, callsRs_flat, sumV_flat]
    exact sum_le_of fun r hr => ih r hr (wf_mem h.2 hr)
  | h3 rs ih =>
    intro h
    simp only [wfR] at h
    rw [topR, topMax_eq, callsR, callsRs_flat, sumV_flat]
    refine Int.le_trans (max0_sum fun x hx => ?_) (sum_le_of fun r hr => ih r hr (wf_mem h.2 hr))
    obtain ⟨r, hr, rfl⟩ := List.mem_map.mp hx
    exact top_nn none trivial r (wf_mem h.2 hr)
  | h4 n r ih => intro h; simp only [wfR] at h; have := ih h.2; simp only [topR, callsR]; omega
  | h5 n r ih => intro h; simp only [wfR] at h; simp only [topR, callsR]; exact row_sum r h.2 _
theorem totC_le {l : List (Str × Int × Int)} {b : Int} (h : ∀ q ∈ l, q.2.2 ≤ b) : totC l ≤ l.length * b := by
  induction l with
  | nil => simp [totC]
  | cons q qs ih =>
    have h1 := h q List.mem_cons_self
    have h2 := ih fun r hr => h r (List.mem_cons_of_mem _ hr)
    have e : totC (q :: qs) = q.2.2 + totC qs := by simp [totC]
    rw [e, List.length_cons, Int.natCast_add, Int.add_mul]
    omega
theorem names_len (r : Rt) : (namesR r).length = (callsR r).length := by rw [namesR, List.length_map]
theorem CrR.gd {s : Sz} {r : Rt} (h : CrR s r) (hz : s.z ≤ 100) (ht : s.t ≤ 100) (hd : dep r ≤ 6) (hn : (namesR r).Nodup) (hl : (namesR r).length ≤ 10) : GdR r := by
  rw [names_len] at hl
  have hc := h.calls
  refine ⟨h.wf, hd, by omega, hn, fun q hq => ?_, ?_⟩
  · have := hc q hq
    have e : (100 : Int) ≤ 10 ^ 100 := by decide
    omega
  · have h1 := totC_le (b := 100) fun q hq => by have := hc q hq; omega
    have h2 : ((callsR r).length : Int) * 100 ≤ 10 * 100 := Int.mul_le_mul_of_nonneg_right (by omega) (by omega)
    omega
theorem CrR.sm {s : Sz} {r : Rt} (h : CrR s r) (hz : s.z ≤ 100) (hw : s.w ≤ 100) (ht : s.t ≤ 100) (hd : dep r ≤ 6) (hn : (namesR r).Nodup) (hl : (namesR r).length ≤ 10) (hs : sumV (callsR r) ≤ 200) : SmR r :=
  ⟨h.gd hz ht hd hn hl, by have := h.num (m := 100) (by omega) hz hw; omega, by have := top_sum r h.wf; omega⟩
end Lw
namespace Lw
open PySem L2 Bt
def shr (c a T : Int) : Int := T / c * a + min (T % c) a
section
variable {c a : Int}
end
end Lw
namespace Lw
open PySem L2 Bt
theorem conv_ge (f g : Nat → Int) {i j : Nat} (h : i ≤ j) : f i + g (j - i) ≤ conv f g j := maxL_ge (List.mem_map.mpr ⟨i, List.mem_range.mpr (by omega), rfl⟩)
theorem conv_at (f g : Nat → Int) (j : Nat) : ∃ i, i ≤ j ∧ conv f g j = f i + g (j - i) := by
  have hm : conv f g j ∈ (List.range (j + 1)).map fun i => f i + g (j - i) := maxL_mem (by simp)
  obtain ⟨i, hi, e⟩ := List.mem_map.mp hm
  exact ⟨i, by have := List.mem_range.mp hi; omega, e.symm⟩
def leB : Option Int → Option Int → Prop
  | _, none => True
  | some a, some b => a ≤ b
  | none, some _ => False
theorem cut_mono {m : Int} {b c : Option Int} (h : leB b c) : cutI m b ≤ cutI m c := by
  cases b with
  | none => cases c with
    | none => exact Int.le_refl _
    | some c => exact h.elim
  | some b => cases c with
    | none => simp only [cutI]; omega
    | some c =>
      have h : b ≤ c := h
      simp only [cutI]; omega
theorem row_bmono {b c : Option Int} (hbc : leB b c) (r : Rt) : wfR r → ∀ j, rowF b r j ≤ rowF c r j := by
  induction r using Rt.ind with
  | h0 => intro _ j; simp [rowF]
  | h1 x m t =>
    intro h j
    simp only [wfR] at h
    simp only [rowF]
    exact Int.mul_le_mul_of_nonneg_left (cut_mono hbc) (by omega)
  | h2 rs ih =>
    intro h
    simp only [wfR] at h
    rw [rowF, rowF, rowAll_eq, rowAll_eq]
    have : ∀ (qs : List Rt) (f f' : Nat → Int), (∀ q ∈ qs, q ∈ rs) → (∀ j, f j ≤ f' j) → ∀ j, qs.foldl (fun f r => conv f (rowF b r)) f j ≤ qs.foldl (fun f r => conv f (rowF c r)) f' j := by
      intro qs
      induction qs with
      | nil => intro f f' _ hf; exact hf
      | cons q qs ihq =>
        intro f f' hs hf
        refine ihq _ _ (fun z hz => hs z (List.mem_cons_of_mem _ hz)) fun j => ?_
        obtain ⟨i, hi, e⟩ := conv_at f (rowF b q) j
        show conv f (rowF b q) j ≤ conv f' (rowF c q) j
        rw [e]
        have h1 := conv_ge f' (rowF c q) hi
        have h2 := hf i
        have h3 := ih q (hs q List.mem_cons_self) (wf_mem h.2 (hs q List.mem_cons_self)) (j - i)
        omega
    exact this rs _ _ (fun _ hq => hq) (fun _ => Int.le_refl _)
  | h3 rs ih =>
    intro h
    simp only [wfR] at h
    rw [rowF, rowF, rowOne_eq, rowOne_eq]
    have : ∀ (qs : List Rt) (f f' : Nat → Int), (∀ q ∈ qs, q ∈ rs) → (∀ j, f j ≤ f' j) → ∀ j, qs.foldl (fun f r => pmax f (rowF b r)) f j ≤ qs.foldl (fun f r => pmax f (rowF c r)) f' j := by
      intro qs
      induction qs with
      | nil => intro f f' _ hf; exact hf
      | cons q qs ihq =>
        intro f f' hs hf
        refine ihq _ _ (fun z hz => hs z (List.mem_cons_of_mem _ hz)) fun j => ?_
        have h2 := hf j
        have h3 := ih q (hs q List.mem_cons_self) (wf_mem h.2 (hs q List.mem_cons_self)) j
        simp only [pmax]
        omega
    exact this rs _ _ (fun _ hq => hq) (fun _ => Int.le_refl _)
  | h4 n r ih =>
    intro h j
    simp only [wfR] at h
    have := ih h.2 j
    simp only [rowF]
    omega
  | h5 n r ih =>
    intro h j
    simp only [wfR] at h
    simp only [rowF]
    exact ih h.2 _
theorem sum_mono {rs : List Rt} {f g : Rt → Int} (h : ∀ r ∈ rs, f r ≤ g r) : (rs.map f).sum ≤ (rs.map g).sum := by
  induction rs with
  | nil => simp
  | cons q qs ih =>
    rw [List.map_cons, List.map_cons, List.sum_cons, List.sum_cons]
    have h1 := h q List.mem_cons_self
    have h2 := ih fun r hr => h r (List.mem_cons_of_mem _ hr)
    omega
theorem max0_mono {rs : List Rt} {f g : Rt → Int} (h : ∀ r ∈ rs, f r ≤ g r) : max0 (rs.map f) ≤ max0 (rs.map g) := by
  induction rs with
  | nil => simp [max0]
  | cons q qs ih =>
    rw [List.map_cons, List.map_cons, max0, max0]
    have h1 := h q List.mem_cons_self
    have h2 := ih fun r hr => h r (List.mem_cons_of_mem _ hr)
    omega
theorem top_bmono {b c : Option Int} (hbc : leB b c) (r : Rt) : wfR r → topR b r ≤ topR c r := by
  induction r using Rt.ind with
  | h0 => intro _; simp [topR]
  | h1 x m t =>
    intro h
    simp only [wfR] at h
    simp only [topR]
    exact Int.mul_le_mul_of_nonneg_left (cut_mono hbc) (by omega)
  | h2 rs ih =>
    intro h
    simp only [wfR] at h
    rw [topR, topR, topSum_eq, topSum_eq]
    exact sum_mono fun r hr => ih r hr (wf_mem h.2 hr)
  | h3 rs ih =>
    intro h
    simp only [wfR] at h
    rw [topR, topR, topMax_eq, topMax_eq]
    exact max0_mono fun r hr => ih r hr (wf_mem h.2 hr)
  | h4 n r ih =>
    intro h
    simp only [wfR] at h
    have := ih h.2
    simp only [topR]
    omega
  | h5 n r ih =>
    intro h
    simp only [wfR] at h
    simp only [topR]
    exact row_bmono hbc r h.2 _
end Lw
namespace Lw
open PySem L2 Bt
def B2 : Option Int → Prop
  | none => True
  | some b => 2 ≤ b ∧ b ≤ 10 ^ 100
theorem B2.ok {b : Option Int} (h : B2 b) : OkB b := by
  cases b with
  | none => trivial
  | some b => simp only [B2] at h; simp only [OkB]; omega
end Lw
namespace Lw
open PySem L2 Bt
theorem callsA (qs : List Rt) : callsR (.all qs) = qs.flatMap callsR := by rw [callsR, callsRs_flat]
theorem callsO (qs : List Rt) : callsR (.one qs) = qs.flatMap callsR := by rw [callsR, callsRs_flat]
theorem wfs_iff {qs : List Rt} : wfRs qs ↔ ∀ q ∈ qs, wfR q := by
  induction qs with
  | nil => simp [wfRs]
  | cons q qs ih => rw [wfRs, ih]; simp
theorem calls_part {rs : List Rt} {r : Rt} (hr : r ∈ rs) : (callsR r).length ≤ (rs.flatMap callsR).length := by
  induction rs with
  | nil => cases hr
  | cons q qs ih =>
    rw [List.flatMap_cons, List.length_append]
    rcases List.mem_cons.mp hr with rfl | hr
    · omega
    · have := ih hr; omega
end Lw
namespace Lw
open PySem L2 Bt
section
variable {b : Option Int}
end
end Lw
namespace Lw
open PySem L2 Bt
structure ChP (s : Sz) (r r' : Rt) : Prop where
  cr : CrR s.up r'
  dp : dep r' ≤ dep r
  nm : (namesR r').Sublist (namesR r)
theorem ChP.refl {s : Sz} {r : Rt} (h : CrR s r) : ChP s r r := ⟨h.mono s.le_up, Nat.le_refl _, List.Sublist.refl _⟩
end Lw
namespace Lw
open PySem L2 Bt
end Lw
namespace Lw
open PySem L2 Bt
end Lw
namespace Lw
open PySem L2 Bt
def nmA (k : Nat) : Str := if k < 26 then ⟨#[97 + k]⟩ else ⟨#[97 + (k - 26) / 26, 97 + (k - 26) % 26]⟩
theorem nmA_ok : ∀ k < 702, nameS (nmA k) = true ∧ PyData.strOk (nmA k) = true := by decide +kernel
def evL (b T : Int) : List (Int × Int) := (if 0 < T / (b - 1) then [(b - 1, T / (b - 1))] else []) ++ (if 0 < T % (b - 1) then [(T % (b - 1), 1)] else [])
def callsN : List (Int × Int) → Nat → List Rt
  | [], _ => []
  | q :: qs, p => .call (nmA p) q.1 q.2 :: callsN qs (p + 1)
theorem evL_len (b T : Int) : (evL b T).length ≤ 2 := by unfold evL; split <;> split <;> simp
theorem callsN_len : ∀ (qs : List (Int × Int)) (p : Nat), (callsN qs p).length = qs.length
  | [], p => rfl
  | a :: qs, p => by rw [callsN, List.length_cons, callsN_len qs, List.length_cons]
end Lw
namespace Lw
open PySem L2 Bt
theorem evL_mem {b T : Int} (hb : 2 ≤ b) (h0 : 0 ≤ T) {q : Int × Int} (h : q ∈ evL b T) : 1 ≤ q.1 ∧ q.1 ≤ b - 1 ∧ 1 ≤ q.2 ∧ q.2 ≤ max 1 (T / (b - 1)) := by
  unfold evL at h
  have r1 := Int.emod_lt_of_pos T (show 0 < b - 1 by omega)
  rcases List.mem_append.mp h with h | h
  · split at h
    · rw [List.mem_singleton.mp h]; dsimp only; omega
    · cases h
  · split at h
    · rw [List.mem_singleton.mp h]; dsimp only; omega
    · cases h
theorem callsN_ok : ∀ (qs : List (Int × Int)) (p : Nat) (m t : Int), (∀ q ∈ qs, 1 ≤ q.1 ∧ q.1 ≤ m ∧ 1 ≤ q.2 ∧ q.2 ≤ t) → p + qs.length ≤ 702 → ∀ r ∈ callsN qs p, wfR r ∧ dep r ≤ 1 ∧ highR r ≤ m ∧ ∀ c ∈ callsR r, c.2.1 ≤ m ∧ c.2.2 ≤ t
  | [], p, m, t, _, _ => fun r hr => by cases hr
  | q :: qs, p, m, t, h, hp => fun r hr => by
    rw [List.length_cons] at hp
    rw [callsN] at hr
    rcases List.mem_cons.mp hr with rfl | hr
    · have h1 := h q List.mem_cons_self
      have h2 := nmA_ok p (by omega)
      exact ⟨⟨h2.1, h2.2, h1.1, h1.2.2.1⟩, by simp [dep], by simp only [highR]; omega, fun c hc => by simp only [callsR, List.mem_singleton] at hc; subst hc; dsimp only; omega⟩
    · exact callsN_ok qs (p + 1) m t (fun z hz => h z (List.mem_cons_of_mem _ hz)) (by omega) r hr
theorem callsN_top (b : Option Int) : ∀ (qs : List (Int × Int)) (p : Nat), ((callsN qs p).map (topR b)).sum = (qs.map fun q => q.2 * cutI q.1 b).sum
  | [], p => rfl
  | q :: qs, p => by rw [callsN, List.map_cons, List.sum_cons, callsN_top b qs, List.map_cons, List.sum_cons]; rfl
theorem row_lo {b T c : Int} (hb : 2 ≤ b) (h0 : 0 ≤ T) (hc : 1 ≤ c) (hcb : c ≤ b) (p : Nat) : topR (some c) (.all (callsN (evL b T) p)) = shr (b - 1) (c - 1) T := by
  have r0 := Int.emod_nonneg T (show b - 1 ≠ 0 by omega)
  have r1 := Int.emod_lt_of_pos T (show 0 < b - 1 by omega)
  have q0 : 0 ≤ T / (b - 1) := Int.ediv_nonneg h0 (by omega)
  rw [topR, topSum_eq, callsN_top]
  unfold evL shr
  by_cases c1 : 0 < T / (b - 1)
  · by_cases c2 : 0 < T % (b - 1)
    · rw [if_pos c1, if_pos c2]
      simp only [List.cons_append, List.nil_append, List.map_cons, List.map_nil, List.sum_cons, List.sum_nil, cutI]
      rw [show min (b - 1) (c - 1) = c - 1 by omega]
      omega
    · rw [if_pos c1, if_neg c2]
      simp only [List.append_nil, List.map_cons, List.map_nil, List.sum_cons, List.sum_nil, cutI]
      rw [show min (b - 1) (c - 1) = c - 1 by omega]
      omega
  · have z : T / (b - 1) = 0 := by omega
    rw [z]
    by_cases c2 : 0 < T % (b - 1)
    · rw [if_neg (by omega), if_pos c2]
      simp only [List.nil_append, List.map_cons, List.map_nil, List.sum_cons, List.sum_nil, cutI]
      omega
    · rw [if_neg (by omega), if_neg c2]
      simp
      omega
theorem row_hi {b T : Int} {c : Option Int} (hb : 2 ≤ b) (h0 : 0 ≤ T) (hc : leB (some b) c) (p : Nat) : topR c (.all (callsN (evL b T) p)) = T := by
  have r0 := Int.emod_nonneg T (show b - 1 ≠ 0 by omega)
  have r1 := Int.emod_lt_of_pos T (show 0 < b - 1 by omega)
  have q0 : 0 ≤ T / (b - 1) := Int.ediv_nonneg h0 (by omega)
  have q2 := Int.mul_ediv_add_emod T (b - 1)
  rw [Int.mul_comm] at q2
  have cut : ∀ m, m ≤ b - 1 → cutI m c = m := fun m hm => by
    cases c with
    | none => rfl
    | some c => have hc : b ≤ c := hc; simp only [cutI]; omega
  rw [topR, topSum_eq, callsN_top]
  unfold evL
  have k1 := cut (b - 1) (Int.le_refl _)
  have k2 := cut (T % (b - 1)) (by omega)
  by_cases c1 : 0 < T / (b - 1)
  · by_cases c2 : 0 < T % (b - 1)
    · rw [if_pos c1, if_pos c2]
      simp only [List.cons_append, List.nil_append, List.map_cons, List.map_nil, List.sum_cons, List.sum_nil, k1, k2]
      omega
    · rw [if_pos c1, if_neg c2]
      simp only [List.append_nil, List.map_cons, List.map_nil, List.sum_cons, List.sum_nil, k1]
      omega
  · have z : T / (b - 1) = 0 := by omega
    rw [z] at q2 ⊢
    by_cases c2 : 0 < T % (b - 1)
    · rw [if_neg (by omega), if_pos c2]
      simp only [List.nil_append, List.map_cons, List.map_nil, List.sum_cons, List.sum_nil, k2]
      omega
    · rw [if_neg (by omega), if_neg c2]
      simp
      omega
end Lw
namespace Lw
open PySem L2 Bt
noncomputable def m_look_at_bounds : M Fl := (mSeq (mIfS (bnd (mOp isntD (mR 0) (mD (ret .none))) asB) (mSeq (mExpr (mCall s_look_at_number [] (mCons (mR 0) (mCons (mD (ret (.int 1))) (ret []))))) mNil) mNil) (mSeq (mIfS (bnd (mOp isntD (mR 1) (mD (ret .none))) asB) (mSeq (mExpr (mCall s_look_at_number [] (mCons (mR 1) (mCons (mD (ret (.int 0))) (ret []))))) mNil) mNil) mNil))
noncomputable def s_look_at_bounds : M Sl := mFn [] 0 m_look_at_bounds
end Lw
namespace Lw
open PySem L2 Bt
def OkC : Option Int → Prop
  | none => True
  | some k => 0 ≤ k ∧ k ≤ 1000
theorem GdR.bounds (b c : Option Int) (hb : OkB b) (hc : OkC c) : s_look_at_bounds [.dat (encB b), .dat (encB c)] = .ok (.dat .none) [.dat (encB b), .dat (encB c)] := by
  cases b with
  | none =>
    cases c with
    | none => simp! [s_look_at_bounds, m_look_at_bounds, encB]
    | some k =>
      simp only [OkC] at hc
      have e2 := look_num k 0 hc.1
      simp! [s_look_at_bounds, m_look_at_bounds, encB, e2]
  | some b =>
    simp only [OkB] at hb
    have e1 := look_num b 1 hb.1
    cases c with
    | none => simp! [s_look_at_bounds, m_look_at_bounds, encB, e1]
    | some k =>
      simp only [OkC] at hc
      have e2 := look_num k 0 hc.1
      simp! [s_look_at_bounds, m_look_at_bounds, encB, e1, e2]
end Lw
namespace Lw
open PySem L2 Bt
end Lw
namespace Lw
open PySem L2 Bt
end Lw
namespace Lw
open PySem L2 Bt
end Lw
namespace Lw
open PySem L2 Bt
end Lw
namespace Lw
open PySem L2 Bt
def rwR (b T : Int) : Rt := .all (callsN (evL b T) 0)
theorem rw_wf {b T : Int} (hb : 2 ≤ b) (h0 : 0 ≤ T) : wfR (rwR b T) := by
  have h1 := callsN_ok (evL b T) 0 (b - 1) (max 1 (T / (b - 1))) (fun z hz => by have := evL_mem hb h0 hz; omega) (by have := evL_len b T; omega)
  exact ⟨by rw [callsN_len]; have := evL_len b T; omega, wfs_iff.mpr fun z hz => (h1 z hz).1⟩
theorem cut_top {b T w : Int} (hb : 2 ≤ b) (h0 : 0 ≤ T) (hw : 2 ≤ w) : cut (some b) T w = topR (some w) (rwR b T) := by
  have r0 := Int.emod_nonneg T (show b - 1 ≠ 0 by omega)
  have r1 := Int.emod_lt_of_pos T (show 0 < b - 1 by omega)
  have e1 := Int.mul_ediv_add_emod T (b - 1)
  by_cases c : w ≤ b
  · rw [rwR, row_lo hb h0 (by omega) c]
    simp only [cut, shr]
    rw [if_pos (by omega), show min (b - 1) (w - 1) = w - 1 by omega]
    omega
  · rw [rwR, row_hi (c := some w) hb h0 (show b ≤ w by omega)]
    simp only [cut]
    rw [if_pos (by omega), show min (b - 1) (w - 1) = b - 1 by omega, Int.mul_comm]
    omega
theorem cut_n {T w : Int} : cut none T w = min T (w - 1) := by simp [cut]
theorem rw_none {b T : Int} (hb : 2 ≤ b) (h0 : 0 ≤ T) {c : Option Int} (hc : leB (some b) c) : topR c (rwR b T) = T := row_hi hb h0 hc 0
theorem cut_le {b T w : Int} (hb : 2 ≤ b) (h0 : 0 ≤ T) (hw : 2 ≤ w) : cut (some b) T w ≤ T := by
  rw [cut_top hb h0 hw]
  have := top_bmono (b := some w) (c := none) trivial _ (rw_wf hb h0)
  rw [rw_none hb h0 (c := none) trivial] at this
  exact this
def Pw (p : Pile) (b : Option Int) : Int := (lsum p 0 b).getD 0
def OkP : Option Int → Prop
  | none => True
  | some b => 2 ≤ b ∧ b ≤ 10 ^ 13
theorem OkP.bok {b : Option Int} (h : OkP b) : BOk b := by
  cases b with
  | none => exact ⟨fun c e => (nomatch e), fun c e => (nomatch e)⟩
  | some b => simp only [OkP] at h; exact ⟨fun c e => by cases e; omega, fun c e => by cases e; omega⟩
theorem L_nn {p : Pile} (h : Gd p) (c : Int) : 0 ≤ L p c := by
  unfold L
  refine sum_nn fun x hx => ?_
  obtain ⟨q, hq, rfl⟩ := List.mem_map.mp hx
  have hq := (List.mem_filter.mp hq).1
  exact Int.mul_nonneg (by have := h.w1 q hq; omega) (by have := h.m1 q hq; omega)
theorem S_nn {p : Pile} (h : Gd p) : 0 ≤ S p := by
  unfold S
  refine sum_nn fun x hx => ?_
  obtain ⟨q, hq, rfl⟩ := List.mem_map.mp hx
  exact Int.mul_nonneg (by have := h.w1 q hq; omega) (by have := h.m1 q hq; omega)
theorem not_bad {p : Pile} (h : Gd p) : bad p 0 = false := by
  unfold bad
  rw [Bool.or_eq_false_iff]
  refine ⟨decide_eq_false (by have := S_nn h; omega), ?_⟩
  rw [List.any_eq_false]
  intro x hx
  obtain ⟨h1, h2, h3, h4⟩ := lfA_mem h (Int.le_refl 0) hx
  have := L_nn h x.1
  rw [h3]
  simp
  omega
theorem pw_some {p : Pile} (h : Gd p) {b : Option Int} (hb : OkP b) : lsum p 0 b = some (Pw p b) := by
  unfold Pw lsum
  rw [if_neg (by rw [not_bad h]; simp)]
  split <;> rfl
theorem pw_iff {p : Pile} (h : Gd p) {b : Option Int} (hb : OkP b) {t : Int} (ht : 0 ≤ t) : t ≤ Pw p b ↔ t ≤ S p ∧ ∀ q ∈ p, 1 < q.1 → cut b t q.1 ≤ L p q.1 := by
  have n1 : b ≠ some 1 := by
    rintro rfl
    simp only [OkP] at hb
    omega
  rw [lsum_iff n1 (pw_some h hb) t, Int.sub_zero]
  refine and_congr_right fun _ => ⟨fun hx q hq h1 => ?_, fun hq x hx => ?_⟩
  · have hm : (q.1, L p q.1 - min 0 (q.1 - 1)) ∈ lfA p 0 := List.mem_map.mpr ⟨q, List.mem_filter.mpr ⟨hq, by simpa using h1⟩, rfl⟩
    have := hx _ hm
    dsimp only at this
    rw [show L p q.1 - min 0 (q.1 - 1) = L p q.1 by omega] at this
    exact (cut_iff hb.bok n1 ht (by omega) (L_nn h q.1)).mpr this
  · obtain ⟨q, hq1, rfl⟩ := List.mem_map.mp hx
    obtain ⟨hq2, hq3⟩ := List.mem_filter.mp hq1
    have hq3 : 1 < q.1 := by simpa using hq3
    dsimp only
    rw [show L p q.1 - min 0 (q.1 - 1) = L p q.1 by omega]
    exact (cut_iff hb.bok n1 ht (by omega) (L_nn h q.1)).mp (hq q hq2 hq3)
theorem pw_nn {p : Pile} (h : Gd p) {b : Option Int} (hb : OkP b) : 0 ≤ Pw p b := (pw_iff h hb (Int.le_refl 0)).mpr ⟨S_nn h, fun q hq h1 => by
  have := L_nn h q.1
  cases b with
  | none => rw [cut_n]; omega
  | some b =>
    simp only [OkP] at hb
    have := cut_le hb.1 (Int.le_refl 0) (show 2 ≤ q.1 by omega)
    omega⟩
theorem pw_le {p : Pile} (h : Gd p) {b : Option Int} (hb : OkP b) : Pw p b ≤ S p := ((pw_iff h hb (pw_nn h hb)).mp (Int.le_refl _)).1
end Lw
namespace Lw
open PySem L2 Bt
structure SmP (p : Pile) : Prop where
  gd : Gd p
  sm : S p ≤ 200
theorem SmP.pn {p : Pile} (h : SmP p) : 0 ≤ Pw p none ∧ Pw p none ≤ 200 := ⟨pw_nn h.gd (b := none) trivial, Int.le_trans (pw_le h.gd (b := none) trivial) h.sm⟩
theorem SmP.ps {p : Pile} (h : SmP p) {b : Int} (hb : 2 ≤ b) (hb2 : b ≤ 10 ^ 13) : 0 ≤ Pw p (some b) ∧ Pw p (some b) ≤ 200 := ⟨pw_nn h.gd ⟨hb, hb2⟩, Int.le_trans (pw_le h.gd (b := some b) ⟨hb, hb2⟩) h.sm⟩
end Lw
namespace Lw
open PySem L2 Bt
end Lw
namespace Lw
open PySem L2 Bt
noncomputable def lp_put_by_1 : M Fl := (mSeq (mDPut 2 (mR 3) (mOp addD (mD (mDGet2 2 (mR 3) (ret (.int 0)))) (mR 4))) mNil)
noncomputable def fr_put_by_1 : M Fl := (mFor [3, 4] (mIt (mV 1)) (gTupM 2 (gConsM (gN 3) (gConsM (gN 4) gNilM))) lp_put_by_1)
noncomputable def m_put_by : M Fl := (mSeq (mOwnO 2 (mDict (mR 0))) (mSeq fr_put_by_1 (mSeq (mRetS (mCallO s_from_counts [] (mCons (mR 2) (ret [])))) mNil)))
noncomputable def s_put_by : M Sl := mFn [2, 3, 4] 3 m_put_by
noncomputable def m_put : M Fl := (mSeq (mExpr (mCall s_look_at_pile [] (mCons (mR 0) (ret [])))) (mSeq (mExpr (mCall s_look_at_pile [] (mCons (mR 1) (ret [])))) (mSeq (mRetS (mCallO s_put_by [] (mCons (mR 0) (mCons (mR 1) (ret []))))) mNil)))
noncomputable def s_put : M Sl := mFn [] 0 m_put
end Lw
namespace Lw
open PySem L2 Bt
abbrev Dk (c : Pile) : Prop := c.Pairwise fun a b => a.1 ≠ b.1
abbrev Up (c : Pile) : Prop := c.Pairwise fun a b => a.1 < b.1
def putP (c : Pile) (w n : Int) : Pile := if has c w = true then c.map (fun q => if q.1 = w then (q.1, n) else q) else c ++ [(w, n)]
theorem putP_kv (c : Pile) (w n : Int) : putD (c.map kv) (.inl w) (.int n) = (putP c w n).map kv := by
  unfold putP
  cases h : has c w with
  | true => rw [if_pos rfl, put_in n h]
  | false => rw [if_neg Bool.false_ne_true, put_new n h]
theorem putP_dk {c : Pile} (w n : Int) (h : Dk c) : Dk (putP c w n) := by
  unfold putP
  split
  · have e : (c.map (fun q => if q.1 = w then (q.1, n) else q)).map (·.1) = c.map (·.1) := by
      rw [List.map_map]
      refine List.map_congr_left fun q _ => ?_
      by_cases z : q.1 = w <;> simp [z]
    have : ((c.map (fun q => if q.1 = w then (q.1, n) else q)).map (·.1)).Pairwise (· ≠ ·) := by rw [e]; exact List.pairwise_map.mpr h
    exact List.pairwise_map.mp this
  · rename_i hn
    refine List.pairwise_append.mpr ⟨h, by simp, fun a ha b hb => ?_⟩
    rw [List.mem_singleton.mp hb]
    exact fun e => hn (has_iff.mpr ⟨a, ha, e⟩)
theorem putP_len (c : Pile) (w n : Int) : (putP c w n).length ≤ c.length + 1 := by
  unfold putP
  split <;> simp
theorem cnt_cons (q : Int × Int) (c : Pile) (w : Int) : cnt (q :: c) w = if q.1 = w then q.2 else cnt c w := by
  unfold cnt
  by_cases z : q.1 = w
  · rw [if_pos z, List.find?_cons_of_pos (by simpa using z)]; rfl
  · rw [if_neg z, List.find?_cons_of_neg (by simpa using z)]
theorem cnt_none : ∀ {c : Pile} {w : Int}, has c w = false → cnt c w = 0
  | [], _, _ => rfl
  | q :: c, w, h => by
    unfold has at h
    rw [List.any_cons, Bool.or_eq_false_iff] at h
    rw [cnt_cons, if_neg (by simpa using h.1)]
    exact cnt_none h.2
def T (f : Int → Int) (c : Pile) : Int := (c.map fun q => f q.1 * q.2).sum
theorem T_cons (f : Int → Int) (q : Int × Int) (c : Pile) : T f (q :: c) = f q.1 * q.2 + T f c := by simp [T]
theorem T_app (f : Int → Int) (a b : Pile) : T f (a ++ b) = T f a + T f b := by simp [T, List.sum_append]
theorem T_perm (f : Int → Int) {a b : Pile} (h : a.Perm b) : T f a = T f b := by
  induction h with
  | nil => rfl
  | cons x _ ih => rw [T_cons, T_cons, ih]
  | swap x y l => simp only [T_cons]; omega
  | trans _ _ i1 i2 => exact i1.trans i2
theorem T_map_none (f : Int → Int) (w n : Int) : ∀ {c : Pile}, has c w = false → T f (c.map fun q => if q.1 = w then (q.1, n) else q) = T f c
  | [], _ => rfl
  | q :: c, h => by
    unfold has at h
    rw [List.any_cons, Bool.or_eq_false_iff] at h
    rw [List.map_cons, T_cons, T_cons, T_map_none f w n h.2, if_neg (by simpa using h.1)]
theorem T_putP (f : Int → Int) (w n : Int) {c : Pile} (h : Dk c) : T f (putP c w n) = T f c + f w * (n - cnt c w) := by
  unfold putP
  split
  · rename_i hh
    induction c with
    | nil => cases hh
    | cons q c ih =>
      have hp := List.pairwise_cons.mp h
      rw [List.map_cons, T_cons, T_cons, cnt_cons]
      by_cases z : q.1 = w
      · have hn : has c w = false := has_false fun x hx => by rw [← z]; exact (hp.1 x hx).symm
        rw [if_pos z, if_pos z, T_map_none f w n hn, z, Int.mul_sub]
        dsimp only
        omega
      · rw [if_neg z, if_neg z, ih hp.2 (by
          unfold has at hh ⊢
          rw [List.any_cons, decide_eq_false z, Bool.false_or] at hh
          exact hh)]
        omega
  · rename_i hh
    rw [T_app, cnt_none (by simpa using hh), T_cons]
    simp [T]
theorem T_filter (f : Int → Int) : ∀ {c : Pile}, (∀ q ∈ c, 0 ≤ q.2) → T f (c.filter fun q => decide (0 < q.2)) = T f c
  | [], _ => rfl
  | q :: c, h => by
    have ih := T_filter f (c := c) fun x hx => h x (List.mem_cons_of_mem _ hx)
    have h0 := h q List.mem_cons_self
    by_cases z : 0 < q.2
    · rw [List.filter_cons_of_pos (by simpa using z), T_cons, T_cons, ih]
    · rw [List.filter_cons_of_neg (by simpa using z), T_cons, ih, show q.2 = 0 by omega]
      omega
theorem cnt_pos_has {c : Pile} {w : Int} (h : 0 < cnt c w) : has c w = true := by
  cases e : has c w with
  | true => rfl
  | false => rw [cnt_none e] at h; omega
theorem fcG_perm {c : Pile} (h : Dk c) : (fcG c).Perm (c.filter fun q => decide (0 < q.2)) := by
  have hc := cnt_mem h
  have key : ∀ d : Pile, (∀ q ∈ d, q ∈ c) → (((d.map (·.1)).filter fun w => decide (0 < cnt c w)).map fun w => (w, cnt c w)) = d.filter fun q => decide (0 < q.2) := by
    intro d
    induction d with
    | nil => intro _; rfl
    | cons q d ih =>
      intro hd
      have e := hc q (hd q List.mem_cons_self)
      have ih := ih fun x hx => hd x (List.mem_cons_of_mem _ hx)
      rw [List.map_cons]
      by_cases z : 0 < q.2
      · rw [List.filter_cons_of_pos (by rw [e]; simpa using z), List.filter_cons_of_pos (by simpa using z), List.map_cons, ih, e]
      · rw [List.filter_cons_of_neg (by rw [e]; simpa using z), List.filter_cons_of_neg (by simpa using z), ih]
  rw [← key c fun q hq => hq]
  unfold fcG
  exact ((sortI_perm _).filter _).map _
theorem T_fcG (f : Int → Int) {c : Pile} (h : Dk c) (h0 : ∀ q ∈ c, 0 ≤ q.2) : T f (fcG c) = T f c := by rw [T_perm f (fcG_perm h), T_filter f h0]
theorem fcG_sorted {c : Pile} (h : Dk c) : Up (fcG c) := by
  unfold fcG
  refine List.pairwise_map.mpr ?_
  refine List.Pairwise.filter _ ?_
  have h1 := sortI_pair (c.map (·.1))
  have h2 : (sortI (c.map (·.1))).Pairwise (· ≠ ·) := (sortI_perm _).symm.pairwise (List.pairwise_map.mpr h) (fun h => h.symm)
  have h3 := h1.and h2
  exact h3.imp fun ⟨a, b⟩ => by omega
theorem mem_fcG {c : Pile} (q : Int × Int) : q ∈ fcG c ↔ q.2 = cnt c q.1 ∧ 0 < q.2 := by
  unfold fcG
  constructor
  · intro hq
    obtain ⟨w, hw, rfl⟩ := List.mem_map.mp hq
    exact ⟨rfl, by simpa using (List.mem_filter.mp hw).2⟩
  · rintro ⟨h1, h2⟩
    refine List.mem_map.mpr ⟨q.1, List.mem_filter.mpr ⟨?_, by rw [← h1]; simpa using h2⟩, by rw [← h1]⟩
    rw [h1] at h2
    obtain ⟨x, hx, e⟩ := has_iff.mp (cnt_pos_has h2)
    exact (sortI_perm _).mem_iff.mpr (List.mem_map.mpr ⟨x, hx, e⟩)
theorem S_T (p : Pile) : S p = T (fun w => w) p := rfl
theorem L_T (p : Pile) (b : Int) : L p b = T (fun w => if w < b then w else 0) p := by
  unfold L T
  induction p with
  | nil => rfl
  | cons q p ih =>
    by_cases z : q.1 < b
    · rw [List.filter_cons_of_pos (by simpa using z), List.map_cons, List.map_cons, List.sum_cons, List.sum_cons, ih]
      simp only [if_pos z]
    · rw [List.filter_cons_of_neg (by simpa using z), List.map_cons, List.sum_cons, ih]
      simp only [if_neg z]
      omega
end Lw
namespace Lw
open PySem L2 Bt
def pstep (c : Pile) (x : Int × Int) : Pile := putP c x.1 (cnt c x.1 + x.2)
theorem pstep_dk {c : Pile} (x : Int × Int) (h : Dk c) : Dk (pstep c x) := putP_dk _ _ h
theorem pfold_dk : ∀ (o : Pile) {c : Pile}, Dk c → Dk (o.foldl pstep c)
  | [], _, h => h
  | x :: o, _, h => pfold_dk o (pstep_dk x h)
theorem pfold_len : ∀ (o c : Pile), (o.foldl pstep c).length ≤ c.length + o.length
  | [], c => by simp
  | x :: o, c => by
    rw [List.foldl_cons, List.length_cons]
    have := pfold_len o (pstep c x)
    have h2 := putP_len c x.1 (cnt c x.1 + x.2)
    unfold pstep at this ⊢
    omega
theorem put_loop (o c : Pile) (x0 : Sl) (hl : c.length + o.length ≤ 999) : fr_put_by_1 [x0, .dat (enc o), (.ow (.d (c.map kv))), .un, .un] = .ok .nx [x0, .dat (enc o), (.ow (.d ((o.foldl pstep c).map kv))), .un, .un] := by
  have hf := for_fold (ws := [3, 4]) (mi := mIt (mV 1)) (g := gTupM 2 (gConsM (gN 3) (gConsM (gN 4) gNilM))) (mb := lp_put_by_1) (E0 := [x0, .dat (enc o), (.ow (.d (c.map kv))), .un, .un]) o encL (fun c => [x0, .dat (enc o), (.ow (.d (c.map kv))), .un, .un]) pstep (fun c r => c.length + r.length ≤ 999) (s := c) (by simp! [enc]) hl (fun x r c hI => by
    rw [List.length_cons] at hI
    have h2 := putP_len c x.1 (cnt c x.1 + x.2)
    refine ⟨⟨_, [x0, .dat (enc o), (.ow (.d ((pstep c x).map kv))), .dat (.int x.1), .dat (.int x.2)], rfl, .inl ?_, rfl⟩, by unfold pstep; omega⟩
    have hp := putP_kv c x.1 (cnt c x.1 + x.2)
    have hlc : c.length < LIM := Nat.lt_of_le_of_lt (show _ ≤ 999 by omega) (by decide)
    cases hh : has c x.1 with
    | true => simp! [lp_put_by_1, val_kv, hh, hp, hlc, pstep]
    | false =>
      rw [cnt_none hh] at hp
      simp only [Int.zero_add] at hp
      simp! [lp_put_by_1, val_kv, hh, hp, hlc, pstep, cnt_none hh])
  exact hf.1
theorem put_by_ok {p o : Pile} (h : Gd p) (hl : p.length + o.length < 1000) : s_put_by [.dat (enc p), .dat (enc o)] = .ok (.dat (enc (fcG (o.foldl pstep p)))) [.dat (enc p), .dat (enc o)] := by
  have e2 := dict_enc h
  have e3 := put_loop o p (.dat (enc p)) (by omega)
  have e4 := from_counts_ok (o.foldl pstep p) (by have := pfold_len o p; omega)
  simp! [s_put_by, m_put_by, e2, e3, e4]
theorem put_ok {p o : Pile} (h : Gd p) (ho : Gd o) (hl : p.length + o.length < 1000) : s_put [.dat (enc p), .dat (enc o)] = .ok (.dat (enc (fcG (o.foldl pstep p)))) [.dat (enc p), .dat (enc o)] := by
  simp! [s_put, m_put, look_pile h, look_pile ho, put_by_ok h hl]
end Lw
namespace Lw
open PySem L2 Bt
theorem siGo_el {α : Type} {vs : List Nat} {g : MG} {mt : M Bool} {me : M D} {E Ew : En} {en : α → D} {f : α → Int} : ∀ (p : List α) (E1 : En) (acc : List Int), wipeE E1 vs = Ew → (∀ q ∈ p, elF vs g mt me Ew (en q) = some (some (.int (f q)))) → acc.length + p.length ≤ 2000 → (dedI ((p.map f).reverse ++ acc)).length < 64 →
    ∃ E', wipeE E' vs = Ew ∧ siGo vs g mt me E (p.map en) E1 acc = .ok (.list ((sortI (dedI ((p.map f).reverse ++ acc))).map .int)) (backE E E' vs)
  | [], E1, acc, h1, _, _, h64 => ⟨E1, h1, by
    rw [List.map_nil, siGo, if_pos (by simpa using h64)]
    simp⟩
  | q :: p, E1, acc, h1, h, hl, h64 => by
    have hq := h q List.mem_cons_self
    rw [List.length_cons] at hl
    rw [List.map_cons, siGo, h1]
    unfold elF at hq
    cases eg : g (en q) Ew with
    | none => rw [eg] at hq; cases hq
    | some E2 =>
      rw [eg] at hq
      dsimp only at hq ⊢
      cases et : mt E2 with
      | bad => rw [et] at hq; cases hq
      | ex _ _ => rw [et] at hq; cases hq
      | ok b E3 =>
        rw [et] at hq
        cases b with
        | false =>
          dsimp only at hq
          split at hq <;> cases hq
        | true =>
          dsimp only at hq ⊢
          cases em : me E3 with
          | bad => rw [em] at hq; cases hq
          | ex _ _ => rw [em] at hq; cases hq
          | ok y E4 =>
            rw [em] at hq
            dsimp only at hq ⊢
            split at hq
            · rename_i hw
              have e := Option.some.inj (Option.some.inj hq)
              subst e
              have e2 : (List.map f (q :: p)).reverse ++ acc = (p.map f).reverse ++ f q :: acc := by simp
              rw [e2] at h64 ⊢
              obtain ⟨E', q1, q2⟩ := siGo_el (E := E) p E4 (f q :: acc) hw (fun q hq => h q (List.mem_cons_of_mem _ hq)) (by rw [List.length_cons]; omega) h64
              refine ⟨E', q1, ?_⟩
              show (if acc.length < 2000 then _ else _) = _
              rw [if_pos (by omega)]
              exact q2
            · cases hq
theorem si_map {α : Type} {mi : M (List D)} {vs : List Nat} {g : MG} {mt : M Bool} {me : M D} {E E0 : En} (p : List α) (en : α → D) (f : α → Int) (hi : mi E0 = .ok (p.map en) E) (hv : ∀ v ∈ vs, (∃ d, E[v]? = some (.dat d)) ∨ E[v]? = some .un) (h : ∀ q ∈ p, elF vs g mt me (wipeE E vs) (en q) = some (some (.int (f q)))) (hl : p.length < 64) :
    mSortI mi g mt me vs E0 = .ok (.list ((sortI (dedI (p.map f).reverse)).map .int)) E := by
  unfold mSortI bnd
  rw [hi]
  have h64 : (dedI (p.map f).reverse).length < 64 := by
    have := cntI_le (p.map f).reverse
    unfold cntI at this
    rw [List.length_reverse, List.length_map] at this
    omega
  obtain ⟨E', h1, h2⟩ := siGo_el (E := E) (f := f) p E [] rfl h (by simp; omega) (by simpa using h64)
  show siGo vs g mt me E (p.map en) E [] = _
  rw [h2, backE_same h1 hv, List.append_nil]
def obs (p q : Pile) : List Int := sortI (dedI ((p ++ q).map fun x => x.1 + 1).reverse)
def odl (p q : Pile) : List Int := (obs p q).filter fun b => decide (L p b < L q b)
theorem obs_mem {p q : Pile} {b : Int} : b ∈ obs p q ↔ ∃ x ∈ p ++ q, x.1 + 1 = b := by
  unfold obs
  rw [(sortI_perm _).mem_iff, dedI_mem, List.mem_reverse, List.mem_map]
theorem outdone_ok {p q : Pile} (hp : Gd p) (hq : Gd q) (hl : p.length + q.length < 64) : s_outdone_at [.dat (enc p), .dat (enc q)] = .ok ((.ow (.l ((odl p q).map .int)))) [.dat (enc p), .dat (enc q)] := by
  have hLI : LIM = 100000 := rfl
  have hle : p.length + q.length ≤ LIM := by omega
  have e1 : lc_outdone_at_1 [.dat (enc p), .dat (enc q), .un, .un, .un, .un] = .ok (.list ((obs p q).map .int)) [.dat (enc p), .dat (enc q), .un, .un, .un, .un] := by
    unfold lc_outdone_at_1 obs
    refine si_map (p ++ q) encL (fun x => x.1 + 1) ?_ (by simp) (fun x hx => ?_) (by rw [List.length_append]; exact hl)
    · have ep : enc p = .tuple (p.map encL) := rfl
      have eq : enc q = .tuple (q.map encL) := rfl
      have hle2 : (p.map encL).length + (q.map encL).length ≤ LIM := by rw [List.length_map, List.length_map]; exact hle
      rw [List.map_append, ep, eq]
      generalize p.map encL = P at *
      generalize q.map encL = Q at *
      simp! [itemsOf, hle2]
    · have hb : 1 ≤ x.1 ∧ x.1 ≤ 10 ^ 13 := by
        rcases List.mem_append.mp hx with h | h
        · exact ⟨hp.w1 x h, hp.w2 x h⟩
        · exact ⟨hq.w1 x h, hq.w2 x h⟩
      have o1 : okI x.1 = true := okI_of (by omega) (by omega)
      generalize enc p = P at *
      generalize enc q = Q at *
      simp! [elF, wipeE, gTupM, gConsM, gNilM, gN, encL, o1]
  have hol : (obs p q).length ≤ LIM := by
    have h1 := cntI_le ((p ++ q).map fun x => x.1 + 1).reverse
    unfold cntI at h1
    rw [List.length_reverse, List.length_map, List.length_append] at h1
    unfold obs
    rw [(sortI_perm _).length_eq]
    omega
  have e2 : lc_outdone_at_2 [.dat (enc p), .dat (enc q), .dat (.list ((obs p q).map .int)), .un, .un, .un] = .ok (.list ((odl p q).map .int)) [.dat (enc p), .dat (enc q), .dat (.list ((obs p q).map .int)), .un, .un, .un] := by
    unfold lc_outdone_at_2 odl
    refine lc_if (obs p q) .int (fun b => decide (L p b < L q b)) .int (by simp! [itemsOf]) (by simp) (fun b hb => ?_) hol
    have f1 := less_of_ok hp b
    have f2 := less_of_ok hq b
    generalize (obs p q).map PyData.int = O at *
    generalize enc p = P at *
    generalize enc q = Q at *
    by_cases c : L p b < L q b <;> simp! [elF, wipeE, gN, f1, f2, c]
  generalize (odl p q).map PyData.int = Z at *
  generalize (obs p q).map PyData.int = O at *
  generalize enc p = P at *
  generalize enc q = Q at *
  simp! [s_outdone_at, m_outdone_at, gN, Bt.a_mObj, Bt.a_mLstO, e1, e2]
theorem outdoes_ok {p q : Pile} (hp : Gd p) (hq : Gd q) (hl : p.length + q.length < 64) : s_outdoes [.dat (enc p), .dat (enc q)] = .ok (.dat (.bool (odl p q).isEmpty)) [.dat (enc p), .dat (enc q)] := by
  have e1 := look_pile hp
  have e2 := look_pile hq
  have e3 := outdone_ok hp hq hl
  have el : (((odl p q).map PyData.int).length : Int) = ((odl p q).length : Int) := by rw [List.length_map]
  have eb : (odl p q).isEmpty = decide (((odl p q).length : Int) = 0) := by
    cases odl p q with
    | nil => rfl
    | cons a l => simp; omega
  rw [eb]
  generalize (odl p q).length = n at *
  generalize (odl p q).map PyData.int = Z at *
  generalize enc p = P at *
  generalize enc q = Q at *
  simp! [s_outdoes, m_outdoes, s_look_at_two, m_look_at_two, gN, e1, e2, e3, eqD_int, el]
theorem L_succ : ∀ {p : Pile}, Up p → ∀ (w : Int), L p (w + 1) = L p w + w * cnt p w := by
  intro p hu w
  have key : ∀ p : Pile, p.Pairwise (fun a b => a.1 < b.1) → L p (w + 1) = L p w + w * cnt p w := by
    intro p
    induction p with
    | nil => intro _; simp [L, cnt]
    | cons q p ih =>
      intro hu
      obtain ⟨u1, u2⟩ := List.pairwise_cons.mp hu
      have i := ih u2
      rw [cnt_cons]
      unfold L at i ⊢
      by_cases c1 : q.1 = w
      · have hz : cnt p w = 0 := cnt_none (has_false fun y hy e => by have := u1 y hy; omega)
        rw [hz, Int.mul_zero, Int.add_zero] at i
        rw [if_pos c1, List.filter_cons_of_pos (by simp; omega), List.filter_cons_of_neg (by simp; omega), List.map_cons, List.sum_cons, i, c1]
        omega
      · rw [if_neg c1]
        by_cases c2 : q.1 < w
        · rw [List.filter_cons_of_pos (by simp; omega), List.filter_cons_of_pos (by simpa using c2), List.map_cons, List.map_cons, List.sum_cons, List.sum_cons, i]
          omega
        · rw [List.filter_cons_of_neg (by simp; omega), List.filter_cons_of_neg (by simpa using c2), i]
  exact key p hu
theorem cnt_nnO {c : Pile} (h : ∀ q ∈ c, 0 ≤ q.2) (w : Int) : 0 ≤ cnt c w := by
  induction c with
  | nil => exact Int.le_refl _
  | cons q c ih =>
    rw [cnt_cons]
    split
    · exact h q List.mem_cons_self
    · exact ih fun x hx => h x (List.mem_cons_of_mem _ hx)
theorem cnt_leO {c : Pile} {b : Int} (hb : 0 ≤ b) (h : ∀ q ∈ c, q.2 ≤ b) (w : Int) : cnt c w ≤ b := by
  induction c with
  | nil => exact hb
  | cons q c ih =>
    rw [cnt_cons]
    split
    · exact h q List.mem_cons_self
    · exact ih fun x hx => h x (List.mem_cons_of_mem _ hx)
theorem fcG_gdO {c : Pile} (hd : Dk c) (h : ∀ q ∈ c, 1 ≤ q.1 ∧ q.1 ≤ 10 ^ 13 ∧ q.2 ≤ 10 ^ 13) (hl : c.length ≤ 1000) : Gd (fcG c) ∧ (∀ q ∈ fcG c, q ∈ c) ∧ (fcG c).length ≤ c.length := by
  have hm : ∀ q ∈ fcG c, q ∈ c := fun q hq => (List.mem_filter.mp ((fcG_perm hd).mem_iff.mp hq)).1
  have hle : (fcG c).length ≤ c.length := by
    rw [(fcG_perm hd).length_eq]
    exact List.length_filter_le _ _
  refine ⟨⟨fun q hq => (h q (hm q hq)).1, fun q hq => (h q (hm q hq)).2.1, fun q hq => by have := ((mem_fcG q).mp hq).2; omega, fun q hq => (h q (hm q hq)).2.2, fcG_sorted hd, by omega⟩, hm, hle⟩
theorem T_pfold (f : Int → Int) : ∀ (o : Pile) {c : Pile}, Dk c → T f (o.foldl pstep c) = T f c + T f o
  | [], c, _ => by simp [T]
  | x :: o, c, h => by
    rw [List.foldl_cons, T_pfold f o (pstep_dk x h)]
    unfold pstep
    rw [T_putP f _ _ h, T_cons, show cnt c x.1 + x.2 - cnt c x.1 = x.2 by omega]
    omega
def putT (p o : Pile) : Pile := fcG (o.foldl pstep p)
theorem pstep_in {c : Pile} {x : Int × Int} {B C : Int} (hB : 0 ≤ B) (hC : 0 ≤ C) (h : ∀ q ∈ c, 1 ≤ q.1 ∧ q.1 ≤ 10 ^ 13 ∧ 1 ≤ q.2 ∧ q.2 ≤ B) (hx : 1 ≤ x.1 ∧ x.1 ≤ 10 ^ 13 ∧ 1 ≤ x.2 ∧ x.2 ≤ C) : ∀ q ∈ pstep c x, 1 ≤ q.1 ∧ q.1 ≤ 10 ^ 13 ∧ 1 ≤ q.2 ∧ q.2 ≤ B + C := by
  have h1 : 0 ≤ cnt c x.1 := cnt_nnO (fun q hq => by have := h q hq; omega) _
  have h2 : cnt c x.1 ≤ B := cnt_leO hB (fun q hq => (h q hq).2.2.2) _
  intro q hq
  unfold pstep putP at hq
  split at hq
  · obtain ⟨y, hy, rfl⟩ := List.mem_map.mp hq
    have := h y hy
    split
    · dsimp only; omega
    · omega
  · rcases List.mem_append.mp hq with hq | hq
    · have := h q hq; omega
    · rw [List.mem_singleton.mp hq]
      dsimp only
      omega
theorem pfold_in {C : Int} (hC : 0 ≤ C) : ∀ (o : Pile) {c : Pile} {B : Int}, 0 ≤ B → (∀ q ∈ c, 1 ≤ q.1 ∧ q.1 ≤ 10 ^ 13 ∧ 1 ≤ q.2 ∧ q.2 ≤ B) → (∀ x ∈ o, 1 ≤ x.1 ∧ x.1 ≤ 10 ^ 13 ∧ 1 ≤ x.2 ∧ x.2 ≤ C) → ∀ q ∈ o.foldl pstep c, 1 ≤ q.1 ∧ q.1 ≤ 10 ^ 13 ∧ 1 ≤ q.2 ∧ q.2 ≤ B + o.length * C
  | [], c, B, hB, h, _ => fun q hq => by have := h q hq; simp; omega
  | x :: o, c, B, hB, h, ho => fun q hq => by
    rw [List.foldl_cons] at hq
    have := pfold_in hC o (B := B + C) (by omega) (pstep_in hB hC h (ho x List.mem_cons_self)) (fun y hy => ho y (List.mem_cons_of_mem _ hy)) q hq
    rw [List.length_cons, show ((o.length + 1 : Nat) : Int) = (o.length : Int) + 1 by omega, Int.add_mul, Int.one_mul]
    omega
theorem putT_ok {p o : Pile} (hp : Gd p) (ho : Gd o) (hl : p.length + o.length ≤ 500) (hm : ∀ q ∈ p, q.2 ≤ 10 ^ 10) (hm2 : ∀ q ∈ o, q.2 ≤ 10 ^ 10) : s_put [.dat (enc p), .dat (enc o)] = .ok (.dat (enc (putT p o))) [.dat (enc p), .dat (enc o)] ∧ Gd (putT p o) ∧ (putT p o).length ≤ p.length + o.length ∧ (∀ b, L (putT p o) b = L p b + L o b) ∧ S (putT p o) = S p + S o := by
  have hd : Dk p := hp.up.imp fun h => by omega
  have hin := pfold_in (C := 10 ^ 10) (by omega) o (c := p) (B := 10 ^ 10) (by omega) (fun q hq => ⟨hp.w1 q hq, hp.w2 q hq, hp.m1 q hq, hm q hq⟩) (fun q hq => ⟨ho.w1 q hq, ho.w2 q hq, ho.m1 q hq, hm2 q hq⟩)
  have hlen := pfold_len o p
  have hDk := pfold_dk o hd
  have hb : ((o.length : Int)) * 10 ^ 10 ≤ 500 * 10 ^ 10 := Int.mul_le_mul_of_nonneg_right (by omega) (by omega)
  obtain ⟨g1, g2, g3⟩ := fcG_gdO hDk (fun q hq => by have := hin q hq; omega) (by omega)
  have hT : ∀ f : Int → Int, T f (putT p o) = T f p + T f o := fun f => by
    unfold putT
    rw [T_fcG f hDk fun q hq => by have := hin q hq; omega, T_pfold f o hd]
  exact ⟨put_ok hp ho (by omega), g1, by unfold putT; omega, fun b => by rw [L_T, L_T, L_T, hT], by rw [S_T, S_T, S_T, hT]⟩
end Lw
namespace Lw
open PySem L2 Bt
end Lw
namespace Lw
open PySem L2 Bt
end Lw
namespace Lw
open PySem L2 Bt
theorem names_parts (r : Rt) (h : ∀ y m t, r ≠ .call y m t) : namesR r = (partsR r).flatMap namesR := by
  cases r with
  | call y m t => exact absurd rfl (h y m t)
  | none => rfl
  | within n q => simp [partsR, namesR, callsR]
  | calls n q => simp [partsR, namesR, callsR]
  | all rs => rw [show partsR (.all rs) = rs from rfl]; unfold namesR; rw [callsA, List.map_flatMap]
  | one rs => rw [show partsR (.one rs) = rs from rfl]; unfold namesR; rw [callsO, List.map_flatMap]
def IsNm (r : Rt) (sl : Sl) : Prop := sl = (.ow (.l ((namesR r).map .str))) ∨ sl = .dat (.list ((namesR r).map .str))
theorem names_lim {r : Rt} (h : (callsR r).length ≤ 1000) : (namesR r).length ≤ LIM := by
  rw [namesR, List.length_map]
  exact Nat.le_trans h (by decide)
theorem part_calls {r q : Rt} (hq : q ∈ partsR r) : (callsR q).length ≤ (callsR r).length := by
  cases r with
  | none => simp [partsR] at hq
  | call y m t => simp [partsR] at hq
  | within n z => rw [show partsR (.within n z) = [z] from rfl, List.mem_singleton] at hq; subst hq; rw [callsR]; exact Nat.le_refl _
  | calls n z => rw [show partsR (.calls n z) = [z] from rfl, List.mem_singleton] at hq; subst hq; rw [callsR]; exact Nat.le_refl _
  | all rs => rw [callsA]; exact calls_part hq
  | one rs => rw [callsO]; exact calls_part hq
end Lw
namespace Lw
open PySem L2 Bt
theorem cut2a (a : D) : cutD [a] (some 2) none = [] := rfl
theorem cut2c (a b c : D) : cutD [a, b, c] (some 2) none = [c] := rfl
theorem names2_ok : ∀ (n : Nat) (r : Rt), dep r ≤ n → wfR r → (callsR r).length ≤ 1000 → ∃ sl, s__law_names_v2 n [.dat (encR r)] = .ok sl [.dat (encR r)] ∧ IsNm r sl := by
  intro n
  induction n with
  | zero => intro r h; cases r <;> simp [dep] at h
  | succ n ih =>
    intro r hd hw hc
    rw [r__law_names_v2]
    by_cases isc : ∃ y m t, r = .call y m t
    · obtain ⟨y, m, t, rfl⟩ := isc
      have l1 : 1 ≤ LIM := by decide
      exact ⟨(.ow (.l [.str y])), by simp! [m__law_names_v2, encR, gN, at0, at1, l1, ew_none_none, ew_none_call, ew_none_all, ew_none_one, ew_none_within, ew_none_calls, ew_call_none, ew_call_call, ew_call_all, ew_call_one, ew_call_within, ew_call_calls, ew_all_none, ew_all_call, ew_all_all, ew_all_one, ew_all_within, ew_all_calls, ew_one_none, ew_one_call, ew_one_all, ew_one_one, ew_one_within, ew_one_calls, ew_within_none, ew_within_call, ew_within_all, ew_within_one, ew_within_within, ew_within_calls, ew_calls_none, ew_calls_call, ew_calls_all, ew_calls_one, ew_calls_within, ew_calls_calls, iw_none_all, iw_none_within, iw_call_all, iw_call_within, iw_all_all, iw_all_within, iw_one_all, iw_one_within, iw_within_all, iw_within_within, iw_calls_all, iw_calls_within], .inl (by simp [namesR, callsR])⟩
    · have hnp := names_parts r fun y m t e => isc ⟨y, m, t, e⟩
      let st : List Str → En := fun acc => [.dat (encR r), .dat (.list (acc.map .str)), .dat (.tuple ((partsR r).map encR)), .un]
      have e3 := (for_fold (ws := [3]) (mi := mIt (mV 2)) (g := gN 3) (mb := lp__law_names_v2_1 (s__law_names_v2 n)) (E0 := st []) (s := ([] : List Str)) (partsR r) encR st (fun acc q => acc ++ namesR q) (fun acc rest => (∀ q ∈ rest, q ∈ partsR r) ∧ acc ++ rest.flatMap namesR = namesR r) (by simp! [st, itemsOf]) ⟨fun q hq => hq, by rw [hnp]; rfl⟩ (fun q rest acc hI => by
        obtain ⟨hI, hI2⟩ := hI
        have hq := hI q List.mem_cons_self
        obtain ⟨sl2, f1, f2⟩ := ih q (by have := dep_parts hq; omega) (wf_part hw hq) (Nat.le_trans (part_calls hq) hc)
        have hl : acc.length + (namesR q).length ≤ LIM := by
          have h1 := congrArg List.length hI2
          rw [List.flatMap_cons, List.length_append, List.length_append] at h1
          have h2 := names_lim hc
          omega
        refine ⟨⟨[.dat (encR r), .dat (.list (acc.map .str)), .dat (.tuple ((partsR r).map encR)), .dat (encR q)], [.dat (encR r), .dat (.list ((acc ++ namesR q).map .str)), .dat (.tuple ((partsR r).map encR)), .dat (encR q)], by simp [st, gN], .inl ?_, by simp [st, wipeE]⟩, fun z hz => hI z (List.mem_cons_of_mem _ hz), by rw [← hI2, List.flatMap_cons, List.append_assoc]⟩
        generalize (partsR r).map encR = PP at *
        generalize encR r = R at *
        generalize encR q = Q at *
        rcases f2 with rfl | rfl <;> simp! [lp__law_names_v2_1, gN, f1, hl])).1
      have e4 : ∀ (l acc : List Rt) (a : List Str), l.foldl (fun acc q => acc ++ namesR q) a = a ++ l.flatMap namesR := by
        intro l _
        induction l with
        | nil => intro a; simp
        | cons q qs ih => intro a; rw [List.foldl_cons, ih, List.flatMap_cons, List.append_assoc]
      rw [e4 _ [] _, List.nil_append, ← hnp] at e3
      have e5 : fr__law_names_v2_1 (s__law_names_v2 n) (st []) = _ := e3
      simp only [st, List.map_nil] at e5
      refine ⟨.dat (.list ((namesR r).map .str)), ?_, .inr rfl⟩
      have l0 : 0 ≤ LIM := Nat.zero_le _
      have l1 : 1 ≤ LIM := by decide
      cases r with
      | call y m t => exact absurd ⟨y, m, t, rfl⟩ isc
      | none => rw [encR] at e5 ⊢; simp [partsR] at e5; simp! [m__law_names_v2, gN, at0, e5, l0, cut2a, ew_none_none, ew_none_call, ew_none_all, ew_none_one, ew_none_within, ew_none_calls, ew_call_none, ew_call_call, ew_call_all, ew_call_one, ew_call_within, ew_call_calls, ew_all_none, ew_all_call, ew_all_all, ew_all_one, ew_all_within, ew_all_calls, ew_one_none, ew_one_call, ew_one_all, ew_one_one, ew_one_within, ew_one_calls, ew_within_none, ew_within_call, ew_within_all, ew_within_one, ew_within_within, ew_within_calls, ew_calls_none, ew_calls_call, ew_calls_all, ew_calls_one, ew_calls_within, ew_calls_calls, iw_none_all, iw_none_within, iw_call_all, iw_call_within, iw_all_all, iw_all_within, iw_one_all, iw_one_within, iw_within_all, iw_within_within, iw_calls_all, iw_calls_within]
      | within k q => rw [encR] at e5 ⊢; simp [partsR] at e5; simp! [m__law_names_v2, gN, at0, e5, l0, l1, cut2c, ew_none_none, ew_none_call, ew_none_all, ew_none_one, ew_none_within, ew_none_calls, ew_call_none, ew_call_call, ew_call_all, ew_call_one, ew_call_within, ew_call_calls, ew_all_none, ew_all_call, ew_all_all, ew_all_one, ew_all_within, ew_all_calls, ew_one_none, ew_one_call, ew_one_all, ew_one_one, ew_one_within, ew_one_calls, ew_within_none, ew_within_call, ew_within_all, ew_within_one, ew_within_within, ew_within_calls, ew_calls_none, ew_calls_call, ew_calls_all, ew_calls_one, ew_calls_within, ew_calls_calls, iw_none_all, iw_none_within, iw_call_all, iw_call_within, iw_all_all, iw_all_within, iw_one_all, iw_one_within, iw_within_all, iw_within_within, iw_calls_all, iw_calls_within]
      | calls k q => rw [encR] at e5 ⊢; simp [partsR] at e5; simp! [m__law_names_v2, gN, at0, e5, l0, l1, cut2c, ew_none_none, ew_none_call, ew_none_all, ew_none_one, ew_none_within, ew_none_calls, ew_call_none, ew_call_call, ew_call_all, ew_call_one, ew_call_within, ew_call_calls, ew_all_none, ew_all_call, ew_all_all, ew_all_one, ew_all_within, ew_all_calls, ew_one_none, ew_one_call, ew_one_all, ew_one_one, ew_one_within, ew_one_calls, ew_within_none, ew_within_call, ew_within_all, ew_within_one, ew_within_within, ew_within_calls, ew_calls_none, ew_calls_call, ew_calls_all, ew_calls_one, ew_calls_within, ew_calls_calls, iw_none_all, iw_none_within, iw_call_all, iw_call_within, iw_all_all, iw_all_within, iw_one_all, iw_one_within, iw_within_all, iw_within_within, iw_calls_all, iw_calls_within]
      | all rs => rw [encR] at e5 ⊢; rw [encRs_map] at e5 ⊢; rw [show partsR (.all rs) = rs from rfl] at e5; generalize rs.map encR = RS at *; simp! [m__law_names_v2, gN, at0, at1, e5, l0, ew_none_none, ew_none_call, ew_none_all, ew_none_one, ew_none_within, ew_none_calls, ew_call_none, ew_call_call, ew_call_all, ew_call_one, ew_call_within, ew_call_calls, ew_all_none, ew_all_call, ew_all_all, ew_all_one, ew_all_within, ew_all_calls, ew_one_none, ew_one_call, ew_one_all, ew_one_one, ew_one_within, ew_one_calls, ew_within_none, ew_within_call, ew_within_all, ew_within_one, ew_within_within, ew_within_calls, ew_calls_none, ew_calls_call, ew_calls_all, ew_calls_one, ew_calls_within, ew_calls_calls, iw_none_all, iw_none_within, iw_call_all, iw_call_within, iw_all_all, iw_all_within, iw_one_all, iw_one_within, iw_within_all, iw_within_within, iw_calls_all, iw_calls_within]
      | one rs => rw [encR] at e5 ⊢; rw [encRs_map] at e5 ⊢; rw [show partsR (.one rs) = rs from rfl] at e5; generalize rs.map encR = RS at *; simp! [m__law_names_v2, gN, at0, at1, e5, l0, ew_none_none, ew_none_call, ew_none_all, ew_none_one, ew_none_within, ew_none_calls, ew_call_none, ew_call_call, ew_call_all, ew_call_one, ew_call_within, ew_call_calls, ew_all_none, ew_all_call, ew_all_all, ew_all_one, ew_all_within, ew_all_calls, ew_one_none, ew_one_call, ew_one_all, ew_one_one, ew_one_within, ew_one_calls, ew_within_none, ew_within_call, ew_within_all, ew_within_one, ew_within_within, ew_within_calls, ew_calls_none, ew_calls_call, ew_calls_all, ew_calls_one, ew_calls_within, ew_calls_calls, iw_none_all, iw_none_within, iw_call_all, iw_call_within, iw_all_all, iw_all_within, iw_one_all, iw_one_within, iw_within_all, iw_within_within, iw_calls_all, iw_calls_within]
theorem tag_ok {x : Str} (h : nameS x = true) (hx : PyData.strOk x = true) : s__law_tag [.dat (.str x)] = .ok (.dat (.bool true)) [.dat (.str x)] := by
  unfold nameS at h
  simp only [Bool.and_eq_true, decide_eq_true_eq] at h
  obtain ⟨⟨h1, h2⟩, h3⟩ := h
  have hl : x.length ≤ LIM := Nat.le_trans h2 (by decide)
  have e1 : lc__law_tag_1 [.dat (.str x), .un] = .ok (.list (x.cps.toList.map fun c => .bool (decide (c ∈ lets.cps.toList)))) [.dat (.str x), .un] := by
    unfold lc__law_tag_1
    refine lc_map x.cps.toList (fun c => .str ⟨#[c]⟩) _ (by simp! [itemsOf, signsD]) (by simp) (fun q hq => by simp! [elF, wipeE, inSign, lets]) ?_
    have : x.cps.toList.length = x.length := by simp [Str.length]
    rw [this]
    exact Nat.le_trans h2 (by decide)
  have g1 : (0 : Int) < (x.length : Nat) := by omega
  have g2 : ((x.length : Nat) : Int) < 9 := by omega
  have e2 : allF [.list (x.cps.toList.map fun c => PyData.bool (decide (c ∈ lets.cps.toList)))] = some (.bool true) := by rw [allF_map, h3]
  generalize (x.cps.toList.map fun c => PyData.bool (decide (c ∈ lets.cps.toList))) = Y at *
  have hl0 : 0 < x.length := by omega
  have hl9 : x.length < 9 := by omega
  simp! [s__law_tag, m__law_tag, hl, e1, e2, g1, g2, hl0, hl9]
theorem from_int2 {i : Int} (h : 1 ≤ i) : s_is_from [.dat (.int i), .dat (.int 1)] = .ok (.dat (.bool true)) [.dat (.int i), .dat (.int 1)] := by
  simp! [s_is_from, m_is_from, h]
theorem eq_none2 : eqD (.tuple [.str wNone]) (.tuple [.str (Str.ofString "none")]) = some (.bool true) := by
  have s : Shp 3 (.tuple [.str wNone]) := shp_tup fun d hd => by
    rw [List.mem_singleton.mp hd]
    exact ⟨by rw [PyData.canLay0]; exact ok_none.1, by simp [PyData.depth]⟩
  rw [show Str.ofString "none" = wNone from rfl, eqD_of s s]
  simp [PyData.eqv, PyData.eqvAll]
theorem formed_ok : ∀ (n k : Nat) (r : Rt), k < n → k ≤ 100 → dep r ≤ k → wfR r → s__law_formed n [.dat (encR r), .dat (.int (k : Nat))] = .ok (.dat (.bool true)) [.dat (encR r), .dat (.int (k : Nat))] := by
  intro n
  induction n with
  | zero => intro k r h; omega
  | succ n ih =>
    intro k r hk hk2 hd hw
    rw [r__law_formed]
    have k1 : 1 ≤ k := by cases r <;> simp [dep] at hd <;> omega
    have nk : ¬ ((k : Int) < 1) := by omega
    have ok1 : okI (k : Int) = true := okI_of (by omega) (by omega)
    have ek : (k : Int) - 1 = ((k - 1 : Nat) : Int) := by omega
    have l0 : 0 ≤ LIM := Nat.zero_le _
    have l1 : 1 ≤ LIM := by decide
    have l2 : 2 ≤ LIM := by decide
    have en := eq_none2
    cases r with
    | none =>
      rw [encR]
      simp! [m__law_formed, gN, at0, nk, l1, l2, en, eqD_int, ew_none_none, ew_none_call, ew_none_all, ew_none_one, ew_none_within, ew_none_calls, ew_call_none, ew_call_call, ew_call_all, ew_call_one, ew_call_within, ew_call_calls, ew_all_none, ew_all_call, ew_all_all, ew_all_one, ew_all_within, ew_all_calls, ew_one_none, ew_one_call, ew_one_all, ew_one_one, ew_one_within, ew_one_calls, ew_within_none, ew_within_call, ew_within_all, ew_within_one, ew_within_within, ew_within_calls, ew_calls_none, ew_calls_call, ew_calls_all, ew_calls_one, ew_calls_within, ew_calls_calls, iw_none_all, iw_none_within, iw_call_all, iw_call_within, iw_all_all, iw_all_within, iw_one_all, iw_one_within, iw_within_all, iw_within_within, iw_calls_all, iw_calls_within]
    | call x m t =>
      simp only [wfR] at hw
      have e1 := tag_ok hw.1 hw.2.1
      have e2 := from_int2 hw.2.2.1
      have e3 := from_int2 hw.2.2.2
      rw [encR]
      simp! [m__law_formed, gN, at0, at1, at2', at3', nk, l1, l2, eqD_int, e1, e2, e3, ew_none_none, ew_none_call, ew_none_all, ew_none_one, ew_none_within, ew_none_calls, ew_call_none, ew_call_call, ew_call_all, ew_call_one, ew_call_within, ew_call_calls, ew_all_none, ew_all_call, ew_all_all, ew_all_one, ew_all_within, ew_all_calls, ew_one_none, ew_one_call, ew_one_all, ew_one_one, ew_one_within, ew_one_calls, ew_within_none, ew_within_call, ew_within_all, ew_within_one, ew_within_within, ew_within_calls, ew_calls_none, ew_calls_call, ew_calls_all, ew_calls_one, ew_calls_within, ew_calls_calls, iw_none_all, iw_none_within, iw_call_all, iw_call_within, iw_all_all, iw_all_within, iw_one_all, iw_one_within, iw_within_all, iw_within_within, iw_calls_all, iw_calls_within]
    | within j q =>
      simp only [wfR] at hw
      have e1 := from_int2 hw.1
      have e2 := ih (k - 1) q (by omega) (by omega) (by simp only [dep] at hd; omega) hw.2
      rw [encR]
      rw [← ek] at e2
      generalize encR q = Q at *
      simp! [m__law_formed, gN, at0, at1, at2', nk, l1, l2, eqD_int, e1, e2, ew_none_none, ew_none_call, ew_none_all, ew_none_one, ew_none_within, ew_none_calls, ew_call_none, ew_call_call, ew_call_all, ew_call_one, ew_call_within, ew_call_calls, ew_all_none, ew_all_call, ew_all_all, ew_all_one, ew_all_within, ew_all_calls, ew_one_none, ew_one_call, ew_one_all, ew_one_one, ew_one_within, ew_one_calls, ew_within_none, ew_within_call, ew_within_all, ew_within_one, ew_within_within, ew_within_calls, ew_calls_none, ew_calls_call, ew_calls_all, ew_calls_one, ew_calls_within, ew_calls_calls, iw_none_all, iw_none_within, iw_call_all, iw_call_within, iw_all_all, iw_all_within, iw_one_all, iw_one_within, iw_within_all, iw_within_within, iw_calls_all, iw_calls_within]
    | calls j q =>
      simp only [wfR] at hw
      have e1 := from_int2 hw.1
      have e2 := ih (k - 1) q (by omega) (by omega) (by simp only [dep] at hd; omega) hw.2
      rw [encR]
      rw [← ek] at e2
      generalize encR q = Q at *
      simp! [m__law_formed, gN, at0, at1, at2', nk, l1, l2, eqD_int, e1, e2, ew_none_none, ew_none_call, ew_none_all, ew_none_one, ew_none_within, ew_none_calls, ew_call_none, ew_call_call, ew_call_all, ew_call_one, ew_call_within, ew_call_calls, ew_all_none, ew_all_call, ew_all_all, ew_all_one, ew_all_within, ew_all_calls, ew_one_none, ew_one_call, ew_one_all, ew_one_one, ew_one_within, ew_one_calls, ew_within_none, ew_within_call, ew_within_all, ew_within_one, ew_within_within, ew_within_calls, ew_calls_none, ew_calls_call, ew_calls_all, ew_calls_one, ew_calls_within, ew_calls_calls, iw_none_all, iw_none_within, iw_call_all, iw_call_within, iw_all_all, iw_all_within, iw_one_all, iw_one_within, iw_within_all, iw_within_within, iw_calls_all, iw_calls_within]
    | all rs =>
      have hw' := hw
      simp only [wfR] at hw
      have hl : rs.length ≤ LIM := Nat.le_trans hw.1 (by decide)
      have e1 : lc__law_formed_1 (s__law_formed n) [.dat (encR (.all rs)), .dat (.int (k : Nat)), .un] = .ok (.list (rs.map fun _ => .bool true)) [.dat (encR (.all rs)), .dat (.int (k : Nat)), .un] := by
        unfold lc__law_formed_1
        rw [encR, encRs_map]
        refine lc_map rs encR (fun _ => .bool true) (by generalize rs.map encR = RS at *; simp! [at1, itemsOf]) (by simp) (fun q hq => ?_) hl
        have e2 := ih (k - 1) q (by omega) (by omega) (by have := dep_mem hq; simp only [dep] at hd; omega) (wf_mem hw.2 hq)
        rw [← ek] at e2
        generalize rs.map encR = RS at *
        generalize encR q = Q at *
        simp! [elF, wipeE, gN, e2]
      have e3 : allF [.list (rs.map fun _ => PyData.bool true)] = some (.bool true) := by
        have := allF_map (fun _ : Rt => true) rs
        rw [this]
        simp
      rw [encR, encRs_map] at e1 ⊢
      generalize (rs.map fun _ => PyData.bool true) = Y at *
      generalize rs.map encR = RS at *
      simp! [m__law_formed, gN, at0, at1, nk, l1, l2, eqD_int, e1, e3, ew_none_none, ew_none_call, ew_none_all, ew_none_one, ew_none_within, ew_none_calls, ew_call_none, ew_call_call, ew_call_all, ew_call_one, ew_call_within, ew_call_calls, ew_all_none, ew_all_call, ew_all_all, ew_all_one, ew_all_within, ew_all_calls, ew_one_none, ew_one_call, ew_one_all, ew_one_one, ew_one_within, ew_one_calls, ew_within_none, ew_within_call, ew_within_all, ew_within_one, ew_within_within, ew_within_calls, ew_calls_none, ew_calls_call, ew_calls_all, ew_calls_one, ew_calls_within, ew_calls_calls, iw_none_all, iw_none_within, iw_call_all, iw_call_within, iw_all_all, iw_all_within, iw_one_all, iw_one_within, iw_within_all, iw_within_within, iw_calls_all, iw_calls_within]
    | one rs =>
      have hw' := hw
      simp only [wfR] at hw
      have hl : rs.length ≤ LIM := Nat.le_trans hw.1 (by decide)
      have e1 : lc__law_formed_1 (s__law_formed n) [.dat (encR (.one rs)), .dat (.int (k : Nat)), .un] = .ok (.list (rs.map fun _ => .bool true)) [.dat (encR (.one rs)), .dat (.int (k : Nat)), .un] := by
        unfold lc__law_formed_1
        rw [encR, encRs_map]
        refine lc_map rs encR (fun _ => .bool true) (by generalize rs.map encR = RS at *; simp! [at1, itemsOf]) (by simp) (fun q hq => ?_) hl
        have e2 := ih (k - 1) q (by omega) (by omega) (by have := dep_mem hq; simp only [dep] at hd; omega) (wf_mem hw.2 hq)
        rw [← ek] at e2
        generalize rs.map encR = RS at *
        generalize encR q = Q at *
        simp! [elF, wipeE, gN, e2]
      have e3 : allF [.list (rs.map fun _ => PyData.bool true)] = some (.bool true) := by
        have := allF_map (fun _ : Rt => true) rs
        rw [this]
        simp
      rw [encR, encRs_map] at e1 ⊢
      generalize (rs.map fun _ => PyData.bool true) = Y at *
      generalize rs.map encR = RS at *
      simp! [m__law_formed, gN, at0, at1, nk, l1, l2, eqD_int, e1, e3, ew_none_none, ew_none_call, ew_none_all, ew_none_one, ew_none_within, ew_none_calls, ew_call_none, ew_call_call, ew_call_all, ew_call_one, ew_call_within, ew_call_calls, ew_all_none, ew_all_call, ew_all_all, ew_all_one, ew_all_within, ew_all_calls, ew_one_none, ew_one_call, ew_one_all, ew_one_one, ew_one_within, ew_one_calls, ew_within_none, ew_within_call, ew_within_all, ew_within_one, ew_within_within, ew_within_calls, ew_calls_none, ew_calls_call, ew_calls_all, ew_calls_one, ew_calls_within, ew_calls_calls, iw_none_all, iw_none_within, iw_call_all, iw_call_within, iw_all_all, iw_all_within, iw_one_all, iw_one_within, iw_within_all, iw_within_within, iw_calls_all, iw_calls_within]
theorem law_is_right {r : Rt} (h : GdR r) : s__law_is_right [.dat (encR r)] = .ok (.dat (.bool true)) [.dat (encR r)] := by
  have e1 := formed_ok 30 6 r (by omega) (by omega) h.dp h.wf
  obtain ⟨sl, e2, e3⟩ := names2_ok 30 r (by have := h.dp; omega) h.wf h.cl
  have hl : (namesR r).length ≤ 1000 := by rw [namesR, List.length_map]; exact h.cl
  have e4 := lenSetF_ok h.nd (by omega)
  generalize encR r = R at *
  have e1 : s__law_formed 30 [.dat R, .dat (.int 6)] = .ok (.dat (.bool true)) [.dat R, .dat (.int 6)] := e1
  rcases e3 with rfl | rfl <;> simp! [s__law_is_right, m__law_is_right, Bt.a_mLenSet, e1, e2, e4, eqD_int]
end Lw
namespace Lw
open PySem L2 Bt
theorem map_er {α β : Type} (f : α → β) : ∀ (l : List α) (j : Nat), (l.eraseIdx j).map f = (l.map f).eraseIdx j
  | [], _ => by simp
  | a :: l, 0 => by simp
  | a :: l, j + 1 => by simp [map_er f l j]
end Lw
namespace Lw
open PySem L2 Bt
theorem em_b (n : Int) {s : Int} (h : 0 < s) : 0 ≤ n % s ∧ n % s < s := ⟨Int.emod_nonneg _ (by omega), Int.emod_lt_of_pos _ h⟩
theorem tk (n s : Int) (h : 0 < s) (h2 : s ≤ 10 ^ 12) : s__law_take [(.ow (.l [.int n])), .dat (.int s)] = .ok (.dat (.int (n % s))) [(.ow (.l [.int (n / s)])), .dat (.int s)] := take_ok n s h (okS (by omega) (by omega))
theorem at2 (x y n : Int) : ∃ s : Int, (s = x ∨ s = y) ∧ atI [PyData.int x, .int y] (n % 2) = some (.int s) := by
  have := em_b n (show (0 : Int) < 2 by omega)
  by_cases z : n % 2 = 0
  · exact ⟨x, .inl rfl, by rw [z]; exact at0 _ _⟩
  · exact ⟨y, .inr rfl, by rw [show n % 2 = 1 by omega]; exact at1 _ _ _⟩
end Lw
namespace Lw
open PySem L2 Bt
theorem perm_sum {a b : List Int} (h : a.Perm b) : a.sum = b.sum := by
  induction h with
  | nil => rfl
  | cons x _ ih => rw [List.sum_cons, List.sum_cons, ih]
  | swap x y l => simp only [List.sum_cons]; omega
  | trans _ _ h1 h2 => rw [h1, h2]
theorem coins_S : ∀ {p : Pile}, (∀ q ∈ p, 1 ≤ q.2) → (coinsOf p).sum = S p
  | [], _ => rfl
  | q :: p, h => by
    have ih := coins_S (p := p) fun x hx => h x (List.mem_cons_of_mem _ hx)
    have h1 := h q List.mem_cons_self
    rw [show q :: p = [(q.1, q.2)] ++ p from rfl, coins_append, coins_one, List.sum_append, ih, List.sum_replicate_int]
    unfold S
    rw [List.map_append, List.sum_append]
    simp
    rw [Int.max_eq_left (by omega), Int.mul_comm]
def plJ (mw : Int) (ds : List D) (E : En) : Prop := ∃ (n : Int) (cs : List Int), E = [(.ow (.l [.int n])), .dat (.int mw), (.ow (.l (cs.map .int))), .un] ∧ (∀ c ∈ cs, 1 ≤ c ∧ c ≤ 20) ∧ cs.length + ds.length ≤ 9
theorem pile_turn2 (mw : Int) (h1 : 1 ≤ mw) (h2 : mw ≤ 20) (d : D) (ds : List D) (E : En) (h : plJ mw (d :: ds) E) : ∃ E1 E2, gN 3 d E = some E1 ∧ (lp__law_pile_1 E1 = .ok .nx E2 ∨ lp__law_pile_1 E1 = .ok .ct E2) ∧ plJ mw ds (wipeE E2 [3]) := by
  obtain ⟨n, cs, rfl, hc, hl⟩ := h
  obtain ⟨s, hs, ha⟩ := at2 3 mw n
  have hs1 : 0 < s ∧ s ≤ 20 := by rcases hs with rfl | rfl <;> omega
  have e2 := tk n 2 (by omega) (by omega)
  have e3 := tk (n / 2) s hs1.1 (by omega)
  have hb := em_b (n / 2) hs1.1
  rw [List.length_cons] at hl
  refine ⟨_, [(.ow (.l [.int (n / 2 / s)])), .dat (.int mw), (.ow (.l ((cs ++ [1 + n / 2 % s]).map .int))), .dat d], rfl, .inl ?_, _, _, rfl, ?_, ?_⟩
  · simp! [lp__law_pile_1, e2, e3, ha, show (2 : Nat) ≤ LIM by decide, show cs.length < LIM by have : LIM = 100000 := rfl; omega]
  · intro c hc'
    rcases List.mem_append.mp hc' with hc' | hc'
    · exact hc c hc'
    · rw [List.mem_singleton.mp hc']; omega
  · rw [List.length_append, List.length_singleton]; omega
end Lw
namespace Lw
open PySem L2 Bt
theorem law_pile49 {p : Pile} (h : Gd p) : s_k49__law_is_pile [.dat (enc p)] = .ok (.dat (.bool true)) [.dat (enc p)] := by
  have e1 : fr_k49__law_is_pile_1 [.dat (enc p), .un, .un, .un] = .ok .nx [.dat (enc p), .un, .un, .un] := by
    unfold fr_k49__law_is_pile_1
    refine for_same p encL (by simp! [enc, itemsOf]) fun q hq => ⟨[.dat (enc p), .dat (encL q), .un, .un], [.dat (enc p), .dat (encL q), .un, .un], rfl, .inl ?_, rfl⟩
    have f1 := is_from_gen 1 (.int q.1) rfl
    rw [show isFl 1 (.int q.1) = true from decide_eq_true (h.w1 q hq)] at f1
    have f2 := is_from_gen 1 (.int q.2) rfl
    rw [show isFl 1 (.int q.2) = true from decide_eq_true (h.m1 q hq)] at f2
    generalize enc p = P at *
    simp! [lp_k49__law_is_pile_1, gN, encL, at0, at1, f1, f2, neD_int]
  have e2 : lc_k49__law_is_pile_1 [.dat (enc p), .un, .un, .un] = .ok (.list ((p.zip (p.drop 1)).map fun _ => .bool true)) [.dat (enc p), .un, .un, .un] := by
    unfold lc_k49__law_is_pile_1
    refine lc_map (p.zip (p.drop 1)) (fun q => .tuple [encL q.1, encL q.2]) (fun _ => .bool true) (by simp! [enc, cut1, ← List.map_tail, zipD_map]) (by simp) (fun q hq => by simp! [elF, wipeE, encL, gTupM, gConsM, gNilM, gN, atI, ixN, up_zip h.up q hq]) ?_
    rw [List.length_zip]
    have := gd_lim h
    omega
  simp! [s_k49__law_is_pile, m_k49__law_is_pile, e1, e2, allF_map, isi_enc, show notX (enc p) = true from rfl]
theorem coins49 {p : Pile} (h : Gd p) (hl : (coinsOf p).length ≤ 10000) : s_k49__law_coins [.dat (enc p)] = .ok ((.ow (.l ((coinsOf p).map .int)))) [.dat (enc p)] := by
  have hf := for_fold (ws := [2, 3]) (mi := mIt (mV 0)) (g := gTupM 2 (gConsM (gN 2) (gConsM (gN 3) gNilM))) (mb := lp_k49__law_coins_1) (E0 := [.dat (enc p), (.ow (.l (([] : List Int).map .int))), .un, .un]) p encL (fun cs => [.dat (enc p), (.ow (.l (cs.map .int))), .un, .un]) (fun cs q => cs ++ List.replicate q.2.toNat q.1) (fun cs r => cs.length + (coinsOf r).length ≤ 10000 ∧ ∀ q ∈ r, 1 ≤ q.2) (s := []) (by simp! [enc]) ⟨by simpa using hl, h.m1⟩ (fun q r cs hI => by
    obtain ⟨hI, h1⟩ := hI
    have hq := h1 q List.mem_cons_self
    rw [show q :: r = [(q.1, q.2)] ++ r from rfl, coins_append, coins_one, List.length_append, List.length_replicate] at hI
    have hL : LIM = 100000 := rfl
    have c1 : repOk 1 q.2 = true := rep_ok (by omega) (by omega) (by omega)
    have c4 : cs.length + q.2.toNat ≤ LIM := by omega
    refine ⟨⟨[.dat (enc p), (.ow (.l (cs.map .int))), .dat (.int q.1), .dat (.int q.2)], [.dat (enc p), (.ow (.l ((cs ++ List.replicate q.2.toNat q.1).map .int))), .dat (.int q.1), .dat (.int q.2)], rfl, .inl ?_, rfl⟩, ?_, fun a ha => h1 a (List.mem_cons_of_mem _ ha)⟩
    · simp! [lp_k49__law_coins_1, repl_flat, c1, c4, show (1 : Nat) ≤ LIM by omega]
    · rw [List.length_append, List.length_replicate]; omega)
  have e : fr_k49__law_coins_1 [.dat (enc p), (.ow (.l [])), .un, .un] = .ok .nx [.dat (enc p), (.ow (.l ((coinsOf p).map .int))), .un, .un] := by
    have := hf.1
    rw [coins_fold, List.nil_append] at this
    exact this
  simp! [s_k49__law_coins, m_k49__law_coins, e]
structure Pc (k : Nat) (b : Int) (p : Pile) : Prop where
  gd : Gd p
  cn : ∀ c ∈ coinsOf p, 1 ≤ c ∧ c ≤ b
  len : (coinsOf p).length ≤ k
theorem pc_heap {k : Nat} {b : Int} {ns : List Int} (h : ∀ n ∈ ns, 1 ≤ n ∧ n ≤ b) (hl : ns.length ≤ k) (hb : b ≤ 10 ^ 13) (hk : k ≤ 1000) : Pc k b (heapOf ns) :=
  ⟨heap_gd (fun n hn => by have := h n hn; omega) (by omega), fun c hc => h c ((sortI_perm ns).mem_iff.mp (by rw [← (heap_HI ns).coins]; exact hc)), by rw [(heap_HI ns).coins, (sortI_perm ns).length_eq]; exact hl⟩
theorem ne_nil49 (ns : List Int) : eqD (.list (ns.map .int)) (.list []) = some (.bool ns.isEmpty) := by
  rw [eqD_of (shp_ints ns) shp_nil]
  cases ns <;> simp [PyData.eqv, PyData.eqvAll]
theorem heap_dat (ns : List Int) (hl : ns.length ≤ 900) : s__law_heap [.dat (.list (ns.map .int))] = .ok (.dat (enc (heapOf ns))) [.dat (.list (ns.map .int))] := heap_ok _ ns (.inr rfl) hl
theorem pile_pc49 (n mw : Int) (h1 : 1 ≤ mw) (h2 : mw ≤ 20) : ∃ n' p, s__law_pile [(.ow (.l [.int n])), .dat (.int mw)] = .ok (.dat (enc p)) [(.ow (.l [.int n'])), .dat (.int mw)] ∧ Pc 9 20 p := by
  have hb := em_b n (show (0 : Int) < 6 by omega)
  have hb5 := em_b (n / 6) (show (0 : Int) < 5 by omega)
  have e6 := tk n 6 (by omega) (by omega)
  have e5 := tk (n / 6) 5 (by omega) (by omega)
  obtain ⟨E', ⟨n', cs, rfl, hc, hl⟩, hf⟩ := for_inv (ws := [3]) (mi := mRng1 (mCons (mD (mCall s__law_take [] (mCons (mR 0) (mCons (mD (Bt.ret (.int 5))) (Bt.ret []))))) (Bt.ret []))) (g := gN 3) (mb := lp__law_pile_1) (E0 := [(.ow (.l [.int (n / 6)])), .dat (.int mw), (.ow (.l ((List.replicate (n % 6).toNat (1 : Int)).map .int))), .un]) (plJ mw) (its := rangeD 0 (n / 6 % 5)) (E := [(.ow (.l [.int (n / 6 / 5)])), .dat (.int mw), (.ow (.l ((List.replicate (n % 6).toNat (1 : Int)).map .int))), .un]) (by simp! [e5, rg_ok (show -1000000 ≤ n / 6 % 5 by omega) (show n / 6 % 5 ≤ 1000000 by omega)]) ⟨_, _, rfl, fun c hc => by rw [(List.mem_replicate.mp hc).2]; omega, by rw [rangeD_length, List.length_replicate]; omega⟩ (fun d ds E h => pile_turn2 mw h1 h2 d ds E h)
  have e : fr__law_pile_1 _ = _ := hf
  rw [List.map_replicate] at e
  simp only [List.length_nil, Nat.add_zero] at hl
  refine ⟨n', heapOf cs, ?_, pc_heap (fun c hc' => hc c hc') (by omega) (by omega) (by omega)⟩
  have hh := heap_ok ((.ow (.l (cs.map .int)))) cs (.inl rfl) (by omega)
  have er : repOk 1 (n % 6) = true := rep_ok (by omega) (by omega) (by omega)
  have ef : (List.replicate (n % 6).toNat [PyData.int 1]).flatten = List.replicate (n % 6).toNat (.int 1) := by rw [repl_flat, List.map_replicate]
  simp! [s__law_pile, m__law_pile, e6, er, ef, e, hh, show (1 : Nat) ≤ LIM by decide]
theorem S_heap49 {ns : List Int} (h : ∀ n ∈ ns, 1 ≤ n ∧ n ≤ 10 ^ 13) (hl : ns.length ≤ 1000) : S (heapOf ns) = ns.sum := by
  rw [← coins_S (heap_gd h hl).m1, (heap_HI ns).coins]
  exact perm_sum (sortI_perm ns)
theorem sum_er49 : ∀ (ns : List Int) (j : Nat) (h : j < ns.length), (ns.eraseIdx j).sum + ns[j] = ns.sum
  | [], _, h => by simp at h
  | a :: ns, 0, _ => by simp; omega
  | a :: ns, j + 1, h => by
    have := sum_er49 ns j (by simpa using h)
    simp at this ⊢
    omega
theorem changed49 (N : Int) {k : Nat} {b s : Int} {p : Pile} (h : Pc k b p) (hk : k ≤ 500) (hb : 9 ≤ b) (hb2 : b ≤ 10 ^ 6) (hs : S p ≤ s) : ∃ N' p', s_k49__law_changed [(.ow (.l [.int N])), .dat (enc p)] = .ok (.dat (enc p')) [(.ow (.l [.int N'])), .dat (enc p)] ∧ Pc (k + 1) (b + 2) p' ∧ S p' ≤ s + 9 := by
  have ec := coins49 h.gd (by have := h.len; omega)
  have hc := h.cn
  have hlen := h.len
  have hss := coins_S h.gd.m1
  rw [← hss] at hs
  clear hss
  generalize coinsOf p = ns at *
  have t3 := take_ok N 3 (by omega) (okS (by omega) (by omega))
  have w1 : 0 ≤ N % 3 := Int.emod_nonneg _ (by omega)
  have nn := ne_nil49 ns
  have hL : ns.length + 2 ≤ LIM := Nat.le_trans (by omega : _ ≤ 502) (by decide)
  have hL1 : ns.length + 1 ≤ LIM := by omega
  have l1 : 1 ≤ LIM := by decide
  have l2 : 2 ≤ LIM := by decide
  have l0 : 0 ≤ LIM := by decide
  by_cases c1 : ns = []
  · subst c1
    have t9 := take_ok N 9 (by omega) (okS (by omega) (by omega))
    have a1 : 0 ≤ N % 9 := Int.emod_nonneg _ (by omega)
    have a2 : N % 9 < 9 := Int.emod_lt_of_pos _ (by omega)
    have hh := heap_dat [1 + N % 9] (by simp)
    simp only [List.map_nil, List.map_cons, List.isEmpty_nil] at nn hh ec ⊢
    refine ⟨N / 9, heapOf [1 + N % 9], by simp! [s_k49__law_changed, m_k49__law_changed, ec, nn, t9, l0, l1, hh], pc_heap (fun n hn => ?_) (by simp) (by omega) (by omega), ?_⟩
    · rw [List.mem_singleton.mp hn]; omega
    · rw [S_heap49 (fun n hn => by rw [List.mem_singleton.mp hn]; omega) (by simp)]
      simp at hs ⊢; omega
  · have hp := List.length_pos_iff.mpr c1
    have ie : ns.isEmpty = false := by cases ns; exact absurd rfl c1; rfl
    rw [ie] at nn
    by_cases c2 : N % 3 = 0
    · have t9 := take_ok (N / 3) 9 (by omega) (okS (by omega) (by omega))
      have a1 : 0 ≤ N / 3 % 9 := Int.emod_nonneg _ (by omega)
      have a2 : N / 3 % 9 < 9 := Int.emod_lt_of_pos _ (by omega)
      have hh := heap_dat (ns ++ [1 + N / 3 % 9]) (by rw [List.length_append, List.length_singleton]; omega)
      rw [List.map_append] at hh
      simp only [List.map_cons, List.map_nil] at hh
      have hmem : ∀ n ∈ ns ++ [1 + N / 3 % 9], 1 ≤ n ∧ n ≤ b := fun n hn => by
        rcases List.mem_append.mp hn with hn | hn
        · exact hc n hn
        · rw [List.mem_singleton.mp hn]; omega
      refine ⟨N / 3 / 9, heapOf (ns ++ [1 + N / 3 % 9]), by simp! [s_k49__law_changed, m_k49__law_changed, ec, t3, nn, c2, t9, l0, l1, hL1, hh, eqD_int], pc_heap (fun n hn => ?_) (by rw [List.length_append, List.length_singleton]; omega) (by omega) (by omega), ?_⟩
      · have := hmem n hn; omega
      · rw [S_heap49 (fun n hn => by have := hmem n hn; omega) (by rw [List.length_append, List.length_singleton]; omega), List.sum_append]
        simp; omega
    · have tl := take_ok (N / 3) (ns.length : Int) (by omega) (okS (by omega) (by omega))
      have d1 : 0 ≤ N / 3 % (ns.length : Int) := Int.emod_nonneg _ (by omega)
      have d2 : N / 3 % (ns.length : Int) < ns.length := Int.emod_lt_of_pos _ (by omega)
      obtain ⟨j, hj⟩ : ∃ j : Nat, N / 3 % (ns.length : Int) = j := ⟨(N / 3 % (ns.length : Int)).toNat, by omega⟩
      rw [hj] at tl d2
      have hjl : j < ns.length := by omega
      have ix : ixN ns.length (j : Int) = some j := by unfold ixN; rw [if_pos (by omega), if_pos (by omega)]; simp
      have hle := List.length_eraseIdx_of_lt hjl
      have hm : ∀ n ∈ ns.eraseIdx j, 1 ≤ n ∧ n ≤ b := fun n hn => hc n (List.mem_of_mem_eraseIdx hn)
      have hj2 := hc ns[j] (List.getElem_mem hjl)
      have hLs : ns.length ≤ LIM := by omega
      have er : (ns.map PyData.int).eraseIdx j = (ns.eraseIdx j).map .int := (map_er _ ns j).symm
      have tp := take_ok (N / 3 / ns.length) 3 (by omega) (okS (by omega) (by omega))
      have tq := take_ok (N / 3 / ns.length / 3) 2 (by omega) (okS (by omega) (by omega))
      have f1 : 0 ≤ N / 3 / ns.length % 3 := Int.emod_nonneg _ (by omega)
      have f2 : N / 3 / ns.length % 3 < 3 := Int.emod_lt_of_pos _ (by omega)
      have g1 : 0 ≤ N / 3 / ns.length / 3 % 2 := Int.emod_nonneg _ (by omega)
      have g2 : N / 3 / ns.length / 3 % 2 < 2 := Int.emod_lt_of_pos _ (by omega)
      have hL4 : ns.length - 1 + 1 ≤ LIM := by omega
      have hL3 : ns.length - 1 + 0 ≤ LIM := by omega
      have hL5 : ns.length ≤ LIM + 1 := by omega
      have rp : repOk 1 (N / 3 / ns.length / 3 % 2) = true := rep_ok (by omega) (by omega) (by omega)
      have hsum : (ns.eraseIdx j).sum + ns[j] = ns.sum := sum_er49 ns j hjl
      rcases (show N / 3 / ns.length / 3 % 2 = 0 ∨ N / 3 / ns.length / 3 % 2 = 1 by omega) with z | z
      · have hh := heap_dat (ns.eraseIdx j) (by omega)
        rw [z] at tq rp
        refine ⟨N / 3 / ns.length / 3 / 2, heapOf (ns.eraseIdx j), ?_, pc_heap (fun n hn => ?_) (by omega) (by omega) (by omega), ?_⟩
        · simp! [s_k49__law_changed, m_k49__law_changed, gN, ec, t3, nn, c2, tl, ix, hjl, hLs, l0, l1, l2, er, tp, tq, rp, hle, hL3, hL4, hL5, hh, eqD_int]
        · have := hm n hn; omega
        · rw [S_heap49 (fun n hn => by have := hm n hn; omega) (by omega)]
          omega
      · have hh := heap_dat (ns.eraseIdx j ++ [ns[j] + N / 3 / ns.length % 3]) (by rw [List.length_append]; simp; omega)
        rw [List.map_append] at hh
        simp only [List.map_cons, List.map_nil] at hh
        rw [z] at tq rp
        have hmem : ∀ n ∈ ns.eraseIdx j ++ [ns[j] + N / 3 / ns.length % 3], 1 ≤ n ∧ n ≤ b + 2 := fun n hn => by
          rcases List.mem_append.mp hn with hn | hn
          · have := hm n hn; omega
          · rw [List.mem_singleton.mp hn]; omega
        have hll : (ns.eraseIdx j ++ [ns[j] + N / 3 / ns.length % 3]).length ≤ k + 1 := by rw [List.length_append, hle]; simp; omega
        refine ⟨N / 3 / ns.length / 3 / 2, heapOf (ns.eraseIdx j ++ [ns[j] + N / 3 / ns.length % 3]), ?_, pc_heap hmem hll (by omega) (by omega), ?_⟩
        · simp! [s_k49__law_changed, m_k49__law_changed, gN, ec, t3, nn, c2, tl, ix, hjl, hLs, l0, l1, l2, er, tp, tq, rp, hle, hL3, hL4, hL5, hh, eqD_int]
        · rw [S_heap49 (fun n hn => by have := hmem n hn; omega) (by omega), List.sum_append]
          simp; omega
end Lw
namespace Lw
open PySem L2 Bt
theorem tog_loop49 (o c : Pile) (x0 : Sl) (hl : c.length + o.length ≤ 999) : fr_k49__law_together_1 [x0, .dat (enc o), (.ow (.d (c.map kv))), .un, .un] = .ok .nx [x0, .dat (enc o), (.ow (.d ((o.foldl pstep c).map kv))), .un, .un] := by
  have hf := for_fold (ws := [3, 4]) (mi := mIt (mV 1)) (g := gTupM 2 (gConsM (gN 3) (gConsM (gN 4) gNilM))) (mb := lp_k49__law_together_1) (E0 := [x0, .dat (enc o), (.ow (.d (c.map kv))), .un, .un]) o encL (fun c => [x0, .dat (enc o), (.ow (.d (c.map kv))), .un, .un]) pstep (fun c r => c.length + r.length ≤ 999) (s := c) (by simp! [enc, itemsOf]) hl (fun x r c hI => by
    rw [List.length_cons] at hI
    have h2 := putP_len c x.1 (cnt c x.1 + x.2)
    refine ⟨⟨_, [x0, .dat (enc o), (.ow (.d ((pstep c x).map kv))), .dat (.int x.1), .dat (.int x.2)], rfl, .inl ?_, rfl⟩, by unfold pstep; omega⟩
    have hp := putP_kv c x.1 (cnt c x.1 + x.2)
    have hlc : c.length < LIM := Nat.lt_of_le_of_lt (show _ ≤ 999 by omega) (by decide)
    cases hh : has c x.1 with
    | true => simp! [lp_k49__law_together_1, val_kv, hh, hp, hlc, pstep]
    | false =>
      rw [cnt_none hh] at hp
      simp only [Int.zero_add] at hp
      simp! [lp_k49__law_together_1, val_kv, hh, hp, hlc, pstep, cnt_none hh])
  exact hf.1
structure Q49 (p : Pile) : Prop where
  g : Gd p
  l : p.length ≤ 30
  s : S p ≤ 200
theorem lots_S49 : ∀ o : Pile, (∀ x ∈ o, 1 ≤ x.1 ∧ 1 ≤ x.2) → 0 ≤ S o ∧ ∀ x ∈ o, x.1 ≤ S o ∧ x.2 ≤ S o := by
  intro o
  induction o with
  | nil => intro _; simp [S]
  | cons x o ih =>
    intro h
    have h1 := h x List.mem_cons_self
    obtain ⟨h2, h4⟩ := ih fun y hy => h y (List.mem_cons_of_mem _ hy)
    have e : S (x :: o) = x.1 * x.2 + S o := by simp [S]
    have a1 := Int.mul_le_mul_of_nonneg_left h1.2 (show 0 ≤ x.1 by omega)
    have a2 := Int.mul_le_mul_of_nonneg_right h1.1 (show 0 ≤ x.2 by omega)
    refine ⟨by omega, fun y hy => ?_⟩
    rcases List.mem_cons.mp hy with rfl | hy
    · omega
    · have := h4 y hy; omega
theorem Q49.m {p : Pile} (h : Q49 p) : ∀ x ∈ p, x.1 ≤ 200 ∧ x.2 ≤ 200 := fun x hx => by
  have := (lots_S49 p fun y hy => ⟨h.g.w1 y hy, h.g.m1 y hy⟩).2 x hx
  have := h.s
  omega
theorem tog49 {p o : Pile} (h : Gd p) (ho : Gd o) (hl : p.length + o.length ≤ 100) (hm : ∀ q ∈ p, q.2 ≤ 10 ^ 10) (hm2 : ∀ q ∈ o, q.2 ≤ 10 ^ 10) : s_k49__law_together [.dat (enc p), .dat (enc o)] = .ok (.dat (enc (putT p o))) [.dat (enc p), .dat (enc o)] := by
  have e2 := dict_enc h
  have e3 := tog_loop49 o p (.dat (enc p)) (by omega)
  have hd : Dk p := h.up.imp fun h => by omega
  have hDk := pfold_dk o hd
  have hin := pfold_in (C := 10 ^ 10) (by omega) o (c := p) (B := 10 ^ 10) (by omega) (fun q hq => ⟨h.w1 q hq, h.w2 q hq, h.m1 q hq, hm q hq⟩) (fun q hq => ⟨ho.w1 q hq, ho.w2 q hq, ho.m1 q hq, hm2 q hq⟩)
  have hlen := pfold_len o p
  have eT : putT p o = (sortI ((o.foldl pstep p).map (·.1))).map fun w => (w, cnt (o.foldl pstep p) w) := by
    unfold putT fcG
    rw [List.filter_eq_self.mpr]
    intro w hw
    obtain ⟨q, hq, rfl⟩ := List.mem_map.mp ((sortI_perm _).mem_iff.mp hw)
    rw [cnt_mem hDk q hq]
    have := hin q hq
    exact decide_eq_true (by omega)
  generalize o.foldl pstep p = c at *
  have hs : ∀ w ∈ sortI (c.map (·.1)), has c w = true := fun w hw => by
    obtain ⟨q, hq, rfl⟩ := List.mem_map.mp ((sortI_perm _).mem_iff.mp hw)
    exact has_iff.mpr ⟨q, hq, rfl⟩
  have hLl : (sortI (c.map (·.1))).length ≤ LIM := by
    rw [(sortI_perm _).length_eq, List.length_map]
    exact Nat.le_trans (show c.length ≤ 100 by omega) (by decide)
  have hl2 : c.length < 1000 := by omega
  have e1 : lc_k49__law_together_1 [.dat (enc p), .dat (enc o), (.ow (.d (c.map kv))), .un, .un] = .ok (.list ((sortI (c.map (·.1))).map fun w => encL (w, cnt c w))) [.dat (enc p), .dat (enc o), (.ow (.d (c.map kv))), .un, .un] := by
    unfold lc_k49__law_together_1
    refine lc_map (sortI (c.map (·.1))) PyData.int (fun w => encL (w, cnt c w)) ?_ ?_ ?_ hLl
    · simp! [keys_kv, hl2]
    · simp
    · intro w hw
      simp! [elF, wipeE, encL, val_kv, hs w hw, show (2 : Nat) ≤ LIM by decide]
  have ee : enc (putT p o) = .tuple ((sortI (c.map (·.1))).map fun w => encL (w, cnt c w)) := by
    rw [eT]; unfold enc; rw [List.map_map]; rfl
  rw [ee]
  generalize ((sortI (c.map (·.1))).map fun w => encL (w, cnt c w)) = Z at *
  generalize enc p = P at *
  generalize enc o = O at *
  simp! [s_k49__law_together, m_k49__law_together, e2, e3, e1]
theorem due49 {p q : Pile} (hp : Gd p) (hq : Gd q) (hl : p.length + q.length ≤ 100) : s_k49__law_due [.dat (enc p), .dat (enc q)] = .ok (.dat (.bool (odl p q).isEmpty)) [.dat (enc p), .dat (enc q)] := by
  have hLI : LIM = 100000 := rfl
  have e1 : lc_k49__law_due_1 [.dat (enc p), .dat (enc q), .un, .un, .un, .un] = .ok (.list ((p ++ q).map fun x => .int (x.1 + 1))) [.dat (enc p), .dat (enc q), .un, .un, .un, .un] := by
    unfold lc_k49__law_due_1
    refine lc_map (p ++ q) encL (fun x => .int (x.1 + 1)) ?_ (by simp) (fun x hx => ?_) (by rw [List.length_append]; omega)
    · have ep : enc p = .tuple (p.map encL) := rfl
      have eq : enc q = .tuple (q.map encL) := rfl
      have hle2 : (p.map encL).length + (q.map encL).length ≤ LIM := by rw [List.length_map, List.length_map]; omega
      rw [List.map_append, ep, eq]
      generalize p.map encL = P at *
      generalize q.map encL = Q at *
      simp! [itemsOf, hle2]
    · have hb : 1 ≤ x.1 ∧ x.1 ≤ 10 ^ 13 := by
        rcases List.mem_append.mp hx with h | h
        · exact ⟨hp.w1 x h, hp.w2 x h⟩
        · exact ⟨hq.w1 x h, hq.w2 x h⟩
      have o1 : okI x.1 = true := okI_of (by omega) (by omega)
      generalize enc p = P at *
      generalize enc q = Q at *
      simp! [elF, wipeE, gTupM, gConsM, gNilM, gN, encL, o1]
  have em : ((p ++ q).map fun x => PyData.int (x.1 + 1)) = ((p ++ q).map fun x => x.1 + 1).map .int := by rw [List.map_map]; rfl
  rw [em] at e1
  have e2 : ∀ xs : List Int, xs.length ≤ LIM → lc_k49__law_due_2 [.dat (enc p), .dat (enc q), .dat (.list (xs.map .int)), .un, .un, .un] = .ok (.list ((xs.filter fun b => decide (L p b < L q b)).map .int)) [.dat (enc p), .dat (enc q), .dat (.list (xs.map .int)), .un, .un, .un] := fun xs hx => by
    unfold lc_k49__law_due_2
    refine lc_if xs .int (fun b => decide (L p b < L q b)) .int (by simp! [itemsOf]) (by simp) (fun b hb => ?_) hx
    have f1 := law_under_ok hp b
    have f2 := law_under_ok hq b
    generalize xs.map PyData.int = O at *
    generalize enc p = P at *
    generalize enc q = Q at *
    by_cases c : L p b < L q b <;> simp! [elF, wipeE, gN, f1, f2, c]
  have e2 := e2 ((p ++ q).map fun x => x.1 + 1) (by rw [List.length_map, List.length_append]; omega)
  have e3 := ne_nil49 (((p ++ q).map fun x => x.1 + 1).filter fun b => decide (L p b < L q b))
  have eb : (((p ++ q).map fun x => x.1 + 1).filter fun b => decide (L p b < L q b)).isEmpty = (odl p q).isEmpty := by
    rw [Bool.eq_iff_iff, List.isEmpty_iff, List.isEmpty_iff]
    unfold odl
    rw [List.filter_eq_nil_iff, List.filter_eq_nil_iff]
    constructor
    · intro h b hb
      obtain ⟨x, hx, rfl⟩ := obs_mem.mp hb
      exact h _ (List.mem_map.mpr ⟨x, hx, rfl⟩)
    · intro h b hb
      obtain ⟨x, hx, rfl⟩ := List.mem_map.mp hb
      exact h _ (obs_mem.mpr ⟨x, hx, rfl⟩)
  rw [eb] at e3
  generalize (((p ++ q).map fun x => x.1 + 1).filter fun b => decide (L p b < L q b)).map PyData.int = Z at *
  generalize ((p ++ q).map fun x => x.1 + 1).map PyData.int = O at *
  generalize enc p = P at *
  generalize enc q = Q at *
  have l0 : 0 ≤ LIM := Nat.zero_le _
  simp! [s_k49__law_due, m_k49__law_due, gN, e1, e2, e3, l0]
theorem L_T49 (p : Pile) (h : ∀ x ∈ p, 1 ≤ x.1 ∧ 1 ≤ x.2) {f g : Int → Int} (hf : ∀ w, 1 ≤ w → f w ≤ g w) : T f p ≤ T g p := by
  induction p with
  | nil => simp [T]
  | cons x p ih =>
    have h1 := h x List.mem_cons_self
    have := ih fun y hy => h y (List.mem_cons_of_mem _ hy)
    have := Int.mul_le_mul_of_nonneg_right (hf x.1 h1.1) (show 0 ≤ x.2 by omega)
    rw [T_cons, T_cons]
    omega
theorem L_mono49 {p : Pile} (h : Gd p) {b c : Int} (hb : b ≤ c) : L p b ≤ L p c := by
  rw [L_T, L_T]
  refine L_T49 p (fun x hx => ⟨h.w1 x hx, h.m1 x hx⟩) fun w hw => ?_
  split <;> split <;> omega
theorem L_S49 {p : Pile} (h : Gd p) (b : Int) : L p b ≤ S p := by
  rw [L_T, S_T]
  refine L_T49 p (fun x hx => ⟨h.w1 x hx, h.m1 x hx⟩) fun w hw => ?_
  split <;> omega
theorem L_nn49 {p : Pile} (h : Gd p) (b : Int) : 0 ≤ L p b := by
  have e : ∀ p : Pile, T (fun _ => 0) p = 0 := by
    intro p
    induction p with
    | nil => rfl
    | cons x p ih => rw [T_cons, ih]; omega
  have := L_T49 p (fun x hx => ⟨h.w1 x hx, h.m1 x hx⟩) (f := fun _ => 0) (g := fun w => if w < b then w else 0) fun w hw => by split <;> omega
  rw [e] at this
  rw [L_T]
  exact this
def a49 : Str := ⟨#[97]⟩
def co49 (b t : Int) : Pile := fcG [(1, t * (b - 2)), (b, 1)]
theorem co49_facts {b t : Int} (hb : 2 ≤ b) (hb2 : b ≤ 300) (h0 : 0 ≤ t) (h1 : t ≤ 200) :
    Gd (co49 b t) ∧ (∀ q ∈ co49 b t, q.2 ≤ 10 ^ 10) ∧ (co49 b t).length ≤ 2 ∧ ∀ f : Int → Int, T f (co49 b t) = f 1 * (t * (b - 2)) + f b := by
  have p0 : 0 ≤ t * (b - 2) := Int.mul_nonneg h0 (by omega)
  have p1 : t * (b - 2) ≤ 200 * 300 := Int.mul_le_mul h1 (by omega) (by omega) (by omega)
  have hd : Dk [(1, t * (b - 2)), (b, 1)] := by
    refine List.pairwise_cons.mpr ⟨fun x hx => ?_, List.pairwise_singleton _ _⟩
    rw [List.mem_singleton.mp hx]
    show (1 : Int) ≠ b
    omega
  have hm : ∀ q ∈ [(1, t * (b - 2)), (b, 1)], (q = (1, t * (b - 2)) ∨ q = (b, 1)) := fun q hq => by simpa using hq
  have hb3 : ∀ q ∈ [(1, t * (b - 2)), (b, 1)], 1 ≤ q.1 ∧ q.1 ≤ 10 ^ 13 ∧ 0 ≤ q.2 ∧ q.2 ≤ 10 ^ 10 := fun q hq => by rcases hm q hq with rfl | rfl <;> dsimp only <;> omega
  obtain ⟨g1, g2, g3⟩ := fcG_gdO hd (fun q hq => by have := hb3 q hq; omega) (by simp)
  refine ⟨g1, fun q hq => (hb3 q (g2 q hq)).2.2.2, g3, fun f => ?_⟩
  unfold co49
  rw [T_fcG f hd fun q hq => (hb3 q hq).2.2.1, T_cons, T_cons]
  simp [T]
def r49 (b t : Int) : Rt := .call a49 (b - 1) t
theorem told49 {p q : Pile} (hp : Q49 p) (hq : Q49 q) {b : Int} (hb : 2 ≤ b) (hb2 : b ≤ 300) (h : L p b < L q b) (h0 : 0 ≤ L p b) (h1 : L q b ≤ 200) :
    holdsB (putT q (co49 b (L q b))) (r49 b (L q b)) = true ∧ holdsB (putT p (co49 b (L q b))) (r49 b (L q b)) = false := by
  obtain ⟨c1, c2, c3, c4⟩ := co49_facts (t := L q b) hb hb2 (by omega) h1
  obtain ⟨_, t1, t2, t3, t4⟩ := putT_ok hq.g c1 (by have := hq.l; omega) (fun x hx => by have := hq.m x hx; omega) c2
  obtain ⟨_, u1, u2, u3, u4⟩ := putT_ok hp.g c1 (by have := hp.l; omega) (fun x hx => by have := hp.m x hx; omega) c2
  have Lc : ∀ x : Int, L (co49 b (L q b)) x = (if 1 < x then 1 else 0) * (L q b * (b - 2)) + (if b < x then b else 0) := fun x => by rw [L_T, c4]
  have Sc : S (co49 b (L q b)) = L q b * (b - 2) + b := by rw [S_T, c4]; omega
  have tp : ∀ x : Int, topR (some x) (r49 b (L q b)) = L q b * min (b - 1) (x - 1) := fun x => by simp [r49, topR, cutI]
  have tn : topR none (r49 b (L q b)) = L q b * (b - 1) := by simp [r49, topR, cutI]
  have en : L q b * (b - 1) = L q b * (b - 2) + L q b := by rw [show b - 1 = (b - 2) + 1 by omega, Int.mul_add, Int.mul_one]
  have Lmono : ∀ x, b ≤ x → L q b ≤ L q x := fun x hx => L_mono49 hq.g hx
  have Ls : ∀ x, L q x ≤ S q := fun x => L_S49 hq.g x
  have Lnn : ∀ x, 0 ≤ L q x := fun x => L_nn49 hq.g x
  refine ⟨holdsB_iff.mpr ⟨fun x hx h1x => ?_, ?_⟩, ?_⟩
  · rw [tp, t3, Lc, if_pos h1x]
    by_cases c : b < x.1
    · rw [if_pos c, show min (b - 1) (x.1 - 1) = b - 1 by omega, en]
      have := Lmono x.1 (by omega)
      omega
    · rw [if_neg c, show min (b - 1) (x.1 - 1) = x.1 - 1 by omega]
      by_cases e : x.1 = b
      · rw [e, en]; omega
      · have := Int.mul_le_mul_of_nonneg_left (show x.1 - 1 ≤ b - 2 by omega) (show 0 ≤ L q b by omega)
        have := Lnn x.1
        omega
  · rw [tn, t4, Sc, en]
    have := Ls b
    omega
  · cases e : holdsB (putT p (co49 b (L q b))) (r49 b (L q b)) with
    | false => rfl
    | true =>
      have hh := (holdsB_iff.mp e).1
      have hcnt : 0 < cnt (putT p (co49 b (L q b))) b := by
        have s1 := L_succ u1.up b
        have s2 := L_succ hp.g.up b
        rw [u3, u3, Lc, Lc, if_pos (by omega), if_pos (by omega), if_pos (by omega), if_neg (by omega), s2] at s1
        have n1 : 0 ≤ cnt p b := cnt_nnO (fun x hx => by have := hp.g.m1 x hx; omega) b
        have n2 := Int.mul_nonneg (show 0 ≤ b by omega) n1
        rcases Int.lt_or_le 0 (cnt (putT p (co49 b (L q b))) b) with z | z
        · exact z
        · have := Int.mul_le_mul_of_nonneg_left z (show 0 ≤ b by omega)
          omega
      obtain ⟨x, hx, ex⟩ := has_iff.mp (cnt_pos_has hcnt)
      have := hh x hx (by omega)
      rw [ex, tp, u3, Lc, if_pos (by omega), if_neg (by omega), show min (b - 1) (b - 1) = b - 1 by omega, en] at this
      omega
end Lw
namespace Lw
open PySem L2 Bt
theorem a49_ok : nameS a49 = true ∧ PyData.strOk a49 = true := ⟨by decide +kernel, by decide +kernel⟩
theorem gd49 {b t : Int} (hb : 2 ≤ b) (hb2 : b ≤ 300) (h0 : 1 ≤ t) (h1 : t ≤ 200) : GdR (r49 b t) := by
  have : (1000 : Int) ≤ 10 ^ 100 := by decide
  unfold r49
  refine ⟨by simp only [wfR]; exact ⟨a49_ok.1, a49_ok.2, by omega, h0⟩, by simp [dep], by simp [callsR], by simp [namesR, callsR], fun q hq => ?_, by simp [callsR, totC]; omega⟩
  simp only [callsR, List.mem_singleton] at hq
  subst hq
  exact ⟨by dsimp only; omega, by dsimp only; omega⟩
theorem small_of49 {p : Pile} (h : Gd p) (hs : S p ≤ 200) : s_look_at_small [.dat (enc p)] = .ok (.dat .none) [.dat (enc p)] := by simp! [s_look_at_small, m_look_at_small, sum_of_ok h, show ¬ 200 < S p by omega]
theorem tc_core49 {p q : Pile} (hp : Q49 p) (hq : Q49 q) {b t : Int} {os : List Int} (e : odl p q = b :: os) (et : L q b = t) (hb : 2 ≤ b) (hb2 : b ≤ 300) (h0 : 0 ≤ t) (h1 : t ≤ 200) :
    s_k49_telling_company [.dat (enc p), .dat (enc q)] = .ok (.dat (.tuple [enc (co49 b t), encR (r49 b t)])) [.dat (enc p), .dat (enc q)] := by
  have p0 : 0 ≤ t * (b - 2) := Int.mul_nonneg h0 (by omega)
  have p1 : t * (b - 2) ≤ 200 * 300 := Int.mul_le_mul h1 (by omega) (by omega) (by omega)
  have f1 := look_pile hp.g
  have f2 := look_pile hq.g
  have f3 := small_of49 hp.g hp.s
  have f4 := small_of49 hq.g hq.s
  have f5 := outdone_ok hp.g hq.g (by have := hp.l; have := hq.l; omega)
  have f6 := less_of_ok hq.g b
  rw [et] at f6
  rw [e] at f5
  have lp : ¬ (os.length : Int) + 1 = 0 := by omega
  have en : t * (b - 1) = t * (b - 2) + t := by rw [show b - 1 = (b - 2) + 1 by omega, Int.mul_add, Int.mul_one]
  have z1 : (0 - t - t * (b - 2)) % (b - 1) = 0 := by
    rw [show 0 - t - t * (b - 2) = (-t) * (b - 1) by rw [Int.neg_mul, en]; omega]
    exact Int.mul_emod_left _ _
  have z2 : (-t - t * (b - 2)) % (b - 1) = 0 := by rw [← z1]; congr 1; omega
  have z3 : (t + t * (b - 2)) / (b - 1) = t := by
    rw [show t + t * (b - 2) = t * (b - 1) by omega]
    exact Int.mul_ediv_cancel _ (by omega)
  have hd : Dk [(1, t * (b - 2)), (b, 1)] := by
    refine List.pairwise_cons.mpr ⟨fun x hx => ?_, List.pairwise_singleton _ _⟩
    rw [List.mem_singleton.mp hx]
    show (1 : Int) ≠ b
    omega
  have ef := from_counts_ok [(1, t * (b - 2)), (b, 1)] (by simp)
  have ed : ([(1, t * (b - 2)), (b, 1)] : Pile).map kv = mergeD [] [(.inl 1, .int (t * (b - 2))), (.inl b, .int 1)] := by
    have := merge_kv [(1, t * (b - 2)), (b, 1)] [] hd
    simp at this
    exact this.symm
  rw [ed] at ef
  have ob : okI b = true := okS (by omega) (by omega)
  have o1 : okI t = true := okS (by omega) (by omega)
  have o2 : okI (b - 2) = true := okS (by omega) (by omega)
  have o3 : okI (b - 1) = true := okS (by omega) (by omega)
  have o4 : okI (t + t * (b - 2)) = true := okS (by omega) (by omega)
  have o5 : okI (0 - t - t * (b - 2)) = true := okS (by omega) (by omega)
  have o6 : okI (-t - t * (b - 2)) = true := okS (by omega) (by omega)
  have b1 : 0 < b - 1 := by omega
  have b2 : 1 < b := by omega
  have l2 : 2 ≤ LIM := by decide
  have l4 : 4 ≤ LIM := by decide
  have er : encR (r49 b t) = .tuple [.str wCall, .str a49, .int (b - 1), .int t] := by unfold r49; rw [encR]
  rw [er]
  have ew : wCall = Str.ofString "call" := rfl
  have ea : a49 = Str.ofString "a" := rfl
  rw [ew, ea]
  simp only [List.map_cons] at f5
  change _ = Res.ok (Sl.dat (.tuple [enc (fcG [(1, t * (b - 2)), (b, 1)]), _])) _
  generalize enc (fcG [(1, t * (b - 2)), (b, 1)]) = Z at *
  generalize enc p = P at *
  generalize enc q = Q at *
  simp! [s_k49_telling_company, m_k49_telling_company, s_look_at_two, m_look_at_two, gN, Bt.a_mPairC, Bt.a_mDisp, Bt.a_mNewO, Bt.a_mCallNO, Bt.a_mCallN, Bt.keyOf, f1, f2, f3, f4, f5, f6, eqD_int, at0, lp, ob, o1, o2, o3, o4, o5, o6, b1, b2, z1, z2, z3, l2, l4, ef]
theorem tc_none49 {p q : Pile} (hp : Q49 p) (hq : Q49 q) (e : odl p q = []) : s_k49_telling_company [.dat (enc p), .dat (enc q)] = .ok (.dat .none) [.dat (enc p), .dat (enc q)] := by
  have f1 := look_pile hp.g
  have f2 := look_pile hq.g
  have f3 := small_of49 hp.g hp.s
  have f4 := small_of49 hq.g hq.s
  have f5 := outdone_ok hp.g hq.g (by have := hp.l; have := hq.l; omega)
  rw [e] at f5
  simp only [List.map_nil] at f5
  generalize enc p = P at *
  generalize enc q = Q at *
  simp! [s_k49_telling_company, m_k49_telling_company, s_look_at_two, m_look_at_two, gN, f1, f2, f3, f4, f5, eqD_int]
theorem good49 {p q : Pile} (hp : Q49 p) (hq : Q49 q) : s_k49__law_good [.dat (enc p), .dat (enc q)] = .ok (.dat (.bool true)) [.dat (enc p), .dat (enc q)] := by
  have hl : p.length + q.length ≤ 60 := by have := hp.l; have := hq.l; omega
  have e1 := due49 hp.g hq.g (by omega)
  have e2 := outdoes_ok hp.g hq.g (by omega)
  cases e : odl p q with
  | nil =>
    have e3 := tc_none49 hp hq e
    rw [e] at e1 e2
    simp only [List.isEmpty_nil] at e1 e2
    have nb : neD (.bool true) (.bool true) = some (.bool false) := rfl
    generalize enc p = P at *
    generalize enc q = Q at *
    simp! [s_k49__law_good, m_k49__law_good, gN, e1, e2, e3, nb]
  | cons b os =>
    have hb : b ∈ odl p q := by rw [e]; exact List.mem_cons_self
    unfold odl at hb
    obtain ⟨b1, b2⟩ := List.mem_filter.mp hb
    have b2 := of_decide_eq_true b2
    obtain ⟨x, hx, rfl⟩ := obs_mem.mp b1
    have hx2 : 1 ≤ x.1 ∧ x.1 ≤ 200 := by
      rcases List.mem_append.mp hx with hx | hx
      · exact ⟨hp.g.w1 x hx, (hp.m x hx).1⟩
      · exact ⟨hq.g.w1 x hx, (hq.m x hx).1⟩
    have n1 := L_nn49 hp.g (x.1 + 1)
    have n2 := L_S49 hq.g (x.1 + 1)
    have n3 := hq.s
    obtain ⟨h1, h2⟩ := told49 hp hq (b := x.1 + 1) (by omega) (by omega) b2 n1 (by omega)
    have e3 := tc_core49 hp hq e rfl (by omega) (by omega) (by omega) (by omega)
    have hc1 : 2 ≤ x.1 + 1 := by omega
    have hc2 : x.1 + 1 ≤ 300 := by omega
    have ht1 : 1 ≤ L q (x.1 + 1) := by omega
    have ht2 : L q (x.1 + 1) ≤ 200 := by omega
    generalize L q (x.1 + 1) = t at *
    generalize x.1 + 1 = c at *
    rw [e] at e1 e2
    simp only [List.isEmpty_cons] at e1 e2
    obtain ⟨c1, c2, c3, c4⟩ := co49_facts (b := c) (t := t) (by omega) (by omega) (by omega) (by omega)
    have gr := gd49 (b := c) (t := t) (by omega) (by omega) (by omega) (by omega)
    obtain ⟨_, t1, _⟩ := putT_ok hq.g c1 (by have := hq.l; omega) (fun x hx => by have := hq.m x hx; omega) c2
    obtain ⟨_, u1, _⟩ := putT_ok hp.g c1 (by have := hp.l; omega) (fun x hx => by have := hp.m x hx; omega) c2
    have e4 := tog49 hq.g c1 (by have := hq.l; omega) (fun x hx => by have := hq.m x hx; omega) c2
    have e5 := tog49 hp.g c1 (by have := hp.l; omega) (fun x hx => by have := hp.m x hx; omega) c2
    have e6 := holds_ok t1 gr
    have e7 := holds_ok u1 gr
    rw [h1] at e6
    rw [h2] at e7
    have e8 := law_pile49 c1
    have e9 := law_is_right gr
    have nb : neD (.bool false) (.bool false) = some (.bool false) := rfl
    have l2 : 2 ≤ LIM := by decide
    generalize enc (putT q (co49 c t)) = QC at *
    generalize enc (putT p (co49 c t)) = PC at *
    generalize enc (co49 c t) = C at *
    generalize encR (r49 c t) = R at *
    generalize enc p = P at *
    generalize enc q = Q at *
    simp! [s_k49__law_good, m_k49__law_good, gN, e1, e2, e3, e4, e5, e6, e7, e8, e9, nb, at0, at1, neD_int, l2]
abbrev W49 (ns : List Int) (t : D) (o k a b g : Sl) : En := [.scr ns, .dat t, .un, o, k, a, b, g]
theorem ne_self49 (a : Bool) : neD (.bool a) (.bool a) = some (.bool false) := by cases a <;> rfl
theorem great49 {x y : Int} (h1 : 1 ≤ x) (h2 : x ≤ 10 ^ 11) (h3 : 1 ≤ y) (h4 : y ≤ 200) : Gd [(x, y)] := by
  refine ⟨?_, ?_, ?_, ?_, ?_, by simp⟩ <;> simp <;> omega
theorem mk49 {k : Nat} {b : Int} {p : Pile} (h : Pc k b p) (hk : k ≤ 30) (hs : S p ≤ 200) : Q49 p := ⟨h.gd, Nat.le_trans (len_coins h.gd.m1) (Nat.le_trans h.len hk), hs⟩
theorem pcS49 {k : Nat} {b : Int} {p : Pile} (h : Pc k b p) (hb : 0 ≤ b) : S p ≤ k * b := by
  rw [← coins_S h.gd.m1]
  have hc := h.cn
  have hl := h.len
  generalize coinsOf p = ns at *
  have : ∀ ns : List Int, (∀ c ∈ ns, 1 ≤ c ∧ c ≤ b) → ns.sum ≤ ns.length * b := by
    intro ns
    induction ns with
    | nil => intro _; simp
    | cons a ns ih =>
      intro h
      have h1 := h a List.mem_cons_self
      have h2 := ih fun c hc => h c (List.mem_cons_of_mem _ hc)
      rw [List.sum_cons, List.length_cons, show ((ns.length + 1 : Nat) : Int) = (ns.length : Int) + 1 by omega, Int.add_mul, Int.one_mul]
      omega
  have h1 := this ns hc
  have h2 := Int.mul_le_mul_of_nonneg_right (show (ns.length : Int) ≤ k by omega) hb
  omega
theorem turn49 (ns : List Int) (t k : D) (N : Int) : ∃ (N' : Int) (a b g : Sl), lp_k49_law_1 (W49 ns t ((.ow (.l [.int N]))) (.dat k) .un .un .un) = .ok .nx (W49 ns t ((.ow (.l [.int N']))) (.dat k) a b g) := by
  obtain ⟨N1, p, e1, hp⟩ := pile_pc49 N 12 (by omega) (by omega)
  have sp := pcS49 hp (by omega)
  obtain ⟨N2, q, e2, hq, sq⟩ := changed49 N1 (s := 180) hp (by omega) (by omega) (by omega) (by omega)
  have t3 := take_ok N2 3 (by omega) (okS (by omega) (by omega))
  obtain ⟨N4, q2, e4, hq2⟩ := pile_pc49 (N2 / 3) 12 (by omega) (by omega)
  have sq2 := pcS49 hq2 (by omega)
  have P := mk49 hp (by omega) (by omega)
  have fin : ∀ (N5 : Int) (q' : Pile), Q49 q' → ∃ (N' : Int) (g : Sl), (mSeq (mIfS (mOr (mNot (bnd (mCall s_k49__law_good [] (mCons (mR 5) (mCons (mR 6) (Bt.ret [])))) asB)) (mOr (mNot (bnd (mCall s_k49__law_good [] (mCons (mR 6) (mCons (mR 5) (Bt.ret [])))) asB)) (mNot (bnd (mCall s_k49__law_good [] (mCons (mR 5) (mCons (mR 5) (Bt.ret [])))) asB)))) (mSeq (mRet (Bt.ret (.bool false))) mNil) mNil) (mSeq (mSet (gN 7) (mTup (mConsD (mTup (mConsD (mOp addD (mD (Bt.ret (.int 1))) (mD (mCall s__law_take [] (mCons (mR 3) (mCons (mD (mOp powD (mD (Bt.ret (.int 10))) (mD (Bt.ret (.int 11))))) (Bt.ret [])))))) (mConsD (mOp addD (mD (Bt.ret (.int 1))) (mD (mCall s__law_take [] (mCons (mR 3) (mCons (mD (Bt.ret (.int 9))) (Bt.ret [])))))) (Bt.ret [])))) (Bt.ret [])))) (mSeq (mIfS (mOr (bnd (mOp neD (mD (mCall s_outdoes [] (mCons (mR 7) (mCons (mR 5) (Bt.ret []))))) (mD (mCall s_k49__law_due [] (mCons (mR 7) (mCons (mR 5) (Bt.ret [])))))) asB) (bnd (mOp neD (mD (mCall s_outdoes [] (mCons (mR 5) (mCons (mR 7) (Bt.ret []))))) (mD (mCall s_k49__law_due [] (mCons (mR 5) (mCons (mR 7) (Bt.ret [])))))) asB)) (mSeq (mRet (Bt.ret (.bool false))) mNil) mNil) mNil))) (W49 ns t ((.ow (.l [.int N5]))) (.dat k) (.dat (enc p)) (.dat (enc q')) .un) = .ok .nx (W49 ns t ((.ow (.l [.int N']))) (.dat k) (.dat (enc p)) (.dat (enc q')) g) := by
    intro N5 q' hq'
    have g1 := good49 P hq'
    have g2 := good49 hq' P
    have g3 := good49 P P
    have ta := take_ok N5 100000000000 (by omega) (okS (by omega) (by omega))
    have tb := take_ok (N5 / 100000000000) 9 (by omega) (okS (by omega) (by omega))
    have a1 : 0 ≤ N5 % 100000000000 := Int.emod_nonneg _ (by omega)
    have a2 : N5 % 100000000000 < 100000000000 := Int.emod_lt_of_pos _ (by omega)
    have b1 : 0 ≤ N5 / 100000000000 % 9 := Int.emod_nonneg _ (by omega)
    have b2 : N5 / 100000000000 % 9 < 9 := Int.emod_lt_of_pos _ (by omega)
    have G := great49 (x := 1 + N5 % 100000000000) (y := 1 + N5 / 100000000000 % 9) (by omega) (by omega) (by omega) (by omega)
    have hl := P.l
    have c1 := outdoes_ok G P.g (by simp; omega)
    have c2 := outdoes_ok P.g G (by simp; omega)
    have c3 := due49 G P.g (by simp; omega)
    have c4 := due49 P.g G (by simp; omega)
    have n1 := ne_self49 (odl [(1 + N5 % 100000000000, 1 + N5 / 100000000000 % 9)] p).isEmpty
    have n2 := ne_self49 (odl p [(1 + N5 % 100000000000, 1 + N5 / 100000000000 % 9)]).isEmpty
    generalize (odl [(1 + N5 % 100000000000, 1 + N5 / 100000000000 % 9)] p).isEmpty = z1 at *
    generalize (odl p [(1 + N5 % 100000000000, 1 + N5 / 100000000000 % 9)]).isEmpty = z2 at *
    have eg : enc [(1 + N5 % 100000000000, 1 + N5 / 100000000000 % 9)] = .tuple [.tuple [.int (1 + N5 % 100000000000), .int (1 + N5 / 100000000000 % 9)]] := rfl
    rw [eg] at c1 c2 c3 c4
    have l1 : 1 ≤ LIM := by decide
    have l2 : 2 ≤ LIM := by decide
    refine ⟨N5 / 100000000000 / 9, .dat (.tuple [.tuple [.int (1 + N5 % 100000000000), .int (1 + N5 / 100000000000 % 9)]]), ?_⟩
    generalize enc p = P at *
    generalize enc q' = Q at *
    simp! [gN, W49, g1, g2, g3, ta, tb, c1, c2, c3, c4, n1, n2, l1, l2]
  by_cases c : N2 % 3 = 0
  · obtain ⟨N', g, e⟩ := fin N4 q2 (mk49 hq2 (by omega) (by omega))
    refine ⟨N', .dat (enc p), .dat (enc q2), g, ?_⟩
    unfold lp_k49_law_1
    generalize (mSeq (mIfS (mOr (mNot (bnd (mCall s_k49__law_good _ _) asB)) _) _ _) _ : M Fl) = REST at *
    simp only [W49] at e ⊢
    generalize enc p = P at *
    generalize enc q = Q at *
    generalize enc q2 = Q2 at *
    simp! [gN, e1, e2, t3, c, eqD_int, e4, e]
  · obtain ⟨N', g, e⟩ := fin (N2 / 3) q (mk49 hq (by omega) (by omega))
    refine ⟨N', .dat (enc p), .dat (enc q), g, ?_⟩
    unfold lp_k49_law_1
    generalize (mSeq (mIfS (mOr (mNot (bnd (mCall s_k49__law_good _ _) asB)) _) _ _) _ : M Fl) = REST at *
    simp only [W49] at e ⊢
    generalize enc p = P at *
    generalize enc q = Q at *
    simp! [gN, e1, e2, t3, c, eqD_int, e]
theorem turns49 (ns : List Int) (t : D) (M : Int) : ∃ M', fr_k49_law_1 (W49 ns t ((.ow (.l [.int M]))) .un .un .un .un) = .ok .nx (W49 ns t ((.ow (.l [.int M']))) .un .un .un .un) := by
  obtain ⟨E', ⟨M', rfl⟩, hf⟩ := for_inv (ws := [4, 5, 6, 7]) (mi := mRng1 (mCons (mD (Bt.ret (.int 3))) (Bt.ret []))) (g := gN 4) (mb := lp_k49_law_1) (E0 := W49 ns t ((.ow (.l [.int M]))) .un .un .un .un) (fun ds E => ∃ M', E = W49 ns t ((.ow (.l [.int M']))) .un .un .un .un) (its := rangeD 0 3) (E := W49 ns t ((.ow (.l [.int M]))) .un .un .un .un) (by simp! [rg_ok]) ⟨M, rfl⟩ (fun d ds E hI => by
    obtain ⟨M, rfl⟩ := hI
    obtain ⟨M', a, b, g, e⟩ := turn49 ns t d M
    exact ⟨_, _, rfl, .inl e, M', rfl⟩)
  exact ⟨M', hf⟩
theorem ptA49 : Gd [(1, 1), (2, 1), (4, 1)] ∧ Gd [(1, 1), (2, 3)] := ⟨by refine ⟨?_, ?_, ?_, ?_, ?_, by simp⟩ <;> simp, by refine ⟨?_, ?_, ?_, ?_, ?_, by simp⟩ <;> simp⟩
theorem odA49 : (odl [(1, 1), (2, 1), (4, 1)] [(1, 1), (2, 3)]).isEmpty = false := by
  have : (3 : Int) ∈ odl [(1, 1), (2, 1), (4, 1)] [(1, 1), (2, 3)] := by
    unfold odl
    refine List.mem_filter.mpr ⟨obs_mem.mpr ⟨(2, 1), by simp, rfl⟩, by decide⟩
  cases e : odl [(1, 1), (2, 1), (4, 1)] [(1, 1), (2, 3)] with
  | nil => rw [e] at this; cases this
  | cons _ _ => rfl
theorem odB49 : (odl [(1, 1), (2, 3)] [(1, 1), (2, 1), (4, 1)]).isEmpty = true := by
  rw [List.isEmpty_iff]
  unfold odl
  rw [List.filter_eq_nil_iff]
  intro b hb
  obtain ⟨x, hx, rfl⟩ := obs_mem.mp hb
  simp only [List.cons_append, List.nil_append, List.mem_cons, List.not_mem_nil, or_false] at hx
  rcases hx with rfl | rfl | rfl | rfl | rfl <;> decide
theorem law_true (ns : List Int) (h : ns.length ≤ 63) : ∃ E2, s_k49_law [.scr ns] = .ok (.dat (.bool true)) E2 := by
  obtain ⟨E', ⟨rfl, _⟩, hf⟩ := for_inv (ws := [1, 3, 4, 5, 6, 7]) (mi := mRng1 (mCons (mD (mB maxF (mCons (mD (mB minF (mCons (mD (mLenScr 0)) (mCons (mD (Bt.ret (.int 6))) (Bt.ret []))))) (mCons (mD (Bt.ret (.int 1))) (Bt.ret []))))) (Bt.ret []))) (g := gN 1) (mb := lp_k49_law_2) (E0 := [.scr ns, .un, .un, .un, .un, .un, .un, .un]) (fun ds E => E = [.scr ns, .un, .un, .un, .un, .un, .un, .un] ∧ ∀ d ∈ ds, ∃ i : Int, d = .int i ∧ 0 ≤ i ∧ i ≤ 100) (its := rangeD 0 (max (min (ns.length : Int) 6) 1)) (E := [.scr ns, .un, .un, .un, .un, .un, .un, .un]) (by simp! [rg_ok (show -1000000 ≤ max (min (ns.length : Int) 6) 1 by omega) (show max (min (ns.length : Int) 6) 1 ≤ 1000000 by omega)]) ⟨rfl, fun d hd => by
    obtain ⟨i, rfl, h1, h2⟩ := rangeD_mem hd
    exact ⟨i, rfl, h1, by omega⟩⟩ (fun d ds E h => by
    obtain ⟨rfl, hd⟩ := h
    obtain ⟨i, rfl, i0, i1⟩ := hd d List.mem_cons_self
    obtain ⟨n, hn⟩ := cell_ok ns i i0 i1
    obtain ⟨M, e⟩ := turns49 ns (.int i) n
    have l1 : 1 ≤ LIM := by decide
    simp only [W49] at e
    exact ⟨_, [.scr ns, .dat (.int i), .un, (.ow (.l [.int M])), .un, .un, .un, .un], rfl, .inl (by simp! [lp_k49_law_2, gN, hn, e, l1]), by simp [wipeE], fun d h' => hd d (List.mem_cons_of_mem _ h')⟩)
  have e : fr_k49_law_2 _ = _ := hf
  have q1 : Q49 [(2, 100)] := ⟨great49 (by omega) (by omega) (by omega) (by omega), by simp, by simp [S]⟩
  have q2 : Q49 [(1, 200)] := ⟨great49 (by omega) (by omega) (by omega) (by omega), by simp, by simp [S]⟩
  have q3 : Q49 [(200, 1)] := ⟨great49 (by omega) (by omega) (by omega) (by omega), by simp, by simp [S]⟩
  have g1 := good49 q1 q2
  have g2 := good49 q2 q3
  have o1 := outdoes_ok ptA49.1 ptA49.2 (by simp)
  have o2 := outdoes_ok ptA49.2 ptA49.1 (by simp)
  rw [odA49] at o1
  rw [odB49] at o2
  simp only [enc, encL, List.map_cons, List.map_nil] at g1 g2 o1 o2
  have l1 : 1 ≤ LIM := by decide
  have l2 : 2 ≤ LIM := by decide
  have l3 : 3 ≤ LIM := by decide
  exact ⟨[.scr ns], by simp! [s_k49_law, m_k49_law, gN, e, g1, g2, o1, o2, l1, l2, l3, at0, at1]⟩
end Lw
namespace Lw
open PySem L2 Bt
def spL (K : PySem.W.Frag) : Sp := fun vs H Q _ => ∃ (a : Addr) (ns : List Int), vs = [.ref a] ∧ SqL K H a (ns.map V.int) ∧ ns.length ≤ 63 ∧ ∀ H', Q (.bl true) H'
theorem all_mk {l : PySem.W.OpenLaw} {w : World} {K : PySem.W.Frag} {h : Heap} {mg : Str → Option Value} {fa : Addr} (X : K.In h) (G : h.Ns mainGlobals mg) (hfa : mg "law" = some (.ref fa))
    {f0 : Addr} {od0 an0 : Option Addr} {sl0 : Array (Option Value)} {oc0 kV0 dc0 pm0 cd0 ct0 : Value} (a0 : PySem.W.nsIn K mainGlobals "is_from" = some (some (.ref f0))) (l0 : K.lookup f0 = some ⟨oc0, od0, .func (PySem.W.fnOf "is_from" "is_from" (defArgs t_is_from) (defBody t_is_from) (defScope t_is_from) .none kV0 dc0 pm0 an0 cd0 ct0), sl0⟩) (c0 : PySem.W.codeIn K cd0 "is_from" = true) (k0 : PySem.W.keepIn K (.ref f0) = true)
    {f1 : Addr} {od1 an1 : Option Addr} {sl1 : Array (Option Value)} {oc1 kV1 dc1 pm1 cd1 ct1 : Value} (a1 : PySem.W.nsIn K mainGlobals "is_lot" = some (some (.ref f1))) (l1 : K.lookup f1 = some ⟨oc1, od1, .func (PySem.W.fnOf "is_lot" "is_lot" (defArgs t_is_lot) (defBody t_is_lot) (defScope t_is_lot) .none kV1 dc1 pm1 an1 cd1 ct1), sl1⟩) (c1 : PySem.W.codeIn K cd1 "is_lot" = true) (k1 : PySem.W.keepIn K (.ref f1) = true)
    {f2 : Addr} {od2 an2 : Option Addr} {sl2 : Array (Option Value)} {oc2 kV2 dc2 pm2 cd2 ct2 : Value} (a2 : PySem.W.nsIn K mainGlobals "is_pile" = some (some (.ref f2))) (l2 : K.lookup f2 = some ⟨oc2, od2, .func (PySem.W.fnOf "is_pile" "is_pile" (defArgs t_is_pile) (defBody t_is_pile) (defScope t_is_pile) .none kV2 dc2 pm2 an2 cd2 ct2), sl2⟩) (c2 : PySem.W.codeIn K cd2 "is_pile" = true) (k2 : PySem.W.keepIn K (.ref f2) = true)
    {f3 : Addr} {od3 an3 : Option Addr} {sl3 : Array (Option Value)} {oc3 kV3 dc3 pm3 cd3 ct3 : Value} (a3 : PySem.W.nsIn K mainGlobals "look_at_pile" = some (some (.ref f3))) (l3 : K.lookup f3 = some ⟨oc3, od3, .func (PySem.W.fnOf "look_at_pile" "look_at_pile" (defArgs t_look_at_pile) (defBody t_look_at_pile) (defScope t_look_at_pile) .none kV3 dc3 pm3 an3 cd3 ct3), sl3⟩) (c3 : PySem.W.codeIn K cd3 "look_at_pile" = true) (k3 : PySem.W.keepIn K (.ref f3) = true)
    {f4 : Addr} {od4 an4 : Option Addr} {sl4 : Array (Option Value)} {oc4 kV4 dc4 pm4 cd4 ct4 : Value} (a4 : PySem.W.nsIn K mainGlobals "sum_of" = some (some (.ref f4))) (l4 : K.lookup f4 = some ⟨oc4, od4, .func (PySem.W.fnOf "sum_of" "sum_of" (defArgs t_sum_of) (defBody t_sum_of) (defScope t_sum_of) .none kV4 dc4 pm4 an4 cd4 ct4), sl4⟩) (c4 : PySem.W.codeIn K cd4 "sum_of" = true) (k4 : PySem.W.keepIn K (.ref f4) = true)
    {f5 : Addr} {od5 an5 : Option Addr} {sl5 : Array (Option Value)} {oc5 kV5 dc5 pm5 cd5 ct5 : Value} (a5 : PySem.W.nsIn K mainGlobals "less_of" = some (some (.ref f5))) (l5 : K.lookup f5 = some ⟨oc5, od5, .func (PySem.W.fnOf "less_of" "less_of" (defArgs t_less_of) (defBody t_less_of) (defScope t_less_of) .none kV5 dc5 pm5 an5 cd5 ct5), sl5⟩) (c5 : PySem.W.codeIn K cd5 "less_of" = true) (k5 : PySem.W.keepIn K (.ref f5) = true)
    {f6 : Addr} {od6 an6 : Option Addr} {sl6 : Array (Option Value)} {oc6 kV6 dc6 pm6 cd6 ct6 : Value} (a6 : PySem.W.nsIn K mainGlobals "look_at_small" = some (some (.ref f6))) (l6 : K.lookup f6 = some ⟨oc6, od6, .func (PySem.W.fnOf "look_at_small" "look_at_small" (defArgs t_look_at_small) (defBody t_look_at_small) (defScope t_look_at_small) .none kV6 dc6 pm6 an6 cd6 ct6), sl6⟩) (c6 : PySem.W.codeIn K cd6 "look_at_small" = true) (k6 : PySem.W.keepIn K (.ref f6) = true)
    {f7 : Addr} {od7 an7 : Option Addr} {sl7 : Array (Option Value)} {oc7 kV7 dc7 pm7 cd7 ct7 : Value} (a7 : PySem.W.nsIn K mainGlobals "from_counts" = some (some (.ref f7))) (l7 : K.lookup f7 = some ⟨oc7, od7, .func (PySem.W.fnOf "from_counts" "from_counts" (defArgs t_from_counts) (defBody t_from_counts) (defScope t_from_counts) .none kV7 dc7 pm7 an7 cd7 ct7), sl7⟩) (c7 : PySem.W.codeIn K cd7 "from_counts" = true) (k7 : PySem.W.keepIn K (.ref f7) = true)
    {f8 : Addr} {od8 an8 : Option Addr} {sl8 : Array (Option Value)} {oc8 kV8 dc8 pm8 cd8 ct8 : Value} (a8 : PySem.W.nsIn K mainGlobals "look_at_two" = some (some (.ref f8))) (l8 : K.lookup f8 = some ⟨oc8, od8, .func (PySem.W.fnOf "look_at_two" "look_at_two" (defArgs t_look_at_two) (defBody t_look_at_two) (defScope t_look_at_two) .none kV8 dc8 pm8 an8 cd8 ct8), sl8⟩) (c8 : PySem.W.codeIn K cd8 "look_at_two" = true) (k8 : PySem.W.keepIn K (.ref f8) = true)
    {f9 : Addr} {od9 an9 : Option Addr} {sl9 : Array (Option Value)} {oc9 kV9 dc9 pm9 cd9 ct9 : Value} (a9 : PySem.W.nsIn K mainGlobals "outdone_at" = some (some (.ref f9))) (l9 : K.lookup f9 = some ⟨oc9, od9, .func (PySem.W.fnOf "outdone_at" "outdone_at" (defArgs t_outdone_at) (defBody t_outdone_at) (defScope t_outdone_at) .none kV9 dc9 pm9 an9 cd9 ct9), sl9⟩) (c9 : PySem.W.codeIn K cd9 "outdone_at" = true) (k9 : PySem.W.keepIn K (.ref f9) = true)
    {f10 : Addr} {od10 an10 : Option Addr} {sl10 : Array (Option Value)} {oc10 kV10 dc10 pm10 cd10 ct10 : Value} (a10 : PySem.W.nsIn K mainGlobals "outdoes" = some (some (.ref f10))) (l10 : K.lookup f10 = some ⟨oc10, od10, .func (PySem.W.fnOf "outdoes" "outdoes" (defArgs t_outdoes) (defBody t_outdoes) (defScope t_outdoes) .none kV10 dc10 pm10 an10 cd10 ct10), sl10⟩) (c10 : PySem.W.codeIn K cd10 "outdoes" = true) (k10 : PySem.W.keepIn K (.ref f10) = true)
    {f11 : Addr} {od11 an11 : Option Addr} {sl11 : Array (Option Value)} {oc11 kV11 dc11 pm11 cd11 ct11 : Value} (a11 : PySem.W.nsIn K mainGlobals "telling_company" = some (some (.ref f11))) (l11 : K.lookup f11 = some ⟨oc11, od11, .func (PySem.W.fnOf "telling_company" "telling_company" (defArgs t_telling_company) (defBody t_telling_company) (defScope t_telling_company) .none kV11 dc11 pm11 an11 cd11 ct11), sl11⟩) (c11 : PySem.W.codeIn K cd11 "telling_company" = true) (k11 : PySem.W.keepIn K (.ref f11) = true)
    {f12 : Addr} {od12 an12 : Option Addr} {sl12 : Array (Option Value)} {oc12 kV12 dc12 pm12 cd12 ct12 : Value} (a12 : PySem.W.nsIn K mainGlobals "_law_mixed" = some (some (.ref f12))) (l12 : K.lookup f12 = some ⟨oc12, od12, .func (PySem.W.fnOf "_law_mixed" "_law_mixed" (defArgs t__law_mixed) (defBody t__law_mixed) (defScope t__law_mixed) .none kV12 dc12 pm12 an12 cd12 ct12), sl12⟩) (c12 : PySem.W.codeIn K cd12 "_law_mixed" = true) (k12 : PySem.W.keepIn K (.ref f12) = true)
    {f13 : Addr} {od13 an13 : Option Addr} {sl13 : Array (Option Value)} {oc13 kV13 dc13 pm13 cd13 ct13 : Value} (a13 : PySem.W.nsIn K mainGlobals "_law_cell" = some (some (.ref f13))) (l13 : K.lookup f13 = some ⟨oc13, od13, .func (PySem.W.fnOf "_law_cell" "_law_cell" (defArgs t__law_cell) (defBody t__law_cell) (defScope t__law_cell) .none kV13 dc13 pm13 an13 cd13 ct13), sl13⟩) (c13 : PySem.W.codeIn K cd13 "_law_cell" = true) (k13 : PySem.W.keepIn K (.ref f13) = true)
    {f14 : Addr} {od14 an14 : Option Addr} {sl14 : Array (Option Value)} {oc14 kV14 dc14 pm14 cd14 ct14 : Value} (a14 : PySem.W.nsIn K mainGlobals "_law_take" = some (some (.ref f14))) (l14 : K.lookup f14 = some ⟨oc14, od14, .func (PySem.W.fnOf "_law_take" "_law_take" (defArgs t__law_take) (defBody t__law_take) (defScope t__law_take) .none kV14 dc14 pm14 an14 cd14 ct14), sl14⟩) (c14 : PySem.W.codeIn K cd14 "_law_take" = true) (k14 : PySem.W.keepIn K (.ref f14) = true)
    {f15 : Addr} {od15 an15 : Option Addr} {sl15 : Array (Option Value)} {oc15 kV15 dc15 pm15 cd15 ct15 : Value} (a15 : PySem.W.nsIn K mainGlobals "_law_sum" = some (some (.ref f15))) (l15 : K.lookup f15 = some ⟨oc15, od15, .func (PySem.W.fnOf "_law_sum" "_law_sum" (defArgs t__law_sum) (defBody t__law_sum) (defScope t__law_sum) .none kV15 dc15 pm15 an15 cd15 ct15), sl15⟩) (c15 : PySem.W.codeIn K cd15 "_law_sum" = true) (k15 : PySem.W.keepIn K (.ref f15) = true)
    {f16 : Addr} {od16 an16 : Option Addr} {sl16 : Array (Option Value)} {oc16 kV16 dc16 pm16 cd16 ct16 : Value} (a16 : PySem.W.nsIn K mainGlobals "_law_under" = some (some (.ref f16))) (l16 : K.lookup f16 = some ⟨oc16, od16, .func (PySem.W.fnOf "_law_under" "_law_under" (defArgs t__law_under) (defBody t__law_under) (defScope t__law_under) .none kV16 dc16 pm16 an16 cd16 ct16), sl16⟩) (c16 : PySem.W.codeIn K cd16 "_law_under" = true) (k16 : PySem.W.keepIn K (.ref f16) = true)
    {f17 : Addr} {od17 an17 : Option Addr} {sl17 : Array (Option Value)} {oc17 kV17 dc17 pm17 cd17 ct17 : Value} (a17 : PySem.W.nsIn K mainGlobals "_law_heap" = some (some (.ref f17))) (l17 : K.lookup f17 = some ⟨oc17, od17, .func (PySem.W.fnOf "_law_heap" "_law_heap" (defArgs t__law_heap) (defBody t__law_heap) (defScope t__law_heap) .none kV17 dc17 pm17 an17 cd17 ct17), sl17⟩) (c17 : PySem.W.codeIn K cd17 "_law_heap" = true) (k17 : PySem.W.keepIn K (.ref f17) = true)
    {f18 : Addr} {od18 an18 : Option Addr} {sl18 : Array (Option Value)} {oc18 kV18 dc18 pm18 cd18 ct18 : Value} (a18 : PySem.W.nsIn K mainGlobals "_law_coins" = some (some (.ref f18))) (l18 : K.lookup f18 = some ⟨oc18, od18, .func (PySem.W.fnOf "_law_coins" "_law_coins" (defArgs t__law_coins) (defBody t__law_coins) (defScope t__law_coins) .none kV18 dc18 pm18 an18 cd18 ct18), sl18⟩) (c18 : PySem.W.codeIn K cd18 "_law_coins" = true) (k18 : PySem.W.keepIn K (.ref f18) = true)
    {f19 : Addr} {od19 an19 : Option Addr} {sl19 : Array (Option Value)} {oc19 kV19 dc19 pm19 cd19 ct19 : Value} (a19 : PySem.W.nsIn K mainGlobals "_law_length" = some (some (.ref f19))) (l19 : K.lookup f19 = some ⟨oc19, od19, .func (PySem.W.fnOf "_law_length" "_law_length" (defArgs t__law_length) (defBody t__law_length) (defScope t__law_length) .none kV19 dc19 pm19 an19 cd19 ct19), sl19⟩) (c19 : PySem.W.codeIn K cd19 "_law_length" = true) (k19 : PySem.W.keepIn K (.ref f19) = true)
    {f20 : Addr} {od20 an20 : Option Addr} {sl20 : Array (Option Value)} {oc20 kV20 dc20 pm20 cd20 ct20 : Value} (a20 : PySem.W.nsIn K mainGlobals "_law_row" = some (some (.ref f20))) (l20 : K.lookup f20 = some ⟨oc20, od20, .func (PySem.W.fnOf "_law_row" "_law_row" (defArgs t__law_row) (defBody t__law_row) (defScope t__law_row) .none kV20 dc20 pm20 an20 cd20 ct20), sl20⟩) (c20 : PySem.W.codeIn K cd20 "_law_row" = true) (k20 : PySem.W.keepIn K (.ref f20) = true)
    {f21 : Addr} {od21 an21 : Option Addr} {sl21 : Array (Option Value)} {oc21 kV21 dc21 pm21 cd21 ct21 : Value} (a21 : PySem.W.nsIn K mainGlobals "_law_top" = some (some (.ref f21))) (l21 : K.lookup f21 = some ⟨oc21, od21, .func (PySem.W.fnOf "_law_top" "_law_top" (defArgs t__law_top) (defBody t__law_top) (defScope t__law_top) .none kV21 dc21 pm21 an21 cd21 ct21), sl21⟩) (c21 : PySem.W.codeIn K cd21 "_law_top" = true) (k21 : PySem.W.keepIn K (.ref f21) = true)
    {f22 : Addr} {od22 an22 : Option Addr} {sl22 : Array (Option Value)} {oc22 kV22 dc22 pm22 cd22 ct22 : Value} (a22 : PySem.W.nsIn K mainGlobals "_law_holds" = some (some (.ref f22))) (l22 : K.lookup f22 = some ⟨oc22, od22, .func (PySem.W.fnOf "_law_holds" "_law_holds" (defArgs t__law_holds) (defBody t__law_holds) (defScope t__law_holds) .none kV22 dc22 pm22 an22 cd22 ct22), sl22⟩) (c22 : PySem.W.codeIn K cd22 "_law_holds" = true) (k22 : PySem.W.keepIn K (.ref f22) = true)
    {f23 : Addr} {od23 an23 : Option Addr} {sl23 : Array (Option Value)} {oc23 kV23 dc23 pm23 cd23 ct23 : Value} (a23 : PySem.W.nsIn K mainGlobals "_law_whole_from" = some (some (.ref f23))) (l23 : K.lookup f23 = some ⟨oc23, od23, .func (PySem.W.fnOf "_law_whole_from" "_law_whole_from" (defArgs t__law_whole_from) (defBody t__law_whole_from) (defScope t__law_whole_from) .none kV23 dc23 pm23 an23 cd23 ct23), sl23⟩) (c23 : PySem.W.codeIn K cd23 "_law_whole_from" = true) (k23 : PySem.W.keepIn K (.ref f23) = true)
    {f24 : Addr} {od24 an24 : Option Addr} {sl24 : Array (Option Value)} {oc24 kV24 dc24 pm24 cd24 ct24 : Value} (a24 : PySem.W.nsIn K mainGlobals "_law_names" = some (some (.ref f24))) (l24 : K.lookup f24 = some ⟨oc24, od24, .func (PySem.W.fnOf "_law_names" "_law_names" (defArgs t__law_names) (defBody t__law_names) (defScope t__law_names) .none kV24 dc24 pm24 an24 cd24 ct24), sl24⟩) (c24 : PySem.W.codeIn K cd24 "_law_names" = true) (k24 : PySem.W.keepIn K (.ref f24) = true)
    {f25 : Addr} {od25 an25 : Option Addr} {sl25 : Array (Option Value)} {oc25 kV25 dc25 pm25 cd25 ct25 : Value} (a25 : PySem.W.nsIn K mainGlobals "_law_tag" = some (some (.ref f25))) (l25 : K.lookup f25 = some ⟨oc25, od25, .func (PySem.W.fnOf "_law_tag" "_law_tag" (defArgs t__law_tag) (defBody t__law_tag) (defScope t__law_tag) .none kV25 dc25 pm25 an25 cd25 ct25), sl25⟩) (c25 : PySem.W.codeIn K cd25 "_law_tag" = true) (k25 : PySem.W.keepIn K (.ref f25) = true)
    {f26 : Addr} {od26 an26 : Option Addr} {sl26 : Array (Option Value)} {oc26 kV26 dc26 pm26 cd26 ct26 : Value} (a26 : PySem.W.nsIn K mainGlobals "_law_formed" = some (some (.ref f26))) (l26 : K.lookup f26 = some ⟨oc26, od26, .func (PySem.W.fnOf "_law_formed" "_law_formed" (defArgs t__law_formed) (defBody t__law_formed) (defScope t__law_formed) .none kV26 dc26 pm26 an26 cd26 ct26), sl26⟩) (c26 : PySem.W.codeIn K cd26 "_law_formed" = true) (k26 : PySem.W.keepIn K (.ref f26) = true)
    {f27 : Addr} {od27 an27 : Option Addr} {sl27 : Array (Option Value)} {oc27 kV27 dc27 pm27 cd27 ct27 : Value} (a27 : PySem.W.nsIn K mainGlobals "_law_is_right" = some (some (.ref f27))) (l27 : K.lookup f27 = some ⟨oc27, od27, .func (PySem.W.fnOf "_law_is_right" "_law_is_right" (defArgs t__law_is_right) (defBody t__law_is_right) (defScope t__law_is_right) .none kV27 dc27 pm27 an27 cd27 ct27), sl27⟩) (c27 : PySem.W.codeIn K cd27 "_law_is_right" = true) (k27 : PySem.W.keepIn K (.ref f27) = true)
    {f28 : Addr} {od28 an28 : Option Addr} {sl28 : Array (Option Value)} {oc28 kV28 dc28 pm28 cd28 ct28 : Value} (a28 : PySem.W.nsIn K mainGlobals "_law_is_pile" = some (some (.ref f28))) (l28 : K.lookup f28 = some ⟨oc28, od28, .func (PySem.W.fnOf "_law_is_pile" "_law_is_pile" (defArgs t__law_is_pile) (defBody t__law_is_pile) (defScope t__law_is_pile) .none kV28 dc28 pm28 an28 cd28 ct28), sl28⟩) (c28 : PySem.W.codeIn K cd28 "_law_is_pile" = true) (k28 : PySem.W.keepIn K (.ref f28) = true)
    {f29 : Addr} {od29 an29 : Option Addr} {sl29 : Array (Option Value)} {oc29 kV29 dc29 pm29 cd29 ct29 : Value} (a29 : PySem.W.nsIn K mainGlobals "_law_pile" = some (some (.ref f29))) (l29 : K.lookup f29 = some ⟨oc29, od29, .func (PySem.W.fnOf "_law_pile" "_law_pile" (defArgs t__law_pile) (defBody t__law_pile) (defScope t__law_pile) .none kV29 dc29 pm29 an29 cd29 ct29), sl29⟩) (c29 : PySem.W.codeIn K cd29 "_law_pile" = true) (k29 : PySem.W.keepIn K (.ref f29) = true)
    {f30 : Addr} {od30 an30 : Option Addr} {sl30 : Array (Option Value)} {oc30 kV30 dc30 pm30 cd30 ct30 : Value} (a30 : PySem.W.nsIn K mainGlobals "_law_changed" = some (some (.ref f30))) (l30 : K.lookup f30 = some ⟨oc30, od30, .func (PySem.W.fnOf "_law_changed" "_law_changed" (defArgs t__law_changed) (defBody t__law_changed) (defScope t__law_changed) .none kV30 dc30 pm30 an30 cd30 ct30), sl30⟩) (c30 : PySem.W.codeIn K cd30 "_law_changed" = true) (k30 : PySem.W.keepIn K (.ref f30) = true)
    {f31 : Addr} {od31 an31 : Option Addr} {sl31 : Array (Option Value)} {oc31 kV31 dc31 pm31 cd31 ct31 : Value} (a31 : PySem.W.nsIn K mainGlobals "_law_together" = some (some (.ref f31))) (l31 : K.lookup f31 = some ⟨oc31, od31, .func (PySem.W.fnOf "_law_together" "_law_together" (defArgs t__law_together) (defBody t__law_together) (defScope t__law_together) .none kV31 dc31 pm31 an31 cd31 ct31), sl31⟩) (c31 : PySem.W.codeIn K cd31 "_law_together" = true) (k31 : PySem.W.keepIn K (.ref f31) = true)
    {f32 : Addr} {od32 an32 : Option Addr} {sl32 : Array (Option Value)} {oc32 kV32 dc32 pm32 cd32 ct32 : Value} (a32 : PySem.W.nsIn K mainGlobals "_law_due" = some (some (.ref f32))) (l32 : K.lookup f32 = some ⟨oc32, od32, .func (PySem.W.fnOf "_law_due" "_law_due" (defArgs t__law_due) (defBody t__law_due) (defScope t__law_due) .none kV32 dc32 pm32 an32 cd32 ct32), sl32⟩) (c32 : PySem.W.codeIn K cd32 "_law_due" = true) (k32 : PySem.W.keepIn K (.ref f32) = true)
    {f33 : Addr} {od33 an33 : Option Addr} {sl33 : Array (Option Value)} {oc33 kV33 dc33 pm33 cd33 ct33 : Value} (a33 : PySem.W.nsIn K mainGlobals "_law_good" = some (some (.ref f33))) (l33 : K.lookup f33 = some ⟨oc33, od33, .func (PySem.W.fnOf "_law_good" "_law_good" (defArgs t__law_good) (defBody t__law_good) (defScope t__law_good) .none kV33 dc33 pm33 an33 cd33 ct33), sl33⟩) (c33 : PySem.W.codeIn K cd33 "_law_good" = true) (k33 : PySem.W.keepIn K (.ref f33) = true)
    {f34 : Addr} {od34 an34 : Option Addr} {sl34 : Array (Option Value)} {oc34 kV34 dc34 pm34 cd34 ct34 : Value} (a34 : PySem.W.nsIn K mainGlobals "law" = some (some (.ref f34))) (l34 : K.lookup f34 = some ⟨oc34, od34, .func (PySem.W.fnOf "law" "law" (defArgs t_law) (defBody t_law) (defScope t_law) .none kV34 dc34 pm34 an34 cd34 ct34), sl34⟩) (c34 : PySem.W.codeIn K cd34 "law" = true) (k34 : PySem.W.keepIn K (.ref f34) = true)
    (z_all : PySem.W.nsIn K mainGlobals "all" = some none)
    (z_bool : PySem.W.nsIn K mainGlobals "bool" = some none)
    (z_dict : PySem.W.nsIn K mainGlobals "dict" = some none)
    (z_int : PySem.W.nsIn K mainGlobals "int" = some none)
    (z_isinstance : PySem.W.nsIn K mainGlobals "isinstance" = some none)
    (z_len : PySem.W.nsIn K mainGlobals "len" = some none)
    (z_max : PySem.W.nsIn K mainGlobals "max" = some none)
    (z_min : PySem.W.nsIn K mainGlobals "min" = some none)
    (z_range : PySem.W.nsIn K mainGlobals "range" = some none)
    (z_set : PySem.W.nsIn K mainGlobals "set" = some none)
    (z_sorted : PySem.W.nsIn K mainGlobals "sorted" = some none)
    (z_str : PySem.W.nsIn K mainGlobals "str" = some none)
    (z_sum : PySem.W.nsIn K mainGlobals "sum" = some none)
    (z_tuple : PySem.W.nsIn K mainGlobals "tuple" = some none)
    (z_zip : PySem.W.nsIn K mainGlobals "zip" = some none)
    {t_SMALL} (g_SMALL : PySem.W.nsIn K mainGlobals "SMALL" = some (some (.int 200 t_SMALL)))
    {X_NoPile : Addr} (ux_NoPile : PySem.W.nsIn K mainGlobals "NoPile" = some (some (.ref X_NoPile)))
    {X_TooGreat : Addr} (ux_TooGreat : PySem.W.nsIn K mainGlobals "TooGreat" = some (some (.ref X_TooGreat)))
    (vx_ok : xAllB K = true)
    : ∃ fd : FuncData, (∀ (s : Shared) (v : Value), BindsTo s fd ⟨[v], []⟩ [("_law_script", v)]) ∧ ∀ base : Heap, K.In base → base.Ns mainGlobals mg → FnOk l.prog w K mg base CX0 65 fa fd ["_law_script"] (spL K) := by
  have e := hfa.symm.trans (PySem.W.mg_of X G a34)
  cases e
  have F0 := fun_mk (st := t_is_from) l0 c0 k0
  have F1 := fun_mk (st := t_is_lot) l1 c1 k1
  have F2 := fun_mk (st := t_is_pile) l2 c2 k2
  have F3 := fun_mk (st := t_look_at_pile) l3 c3 k3
  have F4 := fun_mk (st := t_sum_of) l4 c4 k4
  have F5 := fun_mk (st := t_less_of) l5 c5 k5
  have F6 := fun_mk (st := t_look_at_small) l6 c6 k6
  have F7 := fun_mk (st := t_from_counts) l7 c7 k7
  have F8 := fun_mk (st := t_look_at_two) l8 c8 k8
  have F9 := fun_mk (st := t_outdone_at) l9 c9 k9
  have F10 := fun_mk (st := t_outdoes) l10 c10 k10
  have F11 := fun_mk (st := t_telling_company) l11 c11 k11
  have F12 := fun_mk (st := t__law_mixed) l12 c12 k12
  have F13 := fun_mk (st := t__law_cell) l13 c13 k13
  have F14 := fun_mk (st := t__law_take) l14 c14 k14
  have F15 := fun_mk (st := t__law_sum) l15 c15 k15
  have F16 := fun_mk (st := t__law_under) l16 c16 k16
  have F17 := fun_mk (st := t__law_heap) l17 c17 k17
  have F18 := fun_mk (st := t__law_coins) l18 c18 k18
  have F19 := fun_mk (st := t__law_length) l19 c19 k19
  have F20 := fun_mk (st := t__law_row) l20 c20 k20
  have F21 := fun_mk (st := t__law_top) l21 c21 k21
  have F22 := fun_mk (st := t__law_holds) l22 c22 k22
  have F23 := fun_mk (st := t__law_whole_from) l23 c23 k23
  have F24 := fun_mk (st := t__law_names) l24 c24 k24
  have F25 := fun_mk (st := t__law_tag) l25 c25 k25
  have F26 := fun_mk (st := t__law_formed) l26 c26 k26
  have F27 := fun_mk (st := t__law_is_right) l27 c27 k27
  have F28 := fun_mk (st := t__law_is_pile) l28 c28 k28
  have F29 := fun_mk (st := t__law_pile) l29 c29 k29
  have F30 := fun_mk (st := t__law_changed) l30 c30 k30
  have F31 := fun_mk (st := t__law_together) l31 c31 k31
  have F32 := fun_mk (st := t__law_due) l32 c32 k32
  have F33 := fun_mk (st := t__law_good) l33 c33 k33
  have F34 := fun_mk (st := t_law) l34 c34 k34
  have B0 := F0.binds (ps := ["thing", "least"]) fun _ _ _ _ _ _ us hl => match us, hl with | [_, _], _ => rfl
  have B1 := F1.binds (ps := ["thing"]) fun _ _ _ _ _ _ us hl => match us, hl with | [_], _ => rfl
  have B2 := F2.binds (ps := ["thing"]) fun _ _ _ _ _ _ us hl => match us, hl with | [_], _ => rfl
  have B3 := F3.binds (ps := ["thing"]) fun _ _ _ _ _ _ us hl => match us, hl with | [_], _ => rfl
  have B4 := F4.binds (ps := ["pile"]) fun _ _ _ _ _ _ us hl => match us, hl with | [_], _ => rfl
  have B5 := F5.binds (ps := ["pile", "worth"]) fun _ _ _ _ _ _ us hl => match us, hl with | [_, _], _ => rfl
  have B6 := F6.binds (ps := ["pile"]) fun _ _ _ _ _ _ us hl => match us, hl with | [_], _ => rfl
  have B7 := F7.binds (ps := ["counts"]) fun _ _ _ _ _ _ us hl => match us, hl with | [_], _ => rfl
  have B8 := F8.binds (ps := ["one", "other"]) fun _ _ _ _ _ _ us hl => match us, hl with | [_, _], _ => rfl
  have B9 := F9.binds (ps := ["one", "other"]) fun _ _ _ _ _ _ us hl => match us, hl with | [_, _], _ => rfl
  have B10 := F10.binds (ps := ["one", "other"]) fun _ _ _ _ _ _ us hl => match us, hl with | [_, _], _ => rfl
  have B11 := F11.binds (ps := ["one", "other"]) fun _ _ _ _ _ _ us hl => match us, hl with | [_, _], _ => rfl
  have B12 := F12.binds (ps := ["_law_cell_here", "_law_k"]) fun _ _ _ _ _ _ us hl => match us, hl with | [_, _], _ => rfl
  have B13 := F13.binds (ps := ["_law_script", "_law_k"]) fun _ _ _ _ _ _ us hl => match us, hl with | [_, _], _ => rfl
  have B14 := F14.binds (ps := ["_law_pile_here", "_law_size"]) fun _ _ _ _ _ _ us hl => match us, hl with | [_, _], _ => rfl
  have B15 := F15.binds (ps := ["_law_pile_here"]) fun _ _ _ _ _ _ us hl => match us, hl with | [_], _ => rfl
  have B16 := F16.binds (ps := ["_law_pile_here", "_law_bound"]) fun _ _ _ _ _ _ us hl => match us, hl with | [_, _], _ => rfl
  have B17 := F17.binds (ps := ["_law_coins_here"]) fun _ _ _ _ _ _ us hl => match us, hl with | [_], _ => rfl
  have B18 := F18.binds (ps := ["_law_pile_here"]) fun _ _ _ _ _ _ us hl => match us, hl with | [_], _ => rfl
  have B19 := F19.binds (ps := ["_law_right"]) fun _ _ _ _ _ _ us hl => match us, hl with | [_], _ => rfl
  have B20 := F20.binds (ps := ["_law_right", "_law_bound", "_law_many"]) fun _ _ _ _ _ _ us hl => match us, hl with | [_, _, _], _ => rfl
  have B21 := F21.binds (ps := ["_law_right", "_law_bound"]) fun _ _ _ _ _ _ us hl => match us, hl with | [_, _], _ => rfl
  have B22 := F22.binds (ps := ["_law_pile_here", "_law_right"]) fun _ _ _ _ _ _ us hl => match us, hl with | [_, _], _ => rfl
  have B23 := F23.binds (ps := ["_law_thing", "_law_least"]) fun _ _ _ _ _ _ us hl => match us, hl with | [_, _], _ => rfl
  have B24 := F24.binds (ps := ["_law_right"]) fun _ _ _ _ _ _ us hl => match us, hl with | [_], _ => rfl
  have B25 := F25.binds (ps := ["_law_thing"]) fun _ _ _ _ _ _ us hl => match us, hl with | [_], _ => rfl
  have B26 := F26.binds (ps := ["_law_thing", "_law_deep"]) fun _ _ _ _ _ _ us hl => match us, hl with | [_, _], _ => rfl
  have B27 := F27.binds (ps := ["_law_thing"]) fun _ _ _ _ _ _ us hl => match us, hl with | [_], _ => rfl
  have B28 := F28.binds (ps := ["_law_thing"]) fun _ _ _ _ _ _ us hl => match us, hl with | [_], _ => rfl
  have B29 := F29.binds (ps := ["_law_digits", "_law_most_worth"]) fun _ _ _ _ _ _ us hl => match us, hl with | [_, _], _ => rfl
  have B30 := F30.binds (ps := ["_law_digits", "_law_pile_here"]) fun _ _ _ _ _ _ us hl => match us, hl with | [_, _], _ => rfl
  have B31 := F31.binds (ps := ["_law_one", "_law_other"]) fun _ _ _ _ _ _ us hl => match us, hl with | [_, _], _ => rfl
  have B32 := F32.binds (ps := ["_law_one", "_law_other"]) fun _ _ _ _ _ _ us hl => match us, hl with | [_, _], _ => rfl
  have B33 := F33.binds (ps := ["_law_one", "_law_other"]) fun _ _ _ _ _ _ us hl => match us, hl with | [_, _], _ => rfl
  have C : Fx K mg ⟨f0, _, f1, _, f2, _, f3, _, f4, _, f5, _, f6, _, f7, _, f8, _, f9, _, f10, _, f11, _, f12, _, f13, _, f14, _, f15, _, f16, _, f17, _, f18, _, f19, _, f20, _, f21, _, f22, _, f23, _, f24, _, f25, _, f26, _, f27, _, f28, _, f29, _, f30, _, f31, _, f32, _, f33, _, fa, _, X_NoPile, X_TooGreat⟩ := ⟨PySem.W.mg_none_of X G z_all, PySem.W.mg_none_of X G z_bool, PySem.W.mg_none_of X G z_dict, PySem.W.mg_none_of X G z_int, PySem.W.mg_none_of X G z_isinstance, PySem.W.mg_none_of X G z_len, PySem.W.mg_none_of X G z_max, PySem.W.mg_none_of X G z_min, PySem.W.mg_none_of X G z_range, PySem.W.mg_none_of X G z_set, PySem.W.mg_none_of X G z_sorted, PySem.W.mg_none_of X G z_str, PySem.W.mg_none_of X G z_sum, PySem.W.mg_none_of X G z_tuple, PySem.W.mg_none_of X G z_zip, ⟨_, PySem.W.mg_of X G g_SMALL⟩, vx_ok, ⟨ux_NoPile, PySem.W.mg_of X G ux_NoPile⟩, ⟨ux_TooGreat, PySem.W.mg_of X G ux_TooGreat⟩, F0, PySem.W.mg_of X G a0, k0, B0, F1, PySem.W.mg_of X G a1, k1, B1, F2, PySem.W.mg_of X G a2, k2, B2, F3, PySem.W.mg_of X G a3, k3, B3, F4, PySem.W.mg_of X G a4, k4, B4, F5, PySem.W.mg_of X G a5, k5, B5, F6, PySem.W.mg_of X G a6, k6, B6, F7, PySem.W.mg_of X G a7, k7, B7, F8, PySem.W.mg_of X G a8, k8, B8, F9, PySem.W.mg_of X G a9, k9, B9, F10, PySem.W.mg_of X G a10, k10, B10, F11, PySem.W.mg_of X G a11, k11, B11, F12, PySem.W.mg_of X G a12, k12, B12, F13, PySem.W.mg_of X G a13, k13, B13, F14, PySem.W.mg_of X G a14, k14, B14, F15, PySem.W.mg_of X G a15, k15, B15, F16, PySem.W.mg_of X G a16, k16, B16, F17, PySem.W.mg_of X G a17, k17, B17, F18, PySem.W.mg_of X G a18, k18, B18, F19, PySem.W.mg_of X G a19, k19, B19, F20, PySem.W.mg_of X G a20, k20, B20, F21, PySem.W.mg_of X G a21, k21, B21, F22, PySem.W.mg_of X G a22, k22, B22, F23, PySem.W.mg_of X G a23, k23, B23, F24, PySem.W.mg_of X G a24, k24, B24, F25, PySem.W.mg_of X G a25, k25, B25, F26, PySem.W.mg_of X G a26, k26, B26, F27, PySem.W.mg_of X G a27, k27, B27, F28, PySem.W.mg_of X G a28, k28, B28, F29, PySem.W.mg_of X G a29, k29, B29, F30, PySem.W.mg_of X G a30, k30, B30, F31, PySem.W.mg_of X G a31, k31, B31, F32, PySem.W.mg_of X G a32, k32, B32, F33, PySem.W.mg_of X G a33, k33, B33, F34, PySem.W.mg_of X G a34, k34⟩
  exact ⟨_, fun s v => .of_eq rfl, fun base _ _ => (ok_law C).imp fun vs H Q E hs => by
    obtain ⟨a, ns, rfl, hS, hl, q⟩ := hs
    obtain ⟨E2, hT⟩ := law_true ns hl
    refine ⟨rfl, [], [], [.scr ns], ⟨rfl, fun p hp => (by cases hp), fun i s e => ?_, fun i j ds es p e1 _ _ _ => ?_, fun x hx => (by cases hx), fun i ds p e1 _ x hx => (by cases hx)⟩, ?_⟩
    · match i, e with
      | 0, e => cases e; exact ⟨a, rfl, (show SqL K (Mask [] H) a _ from (show Mask [] H = H from rfl) ▸ hS)⟩
    · match i, e1 with
      | 0, e1 => cases e1
    · rw [hT]
      intro O2 v H2 R2 l2
      cases R2.2
      exact q H2⟩
end Lw
open PySem PySem.W PyProof.Rows
set_option maxHeartbeats 0 in
theorem PySem.Challenge.cw_blindtill_k49_tills_in_every_company_holds : PySem.Challenge.rw_blindtill_k49_tills_in_every_company.Holds := by
  w_on; o_law; k_head; (case hw => w_witness2)
  k_fill
  refine L2.walk_of (l := PySem.Challenge.rw_blindtill_k49_tills_in_every_company) (n := 63) (k := 65) (x := "_law_script") (CX := fun _ => L2.CX0) (sp := fun w => Lw.spL _) rfl (by decide) rfl ⟨rfl, by decide, by decide⟩ (fun w h Y => PySem.W.kIn_of Y) ?F (fun _ _ a ns hl _ hS => ⟨a, ns, rfl, hS, hl, fun _ => rfl⟩) (fun _ _ _ _ _ h => h)
  case F =>
    intro w mg fa h KX G hmg
    refine' Lw.all_mk KX G hmg ?a0 ?l0 ?c0 ?k0 ?a1 ?l1 ?c1 ?k1 ?a2 ?l2 ?c2 ?k2 ?a3 ?l3 ?c3 ?k3 ?a4 ?l4 ?c4 ?k4 ?a5 ?l5 ?c5 ?k5 ?a6 ?l6 ?c6 ?k6 ?a7 ?l7 ?c7 ?k7 ?a8 ?l8 ?c8 ?k8 ?a9 ?l9 ?c9 ?k9 ?a10 ?l10 ?c10 ?k10 ?a11 ?l11 ?c11 ?k11 ?a12 ?l12 ?c12 ?k12 ?a13 ?l13 ?c13 ?k13 ?a14 ?l14 ?c14 ?k14 ?a15 ?l15 ?c15 ?k15 ?a16 ?l16 ?c16 ?k16 ?a17 ?l17 ?c17 ?k17 ?a18 ?l18 ?c18 ?k18 ?a19 ?l19 ?c19 ?k19 ?a20 ?l20 ?c20 ?k20 ?a21 ?l21 ?c21 ?k21 ?a22 ?l22 ?c22 ?k22 ?a23 ?l23 ?c23 ?k23 ?a24 ?l24 ?c24 ?k24 ?a25 ?l25 ?c25 ?k25 ?a26 ?l26 ?c26 ?k26 ?a27 ?l27 ?c27 ?k27 ?a28 ?l28 ?c28 ?k28 ?a29 ?l29 ?c29 ?k29 ?a30 ?l30 ?c30 ?k30 ?a31 ?l31 ?c31 ?k31 ?a32 ?l32 ?c32 ?k32 ?a33 ?l33 ?c33 ?k33 ?a34 ?l34 ?c34 ?k34 ?z_all ?z_bool ?z_dict ?z_int ?z_isinstance ?z_len ?z_max ?z_min ?z_range ?z_set ?z_sorted ?z_str ?z_sum ?z_tuple ?z_zip ?g_SMALL ?ux_NoPile ?ux_TooGreat ?vx_ok
    (case a0 => k_is)
    (case l0 => k_is)
    (case c0 => k_is)
    (case k0 => k_is)
    (case a1 => k_is)
    (case l1 => k_is)
    (case c1 => k_is)
    (case k1 => k_is)
    (case a2 => k_is)
    (case l2 => k_is)
    (case c2 => k_is)
    (case k2 => k_is)
    (case a3 => k_is)
    (case l3 => k_is)
    (case c3 => k_is)
    (case k3 => k_is)
    (case a4 => k_is)
    (case l4 => k_is)
    (case c4 => k_is)
    (case k4 => k_is)
    (case a5 => k_is)
    (case l5 => k_is)
    (case c5 => k_is)
    (case k5 => k_is)
    (case a6 => k_is)
    (case l6 => k_is)
    (case c6 => k_is)
    (case k6 => k_is)
    (case a7 => k_is)
    (case l7 => k_is)
    (case c7 => k_is)
    (case k7 => k_is)
    (case a8 => k_is)
    (case l8 => k_is)
    (case c8 => k_is)
    (case k8 => k_is)
    (case a9 => k_is)
    (case l9 => k_is)
    (case c9 => k_is)
    (case k9 => k_is)
    (case a10 => k_is)
    (case l10 => k_is)
    (case c10 => k_is)
    (case k10 => k_is)
    (case a11 => k_is)
    (case l11 => k_is)
    (case c11 => k_is)
    (case k11 => k_is)
    (case a12 => k_is)
    (case l12 => k_is)
    (case c12 => k_is)
    (case k12 => k_is)
    (case a13 => k_is)
    (case l13 => k_is)
    (case c13 => k_is)
    (case k13 => k_is)
    (case a14 => k_is)
    (case l14 => k_is)
    (case c14 => k_is)
    (case k14 => k_is)
    (case a15 => k_is)
    (case l15 => k_is)
    (case c15 => k_is)
    (case k15 => k_is)
    (case a16 => k_is)
    (case l16 => k_is)
    (case c16 => k_is)
    (case k16 => k_is)
    (case a17 => k_is)
    (case l17 => k_is)
    (case c17 => k_is)
    (case k17 => k_is)
    (case a18 => k_is)
    (case l18 => k_is)
    (case c18 => k_is)
    (case k18 => k_is)
    (case a19 => k_is)
    (case l19 => k_is)
    (case c19 => k_is)
    (case k19 => k_is)
    (case a20 => k_is)
    (case l20 => k_is)
    (case c20 => k_is)
    (case k20 => k_is)
    (case a21 => k_is)
    (case l21 => k_is)
    (case c21 => k_is)
    (case k21 => k_is)
    (case a22 => k_is)
    (case l22 => k_is)
    (case c22 => k_is)
    (case k22 => k_is)
    (case a23 => k_is)
    (case l23 => k_is)
    (case c23 => k_is)
    (case k23 => k_is)
    (case a24 => k_is)
    (case l24 => k_is)
    (case c24 => k_is)
    (case k24 => k_is)
    (case a25 => k_is)
    (case l25 => k_is)
    (case c25 => k_is)
    (case k25 => k_is)
    (case a26 => k_is)
    (case l26 => k_is)
    (case c26 => k_is)
    (case k26 => k_is)
    (case a27 => k_is)
    (case l27 => k_is)
    (case c27 => k_is)
    (case k27 => k_is)
    (case a28 => k_is)
    (case l28 => k_is)
    (case c28 => k_is)
    (case k28 => k_is)
    (case a29 => k_is)
    (case l29 => k_is)
    (case c29 => k_is)
    (case k29 => k_is)
    (case a30 => k_is)
    (case l30 => k_is)
    (case c30 => k_is)
    (case k30 => k_is)
    (case a31 => k_is)
    (case l31 => k_is)
    (case c31 => k_is)
    (case k31 => k_is)
    (case a32 => k_is)
    (case l32 => k_is)
    (case c32 => k_is)
    (case k32 => k_is)
    (case a33 => k_is)
    (case l33 => k_is)
    (case c33 => k_is)
    (case k33 => k_is)
    (case a34 => k_is)
    (case l34 => k_is)
    (case c34 => k_is)
    (case k34 => k_is)
    (case z_all => k_is)
    (case z_bool => k_is)
    (case z_dict => k_is)
    (case z_int => k_is)
    (case z_isinstance => k_is)
    (case z_len => k_is)
    (case z_max => k_is)
    (case z_min => k_is)
    (case z_range => k_is)
    (case z_set => k_is)
    (case z_sorted => k_is)
    (case z_str => k_is)
    (case z_sum => k_is)
    (case z_tuple => k_is)
    (case z_zip => k_is)
    (case g_SMALL => k_is)
    (case ux_NoPile => first | k_is | kernel_rfl | decide +kernel)
    (case ux_TooGreat => first | k_is | kernel_rfl | decide +kernel)
    (case vx_ok => first | k_is | kernel_rfl | decide +kernel)
