import PyProof.Rows.All
import Wide.All
import OpenK.AllK
import Wide.FinOn
import HandS.ForMost
import HandS.TupAny
import HandS.TupMul
import KE.KDictPairs
import HandS.Walk
import HandS.Wide
import HandS.IsInst
import HandS.Exc
import HandS.WordsExc
import HandS.Lambda
import KE.KNest
import HandS.Zip
import HandS.SortInts
import HandS.Style
import HandS.Defaults
import HandS.TupLe
import HandS.Text
import KE.SortCalls
import KE.LtData
import PyProof.FactsAll.tuple
import KE.DataMinMax
import HandS.CallSlots
import HandS.More
import HandS.SortKw
import HandS.WideBits
import KE.KRevSl
import KE.KUnpackStar
import HandS.ExcOwn
import HandS.ExcValue
import HandS.ExcInit
import HandS.ExcField
import HandS.ExcIs
import KE.KExcIs
import HandS.ExcBuiltin
import PyProof.ExcAttrAll.ValueError
import HandS.Ends
import PyProof.ReprRoads
import PyProof.CallStr
import HandS.RaiseMore
import HandS.SetKeys
import HandS.SetBool
import KE.GoesEnumKw
import KE.KItemsList
import HandS.Conv
import HandS.TryOnly
import PyProof.ListStr
import HandS.WordsDict
import KE.GoesMore
import HandS.MapObj
import KE.KDictZip
import HandS.Deep
import HandS.Strs
import KE.GoesZip
import PyProof.AutoSeq1
import KE.DataMinKey
import HandS.EndTab
import HandS.FStr
import HandS.Nested
import KE.KFind
import HandS.DictTup
import HandS.ListItems
import HandS.Flt
import KE.SortKeyed
import HandS.SortOrd
import KE.KDictList
import PySem.Challenge.RW_blindtill_k20_what_the_clerk_pays
set_option Elab.async false
set_option linter.all false
set_option maxRecDepth 100000
set_option maxHeartbeats 1000000
set_option autoImplicit false
namespace Bt
open PySem L2
section
variable {X : Cx} {es : List Expr} {t : TA} {pos : Pos}
def tTupP (t : TA) : TE := fun σ H Q => t σ H fun xs H1 => xs.length ≤ sizeLine ∧ ∀ p o, H1 p = none → o.dict = none → Q (.ref p) (upd H1 p (.frz o (.tup xs)))
theorem laidP {pins : List (Addr × Obj)} {σ : L2.St} {H : Hp} {s : Shared} {xs : List V} {its : List Value} {tk : Nat} (I : Inv X pins σ H s) (z : xs.length ≤ sizeLine) (r : Vals xs its) :
    Inv X pins σ (upd H s.heap.objs.size (.frz { cls := .type "tuple", data := .seq its.toArray } (.tup xs))) { s with heap := s.heap.push { cls := .type "tuple", data := .seq its.toArray }, toks := tk } :=
  I.laid (t' := tk) (fun _ _ e => Heap.get?_push_of_some _ e) (Nat.le_refl _) ⟨Heap.get?_push_size _ rfl, z, its, r, _, Heap.get?_push_size _ rfl, rfl, _, rfl⟩
theorem pe_tupP {k : Nat} (h : PA X es t) : PE X (.Tuple es k pos) (tTupP t) := by
  refine ⟨fun pins s σ H Q I hq => wpAny_Tuple_spliced (thn (h.run pos pins s σ H _ I hq) fun us s1 ⟨xs, H1, I1, r, z, q⟩ => ⟨by rw [← r.length]; exact z, ?_⟩)⟩
  exact ⟨.ref s1.heap.objs.size, _, laidP (tk := s1.toks) I1 z r, rfl, q _ _ (I1.hok.fresh (Nat.le_refl _)) rfl⟩
def rTupP (K : PySem.W.Frag) : List V → Hp → VK → Prop := fun xs H Q => ∃ p ys, xs = [.ref p] ∧ ((SqL K H p ys ∧ ∀ l o, H l = none → o.dict = none → Q (.ref l) (upd H l (.frz o (.tup ys)))) ∨ (SqT K H p ys ∧ Q (.ref p) H))
theorem call_tupP : CallR X (.type "tuple") (rTupP X.K) := by
  intro pins s σ H xs us Q I r h
  obtain ⟨p, ys, rfl, h⟩ := h
  obtain ⟨u, rfl, rx⟩ := vals1 r
  cases rx
  rcases h with ⟨hq, q⟩ | ⟨hq, q⟩
  · obtain ⟨its, r', pl, hz⟩ := I.list hq
    have hlen := r'.length
    refine PySem.call_tuple_list pl.isList (fun h' kp => ?_) (by simp only [List.size_toArray]; omega)
    have I1 : Inv X pins σ H { s with heap := h' } := I.kept (t' := s.toks) kp
    exact ⟨.ref h'.objs.size, _, laidP (tk := s.toks) I1 hz r', rfl, q _ _ (I1.hok.fresh (Nat.le_refl _)) rfl⟩
  · obtain ⟨its, r', pl, hz⟩ := I.tuple hq
    exact PySem.call_tuple_same pl ⟨.ref p, H, I, rfl, q⟩
def rSlP (K : PySem.W.Frag) : V → Option Int → Option Int → Hp → VK → Prop := fun x lo hi H Q => ∃ a xs, x = .ref a ∧ SqT K H a xs ∧
  (HT.sIx xs.length 0 lo = 0 ∧ HT.sIx xs.length xs.length hi = xs.length → Q (.ref a) H) ∧ (¬ (HT.sIx xs.length 0 lo = 0 ∧ HT.sIx xs.length xs.length hi = xs.length) → ∀ p o, H p = none → o.dict = none → Q (.ref p) (upd H p (.frz o (.tup (cutV xs lo hi)))))
theorem sl_tupP : SlR X (rSlP X.K) := by
  intro pins s σ H x v vl vu lo hi sl Q I rx hs pl pu h
  obtain ⟨a, xs, rfl, hx, q1, q2⟩ := h
  by_cases hw : HT.sIx xs.length 0 lo = 0 ∧ HT.sIx xs.length xs.length hi = xs.length
  · exact sl_tupA pins s σ H _ v vl vu lo hi sl Q I rx hs pl pu ⟨a, xs, rfl, hx, q1, fun n => absurd hw n⟩
  · cases rx
    obtain ⟨its, r, ht, hz⟩ := I.tuple hx
    have hlen : its.toArray.size = xs.length := by rw [List.size_toArray]; exact r.length.symm
    refine ⟨"tuple", _, PyProof.Rows.slot_tuple_getitem.lookup, ht.typeIs, HT.getItem_tuple_cut ht hs pl pu (by rw [hlen]; exact hw) ?_ (by rw [hlen]; exact hz)⟩
    rw [hlen]
    exact ⟨.ref s.heap.objs.size, _, laidP (tk := s.toks) I (Nat.le_trans (cutV_length xs lo hi) hz) ((r.drop (HT.sIx xs.length 0 lo)).take (HT.sIx xs.length xs.length hi - HT.sIx xs.length 0 lo)), rfl, q2 hw _ _ (I.hok.fresh (Nat.le_refl _)) rfl⟩
def rCatP (K : PySem.W.Frag) : R2 := fun x y H Q => ∃ a b xs ys, x = .ref a ∧ y = .ref b ∧ SqT K H a xs ∧ SqT K H b ys ∧ xs.length + ys.length ≤ sizeLine ∧
  (xs = [] → Q (.ref b) H) ∧ (xs ≠ [] → ys = [] → Q (.ref a) H) ∧ (xs ≠ [] → ys ≠ [] → ∀ p o, H p = none → o.dict = none → Q (.ref p) (upd H p (.frz o (.tup (xs ++ ys)))))
theorem op_catP : OpR X (binaryOp .Add) (rCatP X.K) := by
  intro pins s σ H x y v u Q I rx ry h
  obtain ⟨a, b, xs, ys, rfl, rfl, ha, hb, hz, q0, q1, q2⟩ := h
  by_cases hx : xs = []
  · exact op_catA pins s σ H _ _ v u Q I rx ry ⟨a, b, xs, ys, rfl, rfl, ha, hb, hz, q0, fun n => absurd hx n, fun n => absurd hx n⟩
  · cases rx
    cases ry
    obtain ⟨its, r1, p1, _⟩ := I.tuple ha
    obtain ⟨its2, r2, p2, _⟩ := I.tuple hb
    refine HT.cat_tup p1 p2 (fun z => hx (r1.nil_iff.mp z)) (fun z => ⟨.ref a, H, I, rfl, q1 hx (r2.nil_iff.mp z)⟩) (fun z => ?_) (by rw [← r1.length, ← r2.length]; exact hz)
    exact ⟨.ref s.heap.objs.size, _, laidP (tk := s.toks) I (by rw [List.length_append]; exact hz) (r1.append r2), rfl, q2 hx (fun w => z (r2.nil_iff.mpr w)) _ _ (I.hok.fresh (Nat.le_refl _)) rfl⟩
end
end Bt
namespace Bt
open PySem L2

abbrev D := PyData
inductive Ob where
  | l (ds : List D)
  | d (kvs : List (Key × D))
inductive Sl where
  | un
  | dat (d : D)
  | ow (o : Ob)
  | scr (ns : List Int)
abbrev En := List Sl
def xNames : List Str := ["TillError", "NoPile", "NoRight", "NoName", "NoNumber", "NoWorths", "NoParts", "TooGreat", "NoTill", "Taken", "NoPromise", "NoPlace", "NoCall", "NoCoins", "NoPay", "Unserved", "Stuck"]
def xName (c : Nat) : Str := xNames.getD c "?"
def xFld (c : Nat) : Str := if c = 12 then "place" else if c = 14 then "rest" else "worth"
structure Exc where
  cls : Nat
  fld : Option D
inductive Res (α : Type) where
  | ok (a : α) (E : En)
  | ex (x : Exc) (E : En)
  | bad
abbrev M (α : Type) := En → Res α
section monad
variable {α β : Type}
def ret (a : α) : M α := fun E => .ok a E
def bnd (m : M α) (f : α → M β) : M β := fun E => match m E with
  | .ok a E' => f a E'
  | .ex x E' => .ex x E'
  | .bad => .bad
def stuck : M α := fun _ => .bad
def lift (o : Option α) : M α := fun E => match o with
  | some a => .ok a E
  | none => .bad
def Sat (r : Res α) (k : α → En → Prop) (w : Exc → En → Prop) : Prop := match r with
  | .ok a E => k a E
  | .ex x E => w x E
  | .bad => False
theorem Sat.mono {r : Res α} {k k' : α → En → Prop} {w w' : Exc → En → Prop} (h : Sat r k w) (hk : ∀ a E, k a E → k' a E) (hw : ∀ x E, w x E → w' x E) : Sat r k' w' := by
  cases r with
  | ok a E => exact hk a E h
  | ex x E => exact hw x E h
  | bad => exact h
theorem Sat.bnd {m : M α} {f : α → M β} {E : En} {k : β → En → Prop} {w : Exc → En → Prop} (h : Sat (bnd m f E) k w) : Sat (m E) (fun a E' => Sat (f a E') k w) w := by
  unfold Bt.bnd at h
  cases e : m E with
  | ok a E1 => rw [e] at h; exact h
  | ex x E1 => rw [e] at h; exact h
  | bad => rw [e] at h; exact h
theorem Sat.lift {o : Option α} {E : En} {k : α → En → Prop} {w : Exc → En → Prop} (h : Sat (lift o E) k w) : ∃ a, o = some a ∧ k a E := by
  cases o with
  | none => exact h.elim
  | some a => exact ⟨a, rfl, h⟩
end monad

def Mask (O : List Addr) (H : Hp) : Hp := fun a => if a ∈ O then none else H a
def Trk (O : List Addr) (H : Hp) : Prop := ∀ p ∈ O, H p ≠ none
def Le (O : List Addr) (H : Hp) (O' : List Addr) (H' : Hp) : Prop := Same (Mask O H) (Mask O' H')
theorem Le.refl (O : List Addr) (H : Hp) : Le O H O H := Same.refl _
theorem Le.trans {O O1 O2 : List Addr} {H H1 H2 : Hp} (a : Le O H O1 H1) (b : Le O1 H1 O2 H2) : Le O H O2 H2 := Same.trans a b
theorem mask_in {O : List Addr} {H : Hp} {a : Addr} (h : a ∈ O) : Mask O H a = none := if_pos h
theorem mask_out {O : List Addr} {H : Hp} {a : Addr} (h : a ∉ O) : Mask O H a = H a := if_neg h
theorem mask_some {O : List Addr} {H : Hp} {a : Addr} {o : HO} (h : Mask O H a = some o) : a ∉ O ∧ H a = some o := by
  by_cases q : a ∈ O
  · rw [mask_in q] at h; cases h
  · rw [mask_out q] at h; exact ⟨q, h⟩
theorem mask_le (O : List Addr) (H : Hp) : Same (Mask O H) H := fun _ _ h => (mask_some h).2
theorem trk_fresh {O : List Addr} {H : Hp} {p : Addr} (t : Trk O H) (h : H p = none) : p ∉ O := fun q => t p q h

structure Grow (O : List Addr) (H H' : Hp) : Prop where
  le : Same (Mask O H) (Mask O H')
  keep : ∀ p ∈ O, H' p = H p
theorem Grow.refl (O : List Addr) (H : Hp) : Grow O H H := ⟨Same.refl _, fun _ _ => rfl⟩
theorem Grow.trans {O : List Addr} {H H1 H2 : Hp} (a : Grow O H H1) (b : Grow O H1 H2) : Grow O H H2 := ⟨a.le.trans b.le, fun p q => (b.keep p q).trans (a.keep p q)⟩
theorem Grow.new {O : List Addr} {H : Hp} {p : Addr} {o : HO} (t : Trk O H) (h : H p = none) : Grow O H (upd H p o) := by
  have np := trk_fresh t h
  refine ⟨fun a x e => ?_, fun q hq => upd_ne (fun z => np (z ▸ hq))⟩
  obtain ⟨n, e⟩ := mask_some e
  rw [mask_out n, upd_ne (ne_of_none e h)]
  exact e
theorem Grow.trk {O : List Addr} {H H' : Hp} (g : Grow O H H') (t : Trk O H) : Trk O H' := fun p q => by rw [g.keep p q]; exact t p q

def SqP (K : PySem.W.Frag) (G : Hp) (a : Addr) (xs : List V) : Prop :=
  (∃ o, G a = some (.frz o (.tup xs)) ∧ o.dict = none) ∨ ∃ (o : Obj) (its : Array Value) (n : Nat), K.lookup a = some o ∧ o.cls = .type "tuple" ∧ o.dict = none ∧ o.data = .seq its n ∧ its.size ≤ sizeLine ∧ Vals xs its.toList
theorem SqP.t {K : PySem.W.Frag} {G : Hp} {a : Addr} {xs : List V} (h : SqP K G a xs) : SqT K G a xs := by
  rcases h with ⟨o, h, _⟩ | ⟨o, its, n, h1, h2, _, h3, h4, h5⟩
  · exact .inl (.inr ⟨o, h⟩)
  · exact .inr ⟨o, its, n, h1, h2, h3, h4, h5⟩
theorem SqP.mono {K : PySem.W.Frag} {G G' : Hp} {a : Addr} {xs : List V} (e : Same G G') (h : SqP K G a xs) : SqP K G' a xs := by
  rcases h with ⟨o, h, d⟩ | h
  · exact .inl ⟨o, e _ _ h, d⟩
  · exact .inr h
def ExT (cls : Value) (dd : Option Addr) (a : Addr) : HO := .ext fun h => ∃ (oe : Obj) (vs : Array Value), h.get? a = some oe ∧ Zc cls dd oe ∧ oe.data = .fields vs
theorem exT_ok {P : Program} {w : World} {H : Hp} {h : Heap} {a : Addr} {cls : Value} {dd : Option Addr} {oe : Obj} {vs : Array Value} (e : h.get? a = some oe) (z : Zc cls dd oe) (d : oe.data = .fields vs) : ObjOk P w H h a (ExT cls dd a) :=
  ⟨⟨oe, vs, e, z, d⟩, ⟨oe, e⟩, fun _ _ ⟨o, v, q, r⟩ k => ⟨o, v, k o q, r⟩⟩
theorem exT_at {P : Program} {w : World} {H : Hp} {h : Heap} {a : Addr} {cls : Value} {dd : Option Addr} (hok : HOk P w H h) (e : H a = some (ExT cls dd a)) : ∃ (oe : Obj) (vs : Array Value), h.get? a = some oe ∧ Zc cls dd oe ∧ oe.data = .fields vs := by
  have x : ObjOk P w H h a (.ext fun h => ∃ (oe : Obj) (vs : Array Value), h.get? a = some oe ∧ Zc cls dd oe ∧ oe.data = .fields vs) := hok a _ e
  exact x.1
def lamDefs : List Str := ["stumped", "cost_of", "leanest", "groups_of"]
abbrev lamQ (x : Str) : Str := x ++ ".<locals>." ++ "<lambda>"
def TabK (K : PySem.W.Frag) (O : List Addr) (H : Hp) : Prop := ∀ x ∈ lamDefs, ∀ c P, PySem.W.tabIn K x = some (c, P) → P ∈ O ∧ ∃ ps : Array Value, H P = some (.tbl ps) ∧ TriplesOk ps.toList ∧ ∀ (pos : Pos) (cv : Value), codeAmong pos ps.toList = some cv → ∃ c, cv = .ref c ∧ Mask O H c = some (LamX.CodeO c (lamQ x))
def OddO (o : HO) : Prop := ∃ ps, o = .tbl ps
theorem TabK.of {K : PySem.W.Frag} {O O' : List Addr} {H H' : Hp} (t : TabK K O H) (hO : ∀ P ps, H P = some (.tbl ps) → P ∈ O → P ∈ O' ∧ H' P = some (.tbl ps)) (hM : ∀ a φ, Mask O H a = some (.ext φ) → Mask O' H' a = some (.ext φ)) : TabK K O' H' := fun x hx c P e => by
  obtain ⟨h1, ps, h2, h3, h4⟩ := t x hx c P e
  obtain ⟨k1, k2⟩ := hO P ps h2 h1
  refine ⟨k1, ps, k2, h3, fun pos cv q => ?_⟩
  obtain ⟨c', e1, e2⟩ := h4 pos cv q
  exact ⟨c', e1, hM _ _ e2⟩
theorem TabK.grow {K : PySem.W.Frag} {O : List Addr} {H H' : Hp} (t : TabK K O H) (g : Grow O H H') : TabK K O H' := t.of (fun P ps e h => ⟨h, by rw [g.keep P h]; exact e⟩) fun a φ e => g.le a _ e
theorem TabK.new {K : PySem.W.Frag} {O : List Addr} {H : Hp} {p : Addr} {o : HO} (t : TabK K O H) (h : H p = none) : TabK K (p :: O) (upd H p o) := t.of (fun P ps e h' => ⟨List.mem_cons_of_mem _ h', by rw [upd_ne (ne_of_none e h)]; exact e⟩) fun a φ e => by
  obtain ⟨n, e⟩ := mask_some e
  have hne := ne_of_none e h
  rw [mask_out (fun z => by rcases List.mem_cons.mp z with z | z; exact hne z; exact n z), upd_ne hne]
  exact e
theorem TabK.upd {K : PySem.W.Frag} {O : List Addr} {H : Hp} {p : Addr} {o o' : HO} (t : TabK K O H) (hp : p ∈ O) (h : H p = some o) (n : ¬ OddO o) : TabK K O (upd H p o') := t.of (fun P ps e h' => ⟨h', by rw [upd_ne (fun q => n (by rw [q, h] at e; cases e; exact ⟨_, rfl⟩))]; exact e⟩) fun a φ e => by
  obtain ⟨n, e⟩ := mask_some e
  rw [mask_out n, upd_ne (fun z => n (by rw [z]; exact hp))]
  exact e
theorem TabK.rm {K : PySem.W.Frag} {O O' : List Addr} {H : Hp} (t : TabK K O H) (hs : ∀ P ∈ O', P ∈ O) (h : ∀ P ∈ O, (∀ o, H P = some o → OddO o) → P ∈ O') : TabK K O' H := t.of (fun P ps e hP => ⟨h P hP fun o e' => by rw [e] at e'; cases e'; exact ⟨_, rfl⟩, e⟩) fun a φ e => by
  obtain ⟨n, e⟩ := mask_some e
  rw [mask_out (fun z => n (hs a z))]
  exact e
theorem fodd_cons {F : List (Addr × HO)} {p : Addr} {o : HO} (h : ¬ OddO o) (hF : ∀ x ∈ F, ¬ OddO x.2) : ∀ x ∈ (p, o) :: F, ¬ OddO x.2 := fun x hx => by
  rcases List.mem_cons.mp hx with rfl | hx
  · exact h
  · exact hF x hx
theorem fodd_tail {F : List (Addr × HO)} {y : Addr × HO} (hF : ∀ x ∈ y :: F, ¬ OddO x.2) : ∀ x ∈ F, ¬ OddO x.2 := fun x hx => hF x (List.mem_cons_of_mem _ hx)
theorem fodd_app {F G : List (Addr × HO)} (hF : ∀ x ∈ F, ¬ OddO x.2) (hG : ∀ x ∈ G, ¬ OddO x.2) : ∀ x ∈ F ++ G, ¬ OddO x.2 := fun x hx => (List.mem_append.mp hx).elim (hF x) (hG x)
theorem fodd_left {F G : List (Addr × HO)} (h : ∀ x ∈ F ++ G, ¬ OddO x.2) : ∀ x ∈ F, ¬ OddO x.2 := fun x hx => h x (List.mem_append_left _ hx)
structure LamD where
  qual : Str
  params : Arguments
  body : Expr
  scope : Scope
def LamO (f : Addr) (L : LamD) (clos : List (Str × Addr)) (c' : Addr) : HO := .ext fun h => ∃ pm ctv, h.get? f = some (PySem.W.kla_obj "<lambda>" L.qual L.params L.body L.scope clos pm c' ctv)
def CellO (c : Addr) (v : V) : HO := .ext fun h => ∃ u, RelV v u ∧ h.IsCell c (some u)
def lamFn (n : Int) : Option (Str × Str) := if n = 200 then some ("most_of", "right") else if n = 201 then some ("power_of", "pile") else none
def LamIs (n : Int) (L : LamD) (fv : Str) : Prop := ∃ fn p1 p2 p3 p4 pa, lamFn n = some (fn, fv) ∧ L.body = .Call (.Name fn p1) [.Name fv p2, .Name "below" p3] [] p4 ∧
  L.params = { posonlyargs := [], args := [{ arg := "below", annotation := none, pos := pa }], vararg := none, kwonlyargs := [], kw_defaults := [], kwarg := none, defaults := [] } ∧
  L.scope = { kind := .function, names := [("below", .local), (fv, .free), (fn, .globalImplicit)], isGenerator := false, isCoroutine := false, more := [] }
theorem notOdd_lst {vs : List V} : ¬ OddO (.lst vs) := fun ⟨_, h⟩ => by cases h
theorem notOdd_dK {vs : List (Key × V)} : ¬ OddO (.dK vs) := fun ⟨_, h⟩ => by cases h
theorem notOdd_ext {φ : Heap → Prop} : ¬ OddO (.ext φ) := fun ⟨_, h⟩ => by cases h
mutual
inductive Rp (K : PySem.W.Frag) (G : Hp) : V → D → Prop
  | non : Rp K G .non .none
  | bl (b : Bool) : Rp K G (.bl b) (.bool b)
  | int (i : Int) : Rp K G (.int i) (.int i)
  | str (x : Str) : Rp K G (.str x) (.str x)
  | lst {a : Addr} {xs : List V} {ds : List D} : G a = some (.lst xs) → RpAll K G xs ds → Rp K G (.ref a) (.list ds)
  | tup {a : Addr} {xs : List V} {ds : List D} : SqP K G a xs → RpAll K G xs ds → Rp K G (.ref a) (.tuple ds)
  | exc0 {a C : Addr} {c : Nat} : G a = some (ExT (.ref C) none a) → PySem.W.nsIn K mainGlobals (xName c) = some (some (.ref C)) → c < 17 → Rp K G (.ref a) (.dict [(.int c, .none)])
  | exc1 {a q C : Addr} {c : Nat} {v : V} {d : D} : G a = some (ExT (.ref C) (some q) a) → PySem.W.nsIn K mainGlobals (xName c) = some (some (.ref C)) → c < 17 → G q = some (.xd [(xFld c, v)]) → Rp K G v d → Rp K G (.ref a) (.dict [(.int c, .none), (.none, d)])
  | lam {f c cl : Addr} {n : Int} {fv : Str} {L : LamD} {v : V} {d : D} : LamIs n L fv → G f = some (LamO f L [(fv, cl)] c) → G c = some (LamX.CodeO c L.qual) → G cl = some (CellO cl v) → Rp K G v d → Rp K G (.ref f) (.dict [(.none, .none), (.int n, d)])
inductive RpAll (K : PySem.W.Frag) (G : Hp) : List V → List D → Prop
  | nil : RpAll K G [] []
  | cons {v : V} {vs : List V} {d : D} {ds : List D} : Rp K G v d → RpAll K G vs ds → RpAll K G (v :: vs) (d :: ds)
end
theorem sqT_mono {K : PySem.W.Frag} {G G' : Hp} {a : Addr} {xs : List V} (e : Same G G') (h : SqT K G a xs) : SqT K G' a xs := by
  rcases h with (h | ⟨o, h⟩) | h
  · exact .inl (.inl (e _ _ h))
  · exact .inl (.inr ⟨o, e _ _ h⟩)
  · exact .inr h
mutual
theorem Rp.mono {K : PySem.W.Frag} {G G' : Hp} (e : Same G G') : ∀ {v : V} {d : D}, Rp K G v d → Rp K G' v d
  | _, _, .non => .non
  | _, _, .bl b => .bl b
  | _, _, .int i => .int i
  | _, _, .str x => .str x
  | _, _, .lst h r => .lst (e _ _ h) (RpAll.mono e r)
  | _, _, .tup h r => .tup (h.mono e) (RpAll.mono e r)
  | _, _, .exc0 h n l => .exc0 (e _ _ h) n l
  | _, _, .exc1 h n l q r => .exc1 (e _ _ h) n l (e _ _ q) (Rp.mono e r)
  | _, _, .lam i h c q r => .lam i (e _ _ h) (e _ _ c) (e _ _ q) (Rp.mono e r)
theorem RpAll.mono {K : PySem.W.Frag} {G G' : Hp} (e : Same G G') : ∀ {vs : List V} {ds : List D}, RpAll K G vs ds → RpAll K G' vs ds
  | _, _, .nil => .nil
  | _, _, .cons h r => .cons (Rp.mono e h) (RpAll.mono e r)
end
mutual
theorem Rp.dp {K : PySem.W.Frag} {G : Hp} : ∀ {v : V} {d : D}, Rp K G v d → d.canLay0 = true → Dp K G v d
  | _, _, .non, _ => .non
  | _, _, .bl b, _ => .bl b
  | _, _, .int i, _ => .int i
  | _, _, .str x, _ => .str x
  | _, _, .lst h r, c => .lst (.inl (.inl h)) (RpAll.dp r (by simpa only [PyData.canLay0] using c))
  | _, _, .tup h r, c => .tup h.t (RpAll.dp r (by simpa only [PyData.canLay0] using c))
  | _, _, .exc0 _ _ _, c => by simp [PyData.canLay0] at c
  | _, _, .exc1 _ _ _ _ _, c => by simp [PyData.canLay0] at c
  | _, _, .lam _ _ _ _ _, c => by simp [PyData.canLay0] at c
theorem RpAll.dp {K : PySem.W.Frag} {G : Hp} : ∀ {vs : List V} {ds : List D}, RpAll K G vs ds → PyData.canLayAll0 ds = true → DpAll K G vs ds
  | _, _, .nil, _ => .nil
  | _, _, .cons h r, c => by
    simp only [PyData.canLayAll0, Bool.and_eq_true] at c
    exact .cons (Rp.dp h c.1) (RpAll.dp r c.2)
end
section
variable {K : PySem.W.Frag} {G : Hp} {vs ws : List V} {ds es : List D}
theorem RpAll.length : ∀ {vs : List V} {ds : List D}, RpAll K G vs ds → vs.length = ds.length
  | _, _, .nil => rfl
  | _, _, .cons _ r => by rw [List.length_cons, List.length_cons, RpAll.length r]
theorem RpAll.get : ∀ {vs : List V} {ds : List D} {i : Nat} {v : V}, RpAll K G vs ds → vs[i]? = some v → ∃ d, ds[i]? = some d ∧ Rp K G v d
  | _, _, _, _, .nil, e => by simp at e
  | _, _, 0, _, .cons h _, e => by simp at e; subst e; exact ⟨_, rfl, h⟩
  | _, _, i + 1, v, .cons _ r, e => by
    obtain ⟨d, h1, h2⟩ := RpAll.get (i := i) (v := v) r (by simpa using e)
    exact ⟨d, by simpa using h1, h2⟩
theorem RpAll.get' : ∀ {vs : List V} {ds : List D} {i : Nat} {d : D}, RpAll K G vs ds → ds[i]? = some d → ∃ v, vs[i]? = some v ∧ Rp K G v d
  | _, _, _, _, .nil, e => by simp at e
  | _, _, 0, _, .cons h _, e => by simp at e; subst e; exact ⟨_, rfl, h⟩
  | _, _, i + 1, d, .cons _ r, e => by
    obtain ⟨v, h1, h2⟩ := RpAll.get' (i := i) (d := d) r (by simpa using e)
    exact ⟨v, by simpa using h1, h2⟩
theorem RpAll.append : ∀ {vs ws : List V} {ds es : List D}, RpAll K G vs ds → RpAll K G ws es → RpAll K G (vs ++ ws) (ds ++ es)
  | _, _, _, _, .nil, s => s
  | _, _, _, _, .cons h r, s => .cons h (RpAll.append r s)
theorem RpAll.one {v : V} {d : D} (h : Rp K G v d) : RpAll K G [v] [d] := .cons h .nil
theorem RpAll.take : ∀ {vs : List V} {ds : List D} (n : Nat), RpAll K G vs ds → RpAll K G (vs.take n) (ds.take n)
  | _, _, 0, _ => .nil
  | _, _, _ + 1, .nil => .nil
  | _, _, n + 1, .cons h r => .cons h (RpAll.take n r)
theorem RpAll.drop : ∀ {vs : List V} {ds : List D} (n : Nat), RpAll K G vs ds → RpAll K G (vs.drop n) (ds.drop n)
  | _, _, 0, r => r
  | _, _, _ + 1, .nil => .nil
  | _, _, n + 1, .cons _ r => RpAll.drop n r
theorem RpAll.set {v : V} {d : D} (h : Rp K G v d) : ∀ {vs : List V} {ds : List D} (n : Nat), RpAll K G vs ds → RpAll K G (vs.set n v) (ds.set n d)
  | _, _, _, .nil => .nil
  | _, _, 0, .cons _ r => .cons h r
  | _, _, n + 1, .cons q r => .cons q (RpAll.set h n r)
theorem RpAll.reverse : ∀ {vs : List V} {ds : List D}, RpAll K G vs ds → RpAll K G vs.reverse ds.reverse
  | _, _, .nil => .nil
  | _, _, .cons h r => by rw [List.reverse_cons, List.reverse_cons]; exact RpAll.append (RpAll.reverse r) (.one h)
theorem RpAll.repeat (r : RpAll K G vs ds) : ∀ n : Nat, RpAll K G (List.replicate n vs).flatten (List.replicate n ds).flatten
  | 0 => .nil
  | n + 1 => by rw [List.replicate_succ, List.replicate_succ, List.flatten_cons, List.flatten_cons]; exact RpAll.append r (RpAll.repeat r n)
theorem RpAll.ints : ∀ {vs : List V} {ns : List Int}, RpAll K G vs (ns.map .int) → vs = ns.map V.int
  | _, [], r => by cases r; rfl
  | _, n :: ns, r => by
    cases r with
    | cons h r => cases h; rw [RpAll.ints r]; rfl
theorem RpAll.bools : ∀ {vs : List V} {ns : List Bool}, RpAll K G vs (ns.map .bool) → vs = ns.map V.bl
  | _, [], r => by cases r; rfl
  | _, n :: ns, r => by
    cases r with
    | cons h r => cases h; rw [RpAll.bools r]; rfl
end

def RpKV (K : PySem.W.Frag) (G : Hp) : List (Key × V) → List (Key × D) → Prop := Paired fun p q => p.1 = q.1 ∧ Rp K G p.2 q.2
theorem RpKV.mono {K : PySem.W.Frag} {G G' : Hp} (e : Same G G') : ∀ {xs : List (Key × V)} {ys : List (Key × D)}, RpKV K G xs ys → RpKV K G' xs ys
  | _, _, .nil => .nil
  | _, _, .cons h r => .cons ⟨h.1, h.2.mono e⟩ (RpKV.mono e r)
def RpO (K : PySem.W.Frag) (G : Hp) : HO → Ob → Prop
  | .lst vs, .l ds => RpAll K G vs ds
  | .dK kvs, .d es => RpKV K G kvs es
  | _, _ => False
theorem RpO.odd {K : PySem.W.Frag} {G : Hp} {h : HO} {o : Ob} (r : RpO K G h o) : ¬ OddO h := by
  cases h <;> cases o <;> first | exact False.elim r | exact notOdd_lst | exact notOdd_dK
theorem RpO.mono {K : PySem.W.Frag} {G G' : Hp} (e : Same G G') {h : HO} {o : Ob} (r : RpO K G h o) : RpO K G' h o := by
  cases h <;> cases o <;> first | exact False.elim r | exact RpAll.mono e r | exact RpKV.mono e r
theorem RpO.lst {K : PySem.W.Frag} {G : Hp} {h : HO} {ds : List D} (r : RpO K G h (.l ds)) : ∃ vs, h = .lst vs ∧ RpAll K G vs ds := by
  cases h <;> first | exact ⟨_, rfl, r⟩ | exact False.elim r
theorem RpO.dct {K : PySem.W.Frag} {G : Hp} {h : HO} {es : List (Key × D)} (r : RpO K G h (.d es)) : ∃ vs, h = .dK vs ∧ RpKV K G vs es := by
  cases h <;> first | exact ⟨_, rfl, r⟩ | exact False.elim r
def RpB (b : Bool) (K : PySem.W.Frag) (G : Hp) (v : V) (d : D) : Prop := Rp K G v d ∨ (b = true ∧ ∃ a xs ds, v = .ref a ∧ d = .tuple ds ∧ SqT K G a xs ∧ RpAll K G xs ds)
theorem RpB.mono {b : Bool} {K : PySem.W.Frag} {G G' : Hp} {v : V} {d : D} (e : Same G G') (h : RpB b K G v d) : RpB b K G' v d := by
  rcases h with h | ⟨hb, a, xs, ds, h1, h2, h3, h4⟩
  · exact .inl (h.mono e)
  · exact .inr ⟨hb, a, xs, ds, h1, h2, sqT_mono e h3, h4.mono e⟩
theorem RpB.tup {b : Bool} {K : PySem.W.Frag} {G : Hp} {v : V} {ds : List D} (h : RpB b K G v (.tuple ds)) : ∃ a xs, v = .ref a ∧ SqT K G a xs ∧ RpAll K G xs ds := by
  rcases h with h | ⟨hb, a, xs, ds, h1, h2, h3, h4⟩
  · cases h with
    | tup h r => exact ⟨_, _, rfl, h.t, r⟩
  · cases h2; exact ⟨a, xs, h1, h3, h4⟩
theorem RpB.rp {K : PySem.W.Frag} {G : Hp} {v : V} {d : D} (h : RpB false K G v d) : Rp K G v d := by
  rcases h with h | ⟨hb, _⟩
  · exact h
  · cases hb
def SlOk (K : PySem.W.Frag) (O : List Addr) (H : Hp) : Sl → Option (Option V) → Prop
  | .un, _ => True
  | .dat d, o => ∃ v, o = some (some v) ∧ Rp K (Mask O H) v d
  | .ow ob, o => ∃ p ho, o = some (some (.ref p)) ∧ p ∈ O ∧ H p = some ho ∧ RpO K (Mask O H) ho ob
  | .scr ns, o => ∃ a, o = some (some (.ref a)) ∧ SqL K (Mask O H) a (ns.map V.int)
abbrev Frm := List (Addr × HO)
structure Rel (K : PySem.W.Frag) (F : Frm) (O : List Addr) (E : En) (σ : St) (H : Hp) : Prop where
  len : E.length = σ.length
  trk : Trk O H
  tab : TabK K O H
  slot : ∀ (i : Nat) (s : Sl), E[i]? = some s → SlOk K O H s σ[i]?
  apart : ∀ (i j : Nat) (ds es : Ob) (p : Addr), E[i]? = some (.ow ds) → E[j]? = some (.ow es) → σ[i]? = some (some (.ref p)) → σ[j]? = some (some (.ref p)) → i = j
  frm : ∀ x ∈ F, x.1 ∈ O ∧ H x.1 = some x.2
  fap : ∀ (i : Nat) (ds : Ob) (p : Addr), E[i]? = some (.ow ds) → σ[i]? = some (some (.ref p)) → ∀ x ∈ F, x.1 ≠ p
  fodd : ∀ x ∈ F, ¬ OddO x.2
theorem SlOk.grow {K : PySem.W.Frag} {O : List Addr} {H H' : Hp} (g : Grow O H H') : ∀ {s : Sl} {o : Option (Option V)}, SlOk K O H s o → SlOk K O H' s o
  | .un, _, _ => trivial
  | .dat d, o, ⟨v, e, r⟩ => ⟨v, e, r.mono g.le⟩
  | .ow ds, o, ⟨p, vs, e, hp, hh, r⟩ => ⟨p, vs, e, hp, by rw [g.keep p hp]; exact hh, r.mono g.le⟩
  | .scr ns, o, ⟨a, e, r⟩ => ⟨a, e, g.le.seq r⟩
theorem Rel.grow {K : PySem.W.Frag} {F : Frm} {O : List Addr} {E : En} {σ : St} {H H' : Hp} (R : Rel K F O E σ H) (g : Grow O H H') : Rel K F O E σ H' :=
  ⟨R.len, g.trk R.trk, R.tab.grow g, fun i s e => (R.slot i s e).grow g, R.apart, fun x hx => ⟨(R.frm x hx).1, by rw [g.keep _ (R.frm x hx).1]; exact (R.frm x hx).2⟩, R.fap, R.fodd⟩

theorem Rel.ownL {K : PySem.W.Frag} {F : Frm} {O : List Addr} {E : En} {σ : St} {H : Hp} {i : Nat} {ds : List D} (R : Rel K F O E σ H) (h : E[i]? = some ((.ow (.l ds)))) : ∃ p vs, σ[i]? = some (some (.ref p)) ∧ p ∈ O ∧ H p = some (.lst vs) ∧ RpAll K (Mask O H) vs ds := by
  obtain ⟨p, ho, e, hp, hh, r⟩ := R.slot i _ h
  obtain ⟨vs, rfl, r⟩ := r.lst
  exact ⟨p, vs, e, hp, hh, r⟩
theorem Rel.ownD {K : PySem.W.Frag} {F : Frm} {O : List Addr} {E : En} {σ : St} {H : Hp} {i : Nat} {es : List (Key × D)} (R : Rel K F O E σ H) (h : E[i]? = some ((.ow (.d es)))) : ∃ p vs, σ[i]? = some (some (.ref p)) ∧ p ∈ O ∧ H p = some (.dK vs) ∧ RpKV K (Mask O H) vs es := by
  obtain ⟨p, ho, e, hp, hh, r⟩ := R.slot i _ h
  obtain ⟨vs, rfl, r⟩ := r.dct
  exact ⟨p, vs, e, hp, hh, r⟩
def ExR (K : PySem.W.Frag) (mg : Str → Option Value) (O : List Addr) (H : Hp) (x : Exc) (c : Value) (dd : Option Addr) : Prop :=
  (∃ C : Addr, c = .ref C ∧ PySem.W.nsIn K mainGlobals (xName x.cls) = some (some (.ref C))) ∧ x.cls < 17 ∧ match x.fld with
  | none => dd = none
  | some d => ∃ a v, dd = some a ∧ Mask O H a = some (.xd [(xFld x.cls, v)]) ∧ Rp K (Mask O H) v d

abbrev KD (K : PySem.W.Frag) (F : Frm) (σ : St) (O : List Addr) (H : Hp) (Q : VK) : D → En → Prop := fun d E' => ∀ O' v H', Rel K F O' E' σ H' → Le O H O' H' → Rp K (Mask O' H') v d → Q v H'
abbrev KB (K : PySem.W.Frag) (F : Frm) (σ : St) (O : List Addr) (H : Hp) (Q : Bool → Hp → Prop) : Bool → En → Prop := fun b E' => ∀ O' H', Rel K F O' E' σ H' → Le O H O' H' → Q b H'
abbrev KX (K : PySem.W.Frag) (mg : Str → Option Value) (F : Frm) (σ : St) (O : List Addr) (H : Hp) (W : WX) : Exc → En → Prop := fun x E' => ∀ O' H' c dd, Rel K F O' E' σ H' → Le O H O' H' → ExR K mg O' H' x c dd → W c dd σ H'
theorem KX.le {K : PySem.W.Frag} {mg : Str → Option Value} {F : Frm} {σ : St} {O O1 : List Addr} {H H1 : Hp} {W : WX} (l : Le O H O1 H1) : ∀ x E, KX K mg F σ O H W x E → KX K mg F σ O1 H1 W x E := fun x E h O' H' c dd R l' e => h O' H' c dd R (l.trans l') e

structure SE (X : Cx) (W : WX) (e : Expr) (t : TE) (m : M D) : Prop where
  pe : PE X e t
  rd : ∀ F O E σ H (Q : VK), Rel X.K F O E σ H → Sat (m E) (KD X.K F σ O H Q) (KX X.K X.mg F σ O H W) → t σ H Q
structure STt (X : Cx) (W : WX) (e : Expr) (t : TT) (m : M Bool) : Prop where
  pt : PT X e t
  rd : ∀ F O E σ H (Q : Bool → Hp → Prop), Rel X.K F O E σ H → Sat (m E) (KB X.K F σ O H Q) (KX X.K X.mg F σ O H W) → t σ H Q
structure SW (X : Cx) (W : WX) (e : Expr) (t : TT) (m : M Bool) : Prop where
  pw : PW X e t
  rd : ∀ F O E σ H (Q : Bool → Hp → Prop), Rel X.K F O E σ H → Sat (m E) (KB X.K F σ O H Q) (KX X.K X.mg F σ O H W) → t σ H Q
structure SA (X : Cx) (W : WX) (es : List Expr) (t : TA) (m : M (List D)) : Prop where
  pa : PA X es t
  rd : ∀ F O E σ H (Q : List V → Hp → Prop), Rel X.K F O E σ H → Sat (m E) (fun ds E' => ∀ O' vs H', Rel X.K F O' E' σ H' → Le O H O' H' → RpAll X.K (Mask O' H') vs ds → Q vs H') (KX X.K X.mg F σ O H W) → t σ H Q
end Bt
namespace Bt
open PySem L2

inductive Ag where
  | d (d : D)
  | r (i : Nat)
def AgV (K : PySem.W.Frag) (σ : L2.St) (O : List Addr) (H : Hp) (v : V) : Ag → Prop
  | .d d => Rp K (Mask O H) v d
  | .r i => σ[i]? = some (some v)
theorem AgV.le {K : PySem.W.Frag} {σ : L2.St} {O O' : List Addr} {H H' : Hp} {v : V} {a : Ag} (l : Le O H O' H') (h : AgV K σ O H v a) : AgV K σ O' H' v a := by
  cases a with
  | d d => exact Rp.mono l h
  | r i => exact h
def rsv (E : En) : Ag → Option D
  | .d d => some d
  | .r i => match E[i]? with
    | some (.dat d) => some d
    | some ((.ow (.l ds))) => some (.list ds)
    | _ => none
def Rq (K : PySem.W.Frag) (O : List Addr) (H : Hp) (v : V) (d : D) : Prop :=
  Rp K (Mask O H) v d ∨ ∃ p vs ds, v = .ref p ∧ d = .list ds ∧ H p = some (.lst vs) ∧ RpAll K (Mask O H) vs ds
section
variable {K : PySem.W.Frag} {O : List Addr} {H : Hp} {v : V}
theorem Rel.rsv {F : Frm} {E : En} {σ : L2.St} {a : Ag} {d : D} (R : Rel K F O E σ H) (h : AgV K σ O H v a) (e : rsv E a = some d) : Rq K O H v d := by
  cases a with
  | d d' => cases e; exact .inl h
  | r i =>
    unfold Bt.rsv at e
    dsimp only at e
    cases q : E[i]? with
    | none => rw [q] at e; cases e
    | some s =>
      rw [q] at e
      have z := R.slot i s q
      rw [show σ[i]? = some (some v) from h] at z
      cases s with
      | un => cases e
      | dat d' =>
        cases e
        obtain ⟨w, e1, r⟩ := z
        cases e1
        exact .inl r
      | ow o =>
        cases o with
        | d _ => cases e
        | l ds =>
          cases e
          obtain ⟨p, vs, e1, _, hp, r⟩ := R.ownL q
          rw [show σ[i]? = some (some v) from h] at e1
          cases e1
          exact .inr ⟨p, vs, ds, rfl, rfl, hp, r⟩
      | scr ns => cases e
theorem Rq.int {i : Int} (h : Rq K O H v (.int i)) : v = .int i := by
  rcases h with h | ⟨_, _, _, _, e, _⟩
  · cases h; rfl
  · cases e
theorem Rq.bool {b : Bool} (h : Rq K O H v (.bool b)) : v = .bl b := by
  rcases h with h | ⟨_, _, _, _, e, _⟩
  · cases h; rfl
  · cases e
theorem Rq.str {b : Str} (h : Rq K O H v (.str b)) : v = .str b := by
  rcases h with h | ⟨_, _, _, _, e, _⟩
  · cases h; rfl
  · cases e
theorem Rq.list {ds : List D} (h : Rq K O H v (.list ds)) : ∃ p vs, v = .ref p ∧ H p = some (.lst vs) ∧ RpAll K (Mask O H) vs ds := by
  rcases h with h | ⟨p, vs, _, e, e', h, r⟩
  · cases h with
    | lst h r => exact ⟨_, _, rfl, mask_le O H _ _ h, r⟩
  · cases e'; exact ⟨p, vs, e, h, r⟩
theorem Rq.tuple {ds : List D} (h : Rq K O H v (.tuple ds)) : ∃ p vs, v = .ref p ∧ SqT K H p vs ∧ RpAll K (Mask O H) vs ds ∧ Rp K (Mask O H) v (.tuple ds) := by
  rcases h with h | ⟨_, _, _, _, e, _⟩
  · have h' := h
    cases h with
    | tup h r => exact ⟨_, _, rfl, sqT_mono (mask_le O H) h.t, r, h'⟩
  · cases e
theorem Rq.dp {d : D} (h : Rq K O H v d) (c : d.canLay0 = true) : Dp K H v d := by
  rcases h with h | ⟨p, vs, ds, rfl, rfl, h, r⟩
  · exact (h.mono (mask_le O H)).dp c
  · exact .lst (SqL.of h) ((r.mono (mask_le O H)).dp (by simpa only [PyData.canLay0] using c))
theorem Rq.non {d : D} (h : Rq K O H v d) : decide (v = .non) = (match d with | .none => true | _ => false) := by
  rcases h with h | ⟨p, vs, ds, rfl, rfl, h, r⟩
  · cases h <;> rfl
  · rfl
theorem new_lst {vs : List V} {ds : List D} {p : Addr} (t : Trk O H) (r : RpAll K (Mask O H) vs ds) (hp : H p = none) : Grow O H (upd H p (.lst vs)) ∧ Rp K (Mask O (upd H p (.lst vs))) (.ref p) (.list ds) := by
  have g := Grow.new (o := .lst vs) t hp
  exact ⟨g, .lst (by rw [mask_out (trk_fresh t hp), upd_same]) (r.mono g.le)⟩
theorem new_tup {vs : List V} {ds : List D} {p : Addr} {o : Obj} (t : Trk O H) (r : RpAll K (Mask O H) vs ds) (hp : H p = none) (ho : o.dict = none) : Grow O H (upd H p (.frz o (.tup vs))) ∧ Rp K (Mask O (upd H p (.frz o (.tup vs)))) (.ref p) (.tuple ds) := by
  have g := Grow.new (o := .frz o (.tup vs)) t hp
  exact ⟨g, .tup (.inl ⟨o, by rw [mask_out (trk_fresh t hp), upd_same], ho⟩) (r.mono g.le)⟩
theorem new_tupW {vs : List V} {ds : List D} {p : Addr} (t : Trk O H) (r : RpAll K (Mask O H) vs ds) (hp : H p = none) : Grow O H (upd H p (.tup vs)) ∧ RpB true K (Mask O (upd H p (.tup vs))) (.ref p) (.tuple ds) := by
  have g := Grow.new (o := .tup vs) t hp
  exact ⟨g, .inr ⟨rfl, p, vs, ds, rfl, rfl, .inl (.inl (by rw [mask_out (trk_fresh t hp), upd_same])), r.mono g.le⟩⟩
end
abbrev KA (K : PySem.W.Frag) (F : Frm) (σ : L2.St) (O : List Addr) (H : Hp) (Q : VK) : Ag → En → Prop := fun a E' => ∀ O' v H', Rel K F O' E' σ H' → Le O H O' H' → AgV K σ O' H' v a → Q v H'
abbrev KAs (K : PySem.W.Frag) (F : Frm) (σ : L2.St) (O : List Addr) (H : Hp) (Q : List V → Hp → Prop) : List Ag → En → Prop := fun as E' => ∀ O' vs H', Rel K F O' E' σ H' → Le O H O' H' → Paired (AgV K σ O' H') vs as → Q vs H'
structure SO (X : Cx) (W : WX) (e : Expr) (t : TE) (m : M Ag) : Prop where
  pe : PE X e t
  rd : ∀ F O E σ H (Q : VK), Rel X.K F O E σ H → Sat (m E) (KA X.K F σ O H Q) (KX X.K X.mg F σ O H W) → t σ H Q
structure SOs (X : Cx) (W : WX) (es : List Expr) (t : TA) (m : M (List Ag)) : Prop where
  pa : PA X es t
  rd : ∀ F O E σ H (Q : List V → Hp → Prop), Rel X.K F O E σ H → Sat (m E) (KAs X.K F σ O H Q) (KX X.K X.mg F σ O H W) → t σ H Q
def mD (m : M D) : M Ag := bnd m fun d => ret (.d d)
def mR (i : Nat) : M Ag := fun E => match E[i]? with
  | some (.dat _) => .ok (.r i) E
  | some (.ow _) => .ok (.r i) E
  | some (.scr _) => .ok (.r i) E
  | _ => .bad
def mV (i : Nat) : M D := fun E => match E[i]? with
  | some (.dat d) => .ok d E
  | _ => .bad
section
variable {X : Cx} {W : WX} {e : Expr} {t : TE}
theorem SE.so {m : M D} (h : SE X W e t m) : SO X W e t (mD m) := ⟨h.pe, fun F O E σ H Q R s => h.rd F O E σ H Q R (s.bnd.mono (fun d E' k O' v H' R' l r => k O' v H' R' l r) (fun _ _ k => k))⟩
theorem se_var {i : Nat} {x : Str} {pos : Pos} (h : PE X (.Name x pos) (tVar i)) : SE X W (.Name x pos) (tVar i) (mV i) := by
  refine ⟨h, fun F O E σ H Q R s => ?_⟩
  unfold mV at s
  cases q : E[i]? with
  | none => rw [q] at s; exact s.elim
  | some z =>
    rw [q] at s
    cases z with
    | dat d =>
      obtain ⟨v, e, r⟩ := R.slot i _ q
      exact ⟨v, e, s O v H R (Le.refl O H) r⟩
    | un => exact s.elim
    | ow _ => exact s.elim
    | scr _ => exact s.elim
theorem so_var {i : Nat} {x : Str} {pos : Pos} (h : PE X (.Name x pos) (tVar i)) : SO X W (.Name x pos) (tVar i) (mR i) := by
  refine ⟨h, fun F O E σ H Q R s => ?_⟩
  unfold mR at s
  cases q : E[i]? with
  | none => rw [q] at s; exact s.elim
  | some z =>
    rw [q] at s
    have z0 := R.slot i _ q
    cases z with
    | dat d =>
      obtain ⟨v, e, r⟩ := z0
      exact ⟨v, e, s O v H R (Le.refl O H) e⟩
    | un => exact s.elim
    | ow _ =>
      obtain ⟨p, vs, e, _⟩ := z0
      exact ⟨_, e, s O _ H R (Le.refl O H) e⟩
    | scr _ =>
      obtain ⟨p, e, _⟩ := z0
      exact ⟨_, e, s O _ H R (Le.refl O H) e⟩
theorem sos_nil : SOs X W [] tNil (ret []) := ⟨pa_nil, fun F O E σ H Q R s => s O [] H R (Le.refl O H) .nil⟩
def mCons (m : M Ag) (ms : M (List Ag)) : M (List Ag) := bnd m fun a => bnd ms fun as => ret (a :: as)
theorem sos_cons {es : List Expr} {ts : TA} {m : M Ag} {ms : M (List Ag)} (pa : PE X e t → PA X es ts → PA X (e :: es) (tCons t ts)) (h : SO X W e t m) (hs : SOs X W es ts ms) : SOs X W (e :: es) (tCons t ts) (mCons m ms) := by
  refine ⟨pa h.pe hs.pa, fun F O E σ H Q R s => h.rd F O E σ H _ R (s.bnd.mono (fun a E1 k O1 v H1 R1 l1 av => ?_) (fun _ _ k => k))⟩
  refine hs.rd F O1 E1 σ H1 _ R1 (k.bnd.mono (fun as E2 k2 O2 vs H2 R2 l2 avs => ?_) (KX.le l1))
  exact k2 O2 (v :: vs) H2 R2 (l1.trans l2) (.cons (av.le l2) avs)
end
end Bt
namespace Bt
open PySem L2
section
open PySem.Spec PyProof.Rows
theorem tuple_mul1 (l : Addr) (items : Array Value) (n : Nat) (dd : Option Addr) (sl : Array (Option Value)) (x : Int) (u : Tok) (c0 : (decide (x < -(2 ^ 63)) || decide (x ≥ 2 ^ 63)) = false) (c1 : (items.isEmpty || x == 1) = true) :
    Meets (Builtin.«tuple.__mul__» ⟨[.ref l, .int x u], []⟩) (fun _ R s => s.heap.get? l = some { cls := .type "tuple", dict := dd, data := .seq items n, slots := sl } ∧ R (.ok (.ret (Value.ref l))) s) :=
  .of_wp fun prog w A R s h => by
    obtain ⟨hp, g, d, tk, os⟩ := s
    obtain ⟨hl, h⟩ := h
    have f1 := AutoSeq1.idx_int
    wp_walk using wpAny_loadPart' hl
    repeat (first
      | (refine wpAny_ite_false (decide_eq_false (by rw [c0]; exact Bool.false_ne_true)) ?_; wp_walk using wpAny_loadPart' hl)
      | (refine wpAny_ite_true (decide_eq_true (by rw [c1])) ?_; wp_walk using wpAny_loadPart' hl))
    exact ⟨_, rfl, h⟩
theorem tuple_mul0 (l : Addr) (items : Array Value) (n : Nat) (dd : Option Addr) (sl : Array (Option Value)) (x : Int) (u : Tok) (c0 : (decide (x < -(2 ^ 63)) || decide (x ≥ 2 ^ 63)) = false) (c1 : (items.isEmpty || x == 1) = false) (c2 : (decide (x ≤ 0) || items.isEmpty) = true) :
    Meets (Builtin.«tuple.__mul__» ⟨[.ref l, .int x u], []⟩) (fun _ R s => s.heap.get? l = some { cls := .type "tuple", dict := dd, data := .seq items n, slots := sl } ∧
      R (.ok (.ret (Value.ref s.heap.objs.size))) { s with heap := s.heap.push { cls := Value.type "tuple", data := Data.seq #[] }, toks := s.toks }) :=
  .of_wp fun prog w A R s h => by
    obtain ⟨hp, g, d, tk, os⟩ := s
    obtain ⟨hl, h⟩ := h
    have f1 := AutoSeq1.idx_int
    wp_walk using wpAny_loadPart' hl
    repeat (first
      | (refine wpAny_ite_false (decide_eq_false (by rw [c0]; exact Bool.false_ne_true)) ?_; wp_walk using wpAny_loadPart' hl)
      | (refine wpAny_ite_false (decide_eq_false (by rw [c1]; exact Bool.false_ne_true)) ?_; wp_walk using wpAny_loadPart' hl)
      | (refine wpAny_ite_true (decide_eq_true (by rw [c2])) ?_; wp_walk using wpAny_loadPart' hl))
    exact ⟨_, rfl, h⟩
end
section
open PySem.Spec PyProof.Rows
variable {X : Cx}
def rRepP (K : PySem.W.Frag) : R2 := fun x y H Q => ∃ l k xs, x = .ref l ∧ y = .int k ∧ SqT K H l xs ∧ -1000 ≤ k ∧ k ≤ 1000 ∧ xs.length ≤ 1000 ∧ (xs = [] ∨ k = 1 → Q (.ref l) H) ∧ (xs ≠ [] → k ≠ 1 → ∀ p o, H p = none → o.dict = none → Q (.ref p) (upd H p (.frz o (.tup (List.replicate k.toNat xs).flatten))))
theorem op_repP : OpR X (binaryOp .Mult) (rRepP X.K) := by
  intro pins s σ H x y v u Q I rx ry h
  obtain ⟨l, k, xs, rfl, rfl, hT, h0, h2, hz, q1, q2⟩ := h
  cases rx
  obtain ⟨t, rfl⟩ := ry
  obtain ⟨its, r, ⟨⟨cls, dd, data, sl⟩, ho, hc, n, hd⟩, hs⟩ := I.tuple hT
  simp only at hc hd
  subst hc hd
  have hle : its.length = xs.length := r.length.symm
  have c0 : (decide (k < -(2 ^ 63)) || decide (k ≥ 2 ^ 63)) = false := by
    rw [decide_eq_false (by omega), decide_eq_false (by omega)] <;> rfl
  by_cases hk : xs = [] ∨ k = 1
  · have c1 : (its.toArray.isEmpty || k == 1) = true := by
      rcases hk with rfl | rfl
      · have : its = [] := List.eq_nil_of_length_eq_zero (by rw [hle]; rfl)
        subst this
        rfl
      · simp
    refine wpAny_binaryOp_repeat_ref (T := "tuple") (U := "int") (by decide) ⟨_, ho, rfl⟩ (fun s' => typeIs_int s' k t) noFill_tuple_mul F.fills_int_mul F.slot_int_rmul repeat_tuple F.slot_int_index.lookup
      (call_meets F.slot_int_rmul (typeIs_int s k t) F.entry_int_rmul (F.args_int_rmul_2 _ _) (int_rmul_tuple k t l its.toArray n dd sl)
        ⟨ho, rfl, ⟨_, ho, rfl⟩, call_meets F.slot_tuple_mul ⟨_, ho, rfl⟩ F.entry_tuple_mul (F.args_tuple_mul_2 _ _) (tuple_mul1 l its.toArray n dd sl k t c0 c1) ⟨ho, ?_⟩⟩)
    exact ⟨.ref l, H, I, rfl, q1 hk⟩
  · have hne : xs ≠ [] := fun e => hk (.inl e)
    have hk1 : k ≠ 1 := fun e => hk (.inr e)
    have hn : its ≠ [] := fun e => hne (by
      rw [e] at hle
      exact List.eq_nil_of_length_eq_zero hle.symm)
    have hi : its.toArray.isEmpty = false := by
      cases its with
      | nil => exact absurd rfl hn
      | cons a b => rfl
    have c1 : (its.toArray.isEmpty || k == 1) = false := by
      rw [hi, Bool.false_or]
      exact beq_eq_false_iff_ne.mpr hk1
    by_cases h1 : k ≤ 0
    · have c2 : (decide (k ≤ 0) || its.toArray.isEmpty) = true := by rw [decide_eq_true h1]; rfl
      refine wpAny_binaryOp_repeat_ref (T := "tuple") (U := "int") (by decide) ⟨_, ho, rfl⟩ (fun s' => typeIs_int s' k t) noFill_tuple_mul F.fills_int_mul F.slot_int_rmul repeat_tuple F.slot_int_index.lookup
        (call_meets F.slot_int_rmul (typeIs_int s k t) F.entry_int_rmul (F.args_int_rmul_2 _ _) (int_rmul_tuple k t l its.toArray n dd sl)
          ⟨ho, rfl, ⟨_, ho, rfl⟩, call_meets F.slot_tuple_mul ⟨_, ho, rfl⟩ F.entry_tuple_mul (F.args_tuple_mul_2 _ _) (tuple_mul0 l its.toArray n dd sl k t c0 c1 c2) ⟨ho, ?_⟩⟩)
      have hq := q2 hne hk1
      rw [show k.toNat = 0 by omega, List.replicate_zero, List.flatten_nil] at hq
      exact ⟨.ref s.heap.objs.size, _, laidP (tk := s.toks) (xs := []) (its := []) I (Nat.zero_le _) .nil, rfl, hq _ _ (I.hok.fresh (Nat.le_refl _)) rfl⟩
    · have hsz0 : its.toArray.size = xs.length := by rw [List.size_toArray, hle]
      have hm : ((its.toArray.size : Nat) : Int) * k ≤ 1000000 := by
        rw [hsz0]
        have a1 : ((xs.length : Nat) : Int) * k ≤ 1000 * k := Int.mul_le_mul_of_nonneg_right (by omega) (by omega)
        omega
      have flen : (List.replicate k.toNat its).flatten.length ≤ sizeLine := by
        rw [PyProof.Rows.lm_len_rep_flat, hle, sizeLine_eq]
        have a1 : k.toNat * xs.length ≤ 1000 * 1000 := Nat.mul_le_mul (by omega) hz
        omega
      have c2 : (decide (k ≤ 0) || its.toArray.isEmpty) = false := by
        rw [hi, Bool.or_false]
        exact decide_eq_false (by omega)
      have c4 : Builtin.Tuple.tupleTooMany (((its.toArray.size : Nat) : Int) * k) = false := by
        unfold Builtin.Tuple.tupleTooMany
        rw [sizeLine_eq]
        exact decide_eq_false (by omega)
      refine wpAny_binaryOp_repeat_ref (T := "tuple") (U := "int") (by decide) ⟨_, ho, rfl⟩ (fun s' => typeIs_int s' k t) noFill_tuple_mul F.fills_int_mul F.slot_int_rmul repeat_tuple F.slot_int_index.lookup
        (call_meets F.slot_int_rmul (typeIs_int s k t) F.entry_int_rmul (F.args_int_rmul_2 _ _) (int_rmul_tuple k t l its.toArray n dd sl)
          ⟨ho, rfl, ⟨_, ho, rfl⟩, call_meets F.slot_tuple_mul ⟨_, ho, rfl⟩ F.entry_tuple_mul (F.args_tuple_mul_2 _ _) (tuple_mulW l its.toArray n dd sl k t c0 c1 c2 (by omega) c4 (by rw [size_rep, List.size_toArray]; exact flen)) ⟨ho, ?_⟩⟩)
      rw [size_rep]
      exact ⟨.ref s.heap.objs.size, _, laidP (tk := s.toks) (xs := (List.replicate k.toNat xs).flatten) I (by rw [(r.rep k.toNat).length]; exact flen) (r.rep k.toNat), rfl, q2 hne hk1 _ _ (I.hok.fresh (Nat.le_refl _)) rfl⟩
end
end Bt
namespace Bt
open PySem L2

def okI (i : Int) : Bool := decide (i.natAbs.log2 < 9000)
def LIM : Nat := 100000
theorem lim_le {n : Nat} (h : n ≤ LIM) : n ≤ sizeLine := Nat.le_trans h (by decide)
theorem lim_lt {n : Nat} (h : n < LIM) : n < sizeLine := Nat.lt_of_lt_of_le h (by decide)
noncomputable def repOk (n : Nat) (k : Int) : Bool := @decide (k ≤ 100000 ∧ -100000 ≤ k ∧ n * k.toNat ≤ 100000) (Classical.propDecidable _)
theorem repOk_iff {n : Nat} {k : Int} : repOk n k = true ↔ k ≤ 100000 ∧ -100000 ≤ k ∧ n * k.toNat ≤ 100000 := by
  unfold repOk
  exact @decide_eq_true_iff _ (Classical.propDecidable _)
noncomputable def repT (n : Nat) (k : Int) : Bool := @decide (-1000 ≤ k ∧ k ≤ 1000 ∧ n ≤ 1000) (Classical.propDecidable _)
theorem repT_iff {n : Nat} {k : Int} : repT n k = true ↔ -1000 ≤ k ∧ k ≤ 1000 ∧ n ≤ 1000 := by
  unfold repT
  exact @decide_eq_true_iff _ (Classical.propDecidable _)
def addD : D → D → Option D
  | .int i, .int j => some (.int (i + j))
  | .list a, .list b => if a.length + b.length ≤ LIM then some (.list (a ++ b)) else none
  | .tuple a, .tuple b => if a.length + b.length ≤ LIM then some (.tuple (a ++ b)) else none
  | .str a, .str b => if a.length + b.length ≤ LIM then some (.str (a ++ b)) else none
  | _, _ => none
def subD : D → D → Option D
  | .int i, .int j => some (.int (i - j))
  | _, _ => none
noncomputable def mulD : D → D → Option D
  | .int i, .int j => if okI i && okI j then some (.int (i * j)) else none
  | .list a, .int k => if repOk a.length k then some (.list (List.replicate k.toNat a).flatten) else none
  | .tuple a, .int k => if repT a.length k then some (.tuple (List.replicate k.toNat a).flatten) else none
  | _, _ => none
def fdivD : D → D → Option D
  | .int i, .int j => if decide (0 < j) && okI j then some (.int (i / j)) else none
  | _, _ => none
def modD : D → D → Option D
  | .int i, .int j => if 0 < j then some (.int (i % j)) else none
  | _, _ => none
def powD : D → D → Option D
  | .int i, .int j => if decide (0 ≤ j) && decide (j ≤ 1000000) && decide (i.natAbs < 2 ^ 64) then some (.int (i ^ j.toNat)) else none
  | _, _ => none
def ltD : D → D → Option D
  | .int i, .int j => some (.bool (decide (i < j)))
  | _, _ => none
def leD : D → D → Option D
  | .int i, .int j => some (.bool (decide (i ≤ j)))
  | _, _ => none
def gtD : D → D → Option D
  | .int i, .int j => some (.bool (decide (j < i)))
  | _, _ => none
def geD : D → D → Option D
  | .int i, .int j => some (.bool (decide (j ≤ i)))
  | _, _ => none
def eqD (d e : D) : Option D := if SeqAt.shaped d && SeqAt.shaped e then some (.bool (PyData.eqv d e)) else none
def neD (d e : D) : Option D := if SeqAt.shaped d && SeqAt.shaped e then some (.bool (!PyData.eqv d e)) else none
def isNone : D → Bool
  | .none => true
  | _ => false
def isD (d e : D) : Option D := match e with
  | .none => some (.bool (isNone d))
  | _ => none
def isntD (d e : D) : Option D := match e with
  | .none => some (.bool (!isNone d))
  | _ => none
def flatD : D → Bool
  | .none | .bool _ | .int _ | .str _ => true
  | _ => false
def signOf : D → Option Nat
  | .str x => match x.cps.toList with
    | [c] => some c
    | _ => none
  | _ => none
def inD (d e : D) : Option D := match e with
  | .str z => (signOf d).map fun c => .bool (decide (c ∈ z.cps.toList))
  | .list ds => if flatD d && ds.all flatD then some (.bool (ds.any fun y => PyData.eqv y d)) else none
  | .tuple ds => if flatD d && ds.all flatD then some (.bool (ds.any fun y => PyData.eqv y d)) else none
  | _ => none
def ninD (d e : D) : Option D := match e with
  | .str z => (signOf d).map fun c => .bool (!decide (c ∈ z.cps.toList))
  | .list ds => if flatD d && ds.all flatD then some (.bool (!(ds.any fun y => PyData.eqv y d))) else none
  | .tuple ds => if flatD d && ds.all flatD then some (.bool (!(ds.any fun y => PyData.eqv y d))) else none
  | _ => none
def ixD : D → D → Option D
  | .list ds, .int i => atI ds i
  | .tuple ds, .int i => atI ds i
  | .str z, .int i => if z.length ≤ LIM then (atI z.cps.toList i).map fun c => .str ⟨#[c]⟩ else none
  | _, _ => none
def cutD (xs : List D) (lo hi : Option Int) : List D := (xs.drop (HT.sIx xs.length 0 lo)).take (HT.sIx xs.length xs.length hi - HT.sIx xs.length 0 lo)

def ROk (K : PySem.W.Frag) (r : R2) (f : D → D → Option D) : Prop := ∀ O H x y d e z Q, Trk O H → Rq K O H x d → Rq K O H y e → f d e = some z → (∀ v H', Grow O H H' → Rp K (Mask O H') v z → Q v H') → r x y H Q
def COk (K : PySem.W.Frag) (r : List V → Hp → VK → Prop) (f : List D → Option D) : Prop := ∀ O H vs ds z Q, Trk O H → Paired (Rq K O H) vs ds → f ds = some z → (∀ v H', Grow O H H' → Rp K (Mask O H') v z → Q v H') → r vs H Q
section
variable {K : PySem.W.Frag}
def rAddS : R2 := fun x y H Q => ∃ i j, x = .str i ∧ y = .str j ∧ i.length + j.length ≤ sizeLine ∧ Q (.str (i ++ j)) H
def rAdd (K : PySem.W.Frag) : R2 := fun x y H Q => (rI0 fun i j => .int (i + j)) x y H Q ∨ (rCat x y H Q ∨ (rCatP K x y H Q ∨ rAddS x y H Q))
theorem op_Add {X : Cx} : OpR X (binaryOp .Add) (rAdd X.K) := op_add.or (op_cat.or (op_catP.or op_add_str))
theorem ok_add : ROk K (rAdd K) addD := by
  intro O H x y d e z Q t hx hy hf q
  unfold addD at hf
  split at hf
  · cases hf
    exact .inl ⟨_, _, hx.int, hy.int, q _ H (Grow.refl O H) (.int _)⟩
  · rename_i a b
    split at hf
    · rename_i hl
      cases hf
      obtain ⟨p, vs, rfl, hp, r1⟩ := hx.list
      obtain ⟨p2, ws, rfl, hp2, r2⟩ := hy.list
      refine .inr (.inl ⟨p, p2, vs, ws, rfl, rfl, hp, hp2, by rw [r1.length, r2.length]; exact lim_le hl, fun l nl => ?_⟩)
      obtain ⟨g, r⟩ := new_lst t (r1.append r2) nl
      exact q _ _ g r
    · cases hf
  · rename_i a b
    split at hf
    · rename_i hl
      cases hf
      obtain ⟨p, vs, rfl, hp, r1, rr1⟩ := hx.tuple
      obtain ⟨p2, ws, rfl, hp2, r2, rr2⟩ := hy.tuple
      refine .inr (.inr (.inl ⟨p, p2, vs, ws, rfl, rfl, hp, hp2, by rw [r1.length, r2.length]; exact lim_le hl, fun e => ?_, fun _ e => ?_, fun _ _ l o nl ho => ?_⟩))
      · subst e
        have ea : a = [] := List.eq_nil_of_length_eq_zero (by rw [← r1.length]; rfl)
        subst ea
        exact q _ _ (Grow.refl O H) rr2
      · subst e
        have ea : b = [] := List.eq_nil_of_length_eq_zero (by rw [← r2.length]; rfl)
        subst ea
        rw [List.append_nil] at q
        exact q _ _ (Grow.refl O H) rr1
      · obtain ⟨g, r⟩ := new_tup t (r1.append r2) nl ho
        exact q _ _ g r
    · cases hf
  · split at hf
    · rename_i hl
      cases hf
      exact .inr (.inr (.inr ⟨_, _, hx.str, hy.str, lim_le hl, q _ H (Grow.refl O H) (.str _)⟩))
    · cases hf
  · cases hf
theorem ok_sub : ROk K (rI0 fun i j => .int (i - j)) subD := by
  intro O H x y d e z Q t hx hy hf q
  unfold subD at hf
  split at hf
  · cases hf
    exact ⟨_, _, hx.int, hy.int, q _ H (Grow.refl O H) (.int _)⟩
  · cases hf
def rMul (K : PySem.W.Frag) : R2 := fun x y H Q => (rI CMulW fun i j => .int (i * j)) x y H Q ∨ (rRep x y H Q ∨ rRepP K x y H Q)
theorem op_Mul {X : Cx} : OpR X (binaryOp .Mult) (rMul X.K) := op_mulW.or (op_rep.or op_repP)
theorem ok_mul : ROk K (rMul K) mulD := by
  intro O H x y d e z Q t hx hy hf q
  unfold mulD at hf
  split at hf
  · split at hf
    · rename_i hl
      cases hf
      rw [Bool.and_eq_true] at hl
      refine .inl ⟨_, _, hx.int, hy.int, ?_, q _ H (Grow.refl O H) (.int _)⟩
      have h1 := of_decide_eq_true hl.1
      have h2 := of_decide_eq_true hl.2
      unfold CMulW
      omega
    · cases hf
  · rename_i a k
    split at hf
    · rename_i hl
      cases hf
      obtain ⟨h1, h2, h3⟩ := repOk_iff.mp hl
      have e0 : LIM = 100000 := rfl
      obtain ⟨p, vs, rfl, hp, r1⟩ := hx.list
      refine .inr (.inl ⟨p, k, vs, rfl, hy.int, hp, by omega, by omega, by rw [r1.length]; exact lim_le h3, fun l nl => ?_⟩)
      obtain ⟨g, r⟩ := new_lst t (r1.repeat k.toNat) nl
      exact q _ _ g r
    · cases hf
  · rename_i a k
    split at hf
    · rename_i hl
      cases hf
      obtain ⟨h1, h2, h3⟩ := repT_iff.mp hl
      obtain ⟨p, vs, rfl, hp, r1, rr⟩ := hx.tuple
      refine .inr (.inr ⟨p, k, vs, rfl, hy.int, hp, h1, h2, by rw [r1.length]; exact h3, fun hk => ?_, fun _ _ l o nl ho => ?_⟩)
      · have e : (List.replicate k.toNat a).flatten = a := by
          rcases hk with rfl | rfl
          · have ea : a = [] := List.eq_nil_of_length_eq_zero (by rw [← r1.length]; rfl)
            subst ea
            simp
          · simp
        rw [e] at q
        exact q _ _ (Grow.refl O H) rr
      · obtain ⟨g, r⟩ := new_tup t (r1.repeat k.toNat) nl ho
        exact q _ _ g r
    · cases hf
  · cases hf
theorem ok_fdiv : ROk K (rI CDivW fun i j => .int (i / j)) fdivD := by
  intro O H x y d e z Q t hx hy hf q
  unfold fdivD at hf
  split at hf
  · split at hf
    · rename_i hl
      cases hf
      rw [Bool.and_eq_true] at hl
      exact ⟨_, _, hx.int, hy.int, ⟨of_decide_eq_true hl.1, of_decide_eq_true hl.2⟩, q _ H (Grow.refl O H) (.int _)⟩
    · cases hf
  · cases hf
theorem ok_mod : ROk K (rI (fun _ j => 0 < j) fun i j => .int (i % j)) modD := by
  intro O H x y d e z Q t hx hy hf q
  unfold modD at hf
  split at hf
  · split at hf
    · rename_i hl
      cases hf
      exact ⟨_, _, hx.int, hy.int, hl, q _ H (Grow.refl O H) (.int _)⟩
    · cases hf
  · cases hf
theorem ok_pow : ROk K (rI CPow fun i j => .int (i ^ j.toNat)) powD := by
  intro O H x y d e z Q t hx hy hf q
  unfold powD at hf
  split at hf
  · split at hf
    · rename_i hl
      cases hf
      rw [Bool.and_eq_true, Bool.and_eq_true] at hl
      exact ⟨_, _, hx.int, hy.int, ⟨of_decide_eq_true hl.1.1, of_decide_eq_true hl.1.2, of_decide_eq_true hl.2⟩, q _ H (Grow.refl O H) (.int _)⟩
    · cases hf
  · cases hf
theorem ok_lt : ROk K (rI0 fun i j => .bl (decide (i < j))) ltD := by
  intro O H x y d e z Q t hx hy hf q
  unfold ltD at hf
  split at hf
  · cases hf
    exact ⟨_, _, hx.int, hy.int, q _ H (Grow.refl O H) (.bl _)⟩
  · cases hf
theorem ok_gt : ROk K (rI0 fun i j => .bl (decide (j < i))) gtD := by
  intro O H x y d e z Q t hx hy hf q
  unfold gtD at hf
  split at hf
  · cases hf
    exact ⟨_, _, hx.int, hy.int, q _ H (Grow.refl O H) (.bl _)⟩
  · cases hf
theorem ok_ge : ROk K (rI0 fun i j => .bl (decide (j ≤ i))) geD := by
  intro O H x y d e z Q t hx hy hf q
  unfold geD at hf
  split at hf
  · cases hf
    exact ⟨_, _, hx.int, hy.int, q _ H (Grow.refl O H) (.bl _)⟩
  · cases hf
theorem ok_eq : ROk K (rEqD K) eqD := by
  intro O H x y d e z Q t hx hy hf q
  unfold eqD at hf
  split at hf
  · rename_i hl
    cases hf
    rw [Bool.and_eq_true] at hl
    exact ⟨d, e, hx.dp (SeqAt.canLay_of_shaped hl.1), hy.dp (SeqAt.canLay_of_shaped hl.2), hl.1, hl.2, q _ H (Grow.refl O H) (.bl _)⟩
  · cases hf
theorem ok_ne : ROk K (rNeD K) neD := by
  intro O H x y d e z Q t hx hy hf q
  unfold neD at hf
  split at hf
  · rename_i hl
    cases hf
    rw [Bool.and_eq_true] at hl
    exact ⟨d, e, hx.dp (SeqAt.canLay_of_shaped hl.1), hy.dp (SeqAt.canLay_of_shaped hl.2), hl.1, hl.2, q _ H (Grow.refl O H) (.bl _)⟩
  · cases hf
theorem Rq.isNone {O : List Addr} {H : Hp} {v : V} {d : D} (h : Rq K O H v d) : decide (v = .non) = Bt.isNone d := by
  rw [h.non]
  cases d <;> rfl
theorem ok_is : ROk K (fun x y H Q => y = .non ∧ Q (.bl (decide (x = .non))) H) isD := by
  intro O H x y d e z Q t hx hy hf q
  unfold isD at hf
  split at hf
  · cases hf
    rcases hy with hy | ⟨_, _, _, _, e, _⟩
    · cases hy
      exact ⟨rfl, q _ H (Grow.refl O H) (by rw [hx.isNone]; exact .bl _)⟩
    · cases e
  · cases hf
theorem ok_isnt : ROk K (fun x y H Q => y = .non ∧ Q (.bl (!decide (x = .non))) H) isntD := by
  intro O H x y d e z Q t hx hy hf q
  unfold isntD at hf
  split at hf
  · cases hf
    rcases hy with hy | ⟨_, _, _, _, e, _⟩
    · cases hy
      exact ⟨rfl, q _ H (Grow.refl O H) (by rw [hx.isNone]; exact .bl _)⟩
    · cases e
  · cases hf
theorem Rp.eqv {G : Hp} {v u : V} {d e : D} (h : Rp K G v d) (h2 : Rp K G u e) (f : flatD d = true) (f2 : flatD e = true) : eqV v u = PyData.eqv d e := by
  cases h <;> cases h2 <;> first | exact absurd f Bool.false_ne_true | exact absurd f2 Bool.false_ne_true | rfl | simp [eqV, PyData.eqv]
theorem Rq.rp {O : List Addr} {H : Hp} {v : V} {d : D} (h : Rq K O H v d) (f : flatD d = true) : Rp K (Mask O H) v d := by
  rcases h with h | ⟨_, _, _, _, e, _⟩
  · exact h
  · subst e; exact absurd f Bool.false_ne_true
theorem RpAll.atI {G : Hp} {vs : List V} {ds : List D} {i : Int} {d : D} (r : RpAll K G vs ds) (h : L2.atI ds i = some d) : ∃ v, L2.atI vs i = some v ∧ Rp K G v d := by
  unfold L2.atI at h ⊢
  rw [r.length]
  cases e : ixN ds.length i with
  | none => rw [e] at h; cases h
  | some j =>
    rw [e] at h
    obtain ⟨v, h1, h2⟩ := r.get' (show ds[j]? = some d from h)
    exact ⟨v, h1, h2⟩
def rIxB (K : PySem.W.Frag) : R2 := fun x y H Q => rIxL K x y H Q ∨ (rIxT K x y H Q ∨ rIxS x y H Q)
theorem ix_B {X : Cx} : IxR X (rIxB X.K) := ix_list.or (ix_tup.or ix_str)
theorem ok_ix : ROk K (rIxB K) ixD := by
  intro O H x y d e z Q t hx hy hf q
  unfold ixD at hf
  split at hf
  · obtain ⟨p, vs, rfl, hp, r1⟩ := hx.list
    obtain ⟨v, h1, h2⟩ := r1.atI hf
    exact .inl ⟨p, vs, _, v, rfl, hy.int, SqL.of hp, h1, q v H (Grow.refl O H) h2⟩
  · obtain ⟨p, vs, rfl, hp, r1, _⟩ := hx.tuple
    obtain ⟨v, h1, h2⟩ := r1.atI hf
    exact .inr (.inl ⟨p, vs, _, v, rfl, hy.int, hp, h1, q v H (Grow.refl O H) h2⟩)
  · split at hf
    · rename_i w i hl
      cases e1 : L2.atI w.cps.toList i with
      | none => rw [e1] at hf; cases hf
      | some c =>
        rw [e1] at hf
        cases hf
        exact .inr (.inr ⟨w, i, c, hx.str, hy.int, lim_le hl, e1, q _ H (Grow.refl O H) (.str _)⟩)
    · cases hf
  · cases hf
end

def mOp (f : D → D → Option D) (ma mb : M Ag) : M D := bnd ma fun a => bnd mb fun b => fun E => match rsv E a, rsv E b with
  | some x, some y => lift (f x y) E
  | _, _ => .bad
section
variable {X : Cx} {W : WX} {a b c : Expr} {ta tb tc : TE} {ma mb mc : M Ag}
theorem op_rd {r : R2} {f : D → D → Option D} (ha : SO X W a ta ma) (hb : SO X W b tb mb) (hr : ROk X.K r f) : ∀ F O E σ H (Q : VK), Rel X.K F O E σ H → Sat (mOp f ma mb E) (KD X.K F σ O H Q) (KX X.K X.mg F σ O H W) → tOp r ta tb σ H Q := by
  intro F O E σ H Q R s
  refine ha.rd F O E σ H _ R (s.bnd.mono (fun a1 E1 k O1 v H1 R1 l1 av => ?_) (fun _ _ k => k))
  refine hb.rd F O1 E1 σ H1 _ R1 (k.bnd.mono (fun b1 E2 k2 O2 u H2 R2 l2 bv => ?_) (KX.le l1))
  cases ea : rsv E2 a1 with
  | none => rw [ea] at k2; exact k2.elim
  | some x =>
    cases eb : rsv E2 b1 with
    | none => rw [ea, eb] at k2; exact k2.elim
    | some y =>
      rw [ea, eb] at k2
      obtain ⟨z, hz, k3⟩ := Sat.lift k2
      refine hr O2 H2 v u x y z Q R2.trk (R2.rsv (av.le l2) ea) (R2.rsv bv eb) hz fun w H3 g rw3 => ?_
      exact k3 O2 w H3 (R2.grow g) ((l1.trans l2).trans g.le) rw3
theorem se_op {op : Operator} {pos : Pos} {r : R2} {f : D → D → Option D} (ho : OpR X (binaryOp op) r) (hr : ROk X.K r f) (ha : SO X W a ta ma) (hb : SO X W b tb mb) : SE X W (.BinOp a op b pos) (tOp r ta tb) (mOp f ma mb) :=
  ⟨pe_op ho ha.pe hb.pe, op_rd ha hb hr⟩
theorem se_cmp {op : CmpOp} {pos : Pos} {r : R2} {f : D → D → Option D} (ho : OpR X (compareOp op) r) (hr : ROk X.K r f) (hm : behindInMarks op b = false) (ha : SO X W a ta ma) (hb : SO X W b tb mb) : SE X W (.Compare a [op] [b] pos) (tOp r ta tb) (mOp f ma mb) :=
  ⟨pe_cmpR ho ha.pe hb.pe hm, op_rd ha hb hr⟩
theorem se_ix {pos : Pos} (hs : PlainIx b) (ha : SO X W a ta ma) (hb : SO X W b tb mb) : SE X W (.Subscript a b pos) (tOp (rIxB X.K) ta tb) (mOp ixD ma mb) :=
  ⟨pe_ix ix_B ha.pe hb.pe hs, op_rd ha hb ok_ix⟩
def asB : D → M Bool
  | .bool b => ret b
  | _ => stuck
theorem st_val {e : Expr} {t : TE} {m : M D} (h : SE X W e t m) (he : ∀ whole, isTrue e X.env whole = (do let v ← whole; standAt e.pos; holding [v] (truthy v)) := by intro _; rfl) : STt X W e (tB t) (bnd m asB) := by
  refine ⟨pt_val h.pe he, fun F O E σ H Q R s => h.rd F O E σ H _ R (s.bnd.mono (fun d E1 k O1 v H1 R1 l1 r => ?_) (fun _ _ k => k))⟩
  cases d <;> first | (exact k.elim) | skip
  cases r
  exact ⟨_, rfl, k O1 H1 R1 l1⟩
theorem st_cmp {op : CmpOp} {pos : Pos} {r : R2} {f : D → D → Option D} (ho : OpR X (compareOp op) r) (hr : ROk X.K r f) (hm : behindInMarks op b = false) (ha : SO X W a ta ma) (hb : SO X W b tb mb) : STt X W (.Compare a [op] [b] pos) (tTest (tOp r ta tb)) (bnd (mOp f ma mb) asB) := by
  refine ⟨pt_cmpR ho ha.pe hb.pe hm, fun F O E σ H Q R s => op_rd ha hb hr F O E σ H _ R (s.bnd.mono (fun d E1 k O1 v H1 R1 l1 r => ?_) (fun _ _ k => k))⟩
  cases d <;> first | (exact k.elim) | skip
  cases r
  exact ⟨_, rfl, k O1 H1 R1 l1⟩
def mChain (f g : D → D → Option D) (ma mb mc : M Ag) : M D := bnd ma fun a => bnd mb fun b => fun E => match rsv E a, rsv E b with
  | some x, some y => match f x y with
    | some (.bool true) => (bnd mc fun c => fun E => match rsv E b, rsv E c with
      | some y, some z => lift (g y z) E
      | _, _ => .bad) E
    | some (.bool false) => .ok (.bool false) E
    | _ => .bad
  | _, _ => .bad
end
end Bt
namespace Bt
open PySem L2

section
variable {X : Cx} {W : WX} {a b c e : Expr} {ta tb tc t : TE} {ma mb mc m : M D}

theorem se_c {v : V} {d : D} (h : PE X e (tC v)) (r : ∀ G, Rp X.K G v d) : SE X W e (tC v) (ret d) := ⟨h, fun F O E σ H Q R s => s O v H R (Le.refl O H) (r _)⟩
theorem se_int {i : Int} {j : Nat} {pos : Pos} : SE X W (.Constant (.int i) j pos) (tC (.int i)) (ret (.int i)) := se_c pe_int fun _ => .int _
theorem se_bl {i : Bool} {j : Nat} {pos : Pos} : SE X W (.Constant (.bool i) j pos) (tC (.bl i)) (ret (.bool i)) := se_c pe_bl fun _ => .bl _
theorem se_non {j : Nat} {pos : Pos} : SE X W (.Constant .none j pos) (tC .non) (ret .none) := se_c pe_non fun _ => .non
theorem se_str {i : Str} {j : Nat} {pos : Pos} : SE X W (.Constant (.str i) j pos) (tC (.str i)) (ret (.str i)) := se_c pe_str fun _ => .str _
def mNeg (m : M Ag) : M D := bnd m fun a => fun E => match rsv E a with
  | some (.int i) => .ok (.int (-i)) E
  | _ => .bad
theorem se_neg {m : M Ag} {pos : Pos} (h : SO X W e t m) : SE X W (.UnaryOp .USub e pos) (tUn (rU fun i => .int (-i)) t) (mNeg m) := by
  refine ⟨pe_un un_neg h.pe, fun F O E σ H Q R s => h.rd F O E σ H _ R (s.bnd.mono (fun a E1 k O1 v H1 R1 l1 av => ?_) (fun _ _ k => k))⟩
  cases ea : rsv E1 a with
  | none => rw [ea] at k; exact k.elim
  | some x =>
    rw [ea] at k
    have rq := R1.rsv av ea
    cases x <;> first | exact k.elim | skip
    exact ⟨_, rq.int, k O1 _ H1 R1 l1 (.int _)⟩

theorem sa_nil : SA X W [] tNil (ret []) := ⟨pa_nil, fun F O E σ H Q R s => s O [] H R (Le.refl O H) .nil⟩
def mConsD (m : M D) (ms : M (List D)) : M (List D) := bnd m fun a => bnd ms fun as => ret (a :: as)
theorem sa_cons {es : List Expr} {ts : TA} {ms : M (List D)} (h : SE X W e t m) (hs : SA X W es ts ms) (hst : starEach (e :: es) X.env = (false, eval e X.env) :: starEach es X.env := by rfl) : SA X W (e :: es) (tCons t ts) (mConsD m ms) := by
  refine ⟨pa_cons h.pe hs.pa hst, fun F O E σ H Q R s => h.rd F O E σ H _ R (s.bnd.mono (fun a E1 k O1 v H1 R1 l1 r1 => ?_) (fun _ _ k => k))⟩
  refine hs.rd F O1 E1 σ H1 _ R1 (k.bnd.mono (fun as E2 k2 O2 vs H2 R2 l2 r2 => ?_) (KX.le l1))
  exact k2 O2 (v :: vs) H2 R2 (l1.trans l2) (.cons (r1.mono l2) r2)
def mTup (ms : M (List D)) : M D := bnd ms fun ds => fun E => if ds.length ≤ LIM then .ok (.tuple ds) E else .bad
def mLst (ms : M (List D)) : M D := bnd ms fun ds => fun E => if ds.length ≤ LIM then .ok (.list ds) E else .bad
theorem se_tup {es : List Expr} {ts : TA} {ms : M (List D)} {k : Nat} {pos : Pos} (h : SA X W es ts ms) : SE X W (.Tuple es k pos) (tTupP ts) (mTup ms) := by
  refine ⟨pe_tupP h.pa, fun F O E σ H Q R s => h.rd F O E σ H _ R (s.bnd.mono (fun ds E1 k O1 vs H1 R1 l1 r1 => ?_) (fun _ _ k => k))⟩
  split at k
  · rename_i hl
    refine ⟨by rw [r1.length]; exact lim_le hl, fun p o np ho => ?_⟩
    obtain ⟨g, r⟩ := new_tup R1.trk r1 np ho
    exact k O1 _ _ (R1.grow g) (l1.trans g.le) r
  · exact k.elim
theorem se_lst {es : List Expr} {ts : TA} {ms : M (List D)} {pos : Pos} (h : SA X W es ts ms) : SE X W (.List es pos) (tLst ts) (mLst ms) := by
  refine ⟨pe_lst h.pa, fun F O E σ H Q R s => h.rd F O E σ H _ R (s.bnd.mono (fun ds E1 k O1 vs H1 R1 l1 r1 => ?_) (fun _ _ k => k))⟩
  split at k
  · rename_i hl
    refine ⟨by rw [r1.length]; exact lim_le hl, fun p np => ?_⟩
    obtain ⟨g, r⟩ := new_lst R1.trk r1 np
    exact k O1 _ _ (R1.grow g) (l1.trans g.le) r
  · exact k.elim

def mIf {α : Type} (mt : M Bool) (x y : M α) : M α := bnd mt fun b => if b then x else y
theorem se_if {tt : TT} {mt : M Bool} {pos : Pos} (hc : STt X W c tt mt) (ha : SE X W a ta ma) (hb : SE X W b tb mb) : SE X W (.IfExp c a b pos) (tIf tt ta tb) (mIf mt ma mb) := by
  refine ⟨pe_ifExp hc.pt ha.pe hb.pe, fun F O E σ H Q R s => hc.rd F O E σ H _ R (s.bnd.mono (fun b E1 k O1 H1 R1 l1 => ?_) (fun _ _ k => k))⟩
  cases b with
  | true =>
    show ta σ H1 Q
    exact ha.rd F O1 E1 σ H1 Q R1 (Sat.mono k (fun d E2 k2 O2 v H2 R2 l2 r => k2 O2 v H2 R2 (l1.trans l2) r) (KX.le l1))
  | false =>
    show tb σ H1 Q
    exact hb.rd F O1 E1 σ H1 Q R1 (Sat.mono k (fun d E2 k2 O2 v H2 R2 l2 r => k2 O2 v H2 R2 (l1.trans l2) r) (KX.le l1))
def mAnd (x y : M Bool) : M Bool := bnd x fun b => if b then y else ret false
def mOr (x y : M Bool) : M Bool := bnd x fun b => if b then ret true else y
def mNot (x : M Bool) : M Bool := bnd x fun b => ret (!b)
theorem sw_and1 {tt : TT} {mt : M Bool} {pos : Pos} (h : STt X W a tt mt) : SW X W (.BoolOp .And [a] pos) tt mt := ⟨pw_and1 h.pt, h.rd⟩
theorem sw_or1 {tt : TT} {mt : M Bool} {pos : Pos} (h : STt X W a tt mt) : SW X W (.BoolOp .Or [a] pos) tt mt := ⟨pw_or1 h.pt, h.rd⟩
theorem sw_and {rest : List Expr} {tt tu : TT} {mt mu : M Bool} {pos : Pos} (ha : STt X W a tt mt) (hb : SW X W (.BoolOp .And (b :: rest) pos) tu mu) : SW X W (.BoolOp .And (a :: b :: rest) pos) (tAnd tt tu) (mAnd mt mu) := by
  refine ⟨pw_and ha.pt hb.pw, fun F O E σ H Q R s => ha.rd F O E σ H _ R (s.bnd.mono (fun b E1 k O1 H1 R1 l1 => ?_) (fun _ _ k => k))⟩
  cases b with
  | true =>
    show tu σ H1 Q
    exact hb.rd F O1 E1 σ H1 Q R1 (Sat.mono k (fun d E2 k2 O2 H2 R2 l2 => k2 O2 H2 R2 (l1.trans l2)) (KX.le l1))
  | false =>
    show Q false H1
    exact k O1 H1 R1 l1
theorem sw_or {rest : List Expr} {tt tu : TT} {mt mu : M Bool} {pos : Pos} (ha : STt X W a tt mt) (hb : SW X W (.BoolOp .Or (b :: rest) pos) tu mu) : SW X W (.BoolOp .Or (a :: b :: rest) pos) (tOr tt tu) (mOr mt mu) := by
  refine ⟨pw_or ha.pt hb.pw, fun F O E σ H Q R s => ha.rd F O E σ H _ R (s.bnd.mono (fun b E1 k O1 H1 R1 l1 => ?_) (fun _ _ k => k))⟩
  cases b with
  | true =>
    show Q true H1
    exact k O1 H1 R1 l1
  | false =>
    show tu σ H1 Q
    exact hb.rd F O1 E1 σ H1 Q R1 (Sat.mono k (fun d E2 k2 O2 H2 R2 l2 => k2 O2 H2 R2 (l1.trans l2)) (KX.le l1))
theorem SW.st {tt : TT} {mt : M Bool} (h : SW X W e tt mt) : STt X W e tt mt := ⟨h.pw.pt, h.rd⟩
theorem st_not {tt : TT} {mt : M Bool} {pos : Pos} (h : STt X W a tt mt) : STt X W (.UnaryOp .Not a pos) (tNot tt) (mNot mt) :=
  ⟨pt_not h.pt, fun F O E σ H Q R s => h.rd F O E σ H _ R (s.bnd.mono (fun _ _ k O1 H1 R1 l1 => k O1 H1 R1 l1) (fun _ _ k => k))⟩
def mAndV (x y : M D) : M D := bnd x fun d => match d with
  | .bool true => y
  | .bool false => ret (.bool false)
  | _ => stuck
def mOrV (x y : M D) : M D := bnd x fun d => match d with
  | .bool true => ret (.bool true)
  | .bool false => y
  | _ => stuck
def mNotV (x : M D) : M D := bnd x fun d => match d with
  | .bool b => ret (.bool (!b))
  | _ => stuck
theorem se_one {op : BoolOp} {pos : Pos} (h : SE X W a ta ma) : SE X W (.BoolOp op [a] pos) ta ma := ⟨pe_one h.pe, h.rd⟩
theorem se_and {rest : List Expr} {pos : Pos} (ha : SE X W a ta ma) (hb : SE X W (.BoolOp .And (b :: rest) pos) tb mb) : SE X W (.BoolOp .And (a :: b :: rest) pos) (tAndV ta tb) (mAndV ma mb) := by
  refine ⟨pe_and ha.pe hb.pe, fun F O E σ H Q R s => ha.rd F O E σ H _ R (s.bnd.mono (fun d E1 k O1 v H1 R1 l1 r => ?_) (fun _ _ k => k))⟩
  cases d with
  | bool z =>
    cases r
    cases z with
    | true =>
      refine ⟨true, rfl, ?_⟩
      show tb σ H1 Q
      exact hb.rd F O1 E1 σ H1 Q R1 (Sat.mono k (fun d E2 k2 O2 v H2 R2 l2 r => k2 O2 v H2 R2 (l1.trans l2) r) (KX.le l1))
    | false => exact ⟨false, rfl, k O1 _ H1 R1 l1 (.bl _)⟩
  | _ => exact k.elim
theorem se_not {pos : Pos} (ha : SE X W a ta ma) : SE X W (.UnaryOp .Not a pos) (tNotV ta) (mNotV ma) := by
  refine ⟨pe_not ha.pe, fun F O E σ H Q R s => ha.rd F O E σ H _ R (s.bnd.mono (fun d E1 k O1 v H1 R1 l1 r => ?_) (fun _ _ k => k))⟩
  cases d with
  | bool z => cases r; exact ⟨z, rfl, k O1 _ H1 R1 l1 (.bl _)⟩
  | _ => exact k.elim

def mPart : Option (M D) → M (Option Int)
  | none => ret none
  | some m => bnd m fun d => match d with
    | .int i => ret (some i)
    | _ => stuck
structure SP (X : Cx) (W : WX) (e : Option Expr) (t : TO) (m : M (Option Int)) : Prop where
  po : PO X e t
  rd : ∀ F O E σ H (Q : Option Int → Hp → Prop), Rel X.K F O E σ H → Sat (m E) (fun o E' => ∀ O' H', Rel X.K F O' E' σ H' → Le O H O' H' → Q o H') (KX X.K X.mg F σ O H W) → t σ H Q
theorem sp_none : SP X W none tNoPart (mPart none) := ⟨po_none, fun F O E σ H Q R s => s O H R (Le.refl O H)⟩
theorem sp_some (h : SE X W e t m) : SP X W (some e) (tPart t) (mPart (some m)) := by
  refine ⟨po_some h.pe, fun F O E σ H Q R s => h.rd F O E σ H _ R (s.bnd.mono (fun d E1 k O1 v H1 R1 l1 r => ?_) (fun _ _ k => k))⟩
  cases d with
  | int i => cases r; exact ⟨i, rfl, k O1 H1 R1 l1⟩
  | _ => exact k.elim
def slD (lo hi : Option Int) : D → Option D
  | .list ds => some (.list (cutD ds lo hi))
  | .tuple ds => some (.tuple (cutD ds lo hi))
  | _ => none
def mSl (ma : M Ag) (ml mh : M (Option Int)) : M D := bnd ma fun a => bnd ml fun lo => bnd mh fun hi => fun E => match rsv E a with
  | some d => lift (slD lo hi d) E
  | none => .bad
def rSlB (K : PySem.W.Frag) : V → Option Int → Option Int → Hp → VK → Prop := fun x lo hi H Q => rSlL K x lo hi H Q ∨ rSlP K x lo hi H Q
theorem RpAll.cut {K : PySem.W.Frag} {G : Hp} {vs : List V} {ds : List D} (r : RpAll K G vs ds) (lo hi : Option Int) : RpAll K G (cutV vs lo hi) (cutD ds lo hi) := by
  unfold cutV cutD
  rw [r.length]
  exact (r.drop _).take _
theorem cutD_whole {ds : List D} {lo hi : Option Int} (h : HT.sIx ds.length 0 lo = 0 ∧ HT.sIx ds.length ds.length hi = ds.length) : cutD ds lo hi = ds := by
  unfold cutD
  rw [h.1, h.2, List.drop_zero, Nat.sub_zero, List.take_length]
theorem se_sl {lo hi : Option Expr} {tl th : TO} {ml mh : M (Option Int)} {m : M Ag} {p2 pos : Pos} (h : SO X W e t m) (hl : SP X W lo tl ml) (hh : SP X W hi th mh) : SE X W (.Subscript e (.Slice lo hi none p2) pos) (tSl (rSlB X.K) t tl th) (mSl m ml mh) := by
  refine ⟨pe_slice (sl_list.or sl_tupP) h.pe hl.po hh.po, fun F O E σ H Q R s => h.rd F O E σ H _ R (s.bnd.mono (fun a E1 k O1 v H1 R1 l1 av => ?_) (fun _ _ k => k))⟩
  refine hl.rd F O1 E1 σ H1 _ R1 (k.bnd.mono (fun lo E2 k2 O2 H2 R2 l2 => ?_) (KX.le l1))
  refine hh.rd F O2 E2 σ H2 _ R2 (k2.bnd.mono (fun hi E3 k3 O3 H3 R3 l3 => ?_) (KX.le (l1.trans l2)))
  cases ea : rsv E3 a with
  | none => rw [ea] at k3; exact k3.elim
  | some x =>
    rw [ea] at k3
    obtain ⟨z, hz, k4⟩ := Sat.lift k3
    have rq := R3.rsv (av.le (l2.trans l3)) ea
    have ll : Le O H O3 H3 := (l1.trans l2).trans l3
    cases x <;> first | (cases hz; done) | skip
    · cases hz
      obtain ⟨p, vs, rfl, hp, r1⟩ := rq.list
      refine .inl ⟨p, vs, rfl, SqL.of hp, fun q nq => ?_⟩
      obtain ⟨g, r⟩ := new_lst R3.trk (r1.cut lo hi) nq
      exact k4 O3 _ _ (R3.grow g) (ll.trans g.le) r
    · cases hz
      obtain ⟨p, vs, rfl, hp, r1, rr⟩ := rq.tuple
      refine .inr ⟨p, vs, rfl, hp, fun hw => ?_, fun _ q o nq ho => ?_⟩
      · rw [r1.length] at hw
        rw [cutD_whole hw] at k4
        exact k4 O3 _ _ R3 ll rr
      · obtain ⟨g, r⟩ := new_tup R3.trk (r1.cut lo hi) nq ho
        exact k4 O3 _ _ (R3.grow g) (ll.trans g.le) r

def rsvs (E : En) : List Ag → Option (List D)
  | [] => some []
  | a :: as => match rsv E a, rsvs E as with
    | some d, some ds => some (d :: ds)
    | _, _ => none
theorem Rel.rsvs {K : PySem.W.Frag} {F : Frm} {O : List Addr} {H : Hp} {E : En} {σ : L2.St} (R : Rel K F O E σ H) : ∀ {vs : List V} {as : List Ag} {ds : List D}, Paired (AgV K σ O H) vs as → rsvs E as = some ds → Paired (Rq K O H) vs ds
  | _, _, _, .nil, e => by cases e; exact .nil
  | _, _, ds, .cons h r, e => by
    unfold Bt.rsvs at e
    split at e
    · rename_i d ds' e1 e2
      cases e
      exact .cons (R.rsv h e1) (Rel.rsvs R r e2)
    · cases e
def mB (f : List D → Option D) (ms : M (List Ag)) : M D := bnd ms fun as => fun E => match rsvs E as with
  | some ds => lift (f ds) E
  | none => .bad
theorem cb_rd {es : List Expr} {ts : TA} {ms : M (List Ag)} {r : List V → Hp → VK → Prop} {f : List D → Option D} (h : SOs X W es ts ms) (hr : COk X.K r f) : ∀ F O E σ H (Q : VK), Rel X.K F O E σ H → Sat (mB f ms E) (KD X.K F σ O H Q) (KX X.K X.mg F σ O H W) → tCB r ts σ H Q := by
  intro F O E σ H Q R s
  refine h.rd F O E σ H _ R (s.bnd.mono (fun as E1 k O1 vs H1 R1 l1 av => ?_) (fun _ _ k => k))
  cases ea : rsvs E1 as with
  | none => rw [ea] at k; exact k.elim
  | some ds =>
    rw [ea] at k
    obtain ⟨z, hz, k2⟩ := Sat.lift k
    exact hr O1 H1 vs ds z Q R1.trk (R1.rsvs av ea) hz fun w H2 g r2 => k2 O1 w H2 (R1.grow g) (l1.trans g.le) r2
end
end Bt
namespace Bt
open PySem PySem.Calls PyProof.Rows PySem.W PySem.SeqAt
section
variable {prog : Program} {w : World} {A : Around} {E : Value → Shared → Prop} {s : Shared}
end
end Bt
namespace Bt
open PySem L2
section
variable {X : Cx} {W : WX} {a b c e : Expr} {ta tb tc t : TE} {ma mb mc m : M D}
theorem se_callB {es : List Expr} {ts : TA} {ms : M (List Ag)} {r : List V → Hp → VK → Prop} {f : List D → Option D} {id : String} {x : Str} {p pos : Pos} (hc : CallR X (.builtin id) r) (hr : COk X.K r f) (hg : Gl X x) (hm : X.mg x = none) (hv : bootBuiltins x = some (.builtin id)) (h : SOs X W (e :: es) ts ms)
    (hn : x ≠ "__name__" := by decide) (hdb : (x == ("__debug__" : Str)) = false := by decide) (he : starEach (e :: es) X.env = (false, eval e X.env) :: starEach es X.env := by rfl) (hpl : (backTo pos (starEach es X.env)).any (·.1) = false := by rfl) : SE X W (.Call (.Name x p) (e :: es) [] pos) (tCB r ts) (mB f ms) :=
  ⟨pe_callB hc hg hm hv h.pa hn hdb he hpl, cb_rd h hr⟩
theorem se_callTy {es : List Expr} {ts : TA} {ms : M (List Ag)} {r : List V → Hp → VK → Prop} {f : List D → Option D} {T : String} {x : Str} {p pos : Pos} (hc : CallR X (.type T) r) (hr : COk X.K r f) (hg : Gl X x) (hm : X.mg x = none) (hv : bootBuiltins x = some (.type T)) (h : SOs X W (e :: es) ts ms)
    (hn : x ≠ "__name__" := by decide) (hdb : (x == ("__debug__" : Str)) = false := by decide) (he : starEach (e :: es) X.env = (false, eval e X.env) :: starEach es X.env := by rfl) (hpl : (backTo pos (starEach es X.env)).any (·.1) = false := by rfl) : SE X W (.Call (.Name x p) (e :: es) [] pos) (tCB r ts) (mB f ms) :=
  ⟨pe_callTy hc hg hm hv h.pa hn hdb he hpl, cb_rd h hr⟩
theorem paired1 {α β : Type} {F : α → β → Prop} {xs : List α} {y : β} (h : Paired F xs [y]) : ∃ x, xs = [x] ∧ F x y := by
  cases h with
  | cons h r => cases r; exact ⟨_, rfl, h⟩
theorem paired2 {α β : Type} {F : α → β → Prop} {xs : List α} {y z : β} (h : Paired F xs [y, z]) : ∃ x w, xs = [x, w] ∧ F x y ∧ F w z := by
  cases h with
  | cons h r =>
    cases r with
    | cons h2 r => cases r; exact ⟨_, _, rfl, h, h2⟩
end
def lenF : List D → Option D
  | [.list ds] => some (.int (ds.length : Nat))
  | [.tuple ds] => some (.int (ds.length : Nat))
  | [.str z] => if z.length ≤ LIM then some (.int (z.length : Nat)) else none
  | _ => none
def intsOf : List D → Option (List Int)
  | [] => some []
  | .int i :: ds => (intsOf ds).map (i :: ·)
  | _ => none
def boolsOf : List D → Option (List Bool)
  | [] => some []
  | .bool i :: ds => (boolsOf ds).map (i :: ·)
  | _ => none
theorem intsOf_eq : ∀ {ds : List D} {ns : List Int}, intsOf ds = some ns → ds = ns.map .int
  | [], ns, h => by cases h; rfl
  | d :: ds, ns, h => by
    unfold intsOf at h
    cases d <;> first | (cases h; done) | skip
    dsimp only at h
    cases e : intsOf ds with
    | none => rw [e] at h; cases h
    | some ms => rw [e] at h; cases h; rw [intsOf_eq e]; rfl
theorem boolsOf_eq : ∀ {ds : List D} {ns : List Bool}, boolsOf ds = some ns → ds = ns.map .bool
  | [], ns, h => by cases h; rfl
  | d :: ds, ns, h => by
    unfold boolsOf at h
    cases d <;> first | (cases h; done) | skip
    dsimp only at h
    cases e : boolsOf ds with
    | none => rw [e] at h; cases h
    | some ms => rw [e] at h; cases h; rw [boolsOf_eq e]; rfl
theorem intsOf_map : ∀ ns : List Int, intsOf (ns.map .int) = some ns
  | [] => rfl
  | n :: ns => by show (intsOf (ns.map .int)).map (n :: ·) = _; rw [intsOf_map ns]; rfl
theorem boolsOf_map : ∀ ns : List Bool, boolsOf (ns.map .bool) = some ns
  | [] => rfl
  | n :: ns => by show (boolsOf (ns.map .bool)).map (n :: ·) = _; rw [boolsOf_map ns]; rfl
def minL : List Int → Int
  | [] => 0
  | [x] => x
  | x :: y :: r => min x (minL (y :: r))
def maxL : List Int → Int
  | [] => 0
  | [x] => x
  | x :: y :: r => max x (maxL (y :: r))
theorem minL_le : ∀ {ns : List Int} {y : Int}, y ∈ ns → minL ns ≤ y
  | [], _, h => by cases h
  | [x], y, h => by cases h with
    | head => exact Int.le_refl _
    | tail _ h => cases h
  | x :: z :: r, y, h => by
    show min x (minL (z :: r)) ≤ y
    cases h with
    | head => exact Int.min_le_left _ _
    | tail _ h => exact Int.le_trans (Int.min_le_right _ _) (minL_le h)
theorem maxL_ge : ∀ {ns : List Int} {y : Int}, y ∈ ns → y ≤ maxL ns
  | [], _, h => by cases h
  | [x], y, h => by cases h with
    | head => exact Int.le_refl _
    | tail _ h => cases h
  | x :: z :: r, y, h => by
    show y ≤ max x (maxL (z :: r))
    cases h with
    | head => exact Int.le_max_left _ _
    | tail _ h => exact Int.le_trans (maxL_ge h) (Int.le_max_right _ _)
theorem minL_mem : ∀ {ns : List Int}, ns ≠ [] → minL ns ∈ ns
  | [], h => absurd rfl h
  | [x], _ => List.mem_singleton.mpr rfl
  | x :: z :: r, _ => by
    show min x (minL (z :: r)) ∈ _
    have ih := minL_mem (ns := z :: r) (List.cons_ne_nil _ _)
    by_cases h : x ≤ minL (z :: r)
    · rw [Int.min_eq_left h]; exact List.mem_cons_self
    · rw [Int.min_eq_right (by omega)]; exact List.mem_cons_of_mem _ ih
theorem maxL_mem : ∀ {ns : List Int}, ns ≠ [] → maxL ns ∈ ns
  | [], h => absurd rfl h
  | [x], _ => List.mem_singleton.mpr rfl
  | x :: z :: r, _ => by
    show max x (maxL (z :: r)) ∈ _
    have ih := maxL_mem (ns := z :: r) (List.cons_ne_nil _ _)
    by_cases h : maxL (z :: r) ≤ x
    · rw [Int.max_eq_left h]; exact List.mem_cons_self
    · rw [Int.max_eq_right (by omega)]; exact List.mem_cons_of_mem _ ih
theorem minL_uniq {ns : List Int} {m : Int} (h1 : m ∈ ns) (h2 : ∀ y ∈ ns, m ≤ y) : m = minL ns :=
  Int.le_antisymm (h2 _ (minL_mem (List.ne_nil_of_mem h1))) (minL_le h1)
theorem maxL_uniq {ns : List Int} {m : Int} (h1 : m ∈ ns) (h2 : ∀ y ∈ ns, y ≤ m) : m = maxL ns :=
  Int.le_antisymm (maxL_ge h1) (h2 _ (maxL_mem (List.ne_nil_of_mem h1)))
def sumF : List D → Option D
  | [.list ds] => (intsOf ds).map fun ns => .int ns.sum
  | _ => none
def allF : List D → Option D
  | [.list ds] => (boolsOf ds).map fun bs => .bool (bs.all id)
  | _ => none
def minF : List D → Option D
  | [.list ds] => match intsOf ds with
    | some (n :: ns) => some (.int (minL (n :: ns)))
    | _ => none
  | [.int i, .int j] => some (.int (min i j))
  | _ => none
def maxF : List D → Option D
  | [.list ds] => match intsOf ds with
    | some (n :: ns) => some (.int (maxL (n :: ns)))
    | _ => none
  | [.int i, .int j] => some (.int (max i j))
  | _ => none
def intF : List D → Option D
  | [.int i] => some (.int i)
  | [.bool b] => some (.int (if b then 1 else 0))
  | _ => none
def tupleF : List D → Option D
  | [.list ds] => some (.tuple ds)
  | [.tuple ds] => some (.tuple ds)
  | _ => none
def listF : List D → Option D
  | [.list ds] => some (.list ds)
  | [.tuple ds] => some (.list ds)
  | _ => none
def sortI (ns : List Int) : List Int := ns.mergeSort (fun a b => decide (a ≤ b))
section
variable {K : PySem.W.Frag}
theorem ok_len : COk K (fun xs H Q => ∃ x n, xs = [x] ∧ LenV K x H n ∧ Q (.int n) H) lenF := by
  intro O H vs ds z Q t hp hf q
  unfold lenF at hf
  split at hf
  · cases hf
    obtain ⟨v, rfl, rq⟩ := paired1 hp
    obtain ⟨p, vs, rfl, h1, r1⟩ := rq.list
    exact ⟨_, _, rfl, .inl ⟨vs, SqL.of h1, rfl⟩, q _ H (Grow.refl O H) (by rw [r1.length]; exact .int _)⟩
  · cases hf
    obtain ⟨v, rfl, rq⟩ := paired1 hp
    obtain ⟨p, vs, rfl, h1, r1, _⟩ := rq.tuple
    exact ⟨_, _, rfl, .inr ⟨vs, h1, rfl⟩, q _ H (Grow.refl O H) (by rw [r1.length]; exact .int _)⟩
  · split at hf
    · rename_i hl
      cases hf
      obtain ⟨v, rfl, rq⟩ := paired1 hp
      cases rq.str
      exact ⟨_, _, rfl, ⟨lim_le hl, rfl⟩, q _ H (Grow.refl O H) (.int _)⟩
    · cases hf
  · cases hf
theorem ok_sum : COk K (rSum K) sumF := by
  intro O H vs ds z Q t hp hf q
  unfold sumF at hf
  split at hf
  · rename_i ds
    obtain ⟨v, rfl, rq⟩ := paired1 hp
    obtain ⟨p, vs, rfl, h1, r1⟩ := rq.list
    cases e : intsOf ds with
    | none => rw [e] at hf; cases hf
    | some ns =>
      rw [e] at hf
      cases hf
      rw [intsOf_eq e] at r1
      exact ⟨p, ns, rfl, by rw [← r1.ints]; exact SqL.of h1, q _ H (Grow.refl O H) (.int _)⟩
  · cases hf
theorem ok_all : COk K (rAll K) allF := by
  intro O H vs ds z Q t hp hf q
  unfold allF at hf
  split at hf
  · rename_i ds
    obtain ⟨v, rfl, rq⟩ := paired1 hp
    obtain ⟨p, vs, rfl, h1, r1⟩ := rq.list
    cases e : boolsOf ds with
    | none => rw [e] at hf; cases hf
    | some ns =>
      rw [e] at hf
      cases hf
      rw [boolsOf_eq e] at r1
      exact ⟨p, ns, rfl, by rw [← r1.bools]; exact SqL.of h1, q _ H (Grow.refl O H) (.bl _)⟩
  · cases hf
def rMin2 : List V → Hp → VK → Prop := fun xs H Q => ∃ i j, xs = [.int i, .int j] ∧ Q (.int (if j < i then j else i)) H
def rMax2 : List V → Hp → VK → Prop := fun xs H Q => ∃ i j, xs = [.int i, .int j] ∧ Q (.int (if j > i then j else i)) H
def rMinB (K : PySem.W.Frag) : List V → Hp → VK → Prop := fun xs H Q => rMin K xs H Q ∨ rMin2 xs H Q
def rMaxB (K : PySem.W.Frag) : List V → Hp → VK → Prop := fun xs H Q => rMax K xs H Q ∨ rMax2 xs H Q
theorem call_minB {X : Cx} (hc : X.calm = true) : CallR X (.builtin "min") (rMinB X.K) := (cr_min hc).or (call_min2 hc)
theorem call_maxB {X : Cx} (hc : X.calm = true) : CallR X (.builtin "max") (rMaxB X.K) := (cr_max hc).or (call_max2 hc)
theorem ok_min : COk K (rMinB K) minF := by
  intro O H vs ds z Q t hp hf q
  unfold minF at hf
  split at hf
  · rename_i ds
    obtain ⟨v, rfl, rq⟩ := paired1 hp
    obtain ⟨p, vs, rfl, h1, r1⟩ := rq.list
    split at hf
    · rename_i n ns e
      cases hf
      rw [intsOf_eq e] at r1
      refine .inl ⟨p, n :: ns, rfl, by rw [← r1.ints]; exact SqL.of h1, Nat.succ_pos _, fun m h2 h3 => q _ H (Grow.refl O H) (by rw [minL_uniq h2 h3]; exact .int _)⟩
    · cases hf
  · cases hf
    obtain ⟨v, u, rfl, r1, r2⟩ := paired2 hp
    cases r1.int
    cases r2.int
    refine .inr ⟨_, _, rfl, q _ H (Grow.refl O H) ?_⟩
    rename_i i j
    have : (if j < i then j else i) = min i j := by
      by_cases h : j < i
      · rw [if_pos h, Int.min_eq_right (by omega)]
      · rw [if_neg h, Int.min_eq_left (by omega)]
    rw [this]
    exact .int _
  · cases hf
theorem ok_max : COk K (rMaxB K) maxF := by
  intro O H vs ds z Q t hp hf q
  unfold maxF at hf
  split at hf
  · rename_i ds
    obtain ⟨v, rfl, rq⟩ := paired1 hp
    obtain ⟨p, vs, rfl, h1, r1⟩ := rq.list
    split at hf
    · rename_i n ns e
      cases hf
      rw [intsOf_eq e] at r1
      refine .inl ⟨p, n :: ns, rfl, by rw [← r1.ints]; exact SqL.of h1, Nat.succ_pos _, fun m h2 h3 => q _ H (Grow.refl O H) (by rw [maxL_uniq h2 h3]; exact .int _)⟩
    · cases hf
  · cases hf
    obtain ⟨v, u, rfl, r1, r2⟩ := paired2 hp
    cases r1.int
    cases r2.int
    refine .inr ⟨_, _, rfl, q _ H (Grow.refl O H) ?_⟩
    rename_i i j
    have : (if j > i then j else i) = max i j := by
      by_cases h : j > i
      · rw [if_pos h, Int.max_eq_right (by omega)]
      · rw [if_neg h, Int.max_eq_left (by omega)]
    rw [this]
    exact .int _
  · cases hf
theorem ok_tuple : COk K (rTupP K) tupleF := by
  intro O H vs ds z Q t hp hf q
  unfold tupleF at hf
  split at hf
  · cases hf
    obtain ⟨v, rfl, rq⟩ := paired1 hp
    obtain ⟨p, vs, rfl, h1, r1⟩ := rq.list
    refine ⟨p, vs, rfl, .inl ⟨SqL.of h1, fun l o nl ho => ?_⟩⟩
    obtain ⟨g, r⟩ := new_tup t r1 nl ho
    exact q _ _ g r
  · cases hf
    obtain ⟨v, rfl, rq⟩ := paired1 hp
    obtain ⟨p, vs, rfl, h1, r1, rr⟩ := rq.tuple
    exact ⟨p, vs, rfl, .inr ⟨h1, q _ _ (Grow.refl O H) rr⟩⟩
  · cases hf
theorem ok_list : COk K (fun xs H Q => ∃ p ys, xs = [.ref p] ∧ (SqL K H p ys ∨ SqT K H p ys) ∧ ∀ l, H l = none → Q (.ref l) (upd H l (.lst ys))) listF := by
  intro O H vs ds z Q t hp hf q
  unfold listF at hf
  split at hf
  · cases hf
    obtain ⟨v, rfl, rq⟩ := paired1 hp
    obtain ⟨p, vs, rfl, h1, r1⟩ := rq.list
    refine ⟨p, vs, rfl, .inl (SqL.of h1), fun l nl => ?_⟩
    obtain ⟨g, r⟩ := new_lst t r1 nl
    exact q _ _ g r
  · cases hf
    obtain ⟨v, rfl, rq⟩ := paired1 hp
    obtain ⟨p, vs, rfl, h1, r1, rr⟩ := rq.tuple
    refine ⟨p, vs, rfl, .inr h1, fun l nl => ?_⟩
    obtain ⟨g, r⟩ := new_lst t r1 nl
    exact q _ _ g r
  · cases hf
theorem sortI_uniq {ns ms : List Int} (h1 : ms.Perm ns) (h2 : ms.Pairwise (· ≤ ·)) : ms = sortI ns := by
  have p1 : (sortI ns).Pairwise (fun a b => decide (a ≤ b) = true) := List.pairwise_mergeSort (fun a b c h1 h2 => by simp at *; omega) (fun a b => by simp; omega) ns
  have p2 : (sortI ns).Perm ns := List.mergeSort_perm ns _
  refine List.Perm.eq_of_pairwise (le := fun a b => a ≤ b) (fun a b _ _ h1 h2 => Int.le_antisymm h1 h2) h2 (p1.imp fun h => of_decide_eq_true h) (h1.trans p2.symm)
theorem RpAll.of_ints (G : Hp) : ∀ ns : List Int, RpAll K G (ns.map V.int) (ns.map .int)
  | [] => .nil
  | n :: ns => .cons (.int n) (RpAll.of_ints G ns)
theorem RpAll.zip {G : Hp} : ∀ {vs : List V} {ds : List D}, RpAll K G vs ds → ∀ z ∈ vs.zip ds, Rp K G z.1 z.2
  | _, _, .nil => by simp
  | _, _, .cons h r => fun z hz => by
    rcases List.mem_cons.mp hz with rfl | hz
    · exact h
    · exact RpAll.zip r z hz
end
def tyName : D → String
  | .none => "NoneType"
  | .bool _ => "bool"
  | .int _ => "int"
  | .str _ => "str"
  | .list _ => "list"
  | .tuple _ => "tuple"
  | .dict _ => "dict"
def tyIs (T n : String) : Bool := T == n || (T == "int" && n == "bool")
def isiD (T : String) (d : D) : Bool := tyIs T (tyName d)
def notX : D → Bool
  | .dict _ => false
  | _ => true
def mIsi (T : String) (m : M Ag) : M D := bnd m fun a => fun E => match rsv E a with
  | some d => if notX d then .ok (.bool (isiD T d)) E else .bad
  | none => .bad
theorem Rq.ty {K : PySem.W.Frag} {O : List Addr} {H : Hp} {v : V} {d : D} (h : Rq K O H v d) (nx : notX d = true) : TyX K H v (.type (tyName d)) := by
  cases d with
  | none => rcases h with h | ⟨_, _, _, _, e, _⟩ <;> first | (cases h; exact .base .non) | cases e
  | bool b => cases h.bool; exact .base (.bl _)
  | int b => cases h.int; exact .base (.int _)
  | str b => cases h.str; exact .base (.str _)
  | list b =>
    obtain ⟨p, vs, rfl, h1, r1⟩ := h.list
    exact .base (.lst h1)
  | tuple b =>
    obtain ⟨p, vs, rfl, h1, r1, _⟩ := h.tuple
    rcases h1 with (h1 | ⟨o, h1⟩) | ⟨o, its, n, hk, hc, _⟩
    · exact .base (.tup h1)
    · exact .fTuple h1
    · exact .kTuple hk hc
  | dict b => exact absurd nx Bool.false_ne_true
def tyAll : List String := ["NoneType", "bool", "int", "str", "list", "tuple", "dict"]
theorem tyName_mem (d : D) : tyName d ∈ tyAll := by cases d <;> simp [tyName, tyAll]
section
variable {X : Cx} {W : WX} {e : Expr} {t : TE}
theorem se_isi {T : String} {x : Str} {m : M Ag} {p p2 pos : Pos} (hg : Gl X "isinstance") (hm : X.mg "isinstance" = none) (h : SO X W e t m) (hT : PE X (.Name x p2) (tC (.ty T))) (hk : tyAll.all (fun n => kitB n T == some (tyIs T n)) = true)
    (hst : starEach [e, .Name x p2] X.env = (false, eval e X.env) :: starEach [.Name x p2] X.env := by rfl) (hst2 : starEach [.Name x p2] X.env = (false, eval (.Name x p2) X.env) :: starEach [] X.env := by rfl) (hpl : (backTo pos (starEach [.Name x p2] X.env)).any (·.1) = false := by rfl) :
    SE X W (.Call (.Name "isinstance" p) [e, .Name x p2] [] pos) (tCB (rIsi X.K) (tCons t (tCons (tC (.ty T)) tNil))) (mIsi T m) := by
  refine ⟨pe_callB call_isi hg hm (by decide +kernel) (pa_cons h.pe (pa_cons hT pa_nil hst2) hst) (by decide) (by decide) hst hpl, fun F O E σ H Q R s => h.rd F O E σ H _ R (s.bnd.mono (fun a E1 k O1 v H1 R1 l1 av => ?_) (fun _ _ k => k))⟩
  cases ea : rsv E1 a with
  | none => rw [ea] at k; exact k.elim
  | some d =>
    rw [ea] at k
    have hh := (List.all_eq_true.mp hk) _ (tyName_mem d)
    dsimp only at k
    split at k
    · rename_i nx
      exact ⟨v, .ty T, .type (tyName d), .type T, isiD T d, rfl, .ty T, (R1.rsv av ea).ty nx, kit_ty (by unfold isiD; simpa using hh), k O1 _ H1 R1 l1 (.bl _)⟩
    · exact k.elim
end
end Bt
namespace Bt
open PySem L2

section
variable {K : PySem.W.Frag} {F : Frm} {O : List Addr} {E : En} {σ : L2.St} {H : Hp}
theorem Rel.set {i : Nat} {v : V} {d : D} (R : Rel K F O E σ H) (r : Rp K (Mask O H) v d) (hi : i < E.length) : Rel K F O (E.set i (.dat d)) (σ.set i (some v)) H := by
  refine ⟨by rw [List.length_set, List.length_set]; exact R.len, R.trk, R.tab, fun j s e => ?_, fun j k ds es p e1 e2 e3 e4 => ?_, R.frm, fun j ds p e1 e2 => ?_, R.fodd⟩
  · by_cases h : i = j
    · subst h
      rw [List.getElem?_set_self hi] at e
      cases e
      rw [List.getElem?_set_self (by rw [← R.len]; exact hi)]
      exact ⟨v, rfl, r⟩
    · rw [List.getElem?_set_ne h] at e
      rw [List.getElem?_set_ne h]
      exact R.slot j s e
  · by_cases h1 : i = j
    · subst h1; rw [List.getElem?_set_self hi] at e1; cases e1
    · by_cases h2 : i = k
      · subst h2; rw [List.getElem?_set_self hi] at e2; cases e2
      · rw [List.getElem?_set_ne h1] at e1 e3
        rw [List.getElem?_set_ne h2] at e2 e4
        exact R.apart j k ds es p e1 e2 e3 e4
  · by_cases h1 : i = j
    · subst h1; rw [List.getElem?_set_self hi] at e1; cases e1
    · rw [List.getElem?_set_ne h1] at e1 e2
      exact R.fap j ds p e1 e2
theorem Rel.un {i : Nat} {o : Option V} (R : Rel K F O E σ H) : Rel K F O (E.set i .un) (σ.set i o) H := by
  refine ⟨by rw [List.length_set, List.length_set]; exact R.len, R.trk, R.tab, fun j s e => ?_, fun j k ds es p e1 e2 e3 e4 => ?_, R.frm, fun j ds p e1 e2 => ?_, R.fodd⟩
  · by_cases h : i = j
    · subst h
      by_cases hi : i < E.length
      · rw [List.getElem?_set_self hi] at e
        cases e
        trivial
      · rw [List.getElem?_eq_none (by rw [List.length_set]; omega)] at e; cases e
    · rw [List.getElem?_set_ne h] at e
      rw [List.getElem?_set_ne h]
      exact R.slot j s e
  · by_cases h1 : i = j
    · subst h1
      by_cases hi : i < E.length
      · rw [List.getElem?_set_self hi] at e1; cases e1
      · rw [List.getElem?_eq_none (by rw [List.length_set]; omega)] at e1; cases e1
    · by_cases h2 : i = k
      · subst h2
        by_cases hi : i < E.length
        · rw [List.getElem?_set_self hi] at e2; cases e2
        · rw [List.getElem?_eq_none (by rw [List.length_set]; omega)] at e2; cases e2
      · rw [List.getElem?_set_ne h1] at e1 e3
        rw [List.getElem?_set_ne h2] at e2 e4
        exact R.apart j k ds es p e1 e2 e3 e4
  · by_cases h1 : i = j
    · subst h1
      by_cases hi : i < E.length
      · rw [List.getElem?_set_self hi] at e1; cases e1
      · rw [List.getElem?_eq_none (by rw [List.length_set]; omega)] at e1; cases e1
    · rw [List.getElem?_set_ne h1] at e1 e2
      exact R.fap j ds p e1 e2
theorem Rel.forget {i : Nat} (R : Rel K F O E σ H) : Rel K F O (E.set i .un) σ H := by
  have o' : ∀ {j : Nat} {es : Ob}, (E.set i Sl.un)[j]? = some (.ow es) → E[j]? = some (.ow es) := fun {j es} e => by
    by_cases h : i = j
    · subst h
      by_cases hi : i < E.length
      · rw [List.getElem?_set_self hi] at e; cases e
      · rw [List.getElem?_eq_none (by rw [List.length_set]; omega)] at e; cases e
    · rw [List.getElem?_set_ne h] at e; exact e
  refine ⟨by rw [List.length_set]; exact R.len, R.trk, R.tab, fun j s e => ?_, fun j k ds es p e1 e2 e3 e4 => R.apart j k ds es p (o' e1) (o' e2) e3 e4, R.frm, fun j ds p e1 e2 => R.fap j ds p (o' e1) e2, R.fodd⟩
  by_cases h : i = j
  · subst h
    by_cases hi : i < E.length
    · rw [List.getElem?_set_self hi] at e
      cases e
      trivial
    · rw [List.getElem?_eq_none (by rw [List.length_set]; omega)] at e; cases e
  · rw [List.getElem?_set_ne h] at e
    exact R.slot j s e
def wipeE (E : En) : List Nat → En
  | [] => E
  | v :: vs => (wipeE E vs).set v .un
theorem Rel.wipe (R : Rel K F O E σ H) : ∀ vs : List Nat, Rel K F O (wipeE E vs) (L2.wipe σ vs) H
  | [] => R
  | v :: vs => (Rel.wipe R vs).un
theorem Rel.forgets (R : Rel K F O E σ H) : ∀ vs : List Nat, Rel K F O (wipeE E vs) σ H
  | [] => R
  | v :: vs => (Rel.forgets R vs).forget
theorem wipeE_length (E : En) : ∀ vs : List Nat, (wipeE E vs).length = E.length
  | [] => rfl
  | v :: vs => by unfold wipeE; rw [List.length_set, wipeE_length E vs]
def backE (E0 E1 : En) : List Nat → En
  | [] => E1
  | v :: vs => match E0[v]? with
    | some (.dat d) => (backE E0 E1 vs).set v (.dat d)
    | _ => (backE E0 E1 vs).set v .un
theorem backE_length (E0 E1 : En) : ∀ vs : List Nat, (backE E0 E1 vs).length = E1.length
  | [] => rfl
  | v :: vs => by
    unfold backE
    split <;> rw [List.length_set, backE_length E0 E1 vs]
theorem get_wipe {σ : L2.St} {i : Nat} : ∀ {vs : List Nat}, i ∉ vs → (L2.wipe σ vs)[i]? = σ[i]?
  | [], _ => rfl
  | v :: vs, h => by
    have hne : v ≠ i := fun e => h (e ▸ List.mem_cons_self)
    show ((L2.wipe σ vs).set v none)[i]? = σ[i]?
    rw [List.getElem?_set_ne hne]
    exact get_wipe fun z => h (List.mem_cons_of_mem _ z)
theorem get_backE_in {E0 E1 : En} {i : Nat} (hl : i < E1.length) : ∀ {vs : List Nat}, i ∈ vs → (backE E0 E1 vs)[i]? = some (match E0[i]? with | some (.dat d) => .dat d | _ => .un)
  | [], h => by cases h
  | v :: vs, h => by
    unfold backE
    by_cases e : v = i
    · subst e
      split
      · rename_i d q; rw [List.getElem?_set_self (by rw [backE_length]; exact hl)]
      · rename_i q
        rw [List.getElem?_set_self (by rw [backE_length]; exact hl)]
    · have h' : i ∈ vs := by
        cases h with
        | head => exact absurd rfl e
        | tail _ h => exact h
      split <;> rw [List.getElem?_set_ne e] <;> exact get_backE_in hl h'
theorem get_backE_out {E0 E1 : En} {i : Nat} : ∀ {vs : List Nat}, i ∉ vs → (backE E0 E1 vs)[i]? = E1[i]?
  | [], _ => rfl
  | v :: vs, h => by
    unfold backE
    have e : v ≠ i := fun e => h (e ▸ List.mem_cons_self)
    have h' : i ∉ vs := fun z => h (List.mem_cons_of_mem _ z)
    split <;> rw [List.getElem?_set_ne e] <;> exact get_backE_out h'
theorem Rel.back {F' : Frm} {O1 : List Addr} {E1 : En} {σ1 : L2.St} {H1 : Hp} {vs : List Nat} (R : Rel K F O E σ H) (R1 : Rel K F' O1 E1 σ1 H1) (l : Le O H O1 H1) (hw : L2.wipe σ1 vs = L2.wipe σ vs) : Rel K F' O1 (backE E E1 vs) σ H1 := by
  have hs : ∀ i, i ∉ vs → σ[i]? = σ1[i]? := fun i hi => by rw [← get_wipe (σ := σ) hi, ← get_wipe (σ := σ1) hi, hw]
  have hl : σ1.length = σ.length := by rw [← wipe_length σ1 vs, hw, wipe_length]
  refine ⟨by rw [backE_length, R1.len, hl], R1.trk, R1.tab, fun i s e => ?_, fun i j ds es p e1 e2 e3 e4 => ?_, R1.frm, fun i ds p e1 e2 => ?_, R1.fodd⟩
  · by_cases hi : i ∈ vs
    · have hlt : i < E1.length := by
        have := (List.getElem?_eq_some_iff.mp e).1
        rw [backE_length] at this
        exact this
      rw [get_backE_in hlt hi] at e
      cases e
      split
      · rename_i d q
        obtain ⟨v, e, r⟩ := R.slot i _ q
        exact ⟨v, e, r.mono l⟩
      · trivial
    · rw [get_backE_out hi] at e
      rw [hs i hi]
      exact R1.slot i s e
  · have ho : ∀ {i : Nat} {ds : Ob}, (backE E E1 vs)[i]? = some (.ow ds) → i ∉ vs := fun {i ds} e hi => by
      have hlt : i < E1.length := by
        have := (List.getElem?_eq_some_iff.mp e).1
        rw [backE_length] at this
        exact this
      rw [get_backE_in hlt hi] at e
      split at e <;> cases e
    have hi := ho e1
    have hj := ho e2
    rw [get_backE_out hi] at e1
    rw [get_backE_out hj] at e2
    rw [hs i hi] at e3
    rw [hs j hj] at e4
    exact R1.apart i j ds es p e1 e2 e3 e4
  · have hi : i ∉ vs := fun hi => by
      have hlt : i < E1.length := by
        have := (List.getElem?_eq_some_iff.mp e1).1
        rw [backE_length] at this
        exact this
      rw [get_backE_in hlt hi] at e1
      split at e1 <;> cases e1
    rw [get_backE_out hi] at e1
    rw [hs i hi] at e2
    exact R1.fap i ds p e1 e2
end

abbrev MG := D → En → Option En
structure SG (X : Cx) (b : Bool) (asg : List Nat) (tg : Expr) (g : TG) (m : MG) : Prop where
  pg : PG X tg g
  rd : ∀ F O E σ H v d E' (Q : L2.St → Hp → Prop), Rel X.K F O E σ H → RpB b X.K (Mask O H) v d → m d E = some E' → (∀ σ', Rel X.K F O E' σ' H → σ'.length = σ.length → (∀ i, i ∉ asg → σ'[i]? = σ[i]?) → Q σ' H) → g v σ H Q
structure SGs (X : Cx) (asg : List Nat) (tgs : List Expr) (g : TGs) (m : List D → En → Option En) : Prop where
  pg : PGs X tgs g
  rd : ∀ F O E σ H vs ds E' (Q : L2.St → Hp → Prop), Rel X.K F O E σ H → RpAll X.K (Mask O H) vs ds → m ds E = some E' → (∀ σ', Rel X.K F O E' σ' H → σ'.length = σ.length → (∀ i, i ∉ asg → σ'[i]? = σ[i]?) → Q σ' H) → g vs σ H Q
def gN (i : Nat) : MG := fun d E => if i < E.length then some (E.set i (.dat d)) else none
def gNilM : List D → En → Option En
  | [], E => some E
  | _, _ => none
def gConsM (m : MG) (ms : List D → En → Option En) : List D → En → Option En
  | d :: ds, E => (m d E).bind (ms ds)
  | _, _ => none
def gTupM (n : Nat) (ms : List D → En → Option En) : MG
  | .tuple ds, E => if ds.length = n then ms ds E else none
  | _, _ => none
section
variable {X : Cx}
theorem sg_name {i : Nat} {x : Str} {pos : Pos} (h : PG X (.Name x pos) (gName i)) : SG X false [i] (.Name x pos) (gName i) (gN i) := by
  refine ⟨h, fun F O E σ H v d E' Q R r e q => ?_⟩
  unfold gN at e
  split at e
  · rename_i hi
    cases e
    refine q _ (R.set r.rp hi) (List.length_set) fun j hj => ?_
    have hne : i ≠ j := fun z => hj (by rw [z]; exact List.mem_cons_self)
    rw [List.getElem?_set_ne hne]
  · cases e
theorem sgs_nil : SGs X [] [] gNil gNilM := by
  refine ⟨pgs_nil, fun F O E σ H vs ds E' Q R r e q => ?_⟩
  unfold gNilM at e
  split at e
  · cases e; cases r; exact ⟨rfl, q σ R rfl fun _ _ => rfl⟩
  · cases e
theorem sgs_cons {as1 as2 : List Nat} {tg : Expr} {tgs : List Expr} {g : TG} {gs : TGs} {m : MG} {ms : List D → En → Option En} (h : SG X false as1 tg g m) (hs : SGs X as2 tgs gs ms) (pgc : PG X tg g → PGs X tgs gs → PGs X (tg :: tgs) (gCons g gs) := by exact pgs_cons) : SGs X (as1 ++ as2) (tg :: tgs) (gCons g gs) (gConsM m ms) := by
  refine ⟨pgc h.pg hs.pg, fun F O E σ H vs ds E' Q R r e q => ?_⟩
  cases r with
  | nil => cases e
  | @cons v vs d ds r1 rr =>
    change (m d E).bind (ms ds) = some E' at e
    cases e1 : m d E with
    | none => rw [e1] at e; cases e
    | some E1 =>
      rw [e1] at e
      refine ⟨_, _, rfl, h.rd F O E σ H _ d E1 _ R (.inl r1) e1 fun σ1 R1 l1 p1 => ?_⟩
      exact hs.rd F O E1 σ1 H _ ds E' Q R1 rr e fun σ2 R2 l2 p2 => q σ2 R2 (l2.trans l1) fun i hi => (p2 i fun z => hi (List.mem_append_right _ z)).trans (p1 i fun z => hi (List.mem_append_left _ z))
theorem sg_tup {b : Bool} {asg : List Nat} {tgs : List Expr} {gs : TGs} {ms : List D → En → Option En} {k n : Nat} {pos : Pos} (pgt : PGs X tgs gs → PG X (.Tuple tgs k pos) (gTup X.K n gs)) (hs : SGs X asg tgs gs ms) : SG X b asg (.Tuple tgs k pos) (gTup X.K n gs) (gTupM n ms) := by
  refine ⟨pgt hs.pg, fun F O E σ H v d E' Q R r e q => ?_⟩
  cases d with
  | tuple ds =>
    obtain ⟨a, xs, rfl, h, r1⟩ := r.tup
    change (if ds.length = n then ms ds E else none) = some E' at e
    split at e
    · rename_i hl
      exact ⟨_, _, rfl, sqT_mono (mask_le O H) h, by rw [r1.length]; exact hl, hs.rd F O E σ H _ ds E' Q R r1 e q⟩
    · cases e
  | _ => cases e
theorem wipe_agree {σ σ' : L2.St} {asg vs : List Nat} (hl : σ'.length = σ.length) (h : ∀ i, i ∉ asg → σ'[i]? = σ[i]?) (hs : ∀ i ∈ asg, i ∈ vs) : L2.wipe σ' vs = L2.wipe σ vs := by
  have wg : ∀ {τ : L2.St} {i : Nat} {vs : List Nat}, i ∈ vs → i < τ.length → (L2.wipe τ vs)[i]? = some none := by
    intro τ i vs
    induction vs with
    | nil => intro h; cases h
    | cons v vs ih =>
      intro h hl
      show ((L2.wipe τ vs).set v none)[i]? = some none
      by_cases e : v = i
      · subst e
        rw [List.getElem?_set_self (by rw [wipe_length]; exact hl)]
      · rw [List.getElem?_set_ne e]
        cases h with
        | head => exact absurd rfl e
        | tail _ h => exact ih h hl
  refine List.ext_getElem? fun i => ?_
  by_cases hv : i ∈ vs
  · by_cases hi : i < σ.length
    · rw [wg hv hi, wg hv (by rw [hl]; exact hi)]
    · rw [List.getElem?_eq_none (by rw [wipe_length]; omega), List.getElem?_eq_none (by rw [wipe_length]; omega)]
  · rw [get_wipe hv, get_wipe hv, h i fun z => hv (hs i z)]
end

structure Wk (b : Bool) (K : PySem.W.Frag) (O' : List Addr) (H' : Hp) (J : It) (its : List D) : Prop where
  ex : ∃ G Y, Walk J its.length G Y ∧ (∀ O2 H2, Le O' H' O2 H2 → G H2) ∧ (∀ O2 H2 i x H3 d, Trk O2 H2 → Le O' H' O2 H2 → its[i]? = some d → Y i H2 x H3 → Grow O2 H2 H3 ∧ RpB b K (Mask O2 H3) x d)
structure SI (X : Cx) (W : WX) (b : Bool) (tg e : Expr) (wi : TI) (m : M (List D)) : Prop where
  pi : PI X tg e wi
  rd : ∀ F O E σ H (R : It → Hp → Prop), Rel X.K F O E σ H → Sat (m E) (fun its E' => ∀ O' H' J, Rel X.K F O' E' σ H' → Le O H O' H' → Wk b X.K O' H' J its → R J H') (KX X.K X.mg F σ O H W) → wi σ H R
theorem pi_or {X : Cx} {tg e : Expr} {w1 w2 : TI} (h1 : PI X tg e w1) (h2 : PI X tg e w2) : PI X tg e (fun σ H R => w1 σ H R ∨ w2 σ H R) := ⟨fun pins s σ H R I h => h.elim (fun z => h1.run pins s σ H R I z) (fun z => h2.run pins s σ H R I z)⟩
theorem PI.imp {X : Cx} {tg e : Expr} {w1 w2 : TI} (h : PI X tg e w1) (hw : ∀ σ H R, w2 σ H R → w1 σ H R) : PI X tg e w2 := ⟨fun pins s σ H R I z => h.run pins s σ H R I (hw σ H R z)⟩
end Bt
namespace Bt
open PySem L2
section
variable {X : Cx} {W : WX} {tg a b c e : Expr} {ta tb tc t : TE} {ma mb mc m : M D}
def signsD (z : Str) : List D := z.cps.toList.map fun c => .str ⟨#[c]⟩
def itemsOf : D → Option (List D)
  | .list ds => some ds
  | .tuple ds => some ds
  | .str z => some (signsD z)
  | _ => none
def mIt (m : M D) : M (List D) := bnd m fun d => lift (itemsOf d)
def iSeq (K : PySem.W.Frag) (t : TE) : TI := fun σ H R => iList K t σ H R ∨ (iTup K t σ H R ∨ iStr t σ H R)
theorem wk_list {K : PySem.W.Frag} {O : List Addr} {H : Hp} {p : Addr} {vs : List V} {ds : List D} (h : Mask O H p = some (.lst vs)) (r : RpAll K (Mask O H) vs ds) : Wk false K O H (Itl K p) ds := by
  refine ⟨_, _, r.length ▸ walk_list (xs := vs), fun O2 H2 l => SqL.of (mask_le _ _ _ _ (l _ _ h)), fun O2 H2 i x H3 d t l e y => ?_⟩
  obtain ⟨rfl, y2⟩ := y
  obtain ⟨d', e', rr⟩ := r.get y2
  rw [e] at e'
  cases e'
  exact ⟨Grow.refl _ _, .inl (rr.mono l)⟩
theorem wk_tup {K : PySem.W.Frag} {O : List Addr} {H : Hp} {p : Addr} {vs : List V} {ds : List D} (h : SqT K (Mask O H) p vs) (r : RpAll K (Mask O H) vs ds) : Wk false K O H (Itt K p) ds := by
  refine ⟨_, _, r.length ▸ walk_tup (xs := vs), fun O2 H2 l => sqT_mono (mask_le _ _) (sqT_mono l h), fun O2 H2 i x H3 d t l e y => ?_⟩
  obtain ⟨rfl, y2⟩ := y
  obtain ⟨d', e', rr⟩ := r.get y2
  rw [e] at e'
  cases e'
  exact ⟨Grow.refl _ _, .inl (rr.mono l)⟩
theorem wk_str {K : PySem.W.Frag} {O : List Addr} {H : Hp} {z : Str} : Wk false K O H (Its z) (signsD z) := by
  refine ⟨fun _ => True, _, by unfold signsD; rw [List.length_map, Array.length_toList]; exact walk_str, fun _ _ _ => trivial, fun O2 H2 i x H3 d t l e y => ?_⟩
  obtain ⟨rfl, c, hc, rfl⟩ := y
  unfold signsD at e
  rw [List.getElem?_map, Array.getElem?_toList, hc] at e
  cases e
  exact ⟨Grow.refl _ _, .inl (.str _)⟩
theorem si_seq (hl : PE X e t → PI X tg e (iSeq X.K t)) (h : SE X W e t m) : SI X W false tg e (iSeq X.K t) (mIt m) := by
  refine ⟨hl h.pe, fun F O E σ H R Re s => ?_⟩
  have s' := s.bnd
  cases hm : m E with
  | bad => rw [hm] at s'; exact s'.elim
  | ex x E1 => rw [hm] at s'; exact .inl (h.rd F O E σ H _ Re (by rw [hm]; exact s'))
  | ok d E1 =>
    rw [hm] at s'
    obtain ⟨its, hi, k⟩ := Sat.lift s'
    cases d <;> first | (cases hi; done) | skip
    · cases hi
      refine .inr (.inr (h.rd F O E σ H _ Re (by
        rw [hm]
        intro O1 v H1 R1 l1 r1
        cases r1
        exact ⟨_, rfl, k O1 H1 _ R1 l1 wk_str⟩)))
    · cases hi
      refine .inl (h.rd F O E σ H _ Re (by
        rw [hm]
        intro O1 v H1 R1 l1 r1
        cases r1 with
        | lst hp rr => exact ⟨_, rfl, ⟨_, SqL.of (mask_le _ _ _ _ hp)⟩, k O1 H1 _ R1 l1 (wk_list hp rr)⟩))
    · cases hi
      refine .inr (.inl (h.rd F O E σ H _ Re (by
        rw [hm]
        intro O1 v H1 R1 l1 r1
        cases r1 with
        | tup hp rr => exact ⟨_, rfl, ⟨_, sqT_mono (mask_le _ _) hp.t⟩, k O1 H1 _ R1 l1 (wk_tup hp.t rr)⟩)))
def rangeD (lo hi : Int) : List D := (List.range (hi - lo).toNat).map fun k => .int (lo + (k : Nat))
noncomputable def rgOk (i : Int) : Bool := @decide (-1000000 ≤ i ∧ i ≤ 1000000) (Classical.propDecidable _)
theorem rgOk_iff {i : Int} : rgOk i = true ↔ -1000000 ≤ i ∧ i ≤ 1000000 := by
  unfold rgOk
  exact @decide_eq_true_iff _ (Classical.propDecidable _)
theorem wk_range {K : PySem.W.Frag} {O : List Addr} {H : Hp} {lo : Int} {n : Nat} : Wk false K O H (Itr lo n) ((List.range n).map fun k => .int (lo + (k : Nat))) := by
  refine ⟨fun _ => True, YFn fun i => .int (lo + i), ?_, fun _ _ _ => trivial, fun O2 H2 i x H3 d t l e y => ?_⟩
  · rw [List.length_map, List.length_range]
    exact walk_range
  · obtain ⟨rfl, rfl⟩ := y
    rw [List.getElem?_map] at e
    cases q : (List.range n)[i]? with
    | none => rw [q] at e; cases e
    | some k =>
      rw [q] at e
      cases e
      have := (List.getElem?_eq_some_iff.mp q).2
      rw [List.getElem_range] at this
      subst this
      exact ⟨Grow.refl _ _, .inl (.int _)⟩
theorem rgOk_b {i : Int} (h : rgOk i = true) : -(2 ^ 62) ≤ i ∧ i < 2 ^ 62 := by
  have h := rgOk_iff.mp h
  omega
noncomputable def mRng1 (ms : M (List Ag)) : M (List D) := bnd ms fun as => fun E => match rsvs E as with
  | some [.int j] => if rgOk j then .ok (rangeD 0 j) E else .bad
  | _ => .bad
noncomputable def mRng2 (ms : M (List Ag)) : M (List D) := bnd ms fun as => fun E => match rsvs E as with
  | some [.int i, .int j] => if rgOk i && rgOk j then .ok (rangeD i j) E else .bad
  | _ => .bad
theorem si_range1 {es : List Expr} {ts : TA} {ms : M (List Ag)} (hp : PA X es ts → PI X tg e (iRng1 ts)) (h : SOs X W es ts ms) : SI X W false tg e (iRng1 ts) (mRng1 ms) := by
  refine ⟨hp h.pa, fun F O E σ H R Re s => h.rd F O E σ H _ Re (s.bnd.mono (fun as E1 k O1 vs H1 R1 l1 av => ?_) (fun _ _ k => k))⟩
  split at k
  · rename_i j q
    split at k
    · rename_i hj
      obtain ⟨v, rfl, rq⟩ := paired1 (R1.rsvs av q)
      cases rq.int
      obtain ⟨b1, b2⟩ := rgOk_b hj
      exact ⟨j, rfl, b1, b2, k O1 H1 _ R1 l1 (by have := wk_range (K := X.K) (O := O1) (H := H1) (lo := 0) (n := j.toNat); unfold rangeD; rw [Int.sub_zero]; exact this)⟩
    · exact k.elim
  · exact k.elim
theorem walk_zipT {K : PySem.W.Frag} {a b : Addr} {xs ys : List V} {n : Nat} (hn : n = min xs.length ys.length) : Walk (RZ.ItzT K a b) n (fun H => SqT K H a xs ∧ SqT K H b ys) (YPair (fun i => xs[i]?) (fun i => ys[i]?)) := by
  subst hn
  refine ⟨fun i _ hi q => ?_, fun _ q => ⟨xs, ys, q.1, q.2, by omega⟩, fun i H v H' _ q y => ?_⟩
  · have h1 : i < xs.length := by omega
    have h2 : i < ys.length := by omega
    exact ⟨xs, ys, xs[i], ys[i], q.1, q.2, by simp [h1], by simp [h2]⟩
  · obtain ⟨T, x, z, h1, h2, h3, h4, h5⟩ := y
    exact ⟨T, x, z, h1, h2, h3, h4 xs q.1, h5 ys q.2⟩
def zipD (xs ys : List D) : List D := List.zipWith (fun x y => .tuple [x, y]) xs ys
theorem pair_new {K : PySem.W.Frag} {O : List Addr} {H : Hp} {T : Addr} {x y : V} {d d2 : D} (t : Trk O H) (r1 : Rp K (Mask O H) x d) (r2 : Rp K (Mask O H) y d2) (hT : H T = none) : Grow O H (upd H T (.tup [x, y])) ∧ RpB true K (Mask O (upd H T (.tup [x, y]))) (.ref T) (.tuple [d, d2]) := new_tupW t (.cons r1 (.cons r2 .nil)) hT
theorem wk_pair {K : PySem.W.Frag} {O : List Addr} {H : Hp} {J : It} {vs ws : List V} {ds es : List D} {G : Hp → Prop} (w : Walk J (min vs.length ws.length) G (YPair (fun i => vs[i]?) (fun i => ws[i]?))) (hG : ∀ O2 H2, Le O H O2 H2 → G H2)
    (r1 : RpAll K (Mask O H) vs ds) (r2 : RpAll K (Mask O H) ws es) : Wk true K O H J (zipD ds es) := by
  refine ⟨G, YPair (fun i => vs[i]?) (fun i => ws[i]?), ?_, hG, fun O2 H2 i x H3 d t l e y => ?_⟩
  · unfold zipD
    rw [List.length_zipWith, ← r1.length, ← r2.length]
    exact w
  · obtain ⟨T, x1, x2, rfl, nT, rfl, e1, e2⟩ := y
    obtain ⟨d1, q1, s1⟩ := r1.get e1
    obtain ⟨d2, q2, s2⟩ := r2.get e2
    unfold zipD at e
    rw [List.getElem?_zipWith, q1, q2] at e
    cases e
    exact pair_new t (s1.mono l) (s2.mono l) nT
def mZip (ms : M (List D)) : M (List D) := bnd ms fun ds => match ds with
  | [.list xs, .list ys] => ret (zipD xs ys)
  | [.tuple xs, .tuple ys] => ret (zipD xs ys)
  | _ => stuck
theorem si_zip {es : List Expr} {ts : TA} {ms : M (List D)} (hp : PA X es ts → PI X tg e (RZ.iZipA X.K ts)) (h : SA X W es ts ms) : SI X W true tg e (RZ.iZipA X.K ts) (mZip ms) := by
  refine ⟨hp h.pa, fun F O E σ H R Re s => h.rd F O E σ H _ Re (s.bnd.mono (fun ds E1 k O1 vs H1 R1 l1 rr => ?_) (fun _ _ k => k))⟩
  split at k
  · cases rr with
    | cons r1 rr =>
      cases rr with
      | cons r2 rr =>
        cases rr
        cases r1 with
        | lst h1 s1 =>
          cases r2 with
          | lst h2 s2 =>
            refine ⟨_, _, _, _, rfl, .inl ⟨SqL.of (mask_le _ _ _ _ h1), SqL.of (mask_le _ _ _ _ h2), k O1 H1 _ R1 l1 ?_⟩⟩
            exact wk_pair (walk_zip rfl) (fun O2 H2 l => ⟨SqL.of (mask_le _ _ _ _ (l _ _ h1)), SqL.of (mask_le _ _ _ _ (l _ _ h2))⟩) s1 s2
  · cases rr with
    | cons r1 rr =>
      cases rr with
      | cons r2 rr =>
        cases rr
        cases r1 with
        | tup h1 s1 =>
          cases r2 with
          | tup h2 s2 =>
            refine ⟨_, _, _, _, rfl, .inr ⟨sqT_mono (mask_le _ _) h1.t, sqT_mono (mask_le _ _) h2.t, k O1 H1 _ R1 l1 ?_⟩⟩
            exact wk_pair (walk_zipT rfl) (fun O2 H2 l => ⟨sqT_mono (mask_le _ _) (sqT_mono l h1.t), sqT_mono (mask_le _ _) (sqT_mono l h2.t)⟩) s1 s2
  · exact k.elim
def enumD (xs : List D) : List D := zipD ((List.range xs.length).map fun (i : Nat) => .int (i : Int)) xs
def mEnum (ms : M (List D)) : M (List D) := bnd ms fun ds => match ds with
  | [.list xs] => ret (enumD xs)
  | _ => stuck
end
end Bt
namespace Bt
open PySem L2
abbrev W0 : WX := fun _ _ _ _ => False
structure STs (X : Cx) (W : WX) (es : List Expr) (t : TT) (m : M Bool) : Prop where
  pt : PTs X es t
  rd : ∀ F O E σ H (Q : Bool → Hp → Prop), Rel X.K F O E σ H → Sat (m E) (KB X.K F σ O H Q) (KX X.K X.mg F σ O H W) → t σ H Q
theorem sts_nil {X : Cx} {W : WX} : STs X W [] tYes (ret true) := ⟨pts_nil, fun F O E σ H Q R s => s O H R (Le.refl O H)⟩
theorem sts_one {X : Cx} {W : WX} {e : Expr} {t : TT} {m : M Bool} (h : STt X W e t m) : STs X W [e] t m := ⟨pts_one h.pt, h.rd⟩
section
variable {K : PySem.W.Frag} {F : Frm} {O : List Addr} {E : En} {σ : L2.St} {H : Hp}
theorem mask_cons_new {p : Addr} {o : HO} (h : H p = none) : Same (Mask O H) (Mask (p :: O) (upd H p o)) := fun a x e => by
  obtain ⟨n, e⟩ := mask_some e
  have hne : a ≠ p := ne_of_none e h
  rw [mask_out (by intro z; cases z with | head => exact hne rfl | tail _ z => exact n z), upd_ne hne]
  exact e
theorem mask_upd_in {p : Addr} {o : HO} (h : p ∈ O) : Mask O (upd H p o) = Mask O H := by
  funext a
  by_cases q : a ∈ O
  · rw [mask_in q, mask_in q]
  · have hne : a ≠ p := fun z => q (by rw [z]; exact h)
    rw [mask_out q, mask_out q, upd_ne hne]
theorem Rel.newF {p : Addr} {o : HO} (R : Rel K F O E σ H) (h : H p = none) (ho : ¬ OddO o := by first | exact notOdd_lst | exact notOdd_dK | exact notOdd_ext | assumption) : Rel K ((p, o) :: F) (p :: O) E σ (upd H p o) := by
  have l := mask_cons_new (O := O) (o := o) h
  have hO := trk_fresh R.trk h
  refine ⟨R.len, fun q hq => ?_, R.tab.new h, fun i s e => ?_, R.apart, fun x hx => ?_, fun i ds q e1 e2 x hx => ?_, fodd_cons ho R.fodd⟩
  · by_cases z : q = p
    · subst z; rw [upd_same]; exact fun z => nomatch z
    · rw [upd_ne z]
      cases hq with
      | head => exact absurd rfl z
      | tail _ hq => exact R.trk q hq
  · have z := R.slot i s e
    cases s with
    | un => trivial
    | dat d => obtain ⟨v, e, r⟩ := z; exact ⟨v, e, r.mono l⟩
    | ow ds =>
      obtain ⟨q, vs, e, hq, hh, r⟩ := z
      have hne : q ≠ p := fun z => hO (by rw [← z]; exact hq)
      exact ⟨q, vs, e, List.mem_cons_of_mem _ hq, by rw [upd_ne hne]; exact hh, r.mono l⟩
    | scr ns => obtain ⟨q, e, r⟩ := z; exact ⟨q, e, Same.seq l r⟩
  · cases hx with
    | head => exact ⟨List.mem_cons_self, upd_same⟩
    | tail _ hx =>
      obtain ⟨h1, h2⟩ := R.frm x hx
      have hne : x.1 ≠ p := fun z => hO (by rw [← z]; exact h1)
      exact ⟨List.mem_cons_of_mem _ h1, by rw [upd_ne hne]; exact h2⟩
  · cases hx with
    | head =>
      obtain ⟨q', vs, e', hq, _⟩ := R.slot i _ e1
      rw [e2] at e'
      cases e'
      exact fun z => hO (by rw [show p = q from z]; exact hq)
    | tail _ hx => exact R.fap i ds q e1 e2 x hx
theorem Rel.updF {p : Addr} {o o' : HO} (R : Rel K ((p, o) :: F) O E σ H) (hF : ∀ x ∈ F, x.1 ≠ p) (ho' : ¬ OddO o' := by first | exact notOdd_lst | exact notOdd_dK | exact notOdd_ext | assumption) : Rel K ((p, o') :: F) O E σ (upd H p o') := by
  have ho : ¬ OddO o := R.fodd (p, o) List.mem_cons_self
  obtain ⟨hp, _⟩ := R.frm _ List.mem_cons_self
  have hp : p ∈ O := hp
  have em : Mask O (upd H p o') = Mask O H := mask_upd_in hp
  refine ⟨R.len, fun q hq => ?_, R.tab.upd hp (R.frm _ List.mem_cons_self).2 ho, fun i s e => ?_, R.apart, fun x hx => ?_, fun i ds q e1 e2 x hx => ?_, fodd_cons ho' (fodd_tail R.fodd)⟩
  · by_cases z : q = p
    · subst z; rw [upd_same]; exact fun z => nomatch z
    · rw [upd_ne z]; exact R.trk q hq
  · have z := R.slot i s e
    cases s with
    | un => trivial
    | dat d => obtain ⟨v, e, r⟩ := z; exact ⟨v, e, by rw [em]; exact r⟩
    | ow ds =>
      obtain ⟨q, vs, e', hq, hh, r⟩ := z
      have hne : q ≠ p := fun z => R.fap i ds q e e' _ List.mem_cons_self z.symm
      exact ⟨q, vs, e', hq, by rw [upd_ne hne]; exact hh, by rw [em]; exact r⟩
    | scr ns => obtain ⟨q, e, r⟩ := z; exact ⟨q, e, by rw [em]; exact r⟩
  · cases hx with
    | head => exact ⟨hp, upd_same⟩
    | tail _ hx =>
      obtain ⟨h1, h2⟩ := R.frm x (List.mem_cons_of_mem _ hx)
      exact ⟨h1, by rw [upd_ne (hF x hx)]; exact h2⟩
  · cases hx with
    | head => exact R.fap i ds q e1 e2 (p, o) List.mem_cons_self
    | tail _ hx => exact R.fap i ds q e1 e2 x (List.mem_cons_of_mem _ hx)
def rmA (O : List Addr) (p : Addr) : List Addr := O.filter fun q => decide (q ≠ p)
theorem mem_rmA {p q : Addr} : q ∈ rmA O p ↔ q ∈ O ∧ q ≠ p := by
  unfold rmA
  rw [List.mem_filter]
  simp
theorem mask_rm {p : Addr} : Same (Mask O H) (Mask (rmA O p) H) := fun a x e => by
  obtain ⟨n, e⟩ := mask_some e
  rw [mask_out (fun z => n (mem_rmA.mp z).1)]
  exact e
theorem Rel.freeF {p : Addr} {o : HO} (R : Rel K ((p, o) :: F) O E σ H) (hF : ∀ x ∈ F, x.1 ≠ p) : Rel K F (rmA O p) E σ H := by
  have ho : ¬ OddO o := R.fodd (p, o) List.mem_cons_self
  have l := mask_rm (O := O) (H := H) (p := p)
  refine ⟨R.len, fun q hq => R.trk q (mem_rmA.mp hq).1, R.tab.rm (fun P z => (mem_rmA.mp z).1) (fun P hP q => mem_rmA.mpr ⟨hP, fun z => ho (q o (by rw [z]; exact (R.frm _ List.mem_cons_self).2))⟩), fun i s e => ?_, R.apart, fun x hx => ?_, fun i ds q e1 e2 x hx => R.fap i ds q e1 e2 x (List.mem_cons_of_mem _ hx), fodd_tail R.fodd⟩
  · have z := R.slot i s e
    cases s with
    | un => trivial
    | dat d => obtain ⟨v, e, r⟩ := z; exact ⟨v, e, r.mono l⟩
    | ow ds =>
      obtain ⟨q, vs, e', hq, hh, r⟩ := z
      have hne : q ≠ p := fun z => R.fap i ds q e e' _ List.mem_cons_self z.symm
      exact ⟨q, vs, e', mem_rmA.mpr ⟨hq, hne⟩, hh, r.mono l⟩
    | scr ns => obtain ⟨q, e, r⟩ := z; exact ⟨q, e, Same.seq l r⟩
  · obtain ⟨h1, h2⟩ := R.frm x (List.mem_cons_of_mem _ hx)
    exact ⟨mem_rmA.mpr ⟨h1, hF x hx⟩, h2⟩
end

theorem wipe_get {σ : L2.St} {i : Nat} : ∀ {vs : List Nat}, i ∈ vs → i < σ.length → (L2.wipe σ vs)[i]? = some none
  | [], h, _ => by cases h
  | v :: vs, h, hl => by
    show ((L2.wipe σ vs).set v none)[i]? = some none
    by_cases e : v = i
    · subst e
      rw [List.getElem?_set_self (by rw [wipe_length]; exact hl)]
    · rw [List.getElem?_set_ne e]
      cases h with
      | head => exact absurd rfl e
      | tail _ h => exact wipe_get h hl
theorem wipe_wipe (σ : L2.St) (vs : List Nat) : L2.wipe (L2.wipe σ vs) vs = L2.wipe σ vs := by
  refine List.ext_getElem? fun i => ?_
  by_cases h : i ∈ vs
  · by_cases hl : i < σ.length
    · rw [wipe_get h (by rw [wipe_length]; exact hl), wipe_get h hl]
    · rw [List.getElem?_eq_none (by rw [wipe_length, wipe_length]; omega), List.getElem?_eq_none (by rw [wipe_length]; omega)]
  · rw [get_wipe h]
section
variable (vs : List Nat) (g : MG) (mt : M Bool) (me : M D) (E0 : En)
def lcGo : List D → En → List D → Res D
  | [], E, acc => .ok (.list acc) (backE E0 E vs)
  | d :: ds, E, acc => match g d (wipeE E vs) with
    | none => .bad
    | some E1 => match mt E1 with
      | .ok true E2 => match me E2 with
        | .ok y E3 => if acc.length < LIM then lcGo ds E3 (acc ++ [y]) else .bad
        | _ => .bad
      | .ok false E2 => lcGo ds E2 acc
      | _ => .bad
end
def mLc (mi : M (List D)) (g : MG) (mt : M Bool) (me : M D) (vs : List Nat) : M D := bnd mi fun its => fun E => lcGo vs g mt me E its E []
theorem lc_rd {X : Cx} {W : WX} {tg : Expr} {wi : TI} {mi : M (List D)} {g : TG} {mg : MG} {tt : TT} {mt : M Bool} {te : TE} {me : M D} {vs : List Nat} {iter : Expr} {b : Bool} (hi : SI X W b tg iter wi mi)
    (hg : ∀ O E σ H v d E' (F : Frm) (Q : L2.St → Hp → Prop), Rel X.K F O E σ H → RpB b X.K (Mask O H) v d → mg d E = some E' → (∀ σ', Rel X.K F O E' σ' H → L2.wipe σ' vs = L2.wipe σ vs → Q σ' H) → g v σ H Q)
    (ht : ∀ F O E σ H (Q : Bool → Hp → Prop), Rel X.K F O E σ H → Sat (mt E) (KB X.K F σ O H Q) (KX X.K X.mg F σ O H W0) → tt σ H Q)
    (he : ∀ F O E σ H (Q : VK), Rel X.K F O E σ H → Sat (me E) (KD X.K F σ O H Q) (KX X.K X.mg F σ O H W0) → te σ H Q) :
    ∀ F O E σ H (Q : VK), Rel X.K F O E σ H → Sat (mLc mi mg mt me vs E) (KD X.K F σ O H Q) (KX X.K X.mg F σ O H W) → tLc wi g tt te vs σ H Q := by
  intro F O E σ H Q R s
  refine hi.rd F O E σ H _ R (s.bnd.mono (fun its E1 k O1 H1 J R1 l1 wk => ?_) (fun _ _ k => k))
  intro D nD
  obtain ⟨G, Y, w, hG, hY⟩ := wk.ex
  have hFD : ∀ x ∈ F, x.1 ≠ D := fun x hx z => by
    have h2 := (R1.frm x hx).2
    rw [z, nD] at h2
    cases h2
  refine lc_it w (fun i H2 => ∃ O2 E2 σ2 acc ws, Rel X.K ((D, .lst ws) :: F) O2 E2 σ2 H2 ∧ L2.wipe σ2 vs = L2.wipe σ vs ∧ Le O1 H1 O2 H2 ∧ RpAll X.K (Mask O2 H2) ws acc ∧ i ≤ its.length ∧ Sat (lcGo vs mg mt me E1 (its.drop i) E2 acc) (KD X.K F σ O H Q) (KX X.K X.mg F σ O H W)) ?_ ?_ ?_ ?_
  · exact ⟨D :: O1, E1, σ, [], [], R1.newF nD, rfl, mask_cons_new nD, .nil, Nat.zero_le _, k⟩
  · rintro i H2 hi ⟨O2, E2, σ2, acc, ws, R2, _, l2, _⟩
    exact hG O2 H2 l2
  · rintro i x H2 H3 hi ⟨O2, E2, σ2, acc, ws, R2, hw, l2, ra, _, s2⟩ y
    have hd : its.drop i = its[i] :: its.drop (i + 1) := List.drop_eq_getElem_cons hi
    rw [hd] at s2
    unfold lcGo at s2
    obtain ⟨gr, rx⟩ := hY O2 H2 i x H3 its[i] R2.trk l2 (List.getElem?_eq_getElem hi) y
    have R3 := (R2.grow gr).wipe vs
    rw [hw] at R3
    cases eg : mg its[i] (wipeE E2 vs) with
    | none => rw [eg] at s2; exact s2.elim
    | some E3 =>
      rw [eg] at s2
      refine hg O2 _ _ H3 x its[i] E3 _ _ R3 rx eg fun σ3 R4 hw3 => ⟨by rw [hw3]; exact wipe_wipe _ _, ?_⟩
      dsimp only at s2
      refine ht _ O2 E3 σ3 H3 _ R4 ?_
      cases em : mt E3 with
      | bad => rw [em] at s2; exact s2.elim
      | ex _ _ => rw [em] at s2; exact s2.elim
      | ok bb E4 =>
        rw [em] at s2
        intro O4 H4 R5 l4
        have l5 : Le O1 H1 O4 H4 := (l2.trans gr.le).trans l4
        cases bb with
        | false =>
          show ∃ _, _
          exact ⟨O4, E4, σ3, acc, ws, R5, by rw [hw3]; exact wipe_wipe _ _, l5, (ra.mono gr.le).mono l4, hi, s2⟩
        | true =>
          show te σ3 H4 _
          dsimp only at s2
          refine he _ O4 E4 σ3 H4 _ R5 ?_
          cases ee : me E4 with
          | bad => rw [ee] at s2; exact s2.elim
          | ex _ _ => rw [ee] at s2; exact s2.elim
          | ok y E5 =>
            rw [ee] at s2
            intro O5 v5 H5 R6 l6 rv
            dsimp only at s2
            split at s2
            · rename_i hlim
              have l7 : Le O1 H1 O5 H5 := l5.trans l6
              have ra5 : RpAll X.K (Mask O5 H5) ws acc := ((ra.mono gr.le).mono l4).mono l6
              obtain ⟨hDO, hDw⟩ := R6.frm _ List.mem_cons_self
              refine ⟨ws, hDw, by rw [ra5.length]; exact lim_lt hlim, ?_⟩
              have em5 : Mask O5 (upd H5 D (.lst (ws ++ [v5]))) = Mask O5 H5 := mask_upd_in hDO
              exact ⟨O5, E5, σ3, acc ++ [y], ws ++ [v5], R6.updF hFD, by rw [hw3]; exact wipe_wipe _ _, by unfold Le; rw [em5]; exact l7, by rw [em5]; exact ra5.append (.one rv), hi, s2⟩
            · exact s2.elim
  · rintro H2 ⟨O2, E2, σ2, acc, ws, R2, hw, l2, ra, _, s2⟩
    rw [List.drop_length] at s2
    obtain ⟨hDO, hDw⟩ := R2.frm _ List.mem_cons_self
    have R3 := R2.freeF hFD
    have l3 : Same (Mask O2 H2) (Mask (rmA O2 D) H2) := mask_rm
    refine s2 (rmA O2 D) (.ref D) H2 (R1.back R3 (l2.trans l3) hw) ((l1.trans l2).trans l3) (.lst ?_ (ra.mono l3))
    rw [mask_out (fun z => (mem_rmA.mp z).2 rfl)]
    exact hDw
end Bt
namespace Bt
open PySem L2
section
variable {X : Cx} {W : WX}
theorem se_lc {b : Bool} {elt tg iter : Expr} {ifs : List Expr} {scope : Scope} {own : List (Str × Nat)} {asg : List Nat} {pos : Pos} {wi : TI} {g : TG} {tt : TT} {te : TE} {mi : M (List D)} {mg : MG} {mt : M Bool} {me : M D} (hc : X.calm = true) (hN : X.N.Nodup) (hi : SI X W b tg iter wi mi) (ok : BlkOk X.N X.env.scope scope own)
    (hg : ∀ (s : Shared) (H : Hp) (C : Addr) (cl : List (Str × Addr)) (fp : List Addr), SG (X.blk s H scope (compEnvC scope cl C X.env) fp) b asg tg g mg) (ha : ∀ i ∈ asg, i ∈ own.map (·.2)) (ht : ∀ (s : Shared) (H : Hp) (C : Addr) (cl : List (Str × Addr)) (fp : List Addr), STs (X.blk s H scope (compEnvC scope cl C X.env) fp) W0 ifs tt mt)
    (he : ∀ (s : Shared) (H : Hp) (C : Addr) (cl : List (Str × Addr)) (fp : List Addr), SE (X.blk s H scope (compEnvC scope cl C X.env) fp) W0 elt te me) (hs : ∀ x, foldedSetIterable iter X.env x = pure x := by intro _; rfl) :
    SE X W (.ListComp elt [⟨tg, iter, ifs, 0⟩] scope pos) (tLc wi g tt te (own.map (·.2))) (mLc mi mg mt me (own.map (·.2))) := by
  refine ⟨pe_lc hc hN hi.pi ok (fun s H C cl fp => (hg s H C cl fp).pg) (fun s H C cl fp => (ht s H C cl fp).pt) (fun s H C cl fp => (he s H C cl fp).pe) hs, ?_⟩
  refine lc_rd hi (fun O E σ H v d E' F Q R r e q => ?_) (fun F O E σ H Q R s => (ht X.s_0 X.H_0 0 [] []).rd F O E σ H Q R s) (fun F O E σ H Q R s => (he X.s_0 X.H_0 0 [] []).rd F O E σ H Q R s)
  exact (hg X.s_0 X.H_0 0 [] []).rd F O E σ H v d E' Q R r e fun σ' R' l' p' => q σ' R' (wipe_agree l' p' ha)
end

inductive Fl where
  | nx
  | bk
  | ct
  | rt (s : Sl)
def RelE (K : PySem.W.Frag) (F : Frm) (O' : List Addr) (E' : En) (σ' : L2.St) (H' : Hp) (v : V) : Fl → Prop
  | .nx => Rel K F O' E' σ' H'
  | .bk => Rel K F O' E' σ' H'
  | .ct => Rel K F O' E' σ' H'
  | .rt s => match s with
    | .dat d => Rel K F O' E' σ' H' ∧ Rp K (Mask O' H') v d
    | .ow ob => ∃ p ho, v = .ref p ∧ Rel K ((p, ho) :: F) O' E' σ' H' ∧ (∀ x ∈ F, x.1 ≠ p) ∧ RpO K (Mask O' H') ho ob
    | _ => False
def EndV (σ' : L2.St) (H' : Hp) (D' : Ends) (v : V) : Fl → Prop
  | .nx => D'.nx σ' H'
  | .bk => D'.bk σ' H'
  | .ct => D'.ct σ' H'
  | .rt _ => D'.rt v H'
abbrev Agr (asg : List Nat) (σ σ' : L2.St) : Prop := ∀ i, i ∉ asg → σ'[i]? = σ[i]?
abbrev KS (K : PySem.W.Frag) (F : Frm) (asg : List Nat) (σ : L2.St) (O : List Addr) (H : Hp) (D' : Ends) : Fl → En → Prop := fun f E' => ∀ O' σ' H' v, RelE K F O' E' σ' H' v f → Le O H O' H' → Agr asg σ σ' → EndV σ' H' D' v f
abbrev KXs (K : PySem.W.Frag) (mg : Str → Option Value) (F : Frm) (asg : List Nat) (σ : L2.St) (O : List Addr) (H : Hp) (W : WX) : Exc → En → Prop := fun x E' => ∀ O' σ' H' c dd, Rel K F O' E' σ' H' → Le O H O' H' → Agr asg σ σ' → ExR K mg O' H' x c dd → W c dd σ' H'
structure SS (X : Cx) (W : WX) (asg : List Nat) (st : Stmt) (t : TS) (m : M Fl) : Prop where
  ps : PS X st t
  rd : ∀ F O E σ H (D' : Ends), Rel X.K F O E σ H → Sat (m E) (KS X.K F asg σ O H D') (KXs X.K X.mg F asg σ O H W) → t D' σ H
structure SSs (X : Cx) (W : WX) (asg : List Nat) (st : List Stmt) (t : TS) (m : M Fl) : Prop where
  ps : PSs X st t
  rd : ∀ F O E σ H (D' : Ends), Rel X.K F O E σ H → Sat (m E) (KS X.K F asg σ O H D') (KXs X.K X.mg F asg σ O H W) → t D' σ H
theorem Agr.refl {asg : List Nat} {σ : L2.St} : Agr asg σ σ := fun _ _ => rfl
theorem Agr.trans {a b : List Nat} {σ σ1 σ2 : L2.St} (h : Agr a σ σ1) (h2 : Agr b σ1 σ2) : Agr (a ++ b) σ σ2 := fun i hi => (h2 i fun z => hi (List.mem_append_right _ z)).trans (h i fun z => hi (List.mem_append_left _ z))
theorem Agr.left {a b : List Nat} {σ σ1 : L2.St} (h : Agr a σ σ1) : Agr (a ++ b) σ σ1 := fun i hi => h i fun z => hi (List.mem_append_left _ z)
theorem Agr.right {a b : List Nat} {σ σ1 : L2.St} (h : Agr b σ σ1) : Agr (a ++ b) σ σ1 := fun i hi => h i fun z => hi (List.mem_append_right _ z)
theorem KXs.of {K : PySem.W.Frag} {mg : Str → Option Value} {F : Frm} {asg : List Nat} {σ : L2.St} {O : List Addr} {H : Hp} {W : WX} : ∀ x E, KXs K mg F asg σ O H W x E → KX K mg F σ O H W x E := fun x E h O' H' c dd R l e => h O' σ H' c dd R l Agr.refl e
section
variable {X : Cx} {W : WX} {e : Expr} {t : TE} {m : M D} {pos : Pos}
def mNil : M Fl := ret .nx
def mSeq (a b : M Fl) : M Fl := fun E => match a E with
  | .ok .nx E' => b E'
  | r => r
theorem Sat.seq {a b : M Fl} {E : En} {k : Fl → En → Prop} {w : Exc → En → Prop} (h : Sat (mSeq a b E) k w) : Sat (a E) (fun f E' => match f with | .nx => Sat (b E') k w | f => k f E') w := by
  unfold mSeq at h
  cases e : a E with
  | bad => rw [e] at h; exact h
  | ex x E1 => rw [e] at h; exact h
  | ok f E1 => rw [e] at h; cases f <;> exact h
theorem sss_nil : SSs X W [] [] tNext mNil := ⟨pss_nil, fun F O E σ H D' R s => s O σ H .non R (Le.refl O H) Agr.refl⟩
theorem sss_cons {a1 a2 : List Nat} {st : Stmt} {sts : List Stmt} {t u : TS} {m1 m2 : M Fl} (h : SS X W a1 st t m1) (hs : SSs X W a2 sts u m2) : SSs X W (a1 ++ a2) (st :: sts) (tSeq t u) (mSeq m1 m2) := by
  refine ⟨pss_cons h.ps hs.ps, fun F O E σ H D' R s => h.rd F O E σ H _ R (s.seq.mono (fun f E1 k O1 σ1 H1 v1 R1 l1 a1 => ?_) (fun x E1 k O1 σ1 H1 c dd R1 l1 a1 ex => k O1 σ1 H1 c dd R1 l1 a1.left ex))⟩
  cases f with
  | nx =>
    refine hs.rd F O1 E1 σ1 H1 D' R1 (Sat.mono k (fun f E2 k2 O2 σ2 H2 v2 R2 l2 a2 => ?_) (fun x E2 k2 O2 σ2 H2 c dd R2 l2 a2 ex => k2 O2 σ2 H2 c dd R2 (l1.trans l2) (a1.trans a2) ex))
    exact k2 O2 σ2 H2 v2 R2 (l1.trans l2) (a1.trans a2)
  | bk => exact k O1 σ1 H1 v1 R1 l1 a1.left
  | ct => exact k O1 σ1 H1 v1 R1 l1 a1.left
  | rt d => exact k O1 σ1 H1 v1 R1 l1 a1.left
def mRet (m : M D) : M Fl := bnd m fun d => ret (.rt (.dat d))
theorem ss_ret (h : SE X W e t m) : SS X W [] (.Return (some e) pos) (tRet t) (mRet m) :=
  ⟨ps_ret h.pe, fun F O E σ H D' R s => h.rd F O E σ H _ R (s.bnd.mono (fun d E1 k O1 v H1 R1 l1 r => k O1 σ H1 v ⟨R1, r⟩ l1 Agr.refl) (KXs.of))⟩
def mExpr (m : M D) : M Fl := bnd m fun _ => ret .nx
theorem ss_expr (hp : PE X e t → PS X (.Expr e pos) (tDrop t)) (h : SE X W e t m) : SS X W [] (.Expr e pos) (tDrop t) (mExpr m) :=
  ⟨hp h.pe, fun F O E σ H D' R s => h.rd F O E σ H _ R (s.bnd.mono (fun d E1 k O1 v H1 R1 l1 r => k O1 σ H1 .non R1 l1 Agr.refl) (KXs.of))⟩
def mSet (g : MG) (m : M D) : M Fl := bnd m fun d => fun E => match g d E with
  | some E' => .ok .nx E'
  | none => .bad
theorem ss_asg {asg : List Nat} {tg : Expr} {g : TG} {mg : MG} {st : Stmt} (hp : PE X e t → PG X tg g → PS X st (tAsg t g)) (h : SE X W e t m) (hg : SG X false asg tg g mg) : SS X W asg st (tAsg t g) (mSet mg m) := by
  refine ⟨hp h.pe hg.pg, fun F O E σ H D' R s => h.rd F O E σ H _ R (s.bnd.mono (fun d E1 k O1 v H1 R1 l1 r => ?_) (KXs.of))⟩
  cases eg : mg d E1 with
  | none => rw [eg] at k; exact k.elim
  | some E2 =>
    rw [eg] at k
    exact hg.rd F O1 E1 σ H1 v d E2 _ R1 (.inl r) eg fun σ2 R2 _ a2 => k O1 σ2 H1 .non R2 l1 a2
def mIfS (mt : M Bool) (a b : M Fl) : M Fl := bnd mt fun c => if c then a else b
theorem ss_if {a1 a2 : List Nat} {c : Expr} {a b : List Stmt} {tc : TT} {t u : TS} {mt : M Bool} {m1 m2 : M Fl} (hc : STt X W c tc mt) (ha : SSs X W a1 a t m1) (hb : SSs X W a2 b u m2) : SS X W (a1 ++ a2) (.If c a b pos) (tIfS tc t u) (mIfS mt m1 m2) := by
  refine ⟨ps_if hc.pt ha.ps hb.ps, fun F O E σ H D' R s => hc.rd F O E σ H _ R (s.bnd.mono (fun c E1 k O1 H1 R1 l1 => ?_) (KXs.of))⟩
  cases c with
  | true =>
    show t D' σ H1
    exact ha.rd F O1 E1 σ H1 D' R1 (Sat.mono k (fun f E2 k2 O2 σ2 H2 v2 R2 l2 a2 => k2 O2 σ2 H2 v2 R2 (l1.trans l2) a2.left) (fun x E2 k2 O2 σ2 H2 c dd R2 l2 a2 ex => k2 O2 σ2 H2 c dd R2 (l1.trans l2) a2.left ex))
  | false =>
    show u D' σ H1
    exact hb.rd F O1 E1 σ H1 D' R1 (Sat.mono k (fun f E2 k2 O2 σ2 H2 v2 R2 l2 a2 => k2 O2 σ2 H2 v2 R2 (l1.trans l2) a2.right) (fun x E2 k2 O2 σ2 H2 c dd R2 l2 a2 ex => k2 O2 σ2 H2 c dd R2 (l1.trans l2) a2.right ex))
def forGo (ws : List Nat) (g : MG) (mb : M Fl) : List D → M Fl
  | [], E => .ok .nx E
  | d :: ds, E => match g d E with
    | none => .bad
    | some E1 => match mb E1 with
      | .ok .nx E2 => forGo ws g mb ds (wipeE E2 ws)
      | .ok .ct E2 => forGo ws g mb ds (wipeE E2 ws)
      | .ok .bk E2 => .ok .nx (wipeE E2 ws)
      | .ok (.rt d) E2 => .ok (.rt d) E2
      | .ex x E2 => .ex x E2
      | .bad => .bad
def mFor (ws : List Nat) (mi : M (List D)) (g : MG) (mb : M Fl) : M Fl := bnd mi fun its => forGo ws g mb its
theorem ss_for (ws : List Nat) {b : Bool} {a1 a2 : List Nat} {tg iter : Expr} {body : List Stmt} {wi : TI} {g : TG} {tb : TS} {mi : M (List D)} {mg : MG} {mb : M Fl} (hp : PassesOwn (model X.prog X.w) X.A X.env X.xe) (hc : X.calm = true) (hi : SI X W b tg iter wi mi) (hg : SG X b a1 tg g mg) (hb : SSs X W a2 body tb mb)
    (hs : ∀ x, foldedSetIterable iter X.env x = pure x := by intro _; rfl) : SS X W (a1 ++ a2) (.For tg iter body [] pos) (tFor wi g tb) (mFor ws mi mg mb) := by
  refine ⟨ps_for hp hc hi.pi hg.pg hb.ps hs, fun F O E σ H D' R s => hi.rd F O E σ H _ R (s.bnd.mono (fun its E1 k O1 H1 J R1 l1 wk => ?_) (KXs.of))⟩
  obtain ⟨G, Y, w, hG, hY⟩ := wk.ex
  have ag : ∀ {σ1 σ2 σ3 : L2.St}, Agr (a1 ++ a2) σ1 σ2 → Agr (a1 ++ a2) σ2 σ3 → Agr (a1 ++ a2) σ1 σ3 := fun h h2 i hi => (h2 i hi).trans (h i hi)
  refine for_it w (fun i σ2 H2 => ∃ O2 E2, Rel X.K F O2 E2 σ2 H2 ∧ Le O1 H1 O2 H2 ∧ Agr (a1 ++ a2) σ σ2 ∧ i ≤ its.length ∧ Sat (forGo ws mg mb (its.drop i) E2) (KS X.K F (a1 ++ a2) σ O H D') (KXs X.K X.mg F (a1 ++ a2) σ O H W)) ⟨O1, E1, R1, Le.refl _ _, Agr.refl, Nat.zero_le _, k⟩ ?_ ?_ ?_
  · rintro i σ2 H2 _ ⟨O2, E2, R2, l2, _⟩
    exact hG O2 H2 l2
  · rintro i x σ2 H2 H3 hi ⟨O2, E2, R2, l2, g2, _, s2⟩ y
    have hd : its.drop i = its[i] :: its.drop (i + 1) := List.drop_eq_getElem_cons hi
    rw [hd] at s2
    unfold forGo at s2
    obtain ⟨gr, rx⟩ := hY O2 H2 i x H3 its[i] R2.trk l2 (List.getElem?_eq_getElem hi) y
    cases eg : mg its[i] E2 with
    | none => rw [eg] at s2; exact s2.elim
    | some E3 =>
      rw [eg] at s2
      dsimp only at s2
      refine hg.rd F O2 E2 σ2 H3 x its[i] E3 _ (R2.grow gr) rx eg fun σ3 R3 _ g3 => ?_
      have l3 : Le O1 H1 O2 H3 := l2.trans gr.le
      have g3' : Agr (a1 ++ a2) σ σ3 := ag g2 (Agr.left g3)
      refine hb.rd F O2 E3 σ3 H3 _ R3 ?_
      cases em : mb E3 with
      | bad => rw [em] at s2; exact s2.elim
      | ex z E4 =>
        rw [em] at s2
        intro O4 σ4 H4 c dd R4 l4 g4 ex
        exact s2 O4 σ4 H4 c dd R4 ((l1.trans l3).trans l4) (ag g3' (Agr.right g4)) ex
      | ok f E4 =>
        rw [em] at s2
        intro O4 σ4 H4 v4 R4 l4 g4
        have l5 : Le O1 H1 O4 H4 := l3.trans l4
        have g5 : Agr (a1 ++ a2) σ σ4 := ag g3' (Agr.right g4)
        cases f with
        | nx => exact ⟨O4, wipeE E4 ws, Rel.forgets R4 ws, l5, g5, hi, s2⟩
        | ct => exact ⟨O4, wipeE E4 ws, Rel.forgets R4 ws, l5, g5, hi, s2⟩
        | bk => exact s2 O4 σ4 H4 v4 (Rel.forgets R4 ws) (l1.trans l5) g5
        | rt d => exact s2 O4 σ4 H4 v4 R4 (l1.trans l5) g5
  · rintro σ2 H2 ⟨O2, E2, R2, l2, g2, _, s2⟩
    rw [List.drop_length] at s2
    exact s2 O2 σ2 H2 .non R2 (l1.trans l2) g2
end
end Bt
namespace Bt
open PySem L2
section
variable {K : PySem.W.Frag} {F : Frm} {O : List Addr} {E : En} {σ : L2.St} {H : Hp}
theorem Rel.toOwn {p : Addr} {vs : HO} {ds : Ob} {i : Nat} (R : Rel K ((p, vs) :: F) O E σ H) (r : RpO K (Mask O H) vs ds) (hF : ∀ x ∈ F, x.1 ≠ p) (hi : i < E.length) : Rel K F O (E.set i (.ow ds)) (σ.set i (some (.ref p))) H := by
  obtain ⟨hp, hh⟩ := R.frm _ List.mem_cons_self
  have hl : i < σ.length := by rw [← R.len]; exact hi
  refine ⟨by rw [List.length_set, List.length_set]; exact R.len, R.trk, R.tab, fun j s e => ?_, fun j k ds es q e1 e2 e3 e4 => ?_, fun x hx => R.frm x (List.mem_cons_of_mem _ hx), fun j ds q e1 e2 x hx => ?_, fodd_tail R.fodd⟩
  · by_cases h : i = j
    · subst h
      rw [List.getElem?_set_self hi] at e
      cases e
      rw [List.getElem?_set_self hl]
      exact ⟨p, vs, rfl, hp, hh, r⟩
    · rw [List.getElem?_set_ne h] at e
      rw [List.getElem?_set_ne h]
      exact R.slot j s e
  · by_cases h1 : i = j
    · by_cases h2 : i = k
      · rw [← h1, ← h2]
      · subst h1
        rw [List.getElem?_set_self hl] at e3
        rw [List.getElem?_set_ne h2] at e2 e4
        cases e3
        exact absurd rfl (R.fap k es p e2 e4 _ List.mem_cons_self)
    · by_cases h2 : i = k
      · subst h2
        rw [List.getElem?_set_self hl] at e4
        rw [List.getElem?_set_ne h1] at e1 e3
        cases e4
        exact absurd rfl (R.fap j ds p e1 e3 _ List.mem_cons_self)
      · rw [List.getElem?_set_ne h1] at e1 e3
        rw [List.getElem?_set_ne h2] at e2 e4
        exact R.apart j k ds es q e1 e2 e3 e4
  · by_cases h1 : i = j
    · subst h1
      rw [List.getElem?_set_self hl] at e2
      cases e2
      exact hF x hx
    · rw [List.getElem?_set_ne h1] at e1 e2
      exact R.fap j ds q e1 e2 x (List.mem_cons_of_mem _ hx)
theorem Rel.updOwn {p : Addr} {vs : HO} {ds ds0 : Ob} {i : Nat} (R : Rel K F O E σ H) (h0 : E[i]? = some (.ow ds0)) (hs : σ[i]? = some (some (.ref p))) (r : RpO K (Mask O H) vs ds) : Rel K F O (E.set i (.ow ds)) σ (upd H p vs) ∧ Mask O (upd H p vs) = Mask O H := by
  obtain ⟨q, ws, e, hp, hh, rr0⟩ := R.slot i _ h0
  rw [hs] at e
  cases e
  have em : Mask O (upd H p vs) = Mask O H := mask_upd_in hp
  have hi : i < E.length := (List.getElem?_eq_some_iff.mp h0).1
  refine ⟨⟨by rw [List.length_set]; exact R.len, fun q hq => ?_, R.tab.upd hp hh rr0.odd, fun j s e => ?_, fun j k d1 d2 q e1 e2 e3 e4 => ?_, fun x hx => ?_, fun j d1 q e1 e2 x hx => ?_, R.fodd⟩, em⟩
  · by_cases z : q = p
    · subst z; rw [upd_same]; exact fun z => nomatch z
    · rw [upd_ne z]; exact R.trk q hq
  · by_cases h : i = j
    · subst h
      rw [List.getElem?_set_self hi] at e
      cases e
      exact ⟨p, vs, hs, hp, upd_same, by rw [em]; exact r⟩
    · rw [List.getElem?_set_ne h] at e
      have z := R.slot j s e
      cases s with
      | un => trivial
      | dat d => obtain ⟨v, e, r⟩ := z; exact ⟨v, e, by rw [em]; exact r⟩
      | ow es =>
        obtain ⟨q, ws, e', hq, hh, r⟩ := z
        have hne : q ≠ p := fun z => h (R.apart i j ds0 es p h0 e hs (by rw [e', z]))
        exact ⟨q, ws, e', hq, by rw [upd_ne hne]; exact hh, by rw [em]; exact r⟩
      | scr ns => obtain ⟨q, e, r⟩ := z; exact ⟨q, e, by rw [em]; exact r⟩
  · have o' : ∀ {j : Nat} {es : Ob}, (E.set i (Sl.ow ds))[j]? = some (.ow es) → ∃ es', E[j]? = some (.ow es') := fun {j es} e => by
      by_cases h : i = j
      · subst h; exact ⟨ds0, h0⟩
      · rw [List.getElem?_set_ne h] at e; exact ⟨es, e⟩
    obtain ⟨a, ea⟩ := o' e1
    obtain ⟨b, eb⟩ := o' e2
    exact R.apart j k a b q ea eb e3 e4
  · obtain ⟨h1, h2⟩ := R.frm x hx
    have hne : x.1 ≠ p := R.fap i ds0 p h0 hs x hx
    exact ⟨h1, by rw [upd_ne hne]; exact h2⟩
  · by_cases h : i = j
    · subst h
      exact R.fap i ds0 q h0 e2 x hx
    · rw [List.getElem?_set_ne h] at e1
      exact R.fap j d1 q e1 e2 x hx
theorem Rel.frz {p : Addr} {ds : List D} {i : Nat} (R : Rel K F O E σ H) (h0 : E[i]? = some ((.ow (.l ds)))) (hs : σ[i]? = some (some (.ref p))) : Rel K F (rmA O p) (E.set i (.dat (.list ds))) σ H ∧ Rp K (Mask (rmA O p) H) (.ref p) (.list ds) := by
  obtain ⟨q, ws, e, hp, hh, r⟩ := R.ownL h0
  rw [hs] at e
  cases e
  have l := mask_rm (O := O) (H := H) (p := p)
  have hi : i < E.length := (List.getElem?_eq_some_iff.mp h0).1
  have rp : Rp K (Mask (rmA O p) H) (.ref p) (.list ds) := .lst (by rw [mask_out (fun z => (mem_rmA.mp z).2 rfl)]; exact hh) (r.mono l)
  refine ⟨⟨by rw [List.length_set]; exact R.len, fun q hq => R.trk q (mem_rmA.mp hq).1, R.tab.rm (fun P z => (mem_rmA.mp z).1) (fun P hP q => mem_rmA.mpr ⟨hP, fun z => notOdd_lst (q (.lst ws) (by subst z; exact hh))⟩), fun j s e => ?_, fun j k ds es q e1 e2 e3 e4 => ?_, fun x hx => ?_, fun j ds q e1 e2 x hx => ?_, R.fodd⟩, rp⟩
  · by_cases h : i = j
    · subst h
      rw [List.getElem?_set_self hi] at e
      cases e
      exact ⟨_, hs, rp⟩
    · rw [List.getElem?_set_ne h] at e
      have z := R.slot j s e
      cases s with
      | un => trivial
      | dat d => obtain ⟨v, e, r⟩ := z; exact ⟨v, e, r.mono l⟩
      | ow es =>
        obtain ⟨q, ws, e', hq, hh, r⟩ := z
        have hne : q ≠ p := fun z => h (R.apart i j _ es p h0 e hs (by rw [e', z]))
        exact ⟨q, ws, e', mem_rmA.mpr ⟨hq, hne⟩, hh, r.mono l⟩
      | scr ns => obtain ⟨q, e, r⟩ := z; exact ⟨q, e, Same.seq l r⟩
  · by_cases h1 : i = j
    · subst h1; rw [List.getElem?_set_self hi] at e1; cases e1
    · by_cases h2 : i = k
      · subst h2; rw [List.getElem?_set_self hi] at e2; cases e2
      · rw [List.getElem?_set_ne h1] at e1
        rw [List.getElem?_set_ne h2] at e2
        exact R.apart j k ds es q e1 e2 e3 e4
  · obtain ⟨h1, h2⟩ := R.frm x hx
    exact ⟨mem_rmA.mpr ⟨h1, R.fap i _ p h0 hs x hx⟩, h2⟩
  · by_cases h : i = j
    · subst h; rw [List.getElem?_set_self hi] at e1; cases e1
    · rw [List.getElem?_set_ne h] at e1
      exact R.fap j ds q e1 e2 x hx
theorem Rel.newApart {p : Addr} (R : Rel K F O E σ H) (h : H p = none) : ∀ x ∈ F, x.1 ≠ p := fun x hx z => by
  have h2 := (R.frm x hx).2
  rw [z, h] at h2
  cases h2
end

structure SF (X : Cx) (W : WX) (e : Expr) (t : TE) (m : M (List D)) : Prop where
  pe : PE X e t
  rd : ∀ F O E σ H (Q : VK), Rel X.K F O E σ H → Sat (m E) (fun ds E' => ∀ O' p vs H', Rel X.K ((p, .lst vs) :: F) O' E' σ H' → (∀ x ∈ F, x.1 ≠ p) → Le O H O' H' → RpAll X.K (Mask O' H') vs ds → Q (.ref p) H') (KX X.K X.mg F σ O H W) → t σ H Q
section
variable {X : Cx} {W : WX} {e a b : Expr} {t ta tb : TE} {m : M D} {pos : Pos}
def mLstF (ms : M (List D)) : M (List D) := bnd ms fun ds => fun E => if ds.length ≤ LIM then .ok ds E else .bad
theorem sf_lst {es : List Expr} {ts : TA} {ms : M (List D)} (h : SA X W es ts ms) : SF X W (.List es pos) (tLst ts) (mLstF ms) := by
  refine ⟨pe_lst h.pa, fun F O E σ H Q R s => h.rd F O E σ H _ R (s.bnd.mono (fun ds E1 k O1 vs H1 R1 l1 r1 => ?_) (fun _ _ k => k))⟩
  split at k
  · rename_i hl
    refine ⟨by rw [r1.length]; exact lim_le hl, fun p np => ?_⟩
    have l2 := mask_cons_new (O := O1) (o := .lst vs) np
    exact k (p :: O1) p vs _ (R1.newF np) (R1.newApart np) (l1.trans l2) (r1.mono l2)
  · exact k.elim
def addL : D → D → Option (List D)
  | .list a, .list b => if a.length + b.length ≤ LIM then some (a ++ b) else none
  | _, _ => none
noncomputable def mulL : D → D → Option (List D)
  | .list a, .int k => if repOk a.length k then some (List.replicate k.toNat a).flatten else none
  | _, _ => none
def listL : List D → Option (List D)
  | [.list ds] => some ds
  | [.tuple ds] => some ds
  | _ => none
def mOpF (f : D → D → Option (List D)) (ma mb : M Ag) : M (List D) := bnd ma fun a => bnd mb fun b => fun E => match rsv E a, rsv E b with
  | some x, some y => lift (f x y) E
  | _, _ => .bad
def mBF (f : List D → Option (List D)) (ms : M (List Ag)) : M (List D) := bnd ms fun as => fun E => match rsvs E as with
  | some ds => lift (f ds) E
  | none => .bad
def mOwn (i : Nat) (m : M (List D)) : M Fl := bnd m fun ds => fun E => if i < E.length then .ok .nx (E.set i ((.ow (.l ds)))) else .bad
theorem ss_own {i : Nat} {st : Stmt} {m : M (List D)} (hp : PE X e t → PS X st (tAsg t (gName i))) (h : SF X W e t m) : SS X W [i] st (tAsg t (gName i)) (mOwn i m) := by
  refine ⟨hp h.pe, fun F O E σ H D' R s => h.rd F O E σ H _ R (s.bnd.mono (fun ds E1 k O1 p vs H1 R1 hF l1 r => ?_) (KXs.of))⟩
  split at k
  · rename_i hi
    refine k O1 (σ.set i (some (.ref p))) H1 .non (R1.toOwn r hF hi) l1 fun j hj => ?_
    have hne : i ≠ j := fun z => hj (by rw [z]; exact List.mem_cons_self)
    rw [List.getElem?_set_ne hne]
  · exact k.elim
def mApp (i : Nat) (m : M D) : M Fl := fun E => match E[i]? with
  | some ((.ow (.l _))) => (bnd m fun d => fun E => match E[i]? with
    | some ((.ow (.l ds))) => if ds.length < LIM then .ok .nx (E.set i ((.ow (.l (ds ++ [d]))))) else .bad
    | _ => .bad) E
  | _ => .bad
theorem ss_app {i : Nat} {st : Stmt} (hp : PE X e t → PS X st (tDrop (tBM X.K "list" rAppend (tVar i) (tCons t tNil)))) (h : SE X W e t m) : SS X W [] st (tDrop (tBM X.K "list" rAppend (tVar i) (tCons t tNil))) (mApp i m) := by
  refine ⟨hp h.pe, fun F O E σ H D' R s => ?_⟩
  unfold mApp at s
  split at s
  · rename_i ds0 h0
    obtain ⟨p, vs0, e0, hp0, hh0, r0⟩ := R.ownL h0
    refine ⟨.ref p, e0, .inl ⟨rfl, _, SqL.of hh0⟩, h.rd F O E σ H _ R (s.bnd.mono (fun d E1 k O1 v H1 R1 l1 r => ?_) (KXs.of))⟩
    split at k
    · rename_i ds h1
      split at k
      · rename_i hl
        obtain ⟨p', vs, e1, hp1, hh1, r1⟩ := R1.ownL h1
        rw [e0] at e1
        cases e1
        obtain ⟨R2, em⟩ := R1.updOwn (vs := .lst (vs ++ [v])) (ds := .l (ds ++ [d])) h1 e0 (r1.append (.one r))
        refine ⟨p, vs, v, rfl, rfl, hh1, by rw [r1.length]; exact lim_lt hl, k O1 σ _ .non R2 (by unfold Le; rw [em]; exact l1) Agr.refl⟩
      · exact k.elim
    · exact k.elim
  · exact s.elim
def mPut (i : Nat) (mk : M Ag) (m : M D) : M Fl := bnd m fun d => fun E => match E[i]? with
  | some ((.ow (.l _))) => (bnd mk fun a => fun E => match E[i]?, rsv E a with
    | some ((.ow (.l ds))), some (.int k) => match ixN ds.length k with
      | some j => .ok .nx (E.set i ((.ow (.l (ds.set j d)))))
      | none => .bad
    | _, _ => .bad) E
  | _ => .bad
theorem ss_put {i : Nat} {k : Expr} {tk : TE} {mk : M Ag} {st : Stmt} (hp : PE X e t → PE X k tk → PS X st (tAsg t (gSub (tVar i) tk rSetL))) (h : SE X W e t m) (hk : SO X W k tk mk) : SS X W [] st (tAsg t (gSub (tVar i) tk rSetL)) (mPut i mk m) := by
  refine ⟨hp h.pe hk.pe, fun F O E σ H D' R s => h.rd F O E σ H _ R (s.bnd.mono (fun d E1 k1 O1 v H1 R1 l1 r => ?_) (KXs.of))⟩
  split at k1
  · rename_i ds0 h0
    obtain ⟨p, vs0, e0, hp0, hh0, r0⟩ := R1.ownL h0
    refine ⟨.ref p, e0, hk.rd F O1 E1 σ H1 _ R1 (k1.bnd.mono (fun a E2 k2 O2 u H2 R2 l2 av => ?_) (fun x E2 k2 => KX.le l1 _ _ (KXs.of _ _ k2)))⟩
    split at k2
    · rename_i ds kk h1 q
      split at k2
      · rename_i j hj
        obtain ⟨p', vs, e1, hp1, hh1, r1⟩ := R2.ownL h1
        rw [e0] at e1
        cases e1
        obtain ⟨R3, em⟩ := R2.updOwn (vs := .lst (vs.set j v)) (ds := .l (ds.set j d)) h1 e0 (r1.set (r.mono l2) j)
        refine ⟨p, vs, kk, j, rfl, (R2.rsv av q).int, hh1, by rw [r1.length]; exact hj, k2 O2 σ _ .non R3 (by unfold Le; rw [em]; exact l1.trans l2) Agr.refl⟩
      · exact k2.elim
    · exact k2.elim
  · exact k1.elim
def mFrz (i : Nat) : M D := fun E => match E[i]? with
  | some ((.ow (.l ds))) => .ok (.list ds) (E.set i (.dat (.list ds)))
  | some (.dat d) => .ok d E
  | _ => .bad
theorem se_frz {i : Nat} (h : PE X e (tVar i)) : SE X W e (tVar i) (mFrz i) := by
  refine ⟨h, fun F O E σ H Q R s => ?_⟩
  unfold mFrz at s
  split at s
  · rename_i ds h0
    obtain ⟨p, vs, e0, hp, hh, r⟩ := R.ownL h0
    obtain ⟨R2, r2⟩ := R.frz h0 e0
    exact ⟨_, e0, s (rmA O p) _ H R2 mask_rm r2⟩
  · rename_i d h0
    obtain ⟨v, e0, r⟩ := R.slot i _ h0
    exact ⟨v, e0, s O v H R (Le.refl O H) r⟩
  · exact s.elim
def mAug (f : Int → Int → Int) (i : Nat) (m : M D) : M Fl := fun E => match E[i]? with
  | some (.dat (.int x)) => (bnd m fun d => fun E => match d with
    | .int y => if i < E.length then .ok .nx (E.set i (.dat (.int (f x y)))) else .bad
    | _ => .bad) E
  | _ => .bad
theorem ss_aug {f : Int → Int → Int} {i : Nat} {st : Stmt} (hp : PE X e t → PS X st (tAug i t (ipI f))) (h : SE X W e t m) : SS X W [i] st (tAug i t (ipI f)) (mAug f i m) := by
  refine ⟨hp h.pe, fun F O E σ H D' R s => ?_⟩
  unfold mAug at s
  split at s
  · rename_i x h0
    obtain ⟨v, e0, r0⟩ := R.slot i _ h0
    cases r0
    refine ⟨_, e0, h.rd F O E σ H _ R (s.bnd.mono (fun d E1 k O1 v H1 R1 l1 r => ?_) (KXs.of))⟩
    cases d with
    | int y =>
      dsimp only at k
      split at k
      · rename_i hi
        cases r
        refine ⟨x, y, rfl, rfl, k O1 _ H1 .non (R1.set (.int _) hi) l1 fun j hj => ?_⟩
        have hne : i ≠ j := fun z => hj (by rw [z]; exact List.mem_cons_self)
        rw [List.getElem?_set_ne hne]
      · exact k.elim
    | _ => exact k.elim
  · exact s.elim
end
structure SFO (X : Cx) (W : WX) (e : Expr) (t : TE) (m : M Ob) : Prop where
  pe : PE X e t
  rd : ∀ F O E σ H (Q : VK), Rel X.K F O E σ H → Sat (m E) (fun ob E' => ∀ O' p ho H', Rel X.K ((p, ho) :: F) O' E' σ H' → (∀ x ∈ F, x.1 ≠ p) → Le O H O' H' → RpO X.K (Mask O' H') ho ob → Q (.ref p) H') (KX X.K X.mg F σ O H W) → t σ H Q

structure SV (X : Cx) (W : WX) (e : Expr) (t : TE) (m : M Sl) : Prop where
  pe : PE X e t
  rd : ∀ F O E σ H (Q : VK), Rel X.K F O E σ H → Sat (m E) (fun s E' => ∀ O' v H', RelE X.K F O' E' σ H' v (.rt s) → Le O H O' H' → Q v H') (KX X.K X.mg F σ O H W) → t σ H Q
section
variable {K : PySem.W.Frag} {F : Frm} {O : List Addr} {E : En} {σ : L2.St} {H : Hp}
theorem Rel.give {i : Nat} {p : Addr} {ho : HO} {ob : Ob} (R : Rel K F O E σ H) (h0 : E[i]? = some (.ow ob)) (hs : σ[i]? = some (some (.ref p))) (hh : H p = some ho) : Rel K ((p, ho) :: F) O (E.set i .un) σ H ∧ ∀ x ∈ F, x.1 ≠ p := by
  obtain ⟨q, ho', e, hp, hh', r⟩ := R.slot i _ h0
  rw [hs] at e
  cases e
  have hi : i < E.length := (List.getElem?_eq_some_iff.mp h0).1
  have o' : ∀ {j : Nat} {es : Ob}, (E.set i Sl.un)[j]? = some (.ow es) → i ≠ j ∧ E[j]? = some (.ow es) := fun {j es} e => by
    by_cases h : i = j
    · subst h; rw [List.getElem?_set_self hi] at e; cases e
    · rw [List.getElem?_set_ne h] at e; exact ⟨h, e⟩
  refine ⟨⟨by rw [List.length_set]; exact R.len, R.trk, R.tab, fun j s e => ?_, fun j k ds es q e1 e2 e3 e4 => R.apart j k ds es q (o' e1).2 (o' e2).2 e3 e4, fun x hx => ?_, fun j ds q e1 e2 x hx => ?_, fodd_cons (by rw [hh] at hh'; cases hh'; exact RpO.odd (by assumption)) R.fodd⟩, R.fap i ob p h0 hs⟩
  · by_cases h : i = j
    · subst h; rw [List.getElem?_set_self hi] at e; cases e; trivial
    · rw [List.getElem?_set_ne h] at e; exact R.slot j s e
  · cases hx with
    | head => exact ⟨hp, hh⟩
    | tail _ hx => exact R.frm x hx
  · cases hx with
    | head => exact fun z => (o' e1).1 (R.apart i j ob ds p h0 (o' e1).2 hs (by rw [e2]; exact congrArg (fun a => some (some (V.ref a))) z.symm))
    | tail _ hx => exact R.fap j ds q (o' e1).2 e2 x hx
theorem Rel.melt {p : Addr} {ho : HO} {ds : List D} (R : Rel K ((p, ho) :: F) O E σ H) (hF : ∀ x ∈ F, x.1 ≠ p) (r : RpO K (Mask O H) ho (.l ds)) : Rel K F (rmA O p) E σ H ∧ Rp K (Mask (rmA O p) H) (.ref p) (.list ds) := by
  obtain ⟨vs, rfl, r⟩ := r.lst
  refine ⟨R.freeF hF, .lst ?_ (r.mono mask_rm)⟩
  rw [mask_out (fun z => (mem_rmA.mp z).2 rfl)]
  exact (R.frm _ List.mem_cons_self).2
end
def thaw (s : Sl) : M D := match s with
  | .dat d => ret d
  | .ow (.l ds) => ret (.list ds)
  | _ => stuck
section
variable {X : Cx} {W : WX} {e : Expr} {t : TE} {pos : Pos}
def mDat (m : M D) : M Sl := bnd m fun d => ret (.dat d)
def mObj (m : M Ob) : M Sl := bnd m fun o => ret (.ow o)
def mLstO (m : M (List D)) : M Ob := bnd m fun ds => ret (.l ds)
theorem SF.o {m : M (List D)} (h : SF X W e t m) : SFO X W e t (mLstO m) := ⟨h.pe, fun F O E σ H Q R s => h.rd F O E σ H Q R (s.bnd.mono (fun ds E' k O' p vs H' R' hF l r => k O' p (.lst vs) H' R' hF l r) (fun _ _ k => k))⟩
theorem SV.se {m : M Sl} (h : SV X W e t m) : SE X W e t (bnd m thaw) := by
  refine ⟨h.pe, fun F O E σ H Q R s => h.rd F O E σ H Q R (s.bnd.mono (fun z E' k O' v H' R' l => ?_) (fun _ _ k => k))⟩
  cases z with
  | dat d => exact k O' v H' R'.1 l R'.2
  | un => exact k.elim
  | scr _ => exact k.elim
  | ow ob =>
    cases ob with
    | d _ => exact k.elim
    | l ds =>
      obtain ⟨p, ho, rfl, R1, hF, r⟩ := R'
      obtain ⟨R2, r2⟩ := R1.melt hF r
      exact k (rmA O' p) _ H' R2 (l.trans mask_rm) r2
def mGive (i : Nat) : M Sl := fun E => match E[i]? with
  | some (.ow ob) => .ok (.ow ob) (E.set i .un)
  | some (.dat d) => .ok (.dat d) E
  | _ => .bad
def mRetS (m : M Sl) : M Fl := bnd m fun z => ret (.rt z)
theorem ss_retS {m : M Sl} (h : SV X W e t m) : SS X W [] (.Return (some e) pos) (tRet t) (mRetS m) :=
  ⟨ps_ret h.pe, fun F O E σ H D' R s => h.rd F O E σ H _ R (s.bnd.mono (fun z E1 k O1 v H1 R1 l1 => k O1 σ H1 v R1 l1 Agr.refl) (KXs.of))⟩
def mSetS (i : Nat) (m : M Sl) : M Fl := bnd m fun z => fun E => if i < E.length then .ok .nx (E.set i z) else .bad
end
end Bt
namespace Bt
open PySem L2

def spOf (K : PySem.W.Frag) (mg : Str → Option Value) (n : Nat) (Fm : M Sl) : Sp := fun vs H Q Ex => vs.length = n ∧ ∃ F O as, Rel K F O as (vs.map some) H ∧
  Sat (Fm as) (fun z as' => ∀ O' v H', RelE K F O' as' (vs.map some) H' v (.rt z) → Le O H O' H' → Q v H')
    (fun x as' => ∀ O' H' c dd, Rel K F O' as' (vs.map some) H' → Le O H O' H' → ExR K mg O' H' x c dd → Ex c dd H')
def okAsg (asg : List Nat) (as : List Sl) : Bool := asg.all fun i => match as[i]? with
  | some (.ow _) => false
  | _ => true
def parBack : List Sl → En → Option (List Sl)
  | [], _ => some []
  | .ow _ :: as, .ow ds :: E => (parBack as E).map (.ow ds :: ·)
  | .ow _ :: _, _ => none
  | s :: as, _ :: E => (parBack as E).map (s :: ·)
  | _ :: _, [] => none
def mFn (asg : List Nat) (nl : Nat) (m : M Fl) : M Sl := fun as => if okAsg asg as then match m (as ++ List.replicate nl .un) with
  | .ok f E' => match f, parBack as E' with
    | .rt d, some as' => .ok d as'
    | .nx, some as' => .ok (.dat .none) as'
    | _, _ => .bad
  | .ex x E' => match parBack as E' with
    | some as' => .ex x as'
    | none => .bad
  | .bad => .bad
  else .bad
theorem parBack_get : ∀ {as : List Sl} {E : En} {as' : List Sl}, parBack as E = some as' → as'.length = as.length ∧ ∀ (i : Nat) (s' : Sl), as'[i]? = some s' → (∃ ds0 ds, as[i]? = some (.ow ds0) ∧ E[i]? = some (.ow ds) ∧ s' = .ow ds) ∨ (as[i]? = some s' ∧ ∀ ds, s' ≠ .ow ds)
  | [], _, as', h => by
    cases h
    exact ⟨rfl, fun i s' e => by simp at e⟩
  | a :: as, E, as', h => by
    cases E with
    | nil => cases a <;> cases h
    | cons e E =>
      have key : ∀ (z : Sl), (parBack as E).map (z :: ·) = some as' → ((∃ ds0 ds, a = .ow ds0 ∧ e = .ow ds ∧ z = .ow ds) ∨ (z = a ∧ ∀ ds, a ≠ .ow ds)) → as'.length = (a :: as).length ∧ ∀ (i : Nat) (s' : Sl), as'[i]? = some s' → (∃ ds0 ds, (a :: as)[i]? = some (.ow ds0) ∧ (e :: E)[i]? = some (.ow ds) ∧ s' = .ow ds) ∨ ((a :: as)[i]? = some s' ∧ ∀ ds, s' ≠ .ow ds) := by
        intro z hz hc
        cases q : parBack as E with
        | none => rw [q] at hz; cases hz
        | some bs =>
          rw [q] at hz
          cases hz
          obtain ⟨l, ih⟩ := parBack_get q
          refine ⟨by rw [List.length_cons, List.length_cons, l], fun i s' es => ?_⟩
          cases i with
          | zero =>
            cases es
            rcases hc with ⟨d0, d1, rfl, rfl, rfl⟩ | ⟨rfl, hn⟩
            · exact .inl ⟨d0, d1, rfl, rfl, rfl⟩
            · exact .inr ⟨rfl, hn⟩
          | succ i => exact ih i s' es
      cases a with
      | ow d0 =>
        cases e with
        | ow d1 => exact key (.ow d1) h (.inl ⟨d0, d1, rfl, rfl, rfl⟩)
        | un => cases h
        | dat _ => cases h
        | scr _ => cases h
      | un => exact key .un h (.inr ⟨rfl, fun _ z => nomatch z⟩)
      | dat d => exact key (.dat d) h (.inr ⟨rfl, fun _ z => nomatch z⟩)
      | scr d => exact key (.scr d) h (.inr ⟨rfl, fun _ z => nomatch z⟩)
section
variable {K : PySem.W.Frag} {F : Frm} {O : List Addr} {as : List Sl} {vs : List V} {H : Hp}
theorem Rel.start {N : List Str} (R : Rel K F O as (vs.map some) H) (hN : vs.length ≤ N.length) : Rel K F O (as ++ List.replicate (N.length - vs.length) .un) (L2.start N vs) H := by
  have hl : as.length = vs.length := by rw [R.len, List.length_map]
  have g : ∀ (i : Nat) (s : Sl), (as ++ List.replicate (N.length - vs.length) Sl.un)[i]? = some s → (as[i]? = some s ∧ (L2.start N vs)[i]? = (vs.map some)[i]?) ∨ s = .un := fun i s e => by
    by_cases h : i < as.length
    · rw [List.getElem?_append_left h] at e
      exact .inl ⟨e, by unfold L2.start; rw [List.getElem?_append_left (by rw [List.length_map]; omega)]⟩
    · rw [List.getElem?_append_right (by omega)] at e
      have := List.mem_of_getElem? e
      exact .inr (List.eq_of_mem_replicate this)
  refine ⟨by unfold L2.start; rw [List.length_append, List.length_append, List.length_map, List.length_replicate, List.length_replicate, hl], R.trk, R.tab, fun i s e => ?_, fun i j ds es p e1 e2 e3 e4 => ?_, R.frm, fun i ds p e1 e2 => ?_, R.fodd⟩
  · rcases g i s e with ⟨h1, h2⟩ | h
    · rw [h2]; exact R.slot i s h1
    · subst h; trivial
  · rcases g i _ e1 with ⟨h1, h2⟩ | h
    · rcases g j _ e2 with ⟨h3, h4⟩ | h
      · rw [h2] at e3; rw [h4] at e4
        exact R.apart i j ds es p h1 h3 e3 e4
      · cases h
    · cases h
  · rcases g i _ e1 with ⟨h1, h2⟩ | h
    · rw [h2] at e2
      exact R.fap i ds p h1 e2
    · cases h
theorem Rel.finish {N : List Str} {asg : List Nat} {F' : Frm} {O' : List Addr} {E' : En} {σ' : L2.St} {H' : Hp} {as' : List Sl} (R : Rel K F O as (vs.map some) H) (R' : Rel K F' O' E' σ' H') (l : Le O H O' H') (ag : Agr asg (L2.start N vs) σ') (ok : okAsg asg as = true) (hb : parBack as E' = some as') : Rel K F' O' as' (vs.map some) H' := by
  obtain ⟨hl, hg⟩ := parBack_get hb
  have st : ∀ (i : Nat) (ds : Ob), as[i]? = some (.ow ds) → σ'[i]? = (vs.map some)[i]? := fun i ds e => by
    have hi : i < (vs.map some).length := by rw [← R.len]; exact (List.getElem?_eq_some_iff.mp e).1
    have hn : i ∉ asg := fun z => by
      have := List.all_eq_true.mp ok i z
      rw [e] at this
      cases this
    rw [ag i hn]
    unfold L2.start
    rw [List.getElem?_append_left hi]
  refine ⟨by rw [hl]; exact R.len, R'.trk, R'.tab, fun i s e => ?_, fun i j ds es p e1 e2 e3 e4 => ?_, R'.frm, fun i ds p e1 e2 => ?_, R'.fodd⟩
  · rcases hg i s e with ⟨d0, d1, h1, h2, rfl⟩ | ⟨h1, hn⟩
    · have z := R'.slot i _ h2
      rw [st i d0 h1] at z
      exact z
    · have z := R.slot i s h1
      cases s with
      | un => trivial
      | dat d => obtain ⟨v, e, r⟩ := z; exact ⟨v, e, r.mono l⟩
      | ow ds => exact absurd rfl (hn ds)
      | scr ns => obtain ⟨q, e, r⟩ := z; exact ⟨q, e, Same.seq l r⟩
  · rcases hg i _ e1 with ⟨d0, d1, h1, h2, q1⟩ | ⟨h1, hn⟩
    · rcases hg j _ e2 with ⟨c0, c1, h3, h4, q2⟩ | ⟨h3, hn⟩
      · rw [← st i d0 h1] at e3
        rw [← st j c0 h3] at e4
        exact R'.apart i j d1 c1 p h2 h4 e3 e4
      · exact absurd rfl (hn es)
    · exact absurd rfl (hn ds)
  · rcases hg i _ e1 with ⟨d0, d1, h1, h2, q1⟩ | ⟨h1, hn⟩
    · rw [← st i d0 h1] at e2
      exact R'.fap i d1 p h2 e2
    · exact absurd rfl (hn ds)
end
theorem fn_rd {X : Cx} {W : WX} {asg : List Nat} {body : List Stmt} {t : TS} {m : M Fl} {N : List Str} {n : Nat} {vs : List V} {H : Hp} {Q : VK} {Ex : XK} (h : SSs X W asg body t m) (hN : n ≤ N.length) (hW : ∀ c dd σ H', Ex c dd H' → W c dd σ H') (hsp : spOf X.K X.mg n (mFn asg (N.length - n) m) vs H Q Ex) : t { nx := fun _ H' => Q .non H', rt := Q } (L2.start N vs) H := by
  obtain ⟨rfl, F, O, as, R, s⟩ := hsp
  refine h.rd F O _ _ H _ (R.start hN) ?_
  unfold mFn at s
  split at s
  · rename_i ok
    cases em : m (as ++ List.replicate (N.length - vs.length) .un) with
    | bad => rw [em] at s; exact s.elim
    | ex x E' =>
      rw [em] at s
      dsimp only at s
      cases hb : parBack as E' with
      | none => rw [hb] at s; exact s.elim
      | some as' =>
        rw [hb] at s
        intro O' σ' H' c dd R' l ag ex
        exact hW _ _ _ _ (s O' H' c dd (R.finish R' l ag ok hb) l ex)
    | ok f E' =>
      rw [em] at s
      dsimp only at s
      intro O' σ' H' v R' l ag
      cases hb : parBack as E' with
      | none => rw [hb] at s; cases f <;> exact s.elim
      | some as' =>
        rw [hb] at s
        cases f with
        | nx => exact s O' .non H' ⟨R.finish R' l ag ok hb, .non⟩ l
        | bk => exact s.elim
        | ct => exact s.elim
        | rt z =>
          cases z with
          | un => exact R'.elim
          | scr _ => exact R'.elim
          | dat d => exact s O' v H' ⟨R.finish R'.1 l ag ok hb, R'.2⟩ l
          | ow ob =>
            obtain ⟨p, ho, rfl, R1, hF, r⟩ := R'
            exact s O' _ H' ⟨p, ho, rfl, R.finish R1 l ag ok hb, hF, r⟩ l
  · exact s.elim
section
variable {P : Program} {w : World} {K : PySem.W.Frag} {mg : Str → Option Value} {base : Heap}
theorem fn_okX {x qual : Str} {st : Stmt} {f : Addr} {fd : FuncData} {N ps : List Str} {k : Nat} {asg : List Nat} {m : M Fl} (Fn : Fun K x qual st f fd) (S : FnScope N ps (defScope st)) (hN : ps.length ≤ N.length)
    (hbody : ∀ (cdv : Value) (A : Around) (outer : List Env) (s : Shared) (H : Hp) (E : XK), Room k (A.deeper (PyProof.Rows.envOfC qual (defScope st) s.heap.objs.size f cdv)) → ∃ t, SSs (cxOf (L2.CX P w) P w K mg base N qual (defScope st) f cdv A outer s H E) (fun c dd _ H' => E c dd H') asg (defBody st) t m) :
    FnOk P w K mg base (L2.CX P w) (k + 1) f fd ps (spOf K mg ps.length (mFn asg (N.length - ps.length) m)) := by
  refine Fn.okX S (fun vs H Q E h => h.1) (fun cdv A outer s H vs Q E hr h => ?_)
  obtain ⟨t, hS⟩ := hbody cdv A outer s H E hr
  exact ⟨t, hS.ps, fn_rd hS hN (fun _ _ _ _ z => z) h⟩
end

def argSl (E : En) : List Ag → Option (List Sl)
  | [] => some []
  | .d d :: r => (argSl E r).map (.dat d :: ·)
  | .r i :: r => match E[i]? with
    | some (.dat d) => (argSl E r).map (.dat d :: ·)
    | some (.ow d) => (argSl E r).map (.ow d :: ·)
    | some (.scr d) => (argSl E r).map (.scr d :: ·)
    | some .un => (argSl E r).map (.un :: ·)
    | none => none
def isOwn (E : En) (i : Nat) : Bool := match E[i]? with
  | some (.ow _) => true
  | _ => false
def apartA (E : En) : List Ag → Bool
  | [] => true
  | .d _ :: r => apartA E r
  | .r i :: r => (!isOwn E i || !(r.any fun a => match a with | .r j => i == j | _ => false)) && apartA E r
def putB (E : En) : List Ag → List Sl → Option En
  | [], [] => some E
  | .d _ :: r, _ :: as => putB E r as
  | .r i :: r, a :: as => if isOwn E i then match a with
      | .ow ds => putB (E.set i (.ow ds)) r as
      | _ => none
    else putB E r as
  | _, _ => none
def mCallO (Fm : M Sl) (dds : List D) (ms : M (List Ag)) : M Sl := bnd ms fun ags => fun E => if apartA E ags then match argSl E ags with
  | none => .bad
  | some as => match Fm (as ++ dds.map .dat) with
    | .ok d as' => match putB E ags (as'.take ags.length) with
      | some E' => .ok d E'
      | none => .bad
    | .ex x as' => match putB E ags (as'.take ags.length) with
      | some E' => .ex x E'
      | none => .bad
    | .bad => .bad
  else .bad
def mCall (Fm : M Sl) (dds : List D) (ms : M (List Ag)) : M D := bnd (mCallO Fm dds ms) thaw
end Bt
namespace Bt
open PySem L2
def isRef (ags : List Ag) (j : Nat) : Bool := ags.any (fun a => match a with | .r i => i == j | _ => false)
def othF (E : En) (σ : L2.St) (H : Hp) (ags : List Ag) : Frm := (List.range E.length).filterMap fun j => if isRef ags j then none else match E[j]?, σ[j]? with
  | some (.ow _), some (some (.ref p)) => (H p).map fun o => (p, o)
  | _, _ => none
theorem isRef_of {ags : List Ag} {j k : Nat} (h : ags[k]? = some (.r j)) : isRef ags j = true := by
  unfold isRef
  exact List.any_eq_true.mpr ⟨_, List.mem_of_getElem? h, by simp⟩
theorem argSl_get {E : En} : ∀ {ags : List Ag} {as : List Sl}, argSl E ags = some as → as.length = ags.length ∧ ∀ (k : Nat) (s : Sl), as[k]? = some s → (∃ d, ags[k]? = some (.d d) ∧ s = .dat d) ∨ (∃ i, ags[k]? = some (.r i) ∧ E[i]? = some s)
  | [], as, h => by cases h; exact ⟨rfl, fun k s e => by simp at e⟩
  | a :: ags, as, h => by
    have key : ∀ z, (argSl E ags).map (z :: ·) = some as → ((∃ d, a = .d d ∧ z = .dat d) ∨ (∃ i, a = .r i ∧ E[i]? = some z)) → as.length = (a :: ags).length ∧ ∀ (k : Nat) (s : Sl), as[k]? = some s → (∃ d, (a :: ags)[k]? = some (.d d) ∧ s = .dat d) ∨ (∃ i, (a :: ags)[k]? = some (.r i) ∧ E[i]? = some s) := by
      intro z hz hc
      cases q : argSl E ags with
      | none => rw [q] at hz; cases hz
      | some bs =>
        rw [q] at hz
        cases hz
        obtain ⟨l, ih⟩ := argSl_get q
        refine ⟨by rw [List.length_cons, List.length_cons, l], fun k s e => ?_⟩
        cases k with
        | zero =>
          cases e
          rcases hc with ⟨d, rfl, rfl⟩ | ⟨i, rfl, e⟩
          · exact .inl ⟨d, rfl, rfl⟩
          · exact .inr ⟨i, rfl, e⟩
        | succ k => exact ih k s e
    cases a with
    | d d => exact key (.dat d) h (.inl ⟨d, rfl, rfl⟩)
    | r i =>
      unfold argSl at h
      cases q : E[i]? with
      | none => rw [q] at h; cases h
      | some s =>
        rw [q] at h
        cases s with
        | un => exact key .un h (.inr ⟨i, rfl, q⟩)
        | dat d => exact key (.dat d) h (.inr ⟨i, rfl, q⟩)
        | ow d => exact key (.ow d) h (.inr ⟨i, rfl, q⟩)
        | scr d => exact key (.scr d) h (.inr ⟨i, rfl, q⟩)
theorem apartA_get {E : En} : ∀ {ags : List Ag}, apartA E ags = true → ∀ {k j i : Nat}, ags[k]? = some (.r i) → ags[j]? = some (.r i) → isOwn E i = true → k = j
  | [], _, k, j, i, e, _, _ => by simp at e
  | a :: ags, h, k, j, i, e1, e2, ho => by
    cases a with
    | d d =>
      cases k with
      | zero => cases e1
      | succ k =>
        cases j with
        | zero => cases e2
        | succ j => rw [apartA_get (ags := ags) h e1 e2 ho]
    | r i0 =>
      have h' : ((!isOwn E i0 || !(isRef ags i0)) && apartA E ags) = true := by
        unfold apartA at h
        unfold isRef
        have e : (fun a : Ag => match a with | .r j => i0 == j | _ => false) = (fun a : Ag => match a with | .r i => i == i0 | _ => false) := by
          funext a
          cases a with
          | d _ => rfl
          | r j => exact Bool.beq_comm
        rw [← e]
        exact h
      rw [Bool.and_eq_true] at h'
      have nr : isOwn E i0 = true → isRef ags i0 = false := fun z => by
        have := h'.1
        rw [z] at this
        simpa using this
      cases k with
      | zero =>
        cases e1
        cases j with
        | zero => rfl
        | succ j =>
          have := isRef_of (ags := ags) (k := j) e2
          rw [nr ho] at this
          cases this
      | succ k =>
        cases j with
        | zero =>
          cases e2
          have := isRef_of (ags := ags) (k := k) e1
          rw [nr ho] at this
          cases this
        | succ j => rw [apartA_get (ags := ags) h'.2 e1 e2 ho]
theorem isOwn_get {E : En} {i : Nat} (h : isOwn E i = true) : ∃ ds, E[i]? = some (.ow ds) := by
  unfold isOwn at h
  split at h
  · rename_i ds e; exact ⟨ds, e⟩
  · cases h
theorem isOwn_of {E : En} {i : Nat} {ds : Ob} (h : E[i]? = some (.ow ds)) : isOwn E i = true := by
  unfold isOwn
  rw [h]
theorem isOwn_set {E : En} {i j : Nat} {ds : Ob} (h : isOwn E i = true) : isOwn (E.set i (.ow ds)) j = isOwn E j := by
  by_cases e : i = j
  · subst e
    obtain ⟨d, hd⟩ := isOwn_get h
    rw [h, isOwn_of (ds := ds) (List.getElem?_set_self (List.getElem?_eq_some_iff.mp hd).1)]
  · unfold isOwn
    rw [List.getElem?_set_ne e]
theorem apartA_set {E : En} {i : Nat} {ds : Ob} (h : isOwn E i = true) : ∀ ags : List Ag, apartA (E.set i (.ow ds)) ags = apartA E ags
  | [] => rfl
  | .d _ :: r => by unfold apartA; exact apartA_set h r
  | .r j :: r => by unfold apartA; rw [apartA_set h r, isOwn_set h]
theorem putB_get : ∀ {ags : List Ag} {E : En} {as : List Sl} {E' : En}, putB E ags as = some E' → apartA E ags = true → as.length = ags.length ∧ E'.length = E.length ∧
    ∀ j : Nat, (∃ (k : Nat) (ds : Ob), ags[k]? = some (.r j) ∧ isOwn E j = true ∧ as[k]? = some (.ow ds) ∧ E'[j]? = some (.ow ds)) ∨ ((isOwn E j = false ∨ isRef ags j = false) ∧ E'[j]? = E[j]?)
  | [], E, as, E', h, _ => by
    cases as with
    | nil => cases h; exact ⟨rfl, rfl, fun j => .inr ⟨.inr rfl, rfl⟩⟩
    | cons a as => cases h
  | .d d :: ags, E, as, E', h, ha => by
    cases as with
    | nil => cases h
    | cons a as =>
      obtain ⟨h1, h2, h3⟩ := putB_get (ags := ags) (E := E) (as := as) h ha
      refine ⟨by rw [List.length_cons, List.length_cons, h1], h2, fun j => ?_⟩
      rcases h3 j with ⟨k, ds, e1, e2, e3, e4⟩ | ⟨c, e⟩
      · exact .inl ⟨k + 1, ds, e1, e2, e3, e4⟩
      · exact .inr ⟨c.imp id fun z => by unfold isRef at z ⊢; rw [List.any_cons, z]; rfl, e⟩
  | .r i :: ags, E, as, E', h, ha => by
    cases as with
    | nil => cases h
    | cons a as =>
      have ha2 : apartA E ags = true := by unfold apartA at ha; exact (Bool.and_eq_true _ _ ▸ ha).2
      unfold putB at h
      by_cases ho : isOwn E i = true
      · rw [if_pos ho] at h
        cases a <;> first | (cases h; done) | skip
        rename_i ds
        obtain ⟨h1, h2, h3⟩ := putB_get (ags := ags) (E := E.set i (.ow ds)) (as := as) h (by rw [apartA_set ho]; exact ha2)
        refine ⟨by rw [List.length_cons, List.length_cons, h1], by rw [h2, List.length_set], fun j => ?_⟩
        by_cases e : i = j
        · subst e
          refine .inl ⟨0, ds, rfl, ho, rfl, ?_⟩
          obtain ⟨d0, hd⟩ := isOwn_get ho
          rcases h3 i with ⟨k, ds', e1, e2, e3, e4⟩ | ⟨c, e⟩
          · exact absurd (apartA_get ha (k := 0) (j := k + 1) (i := i) rfl e1 ho) (by omega)
          · rw [e, List.getElem?_set_self (List.getElem?_eq_some_iff.mp hd).1]
        · rcases h3 j with ⟨k, ds', e1, e2, e3, e4⟩ | ⟨c, q⟩
          · exact .inl ⟨k + 1, ds', e1, by rw [isOwn_set ho] at e2; exact e2, e3, e4⟩
          · refine .inr ⟨?_, by rw [q, List.getElem?_set_ne e]⟩
            rcases c with c | c
            · rw [isOwn_set ho] at c; exact .inl c
            · refine .inr ?_
              unfold isRef at c ⊢
              rw [List.any_cons, c]
              simpa using e
      · rw [if_neg ho] at h
        have ho' : isOwn E i = false := by simpa using ho
        obtain ⟨h1, h2, h3⟩ := putB_get (ags := ags) (E := E) (as := as) h ha2
        refine ⟨by rw [List.length_cons, List.length_cons, h1], h2, fun j => ?_⟩
        rcases h3 j with ⟨k, ds, e1, e2, e3, e4⟩ | ⟨c, e⟩
        · exact .inl ⟨k + 1, ds, e1, e2, e3, e4⟩
        · by_cases z : i = j
          · subst z; exact .inr ⟨.inl ho', e⟩
          · refine .inr ⟨c.imp id fun c => ?_, e⟩
            unfold isRef at c ⊢
            rw [List.any_cons, c]
            simpa using z
end Bt
namespace Bt
open PySem L2
theorem Paired.get2 {α β : Type} {P : α → β → Prop} : ∀ {xs : List α} {ys : List β} {k : Nat} {y : β}, Paired P xs ys → ys[k]? = some y → ∃ x, xs[k]? = some x ∧ P x y
  | _, _, _, _, .nil, e => by simp at e
  | _, _, 0, _, .cons h _, e => by cases e; exact ⟨_, rfl, h⟩
  | _, _, k + 1, _, .cons _ r, e => Paired.get2 (k := k) r e
theorem othF_mem {E : En} {σ : L2.St} {H : Hp} {ags : List Ag} {x : Addr × HO} (h : x ∈ othF E σ H ags) : ∃ (j : Nat) (ds : Ob), isRef ags j = false ∧ E[j]? = some (.ow ds) ∧ σ[j]? = some (some (.ref x.1)) ∧ H x.1 = some x.2 := by
  unfold othF at h
  obtain ⟨j, _, e⟩ := List.mem_filterMap.mp h
  by_cases c : isRef ags j = true
  · rw [if_pos c] at e; cases e
  · have c' : isRef ags j = false := by simpa using c
    rw [if_neg c] at e
    split at e
    · rename_i ds p e1 e2
      cases q : H p with
      | none => rw [q] at e; cases e
      | some o =>
        rw [q] at e
        cases e
        exact ⟨j, ds, c', e1, e2, q⟩
    · cases e
theorem othF_odd {K : PySem.W.Frag} {F : Frm} {O : List Addr} {E : En} {σ : L2.St} {H : Hp} {ags : List Ag} (R : Rel K F O E σ H) : ∀ x ∈ othF E σ H ags, ¬ OddO x.2 := fun x hx => by
  obtain ⟨j, ds, _, e1, e2, e3⟩ := othF_mem hx
  obtain ⟨p, ho, e', _, hh, r⟩ := R.slot j _ e1
  rw [e2] at e'
  cases e'
  rw [e3] at hh
  cases hh
  exact r.odd
theorem othF_in {E : En} {σ : L2.St} {H : Hp} {ags : List Ag} {j : Nat} {ds : Ob} {p : Addr} {o : HO} (c : isRef ags j = false) (e1 : E[j]? = some (.ow ds)) (e2 : σ[j]? = some (some (.ref p))) (q : H p = some o) : (p, o) ∈ othF E σ H ags := by
  unfold othF
  refine List.mem_filterMap.mpr ⟨j, List.mem_range.mpr (List.getElem?_eq_some_iff.mp e1).1, ?_⟩
  have c' : ¬ isRef ags j = true := by rw [c]; exact Bool.false_ne_true
  rw [if_neg c', e1, e2]
  show (H p).map _ = _
  rw [q]
  rfl
section
variable {K : PySem.W.Frag} {F : Frm} {O : List Addr} {E : En} {σ : L2.St} {H : Hp} {vs dvs : List V} {ags : List Ag} {dds : List D} {as : List Sl}
theorem call_in (R : Rel K F O E σ H) (av : Paired (AgV K σ O H) vs ags) (hd : RpAll K (Mask O H) dvs dds) (ap : apartA E ags = true) (ha : argSl E ags = some as) : Rel K (F ++ othF E σ H ags) O (as ++ dds.map .dat) ((vs ++ dvs).map some) H := by
  obtain ⟨la, ga⟩ := argSl_get ha
  have lv : vs.length = ags.length := av.length
  have g : ∀ (k : Nat) (s : Sl), (as ++ dds.map Sl.dat)[k]? = some s → (∃ d v, s = .dat d ∧ ((vs ++ dvs).map some)[k]? = some (some v) ∧ Rp K (Mask O H) v d) ∨ (∃ i, ags[k]? = some (.r i) ∧ E[i]? = some s ∧ ((vs ++ dvs).map some)[k]? = σ[i]?) := fun k s e => by
    by_cases h : k < as.length
    · rw [List.getElem?_append_left h] at e
      have hv : k < vs.length := by omega
      rcases ga k s e with ⟨d, e1, rfl⟩ | ⟨i, e1, e2⟩
      · obtain ⟨v, q1, q2⟩ := Paired.get2 av e1
        exact .inl ⟨d, v, rfl, by rw [List.getElem?_map, List.getElem?_append_left hv, q1]; rfl, q2⟩
      · obtain ⟨v, q1, q2⟩ := Paired.get2 av e1
        refine .inr ⟨i, e1, e2, ?_⟩
        rw [List.getElem?_map, List.getElem?_append_left hv, q1]
        exact (show σ[i]? = some (some v) from q2).symm
    · rw [List.getElem?_append_right (by omega), List.getElem?_map] at e
      cases q : dds[k - as.length]? with
      | none => rw [q] at e; cases e
      | some d =>
        rw [q] at e
        cases e
        obtain ⟨v, q1, q2⟩ := hd.get' q
        refine .inl ⟨d, v, rfl, ?_, q2⟩
        rw [List.getElem?_map, List.getElem?_append_right (by omega), show k - vs.length = k - as.length by omega, q1]
        rfl
  refine ⟨by rw [List.length_append, List.length_map, List.length_map, List.length_append, hd.length]; omega, R.trk, R.tab, fun k s e => ?_, fun k j ds es p e1 e2 e3 e4 => ?_, fun x hx => ?_, fun k ds p e1 e2 x hx => ?_, fodd_app R.fodd (othF_odd R)⟩
  · rcases g k s e with ⟨d, v, rfl, q1, q2⟩ | ⟨i, q1, q2, q3⟩
    · exact ⟨v, q1, q2⟩
    · rw [q3]; exact R.slot i s q2
  · rcases g k _ e1 with ⟨d, v, z, _⟩ | ⟨i, q1, q2, q3⟩
    · cases z
    · rcases g j _ e2 with ⟨d, v, z, _⟩ | ⟨i', p1, p2, p3⟩
      · cases z
      · rw [q3] at e3
        rw [p3] at e4
        have := R.apart i i' ds es p q2 p2 e3 e4
        subst this
        exact apartA_get ap q1 p1 (isOwn_of q2)
  · rcases List.mem_append.mp hx with hx | hx
    · exact R.frm x hx
    · obtain ⟨j, ds, c, q1, q2, q3⟩ := othF_mem hx
      obtain ⟨p, ws, e', hp, _⟩ := R.slot j _ q1
      rw [q2] at e'
      cases e'
      exact ⟨hp, q3⟩
  · rcases g k _ e1 with ⟨d, v, z, _⟩ | ⟨i, q1, q2, q3⟩
    · cases z
    · rw [q3] at e2
      rcases List.mem_append.mp hx with hx | hx
      · exact R.fap i ds p q2 e2 x hx
      · obtain ⟨j, es, c, p1, p2, p3⟩ := othF_mem hx
        intro z
        rw [z] at p2
        have := R.apart i j ds es p q2 p1 e2 p2
        subst this
        rw [isRef_of q1] at c
        cases c
theorem call_out {F' : Frm} {O' : List Addr} {H' : Hp} {as' : List Sl} {E' : En} (R : Rel K F O E σ H) (av : Paired (AgV K σ O H) vs ags) (ap : apartA E ags = true) (R' : Rel K (F' ++ othF E σ H ags) O' as' ((vs ++ dvs).map some) H') (l : Le O H O' H') (hb : putB E ags (as'.take ags.length) = some E')
    (hF : ∀ (i : Nat) (ds : Ob) (p : Addr), E[i]? = some (.ow ds) → isRef ags i = false → σ[i]? = some (some (.ref p)) → ∀ x ∈ F', x.1 ≠ p) : Rel K F' O' E' σ H' := by
  obtain ⟨h1, h2, h3⟩ := putB_get hb ap
  have lv : vs.length = ags.length := av.length
  have own : ∀ (k j : Nat) (ds : Ob), ags[k]? = some (.r j) → (as'.take ags.length)[k]? = some (.ow ds) → as'[k]? = some (.ow ds) ∧ ((vs ++ dvs).map some)[k]? = σ[j]? := fun k j ds e1 e2 => by
    have hk : k < ags.length := (List.getElem?_eq_some_iff.mp e1).1
    obtain ⟨v, q1, q2⟩ := Paired.get2 av e1
    refine ⟨by rw [List.getElem?_take_of_lt hk] at e2; exact e2, ?_⟩
    rw [List.getElem?_map, List.getElem?_append_left (by omega), q1]
    exact (show σ[j]? = some (some v) from q2).symm
  -- an owned slot of E' is one of E, with its list
  have key : ∀ (j : Nat) (ds : Ob), E'[j]? = some (.ow ds) → (∃ k : Nat, ags[k]? = some (.r j) ∧ as'[k]? = some (.ow ds) ∧ ((vs ++ dvs).map some)[k]? = σ[j]? ∧ isOwn E j = true) ∨ (E[j]? = some (.ow ds) ∧ isRef ags j = false) := fun j ds e => by
    rcases h3 j with ⟨k, ds', e1, e2, e3, e4⟩ | ⟨c, q⟩
    · rw [e] at e4
      cases e4
      obtain ⟨q1, q2⟩ := own k j ds e1 e3
      exact .inl ⟨k, e1, q1, q2, e2⟩
    · rw [q] at e
      rcases c with c | c
      · rw [isOwn_of e] at c; cases c
      · exact .inr ⟨e, c⟩
  refine ⟨by rw [h2]; exact R.len, R'.trk, R'.tab, fun j s e => ?_, fun i j ds es p e1 e2 e3 e4 => ?_, fun x hx => R'.frm x (List.mem_append_left _ hx), fun i ds p e1 e2 x hx => ?_, fodd_left R'.fodd⟩
  · cases s with
    | un => trivial
    | ow ds =>
      rcases key j ds e with ⟨k, q1, q2, q3, q4⟩ | ⟨q1, q2⟩
      · have z := R'.slot k _ q2
        rw [q3] at z
        exact z
      · obtain ⟨p, ws, e', hp, hh, r⟩ := R.slot j _ q1
        obtain ⟨f1, f2⟩ := R'.frm _ (List.mem_append_right _ (othF_in (σ := σ) q2 q1 e' hh))
        exact ⟨p, ws, e', f1, f2, r.mono l⟩
    | dat d =>
      rcases h3 j with ⟨k, ds', e1, e2, e3, e4⟩ | ⟨c, q⟩
      · rw [e] at e4; cases e4
      · rw [q] at e
        obtain ⟨v, e', r⟩ := R.slot j _ e
        exact ⟨v, e', r.mono l⟩
    | scr ns =>
      rcases h3 j with ⟨k, ds', e1, e2, e3, e4⟩ | ⟨c, q⟩
      · rw [e] at e4; cases e4
      · rw [q] at e
        obtain ⟨v, e', r⟩ := R.slot j _ e
        exact ⟨v, e', Same.seq l r⟩
  · have ow : ∀ (j : Nat) (ds : Ob), E'[j]? = some (.ow ds) → ∃ ds', E[j]? = some (.ow ds') := fun j ds e => by
      rcases key j ds e with ⟨k, q1, q2, q3, q4⟩ | ⟨q1, q2⟩
      · exact isOwn_get q4
      · exact ⟨ds, q1⟩
    obtain ⟨d1, z1⟩ := ow i ds e1
    obtain ⟨d2, z2⟩ := ow j es e2
    exact R.apart i j d1 d2 p z1 z2 e3 e4
  · rcases key i ds e1 with ⟨k, q1, q2, q3, q4⟩ | ⟨q1, q2⟩
    · exact R'.fap k ds p q2 (by rw [q3]; exact e2) x (List.mem_append_left _ hx)
    · exact hF i ds p q1 q2 e2 x hx
theorem call_outE {z : Sl} {v : V} {O' : List Addr} {H' : Hp} {as' : List Sl} {E' : En} (R : Rel K F O E σ H) (av : Paired (AgV K σ O H) vs ags) (ap : apartA E ags = true) (R' : RelE K (F ++ othF E σ H ags) O' as' ((vs ++ dvs).map some) H' v (.rt z)) (l : Le O H O' H') (hb : putB E ags (as'.take ags.length) = some E') : RelE K F O' E' σ H' v (.rt z) := by
  cases z with
  | un => exact R'.elim
  | scr _ => exact R'.elim
  | dat d => exact ⟨call_out R av ap R'.1 l hb fun i ds p e1 _ e2 => R.fap i ds p e1 e2, R'.2⟩
  | ow ob =>
    obtain ⟨p, ho, rfl, R1, hF, r⟩ := R'
    refine ⟨p, ho, rfl, call_out (F' := (p, ho) :: F) R av ap R1 l hb fun i ds q e1 e3 e2 x hx => ?_, fun x hx => hF x (List.mem_append_left _ hx), r⟩
    cases hx with
    | tail _ hx => exact R.fap i ds q e1 e2 x hx
    | head =>
      obtain ⟨q', ho', e', hp, hh, _⟩ := R.slot i _ e1
      rw [e2] at e'
      cases e'
      exact fun z => hF _ (List.mem_append_right _ (othF_in e3 e1 e2 hh)) z.symm
end
section
variable {X : Cx} {W : WX} {k : Nat} {f : Addr} {fd : FuncData} {ps : List Str} {Fm : M Sl} {dds : List D} {dvs : List V} {x : Str} {p pos : Pos} {e : Expr} {es : List Expr} {ts : TA} {ms : M (List Ag)}
theorem call_rd (hd : ∀ G, RpAll X.K G dvs dds) (h : SOs X W es ts ms) (hlen : ∀ E ags E', ms E = .ok ags E' → ags.length + dvs.length = ps.length) : ∀ F O E σ H (Q : VK), Rel X.K F O E σ H → Sat (mCallO Fm dds ms E) (fun z E' => ∀ O' v H', RelE X.K F O' E' σ H' v (.rt z) → Le O H O' H' → Q v H') (KX X.K X.mg F σ O H W) → tCallSD (spOf X.K X.mg ps.length Fm) dvs (fun σ => WE W σ) ts σ H Q := by
  intro F O E σ H Q R s
  have s' := s.bnd
  refine h.rd F O E σ H _ R ?_
  cases em : ms E with
  | bad => rw [em] at s'; exact s'.elim
  | ex z E1 => rw [em] at s'; exact s'
  | ok ags E1 =>
    rw [em] at s'
    intro O1 vs H1 R1 l1 av
    have hl := hlen E ags E1 em
    refine ⟨by rw [List.length_append, av.length]; exact hl, ?_⟩
    change Sat ((if apartA E1 ags then _ else _ : Res Sl)) _ _ at s'
    split at s'
    · rename_i ap
      cases ha : argSl E1 ags with
      | none => rw [ha] at s'; exact s'.elim
      | some as =>
        rw [ha] at s'
        dsimp only at s'
        refine ⟨F ++ othF E1 σ H1 ags, O1, as ++ dds.map .dat, call_in R1 av (hd _) ap ha, ?_⟩
        cases ef : Fm (as ++ dds.map .dat) with
        | bad => rw [ef] at s'; exact s'.elim
        | ok d as' =>
          rw [ef] at s'
          dsimp only at s'
          intro O2 v H2 R2 l2
          split at s'
          · rename_i E2 hb2
            exact s' O2 v H2 (call_outE R1 av ap R2 l2 hb2) (l1.trans l2)
          · exact s'.elim
        | ex z as' =>
          rw [ef] at s'
          dsimp only at s'
          intro O2 H2 c dd R2 l2 r2
          split at s'
          · rename_i E2 hb2
            exact s' O2 H2 c dd (call_out R1 av ap R2 l2 hb2 fun i ds p e1 _ e2 => R1.fap i ds p e1 e2) (l1.trans l2) r2
          · exact s'.elim
    · exact s'.elim
theorem sv_call (Fo : FnOk X.prog X.w X.K X.mg X.base (L2.CX X.prog X.w) k f fd ps (spOf X.K X.mg ps.length Fm)) (hr : Room k X.A) (hg : Gl X x) (hm : X.mg x = some (.ref f)) (hk : PySem.W.keepIn X.K (.ref f) = true) {dvals : List Value} (hb : Binds X.K fd ps dvals) (hdv : Vals dvs dvals) (hd : ∀ G, RpAll X.K G dvs dds) (tk : Takes X W)
    (h : SOs X W (e :: es) ts ms) (hlen : ∀ E ags E', ms E = .ok ags E' → ags.length + dvs.length = ps.length) (hdb : (x == ("__debug__" : Str)) = false := by decide) (he : starEach (e :: es) X.env = (false, eval e X.env) :: starEach es X.env := by rfl) (hpl : (backTo pos (starEach es X.env)).any (·.1) = false := by rfl) :
    SV X W (.Call (.Name x p) (e :: es) [] pos) (tCallSD (spOf X.K X.mg ps.length Fm) dvs (fun σ => WE W σ) ts) (mCallO Fm dds ms) := by
  exact ⟨pe_callSD Fo hr hg hm hk hb hdv (fun σ => passAt tk σ) h.pa hdb he hpl, call_rd hd h hlen⟩
end
end Bt
namespace Bt
open PySem L2
def LenM (m : M (List Ag)) (n : Nat) : Prop := ∀ E ags E', m E = .ok ags E' → ags.length = n
theorem lm_nil : LenM (ret []) 0 := fun E ags E' h => by cases h; rfl
theorem lm_cons {m : M Ag} {ms : M (List Ag)} {n : Nat} (h : LenM ms n) : LenM (mCons m ms) (n + 1) := fun E ags E' e => by
  unfold mCons bnd at e
  cases q : m E with
  | bad => rw [q] at e; cases e
  | ex _ _ => rw [q] at e; cases e
  | ok a E1 =>
    rw [q] at e
    dsimp only at e
    cases q2 : ms E1 with
    | bad => rw [q2] at e; cases e
    | ex _ _ => rw [q2] at e; cases e
    | ok as E2 =>
      rw [q2] at e
      cases e
      rw [List.length_cons, h E1 as _ q2]
section
variable {X : Cx} {W : WX} {a b c e : Expr} {t ta tb tc : TE} {m : M D} {pos : Pos}
theorem so_cons {es : List Expr} {ts : TA} {m : M Ag} {ms : M (List Ag)} (h : SO X W e t m) (hs : SOs X W es ts ms) (hst : starEach (e :: es) X.env = (false, eval e X.env) :: starEach es X.env := by rfl) : SOs X W (e :: es) (tCons t ts) (mCons m ms) := sos_cons (fun h hs => pa_cons h hs hst) h hs
def mLenScr (i : Nat) : M D := fun E => match E[i]? with
  | some (.scr ns) => .ok (.int (ns.length : Nat)) E
  | _ => .bad
theorem se_lenScr {i : Nat} (h : PE X e (tCB (fun xs H Q => ∃ x n, xs = [x] ∧ LenV X.K x H n ∧ Q (.int n) H) (tCons (tVar i) tNil))) : SE X W e (tCB (fun xs H Q => ∃ x n, xs = [x] ∧ LenV X.K x H n ∧ Q (.int n) H) (tCons (tVar i) tNil)) (mLenScr i) := by
  refine ⟨h, fun F O E σ H Q R s => ?_⟩
  unfold mLenScr at s
  split at s
  · rename_i ns h0
    obtain ⟨p, e0, r⟩ := R.slot i _ h0
    refine ⟨.ref p, e0, .ref p, _, rfl, .inl ⟨_, (mask_le O H).seq r, rfl⟩, s O _ H R (Le.refl O H) ?_⟩
    rw [List.length_map]
    exact .int _
  · exact s.elim
def mIxScr (i : Nat) (mk : M Ag) : M D := fun E => match E[i]? with
  | some (.scr ns) => (bnd mk fun a => fun E => match rsv E a with
    | some (.int k) => match atI ns k with
      | some n => .ok (.int n) E
      | none => .bad
    | _ => .bad) E
  | _ => .bad
theorem atI_map {α β : Type} (f : α → β) {xs : List α} {k : Int} {a : α} (h : atI xs k = some a) : atI (xs.map f) k = some (f a) := by
  unfold atI at h ⊢
  rw [List.length_map]
  cases q : ixN xs.length k with
  | none => rw [q] at h; cases h
  | some j =>
    rw [q] at h
    show (xs.map f)[j]? = _
    rw [List.getElem?_map, show xs[j]? = some a from h]
    rfl
theorem se_ixScr {i : Nat} {k : Expr} {tk : TE} {mk : M Ag} (hp : PE X k tk → PE X e (tOp (rIxB X.K) (tVar i) tk)) (h : SO X W k tk mk) : SE X W e (tOp (rIxB X.K) (tVar i) tk) (mIxScr i mk) := by
  refine ⟨hp h.pe, fun F O E σ H Q R s => ?_⟩
  unfold mIxScr at s
  split at s
  · rename_i ns h0
    obtain ⟨p, e0, r⟩ := R.slot i _ h0
    refine ⟨.ref p, e0, h.rd F O E σ H _ R (s.bnd.mono (fun a E1 k1 O1 v H1 R1 l1 av => ?_) (fun _ _ k => k))⟩
    split at k1
    · rename_i kk q
      split at k1
      · rename_i n hn
        exact .inl ⟨p, _, kk, .int n, rfl, (R1.rsv av q).int, (mask_le O1 H1).seq (Same.seq l1 r), atI_map V.int hn, k1 O1 _ H1 R1 l1 (.int _)⟩
      · exact k1.elim
    · exact k1.elim
  · exact s.elim
theorem SSs.sub {a1 a2 : List Nat} {sts : List Stmt} {t : TS} {m : M Fl} (h : SSs X W a1 sts t m) (hs : ∀ i ∈ a1, i ∈ a2) : SSs X W a2 sts t m :=
  ⟨h.ps, fun F O E σ H D' R s => h.rd F O E σ H D' R (s.mono (fun f E1 k O1 σ1 H1 v1 R1 l1 g1 => k O1 σ1 H1 v1 R1 l1 fun i hi => g1 i fun z => hi (hs i z)) (fun x E1 k O1 σ1 H1 c dd R1 l1 g1 ex => k O1 σ1 H1 c dd R1 l1 (fun i hi => g1 i fun z => hi (hs i z)) ex))⟩
theorem SSs.ex {a1 a2 : List Nat} {sts : List Stmt} {t : TS} {m : M Fl} (h : SSs X W a1 sts t m) (hs : ∀ i ∈ a1, i ∈ a2) : ∃ t, SSs X W a2 sts t m := ⟨t, h.sub hs⟩
theorem ss_setLc {b : Bool} {i : Nat} {y : Str} {py : Pos} {elt tg iter : Expr} {ifs : List Expr} {scope : Scope} {own : List (Str × Nat)} {asg : List Nat} {pos spos : Pos} {wi : TI} {g : TG} {tt : TT} {te : TE} {mi : M (List D)} {mg : MG} {mt : M Bool} {me : M D} (hc : X.calm = true) (hN : X.N.Nodup) (hy : X.N[i]? = some y) (hyl : X.env.scope.names.lookup y = some .local)
    (hsw : swapsWith (.ListComp elt [⟨tg, iter, ifs, 0⟩] scope pos) (some (.Name y py)) spos.line X.env = pure true) (hi : SI X W b tg iter wi mi) (ok : BlkOk X.N X.env.scope scope own)
    (hg : ∀ (s : Shared) (H : Hp) (C : Addr) (cl : List (Str × Addr)) (fp : List Addr), SG (X.blk s H scope (compEnvC scope cl C X.env) fp) b asg tg g mg) (ha : ∀ i ∈ asg, i ∈ own.map (·.2)) (ht : ∀ (s : Shared) (H : Hp) (C : Addr) (cl : List (Str × Addr)) (fp : List Addr), STs (X.blk s H scope (compEnvC scope cl C X.env) fp) W0 ifs tt mt)
    (he : ∀ (s : Shared) (H : Hp) (C : Addr) (cl : List (Str × Addr)) (fp : List Addr), SE (X.blk s H scope (compEnvC scope cl C X.env) fp) W0 elt te me) (hs : ∀ x, foldedSetIterable iter X.env x = pure x := by intro _; rfl) :
    SS X W [i] (.Assign [.Name y py] (.ListComp elt [⟨tg, iter, ifs, 0⟩] scope pos) spos) (tAsg (tLc wi g tt te (own.map (·.2))) (gName i)) (mSet (gN i) (mLc mi mg mt me (own.map (·.2)))) := by
  have hE := se_lc (pos := pos) hc hN hi ok hg ha ht he hs
  refine ⟨ps_setLc hc hN hy hyl hsw hi.pi ok (fun s H C cl fp => (hg s H C cl fp).pg) (fun s H C cl fp => (ht s H C cl fp).pt) (fun s H C cl fp => (he s H C cl fp).pe) hs, fun F O E σ H D' R s => hE.rd F O E σ H _ R (s.bnd.mono (fun d E1 k O1 v H1 R1 l1 r => ?_) (KXs.of))⟩
  cases eg : gN i d E1 with
  | none => rw [eg] at k; exact k.elim
  | some E2 =>
    rw [eg] at k
    unfold gN at eg
    split at eg
    · rename_i hi
      cases eg
      refine k O1 _ H1 .non (R1.set r hi) l1 fun j hj => ?_
      have hne : i ≠ j := fun z => hj (by rw [z]; exact List.mem_cons_self)
      rw [List.getElem?_set_ne hne]
    · cases eg
end
section
variable {P : Program} {w : World} {K : PySem.W.Frag} {mg : Str → Option Value} {base : Heap}
end
structure SK (X : Cx) (W : WX) (kws : List Keyword) (t : TA) (m : M (List D)) : Prop where
  pk : PK X kws t
  rd : ∀ F O E σ H (Q : List V → Hp → Prop), Rel X.K F O E σ H → Sat (m E) (fun ds E' => ∀ O' vs H', Rel X.K F O' E' σ H' → Le O H O' H' → RpAll X.K (Mask O' H') vs ds → Q vs H') (KX X.K X.mg F σ O H W) → t σ H Q
section
variable {X : Cx} {W : WX} {e : Expr} {t : TE} {m : M D} {pos : Pos}
theorem sk_nil : SK X W [] tNil (ret []) := ⟨pk_nil, fun F O E σ H Q R s => s O [] H R (Le.refl O H) .nil⟩
theorem sk_cons {kws : List Keyword} {ts : TA} {ms : M (List D)} {nm : Option Str} {kpos : Pos} (h : SE X W e t m) (hs : SK X W kws ts ms) : SK X W (⟨nm, e, kpos⟩ :: kws) (tCons t ts) (mConsD m ms) := by
  refine ⟨pk_cons h.pe hs.pk, fun F O E σ H Q R s => h.rd F O E σ H _ R (s.bnd.mono (fun a E1 k O1 v H1 R1 l1 r1 => ?_) (fun _ _ k => k))⟩
  refine hs.rd F O1 E1 σ H1 _ R1 (k.bnd.mono (fun as E2 k2 O2 vs H2 R2 l2 r2 => ?_) (KX.le l1))
  exact k2 O2 (v :: vs) H2 R2 (l1.trans l2) (.cons (r1.mono l2) r2)
inductive Pk where
  | at (k : Nat)
  | no
  | bl (b : Bool)
def pkV (xs : List V) : Pk → V
  | .at k => xs.getD k .non
  | .no => .non
  | .bl b => .bl b
def pkU (xs : List Value) : Pk → Value
  | .at k => xs.getD k .none
  | .no => .none
  | .bl b => .bool b
def pkD (xs : List D) : Pk → D
  | .at k => xs.getD k .none
  | .no => .none
  | .bl b => .bool b
theorem pk_rel {xs : List V} {us : List Value} (r : Vals xs us) : ∀ pk : List Pk, Vals (pk.map (pkV xs)) (pk.map (pkU us))
  | [] => .nil
  | .at k :: pk => by
    refine .cons ?_ (pk_rel r pk)
    show RelV (xs.getD k .non) (us.getD k .none)
    cases q : xs[k]? with
    | none =>
      rw [List.getD_eq_getElem?_getD, List.getD_eq_getElem?_getD, q, r.none_of q]
      rfl
    | some v =>
      obtain ⟨u, h1, h2⟩ := r.get q
      rw [List.getD_eq_getElem?_getD, List.getD_eq_getElem?_getD, q, h1]
      exact h2
  | .no :: pk => .cons rfl (pk_rel r pk)
  | .bl b :: pk => .cons rfl (pk_rel r pk)
theorem pk_rp {K : PySem.W.Frag} {G : Hp} {xs : List V} {ds : List D} (r : RpAll K G xs ds) : ∀ pk : List Pk, RpAll K G (pk.map (pkV xs)) (pk.map (pkD ds))
  | [] => .nil
  | .at k :: pk => by
    refine .cons ?_ (pk_rp r pk)
    show Rp K G (xs.getD k .non) (ds.getD k .none)
    cases q : ds[k]? with
    | none =>
      have : xs[k]? = none := List.getElem?_eq_none_iff.mpr (by rw [r.length]; exact List.getElem?_eq_none_iff.mp q)
      rw [List.getD_eq_getElem?_getD, List.getD_eq_getElem?_getD, q, this]
      exact .non
    | some d =>
      obtain ⟨v, h1, h2⟩ := r.get' q
      rw [List.getD_eq_getElem?_getD, List.getD_eq_getElem?_getD, q, h1]
      exact h2
  | .no :: pk => .cons .non (pk_rp r pk)
  | .bl b :: pk => .cons (.bl b) (pk_rp r pk)
def mCallKO (Fm : M Sl) (pk : List Pk) (n1 n2 : Nat) (ms1 ms2 : M (List D)) : M Sl := bnd ms1 fun ds1 => bnd ms2 fun ds2 => fun E => if ds1.length = n1 ∧ ds2.length = n2 then match Fm ((pk.map (pkD (ds1 ++ ds2))).map .dat) with
  | .ok d _ => .ok d E
  | .ex x _ => .ex x E
  | .bad => .bad
  else .bad
def mCallK (Fm : M Sl) (pk : List Pk) (n1 n2 : Nat) (ms1 ms2 : M (List D)) : M D := bnd (mCallKO Fm pk n1 n2 ms1 ms2) thaw
theorem call_dat {n : Nat} {Fm : M Sl} {F : Frm} {O : List Addr} {E : En} {σ : L2.St} {H : Hp} {Q : VK} {Ex : XK} {vs : List V} {ds : List D} (R : Rel X.K F O E σ H) (r : RpAll X.K (Mask O H) vs ds) (hl : ds.length = n)
    (s : Sat (Fm (ds.map .dat)) (fun z _ => ∀ O' v H', RelE X.K F O' E σ H' v (.rt z) → Le O H O' H' → Q v H') (fun x _ => ∀ O' H' c dd, Rel X.K F O' E σ H' → Le O H O' H' → ExR X.K X.mg O' H' x c dd → Ex c dd H')) : spOf X.K X.mg n Fm vs H Q Ex := by
  refine ⟨by rw [r.length]; exact hl, F ++ othF E σ H [], O, ds.map .dat, ?_, s.mono (fun d as' k O' v H' R' l => ?_) (fun x as' k O' H' c dd R' l ex => ?_)⟩
  · exact call_in (ags := []) (as := []) (vs := []) R .nil r rfl rfl
  · exact k O' v H' (call_outE (ags := []) (vs := []) (E' := E) R .nil rfl R' l (by rw [List.length_nil, List.take_zero]; rfl)) l
  · exact k O' H' c dd (call_out (ags := []) (vs := []) (E' := E) R .nil rfl R' l (by rw [List.length_nil, List.take_zero]; rfl) fun i ds p e1 _ e2 => R.fap i ds p e1 e2) l ex
end
end Bt
namespace Bt
open PySem L2
section
variable {X : Cx} {W : WX} (K : PySem.W.Frag)
theorem oK_add (eK : X.K = K) : OpR X (binaryOp .Add) (rAdd K) := eK ▸ op_Add
theorem oK_mul (eK : X.K = K) : OpR X (binaryOp .Mult) (rMul K) := eK ▸ op_Mul
theorem oK_eq (eK : X.K = K) (hu : X.A.units + 64 < cLine) : OpR X (compareOp .Eq) (rEqD K) := eK ▸ op_eqD hu
theorem oK_ne (eK : X.K = K) (hu : X.A.units + 64 < cLine) : OpR X (compareOp .NotEq) (rNeD K) := eK ▸ op_neD hu
def rLen1 (K : PySem.W.Frag) : List V → Hp → VK → Prop := fun xs H Q => ∃ x n, xs = [x] ∧ LenV K x H n ∧ Q (.int n) H
theorem cK_len (eK : X.K = K) : CallR X (.builtin "len") (rLen1 K) := eK ▸ call_len
theorem cK_sum (eK : X.K = K) (hc : X.calm = true) : CallR X (.builtin "sum") (rSum K) := eK ▸ cr_sum hc
theorem cK_all (eK : X.K = K) (hc : X.calm = true) : CallR X (.builtin "all") (rAll K) := eK ▸ cr_all hc
theorem cK_min (eK : X.K = K) (hc : X.calm = true) : CallR X (.builtin "min") (rMinB K) := eK ▸ call_minB hc
theorem cK_max (eK : X.K = K) (hc : X.calm = true) : CallR X (.builtin "max") (rMaxB K) := eK ▸ call_maxB hc
def rLst1 (K : PySem.W.Frag) : List V → Hp → VK → Prop := fun xs H Q => ∃ p ys, xs = [.ref p] ∧ (SqL K H p ys ∨ SqT K H p ys) ∧ ∀ l, H l = none → Q (.ref l) (upd H l (.lst ys))
theorem cK_tuple (eK : X.K = K) : CallR X (.type "tuple") (rTupP K) := eK ▸ call_tupP
theorem cK_list (eK : X.K = K) : CallR X (.type "list") (rLst1 K) := eK ▸ call_list_of
variable {a b c e tg : Expr} {ta tb tc t : TE} {ma mb mc : M Ag} {m : M D} {pos : Pos}
theorem se_ixK (eK : X.K = K) (hs : PlainIx b) (ha : SO X W a ta ma) (hb : SO X W b tb mb) : SE X W (.Subscript a b pos) (tOp (rIxB K) ta tb) (mOp ixD ma mb) := by subst eK; exact se_ix hs ha hb
theorem se_slK {lo hi : Option Expr} {tl th : TO} {ml mh : M (Option Int)} {m : M Ag} {p2 : Pos} (eK : X.K = K) (h : SO X W e t m) (hl : SP X W lo tl ml) (hh : SP X W hi th mh) : SE X W (.Subscript e (.Slice lo hi none p2) pos) (tSl (rSlB K) t tl th) (mSl m ml mh) := by subst eK; exact se_sl h hl hh
theorem se_isiK {T : String} {x : Str} {m : M Ag} {p p2 : Pos} (eK : X.K = K) (hg : Gl X "isinstance") (hm : X.mg "isinstance" = none) (h : SO X W e t m) (hT : PE X (.Name x p2) (tC (.ty T))) (hk : tyAll.all (fun n => kitB n T == some (tyIs T n)) = true)
    (hst : starEach [e, .Name x p2] X.env = (false, eval e X.env) :: starEach [.Name x p2] X.env := by rfl) (hst2 : starEach [.Name x p2] X.env = (false, eval (.Name x p2) X.env) :: starEach [] X.env := by rfl) (hpl : (backTo pos (starEach [.Name x p2] X.env)).any (·.1) = false := by rfl) :
    SE X W (.Call (.Name "isinstance" p) [e, .Name x p2] [] pos) (tCB (rIsi K) (tCons t (tCons (tC (.ty T)) tNil))) (mIsi T m) := by subst eK; exact se_isi hg hm h hT hk hst hst2 hpl
theorem si_seqK (eK : X.K = K) (h : SE X W e t m) : SI X W false tg e (iSeq K t) (mIt m) := by subst eK; exact si_seq (fun h => pi_or (pi_list h) (pi_or (pi_tup h) (pi_str h))) h
theorem si_zipK {e e2 : Expr} {ts : TA} {ms : M (List D)} {p tpos : Pos} {elts : List Expr} {kk : Nat} (eK : X.K = K) (hg : Gl X "zip") (hm : X.mg "zip" = none) (h : SA X W [e, e2] ts ms)
    (hs : starEach [e, e2] X.env = (false, eval e X.env) :: starEach [e2] X.env := by rfl) (hpl : (backTo pos (starEach [e2] X.env)).any (·.1) = false := by rfl) : SI X W true (.Tuple elts kk tpos) (.Call (.Name "zip" p) [e, e2] [] pos) (RZ.iZipA K ts) (mZip ms) := by subst eK; exact si_zip (fun h => RZ.pi_zipA hg hm h hs hpl) h
theorem sg_tupK {b : Bool} {asg : List Nat} {tgs : List Expr} {gs : TGs} {ms : List D → En → Option En} {k n : Nat} (eK : X.K = K) (hc : X.calm = true) (hs : SGs X asg tgs gs ms) (hn : (assignEach tgs X.env).length = n := by rfl) (hst : (assignEach tgs X.env).findIdx? (·.1) = none := by rfl) : SG X b asg (.Tuple tgs k pos) (gTup K n gs) (gTupM n ms) := by
  subst eK; exact sg_tup (fun h => pg_tup hc h hn hst) hs
end
theorem hu1 {u : Nat} (h : u + 64 < cLine) : u + 1 < cLine := by omega
theorem ss_set {X : Cx} {W : WX} {e : Expr} {t : TE} {m : M D} {pos : Pos} {i : Nat} {x : Str} {pos' : Pos} (hN : X.N.Nodup) (hi : X.N[i]? = some x) (hx : Loc X.env.scope x) (h : SE X W e t m) (hs : swapsWith e (some (.Name x pos')) pos.line X.env = pure false := by rfl) (hf : X.fn x = true ∨ X.env.scope.names.lookup x = some .local := by first | exact .inl rfl | exact .inr rfl | assumption) :
    SS X W [i] (.Assign [.Name x pos'] e pos) (tAsg t (gName i)) (mSet (gN i) m) := by
  refine ⟨ps_set hN hi hx h.pe hs hf, fun F O E σ H D' R s => h.rd F O E σ H _ R (s.bnd.mono (fun d E1 k O1 v H1 R1 l1 r => ?_) (KXs.of))⟩
  cases eg : gN i d E1 with
  | none => rw [eg] at k; exact k.elim
  | some E2 =>
    rw [eg] at k
    unfold gN at eg
    split at eg
    · rename_i hi
      cases eg
      refine k O1 _ H1 .non (R1.set r hi) l1 fun j hj => ?_
      have hne : i ≠ j := fun z => hj (by rw [z]; exact List.mem_cons_self)
      rw [List.getElem?_set_ne hne]
    · cases eg
section
variable {X : Cx} {W : WX} {P : Program} {w : World} {K : PySem.W.Frag} {mg : Str → Option Value} {base : Heap} {e : Expr} {pos : Pos}
theorem sv_callC {k : Nat} {f : Addr} {fd : FuncData} {ps : List Str} {Fm : M Sl} {n : Nat} {x : Str} {p : Pos} {es : List Expr} {ts : TA} {ms : M (List Ag)} (Fo : FnOk P w K mg base (L2.CX P w) k f fd ps (spOf K mg n Fm)) (eP : X.prog = P) (ew : X.w = w) (eK : X.K = K) (eM : X.mg = mg) (eB : X.base = base) (hr : Room k X.A) (hg : Gl X x) (hm : mg x = some (.ref f)) (hk : PySem.W.keepIn K (.ref f) = true) (hb : Binds K fd ps []) (hn : ps.length = n) (tk : Takes X W)
    (h : SOs X W (e :: es) ts ms) (hlen : LenM ms n) (hdb : (x == ("__debug__" : Str)) = false := by decide) (he : starEach (e :: es) X.env = (false, eval e X.env) :: starEach es X.env := by rfl) (hpl : (backTo pos (starEach es X.env)).any (·.1) = false := by rfl) :
    SV X W (.Call (.Name x p) (e :: es) [] pos) (tCallSD (spOf K mg n Fm) [] (fun σ => WE W σ) ts) (mCallO Fm [] ms) := by
  subst eP ew eK eM eB hn
  exact sv_call Fo hr hg hm hk hb .nil (fun _ => .nil) tk h (fun E ags E' q => hlen E ags E' q) hdb he hpl
theorem se_callC {k : Nat} {f : Addr} {fd : FuncData} {ps : List Str} {Fm : M Sl} {n : Nat} {x : Str} {p : Pos} {es : List Expr} {ts : TA} {ms : M (List Ag)} (Fo : FnOk P w K mg base (L2.CX P w) k f fd ps (spOf K mg n Fm)) (eP : X.prog = P) (ew : X.w = w) (eK : X.K = K) (eM : X.mg = mg) (eB : X.base = base) (hr : Room k X.A) (hg : Gl X x) (hm : mg x = some (.ref f)) (hk : PySem.W.keepIn K (.ref f) = true) (hb : Binds K fd ps []) (hn : ps.length = n) (tk : Takes X W)
    (h : SOs X W (e :: es) ts ms) (hlen : LenM ms n) (hdb : (x == ("__debug__" : Str)) = false := by decide) (he : starEach (e :: es) X.env = (false, eval e X.env) :: starEach es X.env := by rfl) (hpl : (backTo pos (starEach es X.env)).any (·.1) = false := by rfl) :
    SE X W (.Call (.Name x p) (e :: es) [] pos) (tCallSD (spOf K mg n Fm) [] (fun σ => WE W σ) ts) (mCall Fm [] ms) :=  (sv_callC Fo eP ew eK eM eB hr hg hm hk hb hn tk h hlen hdb he hpl).se
end
end Bt
namespace Bt
open PySem L2
def rDict (K : PySem.W.Frag) : List V → Hp → VK → Prop := fun xs H Q => ∃ (a : Addr) (ps : List Addr) (kvs : List (Key × V)), xs = [.ref a] ∧ (SqL K H a (ps.map V.ref) ∨ SqP K H a (ps.map V.ref)) ∧ Paired (fun p kv => SqT K H p [kV kv.1, kv.2]) ps kvs ∧ ∀ p, H p = none → Q (.ref p) (upd H p (.dK (mergeK [] kvs)))
theorem plain_of {X : Cx} {pins : List (Addr × Obj)} {σ : L2.St} {H : Hp} {s : Shared} {a : Addr} {xs : List V} (I : Inv X pins σ H s) (h : SqP X.K H a xs) : ∃ its : List Value, Vals xs its ∧ PlainSeq "tuple" s.heap a its.toArray ∧ xs.length ≤ sizeLine := by
  rcases h with ⟨o, h, hd⟩ | ⟨o, its, n, h1, h2, hd, h3, h4, h5⟩
  · obtain ⟨e, z, its, r, o', e', hc, n, hs⟩ := (show ObjOk X.prog X.w H s.heap a (.frz o (.tup xs)) from I.hok a _ h)
    rw [e] at e'
    cases e'
    exact ⟨its, r, ⟨o, n, e, hc, hd, hs⟩, z⟩
  · refine ⟨its.toList, h5, ⟨o, n, I.kIn a o h1, h2, hd, by simpa using h3⟩, ?_⟩
    have e := h5.length
    simp only [Array.length_toList] at e
    omega
theorem call_dictA {X : Cx} (hcalm : X.calm = true) : CallR X (.type "dict") (rDict X.K) := by
  intro pins s σ H xs us Q I r q
  obtain ⟨a, ps, kvs, ex, hq, hp, q⟩ := q
  rcases hq with hq | hq
  · exact call_dictP hcalm pins s σ H xs us Q I r ⟨a, ps, kvs, ex, hq, hp, q⟩
  subst ex
  obtain ⟨u, eu, rx⟩ := vals1 r
  subst eu
  cases rx
  obtain ⟨its, rv, pl, hz⟩ := plain_of I hq
  have ei := refs_at rv
  subst ei
  rw [List.length_map] at hz
  obtain ⟨prs, rel, hl, hpr⟩ := pairs_of I hp
  -- the key of each pair as it stands
  have hk : ∀ j : Nat, ∃ u : Value, ∀ q', prs[j]? = some q' → ∃ b, ps[j]? = some b ∧ PyProof.Rows.IsTup s.heap b #[u, q'.2] ∧ keyIs q'.1 u = true := fun j => by
    cases e : prs[j]? with
    | none => exact ⟨.none, fun q' e' => by cases e'⟩
    | some q' =>
      obtain ⟨b, u, e1, e2, e3⟩ := hpr j q' e
      exact ⟨u, fun q2 e' => by cases e'; exact ⟨b, e1, e2, e3⟩⟩
  let U : Nat → Value := fun j => Classical.choose (hk j)
  have hU : ∀ j q', prs[j]? = some q' → ∃ b, ps[j]? = some b ∧ PyProof.Rows.IsTup s.heap b #[U j, q'.2] ∧ keyIs q'.1 (U j) = true := fun j => Classical.choose_spec (hk j)
  have hlen : prs.length = ps.length := hl
  refine call_dict_pairs (prog := X.prog) (w := X.w) (knd := mixKind X.prog X.w) (kvs := prs) (PairArg.tuple a (ps.map Value.ref).toArray (fun j => ps.getD j 0) (prs.mapIdx fun j q' => (U j, q'.2))) (I.ok.hd hcalm) ⟨pl, ?_, ?_⟩ ⟨?_, ?_⟩ ?_ fun h' tk hd' k => ?_
  · simp [hlen]
  · intro j k v e
    rw [List.getElem?_mapIdx] at e
    cases e2 : prs[j]? with
    | none => rw [e2] at e; cases e
    | some q' =>
      rw [e2] at e
      obtain ⟨b, b1, b2, b3⟩ := hU j q' e2
      simp only [Option.map_some, Option.some.injEq, Prod.mk.injEq] at e
      refine ⟨by simp [b1], .inl ?_⟩
      show s.heap.IsTuple (ps.getD j 0) #[k, v]
      rw [List.getD_eq_getElem?_getD, b1, ← e.1, ← e.2]
      exact b2
  · simp
  · intro i key v e
    have e' : (prs.mapIdx fun j q' => (U j, q'.2))[i]? = some (key, v) := e
    rw [List.getElem?_mapIdx] at e'
    cases e2 : prs[i]? with
    | none => rw [e2] at e'; cases e'
    | some q' =>
      rw [e2] at e'
      obtain ⟨b, b1, b2, b3⟩ := hU i q' e2
      simp only [Option.map_some, Option.some.injEq, Prod.mk.injEq] at e'
      exact ⟨q'.1, by rw [← e'.2], by rw [← e'.1]; exact b3⟩
  · simp [hlen, hz]
  · have hm : (s.heap.objs.size == sysModules) = false := beq_eq_false_iff_ne.mpr (Nat.ne_of_gt I.big)
    have hlen2 : (mergeK [] kvs).length ≤ sizeLine := by
      refine Nat.le_trans (length_mergeK kvs []) ?_
      rw [List.length_nil, Nat.zero_add, rel.length, hl]
      exact hz
    exact ⟨.ref s.heap.objs.size, upd H s.heap.objs.size (.dK (mergeK [] kvs)), I.laid (t' := tk) (fun b o e => k b o (by intro z; cases z) e) (Nat.le_refl _) (show ObjOk X.prog X.w _ _ _ (.dK (mergeK [] kvs)) from ⟨hlen2, hm, merged [] prs, KV.merge rel .nil, hd'⟩), rfl, q _ (I.hok.fresh (Nat.le_refl _))⟩
def keyOf : D → Option Key
  | .int i => some (.inl i)
  | .str z => some (.inr z)
  | _ => none
def pairOf : D → Option (Key × D)
  | .tuple [k, v] => (keyOf k).map fun k => (k, v)
  | _ => none
def pairsOf : List D → Option (List (Key × D))
  | [] => some []
  | d :: ds => match pairOf d, pairsOf ds with
    | some p, some ps => some (p :: ps)
    | _, _ => none
def valD (es : List (Key × D)) (k : Key) : Option D := (es.find? fun e => decide (e.1 = k)).map (·.2)
def putD (es : List (Key × D)) (k : Key) (v : D) : List (Key × D) :=
  if (es.any fun e => decide (e.1 = k)) = true then es.map (fun e => if e.1 = k then (e.1, v) else e) else es ++ [(k, v)]
def mergeD (es more : List (Key × D)) : List (Key × D) := more.foldl (fun acc e => putD acc e.1 e.2) es
section
variable {K : PySem.W.Frag} {G : Hp}
theorem RpKV.val : ∀ {xs : List (Key × V)} {es : List (Key × D)} (k : Key), RpKV K G xs es → (valV xs k = none ∧ valD es k = none) ∨ ∃ v d, valV xs k = some v ∧ valD es k = some d ∧ Rp K G v d
  | _, _, k, .nil => .inl ⟨rfl, rfl⟩
  | x :: xs, e :: es, k, .cons h r => by
    by_cases z : e.1 = k
    · refine .inr ⟨x.2, e.2, valV_pos (h.1.trans z), ?_, h.2⟩
      simp [valD, List.find?_cons, z]
    · have z2 : ¬ x.1 = k := fun q => z (h.1.symm.trans q)
      rw [valV_neg z2, show valD (e :: es) k = valD es k by simp [valD, List.find?_cons, z]]
      exact RpKV.val k r
theorem RpKV.length : ∀ {xs : List (Key × V)} {es : List (Key × D)}, RpKV K G xs es → xs.length = es.length
  | _, _, .nil => rfl
  | _, _, .cons _ r => by rw [List.length_cons, List.length_cons, RpKV.length r]
theorem RpKV.keys : ∀ {xs : List (Key × V)} {es : List (Key × D)}, RpKV K G xs es → xs.map (·.1) = es.map (·.1)
  | _, _, .nil => rfl
  | _, _, .cons h r => by rw [List.map_cons, List.map_cons, RpKV.keys r, h.1]
theorem RpKV.append : ∀ {xs ys : List (Key × V)} {es fs : List (Key × D)}, RpKV K G xs es → RpKV K G ys fs → RpKV K G (xs ++ ys) (es ++ fs)
  | _, _, _, _, .nil, s => s
  | _, _, _, _, .cons h r, s => .cons h (RpKV.append r s)
theorem RpKV.put {xs : List (Key × V)} {es : List (Key × D)} {k : Key} {v : V} {d : D} (r : RpKV K G xs es) (h : Rp K G v d) : RpKV K G (putK xs k v) (putD es k d) := by
  have hany : (xs.any fun kv => decide (kv.1 = k)) = (es.any fun e => decide (e.1 = k)) := by
    induction r with
    | nil => rfl
    | cons h r ih => rw [List.any_cons, List.any_cons, ih, h.1]
  unfold putK putD
  rw [hany]
  split
  · rename_i hc
    clear hc hany
    induction r with
    | nil => exact .nil
    | @cons a b l1 l2 h0 r ih =>
      rw [List.map_cons, List.map_cons]
      refine .cons ?_ ih
      by_cases z : b.1 = k
      · rw [if_pos (h0.1.trans z), if_pos z]; exact ⟨h0.1, h⟩
      · rw [if_neg (fun q => z (h0.1.symm.trans q)), if_neg z]; exact h0
  · exact r.append (.cons ⟨rfl, h⟩ .nil)
theorem RpKV.merge : ∀ {ys : List (Key × V)} {fs : List (Key × D)} {xs : List (Key × V)} {es : List (Key × D)}, RpKV K G ys fs → RpKV K G xs es → RpKV K G (mergeK xs ys) (mergeD es fs)
  | _, _, _, _, .nil, s => s
  | _, _, _, _, .cons h r, s => by
    unfold mergeK mergeD
    rw [List.foldl_cons, List.foldl_cons, h.1]
    exact RpKV.merge r (s.put h.2)
theorem Rp.key {v : V} {d : D} {k : Key} (h : Rp K G v d) (e : keyOf d = some k) : v = kV k := by
  cases h <;> first | (cases e; rfl) | cases e
theorem RpAll.pairs : ∀ {vs : List V} {ds : List D} {es : List (Key × D)}, RpAll K G vs ds → pairsOf ds = some es → ∃ (ps : List Addr) (kvs : List (Key × V)), vs = ps.map V.ref ∧ Paired (fun p kv => SqT K G p [kV kv.1, kv.2]) ps kvs ∧ RpKV K G kvs es
  | _, _, es, .nil, e => by cases e; exact ⟨[], [], rfl, .nil, .nil⟩
  | _, d :: ds, es, .cons h r, e => by
    unfold pairsOf at e
    cases e1 : pairOf d with
    | none => rw [e1] at e; cases e
    | some p =>
      cases e2 : pairsOf ds with
      | none => rw [e1, e2] at e; cases e
      | some es2 =>
        rw [e1, e2] at e
        cases e
        obtain ⟨ps, kvs, rfl, h1, h2⟩ := RpAll.pairs r e2
        unfold pairOf at e1
        split at e1
        · rename_i k0 v0
          cases h with
          | tup hp rr =>
            cases rr with
            | cons r1 rr =>
              cases rr with
              | cons r2 rr =>
                cases rr
                cases e3 : keyOf k0 with
                | none => rw [e3] at e1; cases e1
                | some k =>
                  rw [e3] at e1
                  cases e1
                  cases r1.key e3
                  exact ⟨_ :: ps, (k, _) :: kvs, rfl, .cons hp.t h1, .cons ⟨rfl, r2⟩ h2⟩
        · cases e1
end
section
variable {X : Cx} {W : WX} {e : Expr} {t : TE} {pos : Pos}
def mOwnO (i : Nat) (m : M Ob) : M Fl := bnd m fun ob => fun E => if i < E.length then .ok .nx (E.set i (.ow ob)) else .bad
theorem ss_ownO {i : Nat} {st : Stmt} {m : M Ob} (hp : PE X e t → PS X st (tAsg t (gName i))) (h : SFO X W e t m) : SS X W [i] st (tAsg t (gName i)) (mOwnO i m) := by
  refine ⟨hp h.pe, fun F O E σ H D' R s => h.rd F O E σ H _ R (s.bnd.mono (fun ds E1 k O1 p vs H1 R1 hF l1 r => ?_) (KXs.of))⟩
  split at k
  · rename_i hi
    refine k O1 (σ.set i (some (.ref p))) H1 .non (R1.toOwn r hF hi) l1 fun j hj => ?_
    have hne : i ≠ j := fun z => hj (by rw [z]; exact List.mem_cons_self)
    rw [List.getElem?_set_ne hne]
  · exact k.elim
def dictF : D → Option Ob
  | .list ds => (pairsOf ds).map fun es => .d (mergeD [] es)
  | .tuple ds => (pairsOf ds).map fun es => .d (mergeD [] es)
  | _ => none
def mDict (m : M Ag) : M Ob := bnd m fun a => fun E => match rsv E a with
  | some d => lift (dictF d) E
  | none => .bad
theorem Rq.plain {K : PySem.W.Frag} {O : List Addr} {H : Hp} {v : V} {ds : List D} (h : Rq K O H v (.tuple ds)) : ∃ p vs, v = .ref p ∧ SqP K H p vs ∧ RpAll K (Mask O H) vs ds := by
  rcases h with h | ⟨_, _, _, _, e, _⟩
  · cases h with
    | tup h r => exact ⟨_, _, rfl, h.mono (mask_le O H), r⟩
  · cases e
theorem paired_imp {α β : Type} {P Q : α → β → Prop} (h : ∀ a b, P a b → Q a b) : ∀ {xs : List α} {ys : List β}, Paired P xs ys → Paired Q xs ys
  | _, _, .nil => .nil
  | _, _, .cons p r => .cons (h _ _ p) (paired_imp h r)
theorem sfo_dict {K : PySem.W.Frag} {m : M Ag} (eK : X.K = K) {e0 : Expr} (pe : PE X e0 t → PE X e (tCB (rDict K) (tCons t tNil))) (h : SO X W e0 t m) : SFO X W e (tCB (rDict K) (tCons t tNil)) (mDict m) := by
  subst eK
  refine ⟨pe h.pe, fun F O E σ H Q R s => h.rd F O E σ H _ R (s.bnd.mono (fun a E1 k O1 v H1 R1 l1 av => ?_) (fun _ _ k => k))⟩
  cases ea : rsv E1 a with
  | none => rw [ea] at k; exact k.elim
  | some d =>
    rw [ea] at k
    obtain ⟨ob, ho, k2⟩ := Sat.lift k
    have rq := R1.rsv av ea
    have fin : ∀ (ps : List Addr) (kvs : List (Key × V)) (es : List (Key × D)), RpKV X.K (Mask O1 H1) kvs es → ob = .d (mergeD [] es) → ∀ p, H1 p = none → Q (.ref p) (upd H1 p (.dK (mergeK [] kvs))) := fun ps kvs es r eo p np => by
      have l2 := mask_cons_new (O := O1) (o := .dK (mergeK [] kvs)) np
      subst eo
      exact k2 (p :: O1) p (.dK (mergeK [] kvs)) _ (R1.newF np) (R1.newApart np) (l1.trans l2) (show RpKV _ _ _ _ from (RpKV.merge (r.mono l2) .nil))
    unfold dictF at ho
    split at ho
    · rename_i ds
      cases e3 : pairsOf ds with
      | none => rw [e3] at ho; cases ho
      | some es =>
        rw [e3] at ho
        cases ho
        obtain ⟨p, vs, rfl, hp, r1⟩ := rq.list
        obtain ⟨ps, kvs, rfl, h1, h2⟩ := r1.pairs e3
        exact ⟨p, ps, kvs, rfl, .inl (SqL.of hp), paired_imp (fun _ _ z => sqT_mono (mask_le _ _) z) h1, fin ps kvs es h2 rfl⟩
    · rename_i ds
      cases e3 : pairsOf ds with
      | none => rw [e3] at ho; cases ho
      | some es =>
        rw [e3] at ho
        cases ho
        obtain ⟨p, vs, rfl, hp, r1⟩ := rq.plain
        obtain ⟨ps, kvs, rfl, h1, h2⟩ := r1.pairs e3
        exact ⟨p, ps, kvs, rfl, .inr hp, paired_imp (fun _ _ z => sqT_mono (mask_le _ _) z) h1, fin ps kvs es h2 rfl⟩
    · cases ho
end
end Bt
namespace Bt
open PySem L2
theorem Rq.key {K : PySem.W.Frag} {O : List Addr} {H : Hp} {v : V} {d : D} {k : Key} (h : Rq K O H v d) (e : keyOf d = some k) : v = kV k := by
  rcases h with h | ⟨_, _, _, _, rfl, _⟩
  · exact h.key e
  · cases e
theorem RpKV.valS {K : PySem.W.Frag} {G : Hp} {xs : List (Key × V)} {es : List (Key × D)} {k : Key} {d : D} (r : RpKV K G xs es) (h : valD es k = some d) : ∃ v, valV xs k = some v ∧ Rp K G v d := by
  rcases RpKV.val k r with ⟨_, q⟩ | ⟨v, d', h1, h2, h3⟩
  · rw [h] at q; cases q
  · rw [h] at h2; cases h2; exact ⟨v, h1, h3⟩
def dkOf (E : En) (i : Nat) (a : Ag) : Option (List (Key × D) × Key) := match E[i]?, rsv E a with
  | some ((.ow (.d es))), some d => (keyOf d).map fun k => (es, k)
  | _, _ => none
theorem dkOf_some {E : En} {i : Nat} {a : Ag} {es : List (Key × D)} {k : Key} (h : dkOf E i a = some (es, k)) : E[i]? = some ((.ow (.d es))) ∧ ∃ d, rsv E a = some d ∧ keyOf d = some k := by
  unfold dkOf at h
  split at h
  · rename_i es' d h1 h2
    cases h3 : keyOf d with
    | none => rw [h3] at h; cases h
    | some k' => rw [h3] at h; cases h; exact ⟨h1, d, h2, h3⟩
  · cases h
def isDic (E : En) (i : Nat) : Bool := match E[i]? with
  | some ((.ow (.d _))) => true
  | _ => false
theorem isDic_some {E : En} {i : Nat} (h : isDic E i = true) : ∃ es, E[i]? = some ((.ow (.d es))) := by
  unfold isDic at h
  split at h
  · exact ⟨_, ‹_›⟩
  · cases h
section
variable {X : Cx} {W : WX} {e : Expr} {t : TE} {pos : Pos}
def mDGet (i : Nat) (mk : M Ag) : M D := fun E => if isDic E i = true then (bnd mk fun a => fun E => match dkOf E i a with
    | some (es, k) => lift (valD es k) E
    | none => .bad) E else .bad
theorem se_dget {i : Nat} {k : Expr} {tk : TE} {mk : M Ag} (hp : PE X k tk → PE X e (tDGet (tVar i) tk)) (hk : SO X W k tk mk) : SE X W e (tDGet (tVar i) tk) (mDGet i mk) := by
  refine ⟨hp hk.pe, fun F O E σ H Q R s => ?_⟩
  unfold mDGet at s
  split at s
  · rename_i h0
    obtain ⟨es0, h0⟩ := isDic_some h0
    obtain ⟨p, vs0, e0, _, _, _⟩ := R.ownD h0
    refine ⟨.ref p, e0, hk.rd F O E σ H _ R (s.bnd.mono (fun a E1 k O1 v H1 R1 l1 av => ?_) (fun _ _ k => k))⟩
    split at k
    · rename_i es kk h1
      obtain ⟨h1, d, h2, h3⟩ := dkOf_some h1
      obtain ⟨dv, h4, k⟩ := Sat.lift k
      obtain ⟨p', vs, e1, hp1, hh1, r1⟩ := R1.ownD h1
      rw [e0] at e1
      cases e1
      obtain ⟨w, h5, h6⟩ := r1.valS h4
      cases (R1.rsv av h2).key h3
      exact ⟨p, w, rfl, .inl ⟨vs, kk, .inl hh1, rfl, h5.symm⟩, k O1 w H1 R1 l1 h6⟩
    · exact k.elim
  · exact s.elim
def mDGet2 (i : Nat) (mk : M Ag) (mx : M D) : M D := fun E => if isDic E i = true then (bnd mk fun a => bnd mx fun z => fun E => match dkOf E i a with
    | some (es, k) => .ok ((valD es k).getD z) E
    | none => .bad) E else .bad
theorem se_dget2 {i : Nat} {k x : Expr} {tk tx : TE} {mk : M Ag} {mx : M D} (hp : PE X k tk → PE X x tx → PE X e (tDGet2 (tVar i) tk tx)) (hk : SO X W k tk mk) (hx : SE X W x tx mx) : SE X W e (tDGet2 (tVar i) tk tx) (mDGet2 i mk mx) := by
  refine ⟨hp hk.pe hx.pe, fun F O E σ H Q R s => ?_⟩
  unfold mDGet2 at s
  split at s
  · rename_i h0
    obtain ⟨es0, h0⟩ := isDic_some h0
    obtain ⟨p, vs0, e0, _, hh0, _⟩ := R.ownD h0
    refine ⟨.ref p, e0, p, rfl, .inl ⟨_, .inl hh0⟩, hk.rd F O E σ H _ R (s.bnd.mono (fun a E1 k O1 v H1 R1 l1 av => ?_) (fun _ _ k => k))⟩
    refine hx.rd F O1 E1 σ H1 _ R1 (k.bnd.mono (fun z E2 k O2 u H2 R2 l2 rz => ?_) (KX.le l1))
    split at k
    · rename_i es kk h1
      obtain ⟨h1, d, h2, h3⟩ := dkOf_some h1
      obtain ⟨p', vs, e1, hp1, hh1, r1⟩ := R2.ownD h1
      rw [e0] at e1
      cases e1
      cases (R2.rsv (av.le l2) h2).key h3
      refine ⟨_, .inl ⟨vs, kk, .inl hh1, rfl, rfl⟩, k O2 _ H2 R2 (l1.trans l2) ?_⟩
      rcases RpKV.val kk r1 with ⟨q1, q2⟩ | ⟨v, d', q1, q2, q3⟩
      · rw [q1, q2]; exact rz
      · rw [q1, q2]; exact q3
    · exact k.elim
  · exact s.elim
def mDIn (b : Bool) (i : Nat) (mk : M Ag) : M D := bnd mk fun a => fun E => match dkOf E i a with
    | some (es, k) => .ok (.bool ((valD es k).isSome == b)) E
    | none => .bad
def mDPut (i : Nat) (mk : M Ag) (m : M D) : M Fl := bnd m fun d => fun E => if isDic E i = true then (bnd mk fun a => fun E => match dkOf E i a with
    | some (es, k) => if es.length < LIM then .ok .nx (E.set i ((.ow (.d (putD es k d))))) else .bad
    | none => .bad) E else .bad
theorem ss_dput {i : Nat} {k : Expr} {tk : TE} {mk : M Ag} {m : M D} {st : Stmt} (hp : PE X e t → PE X k tk → PS X st (sDPut (tVar i) tk t)) (h : SE X W e t m) (hk : SO X W k tk mk) : SS X W [] st (sDPut (tVar i) tk t) (mDPut i mk m) := by
  refine ⟨hp h.pe hk.pe, fun F O E σ H D' R s => h.rd F O E σ H _ R (s.bnd.mono (fun d E1 k1 O1 v H1 R1 l1 r => ?_) (KXs.of))⟩
  split at k1
  · rename_i h0
    obtain ⟨es0, h0⟩ := isDic_some h0
    obtain ⟨p, vs0, e0, hp0, hh0, r0⟩ := R1.ownD h0
    refine ⟨.ref p, e0, hk.rd F O1 E1 σ H1 _ R1 (k1.bnd.mono (fun a E2 k2 O2 u H2 R2 l2 av => ?_) (fun x E2 k2 => KX.le l1 _ _ (KXs.of _ _ k2)))⟩
    split at k2
    · rename_i es kk h1
      obtain ⟨h1, dk, h2, h3⟩ := dkOf_some h1
      split at k2
      · rename_i hl
        obtain ⟨p', vs, e1, hp1, hh1, r1⟩ := R2.ownD h1
        rw [e0] at e1
        cases e1
        cases (R2.rsv av h2).key h3
        obtain ⟨R3, em⟩ := R2.updOwn (vs := .dK (putK vs kk v)) (ds := .d (putD es kk d)) h1 e0 (RpKV.put r1 (r.mono l2))
        refine ⟨p, _, rfl, DPut.k hh1 (by rw [RpKV.length r1]; exact lim_lt hl), k2 O2 σ _ .non R3 (by unfold Le; rw [em]; exact l1.trans l2) Agr.refl⟩
      · exact k2.elim
    · exact k2.elim
  · exact k1.elim
def mDAug (f : Int → Int → Int) (i : Nat) (mk : M Ag) (m : M D) : M Fl := fun E => if isDic E i = true then (bnd mk fun a => fun E => match dkOf E i a with
    | some (es, k) => match valD es k with
      | some (.int x) => (bnd m fun d => fun E => match d, E[i]? with
        | .int y, some ((.ow (.d es2))) => if es2.length < LIM then .ok .nx (E.set i ((.ow (.d (putD es2 k (.int (f x y))))))) else .bad
        | _, _ => .bad) E
      | _ => .bad
    | none => .bad) E else .bad
theorem ss_daug {f : Int → Int → Int} {i : Nat} {k : Expr} {tk : TE} {mk : M Ag} {m : M D} {st : Stmt} (hp : PE X k tk → PE X e t → PS X st (sDAug (tVar i) tk t (ipI f))) (hk : SO X W k tk mk) (h : SE X W e t m) : SS X W [] st (sDAug (tVar i) tk t (ipI f)) (mDAug f i mk m) := by
  refine ⟨hp hk.pe h.pe, fun F O E σ H D' R s => ?_⟩
  unfold mDAug at s
  split at s
  · rename_i h0
    obtain ⟨es0, h0⟩ := isDic_some h0
    obtain ⟨p, vs0, e0, hp0, hh0, r0⟩ := R.ownD h0
    refine ⟨.ref p, e0, hk.rd F O E σ H _ R (s.bnd.mono (fun a E1 k1 O1 u H1 R1 l1 av => ?_) (KXs.of))⟩
    split at k1
    · rename_i es kk h1
      obtain ⟨h1, dk, h2, h3⟩ := dkOf_some h1
      split at k1
      · rename_i x h4
        obtain ⟨p', vs, e1, hp1, hh1, r1⟩ := R1.ownD h1
        rw [e0] at e1
        cases e1
        cases (R1.rsv av h2).key h3
        obtain ⟨w, h5, h6⟩ := r1.valS h4
        cases h6
        refine ⟨p, _, rfl, .inl ⟨vs, kk, .inl hh1, rfl, h5.symm⟩, h.rd F O1 E1 σ H1 _ R1 (k1.bnd.mono (fun d E2 k2 O2 v H2 R2 l2 r => ?_) (fun x E2 k2 => KX.le l1 _ _ (KXs.of _ _ k2)))⟩
        split at k2
        · rename_i y es2 h7
          split at k2
          · rename_i hl
            cases r
            obtain ⟨p', vs2, e1, hp2, hh2, r2⟩ := R2.ownD h7
            rw [e0] at e1
            cases e1
            obtain ⟨R3, em⟩ := R2.updOwn (vs := .dK (putK vs2 kk (.int (f x y)))) (ds := .d (putD es2 kk (.int (f x y)))) h7 e0 (RpKV.put r2 (.int _))
            exact ⟨x, y, rfl, rfl, _, DPut.k hh2 (by rw [RpKV.length r2]; exact lim_lt hl), k2 O2 σ _ .non R3 (by unfold Le; rw [em]; exact l1.trans l2) Agr.refl⟩
          · exact k2.elim
        · exact k2.elim
      · exact k1.elim
    · exact k1.elim
  · exact s.elim
theorem in_subI {X : Cx} : InOp X .Sub (ipI fun i j => i - j) := in_sub
def mDNew : M Ob := ret (.d [])
theorem sfo_new (hp : PE X e tDNewK) : SFO X W e tDNewK mDNew := by
  refine ⟨hp, fun F O E σ H Q R s => fun p np => ?_⟩
  have l2 := mask_cons_new (O := O) (o := .dK []) np
  exact s (p :: O) p (.dK []) _ (R.newF np) (R.newApart np) l2 .nil
end
def rSortD : List V → Hp → VK → Prop := fun xs H Q => ∃ (a : Addr) (kvs : List (Key × V)) (ks : List Int), xs = [.ref a] ∧ Rd H a (.dK kvs) ∧ kvs.map (·.1) = ks.map Sum.inl ∧ ks.length < 1000 ∧
    ∀ (ys : List Int) (p : Addr), ys.Perm ks → ys.Pairwise (· ≤ ·) → H p = none → Q (.ref p) (upd H p (.lst (ys.map V.int)))
theorem key_ints {es : List (Key × Value)} {ns : List Int} (ek : es.map (·.1) = ns.map Sum.inl) {l : List Value} (hl : l.length = es.length) (h : ∀ (j : Nat) (v : Value), l[j]? = some v → ∃ (k : Key) (x : Value), es[j]? = some (k, x) ∧ keyIs k v = true) : PyProof.Rows.IntsAre l ns := by
  refine ints_each (by rw [hl]; simpa using congrArg List.length ek) fun j v hv => ?_
  obtain ⟨k, x, h1, h2⟩ := h j v hv
  have h3 : (ns.map (Sum.inl : Int → Key))[j]? = some k := by rw [← ek, List.getElem?_map, h1]; rfl
  rw [List.getElem?_map] at h3
  cases h4 : ns[j]? with
  | none => rw [h4] at h3; cases h3
  | some y =>
    rw [h4] at h3
    cases h3
    rcases keyIs_shape h2 with ⟨i, t, e1, e2⟩ | ⟨z, t, e1, _⟩
    · cases e1; exact ⟨y, t, rfl, e2⟩
    · cases e1
theorem call_sortD {X : Cx} (hcalm : X.calm = true) : CallR X (.builtin "sorted") rSortD := by
  intro pn st sg H0 vals us QQ J rr hh
  obtain ⟨ad, kv, ns, rfl, hrd, hkeys, hlt, fin⟩ := hh
  obtain ⟨w, rfl, rw'⟩ := vals1 rr
  cases rw'
  obtain ⟨z, lo, es, rel, dd⟩ := dk_rd J.hok hrd
  obtain ⟨ep, hat⟩ := dd.dictAt
  have ek : es.map (·.1) = ns.map Sum.inl := by rw [← rel.keys]; exact hkeys
  have el : es.length = ns.length := by simpa using congrArg List.length ek
  have ez : es.length ≤ sizeLine := by rw [el, sizeLine_eq]; omega
  have nz : ns.length ≤ sizeLine := by rw [← el]; exact ez
  refine Calls.call_function_entry PyProof.Rows.kind_sorted PyProof.Rows.plain_sorted PyProof.Rows.entry_sorted (PyProof.Rows.args_sorted1 _) ?go
  unfold Builtin.«sorted»
  refine wpAny_bind (m := checkCount "sorted" 1 1 _) (wpAny_pure ?go2)
  refine wpAny_bind (PySem.W.kdu_collect (A := X.A.in1) (PySem.W.kdl_dict (knd := mixKind X.prog X.w) (kvs := es) (ep := ep) lo) (J.ok.hd hcalm) hat ez ?go3)
  intro h2 tk acc hk hacc
  have al : acc.toList.length = es.length := by rw [Array.length_toList, hacc.1]
  have hI : PyProof.Rows.IntsAre acc.toList ns := key_ints ek al fun j v e => hacc.2 j v (by rw [← Array.getElem?_toList]; exact e)
  have az : acc.toList.length ≤ sizeLine := by rw [al]; exact ez
  have J1 : Inv X pn sg H0 { st with heap := h2, toks := tk } := J.kept hk
  refine wpAny_bind (wpAny_newList ?go4 az)
  have hoL : (h2.push (PyProof.Rows.seqObj "list" acc.toList.toArray 0)).get? h2.objs.size = some (PyProof.Rows.seqObj "list" acc.toList.toArray 0) := Heap.get?_push_size _ rfl
  show wpAny _ _ _ _ _ { st with heap := h2.push (PyProof.Rows.seqObj "list" acc.toList.toArray 0), toks := tk }
  refine wpAny_bind (wpAny_holding (wpAny_call_entry PyProof.Rows.slot_list_sort ⟨_, hoL, rfl⟩ PyProof.Rows.entry_list_sort
    (SrtO.list_sort_ord (s := { st with heap := h2.push (PyProof.Rows.seqObj "list" acc.toList.toArray 0), toks := tk }) SrtO.swo_int hoL az (fun k => SrtO.ints_sortable hI k) fun out g1 g2 => ⟨_, rfl, ?_⟩) (PyProof.Rows.args_list_sort _)))
  obtain ⟨k1, k2, k3⟩ := SrtO.ints_out hI g1 g2
  obtain ⟨ep2, he2⟩ := PyProof.Rows.sortedHeap_at (vs := acc.toList) (out := out.toArray) hoL
  have hlen : ((out.map SrtO.iv).map V.int).length ≤ sizeLine := by rw [List.length_map, k2.length_eq]; exact nz
  refine wpAny_pure ⟨_, rfl, .ref h2.objs.size, upd H0 h2.objs.size (.lst ((out.map SrtO.iv).map V.int)), J1.laid (t' := tk) (fun b u e => ?_) (Nat.le_refl _)
    (show ObjOk X.prog X.w _ _ _ (.lst ((out.map SrtO.iv).map V.int)) from ⟨hlen, out, ep2, vals_of_ints k1, he2⟩), rfl, fin _ _ k2 k3 (J1.hok.fresh (Nat.le_refl _))⟩
  have hb : b < h2.objs.size := Heap.lt_size e
  rw [PyProof.Rows.sortedHeap_old (Nat.ne_of_lt hb) (by rw [PyProof.Rows.size_push']; exact Nat.lt_succ_of_lt hb)]
  exact Heap.get?_push_of_some _ e
def keyI : Key → Option Int
  | .inl i => some i
  | .inr _ => none
def keysI : List (Key × D) → Option (List Int)
  | [] => some []
  | e :: es => match keyI e.1, keysI es with
    | some i, some is => some (i :: is)
    | _, _ => none
theorem keysI_map : ∀ {es : List (Key × D)} {ks : List Int}, keysI es = some ks → es.map (·.1) = ks.map Sum.inl
  | [], _, h => by cases h; rfl
  | e :: es, ks, h => by
    unfold keysI at h
    cases h1 : keyI e.1 with
    | none => rw [h1] at h; cases h
    | some i =>
      cases h2 : keysI es with
      | none => rw [h1, h2] at h; cases h
      | some is =>
        rw [h1, h2] at h
        cases h
        rw [List.map_cons, List.map_cons, keysI_map h2]
        cases q : e.1 with
        | inl j => rw [q] at h1; cases h1; rfl
        | inr j => rw [q] at h1; cases h1

theorem RpKV.keysI {K : PySem.W.Frag} {G : Hp} {xs : List (Key × V)} {es : List (Key × D)} {ks : List Int} (r : RpKV K G xs es) (h : keysI es = some ks) : xs.map (·.1) = ks.map Sum.inl := (RpKV.keys r).trans (keysI_map h)
def mSortD (i : Nat) : M D := fun E => match E[i]? with
  | some ((.ow (.d es))) => match keysI es with
    | some ks => if ks.length < 1000 then .ok (.list ((sortI ks).map .int)) E else .bad
    | none => .bad
  | _ => .bad
section
variable {X : Cx} {W : WX} {e : Expr}
theorem se_sortD {i : Nat} (hp : PE X e (tCB rSortD (tCons (tVar i) tNil))) : SE X W e (tCB rSortD (tCons (tVar i) tNil)) (mSortD i) := by
  refine ⟨hp, fun F O E σ H Q R s => ?_⟩
  unfold mSortD at s
  split at s
  · rename_i es h0
    obtain ⟨p, vs, e0, hp0, hh0, r0⟩ := R.ownD h0
    split at s
    · rename_i ks h1
      split at s
      · rename_i hl
        refine ⟨.ref p, e0, p, vs, ks, rfl, .inl hh0, r0.keysI h1, hl, fun ys l h2 h3 nl => ?_⟩
        cases sortI_uniq h2 h3
        obtain ⟨g, r⟩ := new_lst R.trk (RpAll.of_ints (K := X.K) (Mask O H) (sortI ks)) nl
        exact s O _ _ (R.grow g) g.le r
      · exact s.elim
    · exact s.elim
  · exact s.elim
end
end Bt
namespace Bt
open PySem L2
section
open PySem.Spec PyProof.Rows HT
variable {prog : Program} {w : World} {A : Around} {E : Value → Shared → Prop} {s : Shared}
theorem sliceApplied_rev {sl : Addr} {vl vu vs : Value} {n : Nat} {Q : Int × Int × Nat → Shared → Prop} (hs : s.heap.IsSliceOf sl vl vu vs) (pl : IsPart vl none) (pu : IsPart vu none) (ps : IsPart vs (some (-1)))
    (h : Q ((n : Int) - 1, -1, n) s) : wpAny (model prog w) A (Builtin.Slice.sliceApplied (.ref sl) (pure (n : Int))) Q E s := by
  obtain ⟨os, hos, hcs, hds⟩ := id hs
  unfold Builtin.Slice.sliceApplied Builtin.Slice.sliceFields
  refine wpAny_bind (wpAny_bind (wpAny_field hos hds (x := vl) rfl (wpAny_bind (wpAny_field hos hds (x := vu) rfl (wpAny_bind (wpAny_field hos hds (x := vs) rfl (wpAny_pure ?_)))))))
  refine wpAny_bind (slicePart_ ps ?_)
  show wpAny _ _ (if ((-1 : Int) == 0) = true then _ else _) _ _ s
  rw [if_neg (by decide)]
  refine wpAny_bind (slicePart_ pl (wpAny_bind (slicePart_ pu (wpAny_bind (wpAny_pure ?_)))))
  have e1 : Builtin.Slice.sliceAdjust none none (-1) (n : Int) = ((n : Int) - 1, -1) := by
    unfold Builtin.Slice.sliceAdjust
    simp
  have e2 : Builtin.Slice.slicePlaces ((n : Int) - 1) (-1) (-1) = n := by
    unfold Builtin.Slice.slicePlaces
    have h1 : ¬ ((-1 : Int) > 0) := by omega
    simp only [h1, if_false]
    rw [show -(-1 : Int) = 1 from rfl, Int.ediv_one]
    split <;> omega
  show wpAny _ _ (match Builtin.Slice.sliceAdjust none none (-1) (n : Int) with | (lo, hi) => pure (lo, (-1 : Int), Builtin.Slice.slicePlaces lo hi (-1))) _ _ s
  rw [e1]
  show wpAny _ _ (pure ((n : Int) - 1, (-1 : Int), Builtin.Slice.slicePlaces ((n : Int) - 1) (-1) (-1))) _ _ s
  rw [e2]
  exact wpAny_pure h
theorem fm_congr {α β : Type} {f g : α → Option β} : ∀ {l : List α}, (∀ x ∈ l, f x = g x) → l.filterMap f = l.filterMap g
  | [], _ => rfl
  | x :: l, h => by rw [List.filterMap_cons, List.filterMap_cons, h x List.mem_cons_self, fm_congr fun y hy => h y (List.mem_cons_of_mem _ hy)]
theorem pick_rev (xs : Array Value) : ((List.range xs.size).filterMap fun (m : Nat) => xs[(((xs.size : Nat) : Int) - 1 + (m : Int) * (-1)).toNat]?).toArray = xs.toList.reverse.toArray := by
  congr 1
  have e : ((List.range xs.size).filterMap fun (m : Nat) => xs[(((xs.size : Nat) : Int) - 1 + (m : Int) * (-1)).toNat]?) = ((List.range xs.size).map fun k => xs.size - 1 - k).filterMap (xs[·]?) := by
    rw [List.filterMap_map]
    refine fm_congr fun m hm => ?_
    have := List.mem_range.mp hm
    show xs[(((xs.size : Nat) : Int) - 1 + (m : Int) * (-1)).toNat]? = xs[xs.size - 1 - m]?
    congr 1
    omega
  rw [e, PySem.W.krv_range, List.filterMap_reverse, PySem.W.krv_all]
theorem getItem_tuple_rev {t sl : Addr} {items : Array Value} {vl vu vs : Value} {Q : Value → Shared → Prop} (ht : IsTup s.heap t items) (hs : s.heap.IsSliceOf sl vl vu vs) (pl : IsPart vl none) (pu : IsPart vu none) (ps : IsPart vs (some (-1)))
    (h : Q (.ref s.heap.objs.size) { s with heap := s.heap.push { cls := .type "tuple", data := .seq items.toList.reverse.toArray } })
    (hsz : items.size ≤ sizeLine) : wpAny (model prog w) A (getItem (.ref t) (.ref sl)) Q E s := by
  have htake : sizeOk (.seq items.toList.reverse.toArray) := by
    show items.toList.reverse.toArray.size ≤ sizeLine
    rw [List.size_toArray, List.length_reverse, Array.length_toList]
    omega
  obtain ⟨os, hos, hcs, hds⟩ := id hs
  have hTs : s.TypeIs (.ref sl) "slice" := ⟨os, hos, hcs⟩
  unfold getItem
  try with_reducible refine wpAny_holding ?_
  first | refine wpAny_bind (wpAny_pure ?_) | skip
  refine wpAny_bind (wpAny_sequenceKey ht.typeIs (by decide) ?_)
  refine wpAny_bind (wpAny_callSpecial?_slot (name := Str.ofString "__getitem__") ht.typeIs PyProof.Rows.slot_tuple_getitem
    (wpAny_call_entry PyProof.Rows.slot_tuple_getitem ht.typeIs entry_tuple_getitem ?_ (args_tuple_getitem _ _)))
  show wpAny _ _ (Builtin.Tuple.tupleItemsOf (.ref t) >>= _) _ _ s
  refine wpAny_bind (tupleItemsOf_ ht ?_)
  refine wpAny_bind (wpAny_typeOf hTs ?_)
  rw [if_pos (by decide)]
  refine wpAny_bind (sliceApplied_rev hs pl pu ps ?_)
  have hno : ¬ (((((items.size : Nat) : Int) - 1) == 0 && (-1 : Int) == 1 && items.size == items.size) = true) := by
    intro q
    rw [Bool.and_eq_true, Bool.and_eq_true] at q
    exact absurd (eq_of_beq q.1.2) (by omega)
  show wpAny _ _ (if ((((items.size : Nat) : Int) - 1) == 0 && (-1 : Int) == 1 && items.size == items.size) = true then _ else _) _ _ s
  rw [if_neg hno, pick_rev]
  first
    | exact wpAny_bind (m := Builtin.Tuple.tupleExact _) (wpAny_newObj_type (wpAny_pure ⟨_, rfl, wpAny_pure h⟩) htake)
    | exact wpAny_bind (m := Builtin.Tuple.tupleExact _) (wpAny_newObj_type (wpAny_bind (wpAny_pure (wpAny_pure ⟨_, rfl, wpAny_pure h⟩))) htake)
    | exact wpAny_bind (wpAny_bind (m := Builtin.Tuple.tupleExact _) (wpAny_newObj_type (wpAny_pure (wpAny_pure ⟨_, rfl, wpAny_pure h⟩)) htake))
    | exact wpAny_bind (wpAny_bind (m := Builtin.Tuple.tupleExact _) (wpAny_newObj_type (wpAny_pure ⟨_, rfl, wpAny_pure h⟩) htake))
end
section
open PyProof.Rows
variable {X : Cx}
def tRevP (K : PySem.W.Frag) (te : TE) : TE := fun σ H Q => te σ H fun x H1 => ∃ a xs, x = .ref a ∧ SqT K H1 a xs ∧ ∀ p o, H1 p = none → o.dict = none → Q (.ref p) (upd H1 p (.frz o (.tup xs.reverse)))
theorem pe_revP {e : Expr} {te : TE} {k : Nat} {p1 p2 p3 pos : Pos} (he : PE X e te) : PE X (.Subscript e (.Slice none none (some (.UnaryOp .USub (.Constant (.int 1) k p1) p2)) p3) pos) (tRevP X.K te) := by
  refine ⟨fun pins s σ H Q I h => ?_⟩
  refine Subscript_ (thn (he.run pins s σ H _ I h) fun v s1 ⟨x, H1, I1, r1, q1⟩ => ?_)
  obtain ⟨a, xs, ex, hx, q⟩ := q1
  subst ex
  cases r1
  have hst : PO X (some (.UnaryOp .USub (.Constant (.int 1) k p1) p2)) (tPart (tUn (rU fun i => .int (-i)) (tC (.int 1)))) := po_some (pe_un un_neg pe_int)
  refine wpAny_Slice (thn (po_none.run pins s1 σ H1 (fun o H2 => o = none ∧ H2 = H1) I1 ⟨rfl, rfl⟩) fun vl s2 ⟨l, H2, I2, pl, el, e2⟩ => ?_)
  subst el e2
  refine thn (po_none.run pins s2 σ H2 (fun o H3 => o = none ∧ H3 = H2) I2 ⟨rfl, rfl⟩) fun vu s3 ⟨u, H3, I3, pu, eu, e3⟩ => ?_
  subst eu e3
  refine thn (hst.run pins s3 σ H3 (fun o H4 => o = some (-1) ∧ H4 = H3) I3 ⟨1, rfl, -1, rfl, rfl, rfl⟩) fun vs s4 ⟨o, H4, I4, ps, eo, e4⟩ => ?_
  subst eo e4
  have I5 : Inv X pins σ H4 { s4 with heap := s4.heap.push { cls := .type "slice", data := .fields #[vl, vu, vs] } } := I4.kept (t' := s4.toks) fun b ob q => Heap.get?_push_of_some _ q
  obtain ⟨its, r, ht, hz⟩ := I5.tuple hx
  have hlen := r.length
  show wpAny (model X.prog X.w) X.A (subscriptTail e (.Slice none none (some (.UnaryOp .USub (.Constant (.int 1) k p1) p2)) p3) (.ref a) (.ref s4.heap.objs.size)) (EP X pins σ Q) X.xe { s4 with heap := s4.heap.push { cls := .type "slice", data := .fields #[vl, vu, vs] } }
  refine tail_any (ops := [.ref a, .ref s4.heap.objs.size]) ht.typeIs PyProof.Rows.slot_tuple_getitem.lookup ?_ (by with_unfolding_all rfl)
  refine getItem_tuple_rev ht (Heap.IsSliceOf.new _ vl vu vs) pl pu ps ?_ (by rw [List.size_toArray]; omega)
  exact ⟨.ref _, _, laidP (tk := s4.toks) I5 (by rw [List.length_reverse]; exact hz) r.reverse, rfl, q _ _ (I5.hok.fresh (Nat.le_refl _)) rfl⟩
end
section
open PySem.W
variable {X : Cx}
end
end Bt
namespace Bt
open PySem L2
theorem pe_or2 {X : Cx} {e : Expr} {t1 t2 : TE} (h1 : PE X e t1) (h2 : PE X e t2) : PE X e (fun σ H Q => t1 σ H Q ∨ t2 σ H Q) := ⟨fun pins s σ H Q I h => h.elim (fun z => h1.run pins s σ H Q I z) (fun z => h2.run pins s σ H Q I z)⟩
section
variable {X : Cx} {W : WX} {a b c e : Expr} {ta tb tc t : TE} {pos : Pos}
def revD : D → Option D
  | .list ds => some (.list ds.reverse)
  | .tuple ds => some (.tuple ds.reverse)
  | _ => none
def mRev (m : M Ag) : M D := bnd m fun a => fun E => match rsv E a with
  | some d => lift (revD d) E
  | none => .bad
theorem se_revK (K : PySem.W.Frag) {m : M Ag} {k : Nat} {p1 p2 p3 : Pos} (eK : X.K = K) (h : SO X W e t m) : SE X W (.Subscript e (.Slice none none (some (.UnaryOp .USub (.Constant (.int 1) k p1) p2)) p3) pos) (fun σ H Q => tRevL K t σ H Q ∨ tRevP K t σ H Q) (mRev m) := by
  subst eK
  refine ⟨pe_or2 (pe_revL h.pe) (pe_revP h.pe), fun F O E σ H Q R s => ?_⟩
  have s' := s.bnd
  cases hm : m E with
  | bad => rw [hm] at s'; exact s'.elim
  | ex x E1 => rw [hm] at s'; exact .inl (h.rd F O E σ H _ R (by rw [hm]; exact s'))
  | ok a E1 =>
    rw [hm] at s'
    change Sat (match rsv E1 a with | some d => lift (revD d) E1 | none => .bad) _ _ at s'
    cases ea : rsv E1 a with
    | none => rw [ea] at s'; exact s'.elim
    | some d =>
      rw [ea] at s'
      obtain ⟨z, hz, k2⟩ := Sat.lift s'
      cases d <;> first | (cases hz; done) | skip
      · cases hz
        refine .inl (h.rd F O E σ H _ R (by
          rw [hm]
          intro O1 v H1 R1 l1 av
          obtain ⟨p, vs, rfl, hp, r1⟩ := (R1.rsv av ea).list
          refine ⟨p, vs, rfl, SqL.of hp, fun q nq => ?_⟩
          obtain ⟨g, r⟩ := new_lst R1.trk r1.reverse nq
          exact k2 O1 _ _ (R1.grow g) (l1.trans g.le) r))
      · cases hz
        refine .inr (h.rd F O E σ H _ R (by
          rw [hm]
          intro O1 v H1 R1 l1 av
          obtain ⟨p, vs, rfl, hp, r1, _⟩ := (R1.rsv av ea).tuple
          refine ⟨p, vs, rfl, hp, fun q o nq ho => ?_⟩
          obtain ⟨g, r⟩ := new_tup R1.trk r1.reverse nq ho
          exact k2 O1 _ _ (R1.grow g) (l1.trans g.le) r))
def maxDf (d z : D) : Option D := match d with
  | .list ds => match intsOf ds with
    | some [] => some z
    | some (n :: ns) => some (.int (maxL (n :: ns)))
    | none => none
  | _ => none
def mDfl (f : D → D → Option D) (m : M Ag) (mz : M D) : M D := bnd m fun a => bnd mz fun z => fun E => match rsv E a with
  | some d => lift (f d z) E
  | none => .bad
open Classical in
end
end Bt
namespace Bt
open PySem L2
section
open PyProof.Rows
variable {X : Cx}
end
section
variable {X : Cx} {W : WX} {e : Expr} {t : TE} {m : M D} {pos : Pos}
def mPutAug (f : Int → Int → Int) (i : Nat) (mk : M Ag) (m : M D) : M Fl := fun E => match E[i]? with
  | some ((.ow (.l _))) => (bnd mk fun a => fun E => match E[i]?, rsv E a with
    | some ((.ow (.l ds))), some (.int k) => match atI ds k with
      | some (.int x) => (bnd m fun d => fun E => match d, E[i]? with
        | .int y, some ((.ow (.l ds))) => match ixN ds.length k with
          | some j => .ok .nx (E.set i ((.ow (.l (ds.set j (.int (f x y)))))))
          | none => .bad
        | _, _ => .bad) E
      | _ => .bad
    | _, _ => .bad) E
  | _ => .bad
def mPop (i : Nat) (mk : M Ag) : M D := fun E => match E[i]? with
  | some ((.ow (.l _))) => (bnd mk fun a => fun E => match E[i]?, rsv E a with
    | some ((.ow (.l ds))), some (.int k) => match ixN ds.length k with
      | some j => match ds[j]? with
        | some d => if ds.length ≤ LIM then .ok d (E.set i ((.ow (.l (ds.eraseIdx j))))) else .bad
        | none => .bad
      | none => .bad
    | _, _ => .bad) E
  | _ => .bad
theorem RpAll.eraseIdx {K : PySem.W.Frag} {G : Hp} : ∀ {vs : List V} {ds : List D} (n : Nat), RpAll K G vs ds → RpAll K G (vs.eraseIdx n) (ds.eraseIdx n)
  | _, _, _, .nil => .nil
  | _, _, 0, .cons _ r => r
  | _, _, n + 1, .cons q r => .cons q (RpAll.eraseIdx n r)
end
end Bt
namespace Bt
open PySem L2
section
variable {X : Cx} {W : WX}
def asL (d : D) : M (List D) := match d with
  | .list ds => ret ds
  | _ => stuck
def mAsL (m : M D) : M (List D) := bnd m asL
end
section
variable {X : Cx} {W : WX} {tg e : Expr}
def downD (hi lo : Int) : List D := (List.range (hi - lo).toNat).map fun k => .int (hi - (k : Nat))
noncomputable def mRng3 (ms : M (List Ag)) : M (List D) := bnd ms fun as => fun E => match rsvs E as with
  | some [.int i, .int j, .int k] => if rgOk i && rgOk j && decide (k = -1) then .ok (downD i j) E else .bad
  | _ => .bad
end
end Bt
namespace Bt
open PySem L2
def borSl (E : En) : List Ag → Option (List Sl)
  | [] => some []
  | .d d :: r => (borSl E r).map (.dat d :: ·)
  | .r i :: r => match E[i]? with
    | some (.dat d) => (borSl E r).map (.dat d :: ·)
    | some ((.ow (.l ds))) => (borSl E r).map (.dat (.list ds) :: ·)
    | some (.scr d) => (borSl E r).map (.scr d :: ·)
    | _ => none
section
variable {K : PySem.W.Frag} {F : Frm} {O : List Addr} {E : En} {σ : L2.St} {H : Hp} {vs : List V} {ags : List Ag} {as : List Sl}
end
def flatX (x : Exc) : Bool := match x.fld with
  | none => true
  | _ => false
def mCallB (Fm : M Sl) (ms : M (List Ag)) : M D := bnd ms fun ags => fun E => match borSl E ags with
  | none => .bad
  | some as => match Fm as with
    | .ok (.dat d) _ => if flatD d then .ok d E else .bad
    | .ex x _ => if flatX x then .ex x E else .bad
    | _ => .bad
section
variable {X : Cx} {W : WX} {P : Program} {w : World} {K : PySem.W.Frag} {mg : Str → Option Value} {base : Heap} {e : Expr} {pos : Pos}
end
end Bt
namespace Bt
open PySem L2

section
variable {X : Cx} {W : WX}
end
end Bt
namespace Bt
open PySem PySem.Spec PySem.Calls PyProof.Rows PySem.W L2

section
variable {X : Cx} {pins : List (Addr × Obj)} {σ : L2.St} {H : Hp} {s : Shared} {E : Value → Shared → Prop}
end
def gStarM (g1 : MG) (i : Nat) : MG
  | .tuple (d :: ds), E => if ds.length ≤ 16000 then (g1 d E).bind (gN i (.list ds)) else none
  | .list (d :: ds), E => if ds.length ≤ 16000 then (g1 d E).bind (gN i (.list ds)) else none
  | _, _ => none
section
variable {X : Cx} {W : WX} {e tg : Expr} {t : TE} {m : M D}
end
end Bt
namespace Bt
open PySem L2
section
variable {X : Cx} {pins : List (Addr × Obj)} {σ : L2.St} {H : Hp} {sI s : Shared} {a : Addr} {o : HO}
theorem inv_track (I : Inv X pins σ H sI) (n0 : sI.heap.get? a = none) (na : H a = none) (J : Inv X pins σ H s) (new : ObjOk X.prog X.w (upd H a o) s.heap a o) : Inv X pins σ (upd H a o) s := by
  have nb : ∀ b u, sI.heap.get? b = some u → b ≠ a := fun b u e z => by rw [z, n0] at e; cases e
  have n1 : ∀ b u, X.s_0.heap.get? b = some u → b ∉ X.ex → b ≠ a := fun b u e hx => by
    obtain ⟨u', q⟩ := I.base.there b u e hx
    exact nb b u' q
  refine ⟨J.ok, J.os, J.bare, ⟨J.base.keep, J.base.slot, fun b u e n hx => ?_, J.base.there, fun b xs e => ?_, fun b u v e => ?_, fun b ps e => ?_⟩, J.loc, J.cell, ?_, fun x c e => ?_, fun p hp => ?_, J.hok.laidN (fun _ _ e => e) na new, J.len⟩
  · rw [upd_ne (n1 b u e hx)]; exact J.base.free b u e n hx
  · have q := J.base.tups b xs e
    rw [upd_ne (ne_of_none q na)]; exact q
  · have q := J.base.frzs b u v e
    rw [upd_ne (ne_of_none q na)]; exact q
  · obtain ⟨m, q⟩ := J.base.tbls b ps e
    exact ⟨m, by rw [upd_ne (ne_of_none q na)]; exact q⟩
  · obtain ⟨m, ⟨u, _, _, q, _⟩, _⟩ := I.loc
    rw [upd_ne (nb _ u q)]; exact J.free
  · obtain ⟨v, u, q, _⟩ := I.cell x c e
    rw [upd_ne (nb _ u q)]; exact J.freeC x c e
  · obtain ⟨q1, q2, q3⟩ := J.pin p hp
    refine ⟨q1, ?_, q3⟩
    rw [upd_ne (nb _ _ (I.pin p hp).1)]; exact q2
theorem inv_in (I : Inv X pins σ H s) (a : Addr) : Inv (X.suite a (X.pn ++ pins)) [] σ H s :=
  ⟨I.ok.suite _ _, I.os, I.bare, I.base, I.loc, I.cell, I.free, I.freeC, fun p hp => I.pin p (by rw [List.append_nil] at hp; exact hp), I.hok, I.len⟩
theorem inv_out {a : Addr} {pn' : List (Addr × Obj)} (I : Inv (X.suite a (X.pn ++ pins)) pn' σ H s) (ok : X.Ok) : Inv X pins σ H s :=
  ⟨ok, I.os, I.bare, I.base, I.loc, I.cell, I.free, I.freeC, fun p hp => I.pin p (List.mem_append_left _ hp), I.hok, I.len⟩
end
def wTr (K : PySem.W.Frag) (c : Value) (i : Nat) (ts : TS) (Wout : WX) (D : Ends) : WX := fun cls d σ H => ∃ b, PySem.W.exmOne K cls c = some b ∧
  (b = true → ∀ a, H a = none → ts { nx := fun τ G => D.nx (τ.set i none) G, rt := D.rt, bk := fun τ G => D.bk (τ.set i none) G, ct := fun τ G => D.ct (τ.set i none) G } (σ.set i (some (.ref a))) (upd H a (ExT cls d a))) ∧ (b = false → Wout cls d σ H)
section
variable {X : Cx} {x n : Str} {c : Value} {i : Nat} {body sts : List Stmt} {s0 : Stmt} {np pos hpos : Pos} {tb : WX → TS} {ts : TS} {Wout : WX}
theorem ps_tryT (hstk : X.stack = X.env :: X.outer) (hfrm : X.env.frame = some X.env.locals) (hN : X.N.Nodup) (hi : X.N[i]? = some n) (hln : X.env.kindOf n = some .local) (hc : Names X x c) (tk : Takes X Wout)
    (hb : ∀ (W : WX) (pn : List (Addr × Obj)) (xe : Value → Shared → Prop), Takes (X.tr pn xe) W → PassesOwn (model X.prog X.w) X.A X.env xe → PSs (X.tr pn xe) body (tb W)) (hsu : ∀ (a : Addr) (pn : List (Addr × Obj)), PSs (X.suite a pn) (s0 :: sts) ts) :
    PS X (.Try body [.ExceptHandler (some (.Name x np)) (some n) (s0 :: sts) hpos] [] [] pos) (fun D σ H => tb (wTr X.K c i ts Wout D) D σ H) := by
  refine ⟨fun pins s σ H D I h => ?_⟩
  have ok := I.ok
  have hA : X.A.frames = some (X.env :: X.outer) := ok.frames.trans (congrArg some hstk)
  refine wpAny_Try_except (wpAny_mono ((hb (wTr X.K c i ts Wout D) (X.pn ++ pins) (fun e s₁ => wpAny (model X.prog X.w) X.A (noteFrame e X.env) (fun _ s₂ => wpAny (model X.prog X.w) X.A (setFlight e none) (fun _ s₃ => wpAny (model X.prog X.w) X.A (handleBy e X.env [.ExceptHandler (some (.Name x np)) (some n) (s0 :: sts) hpos]) (L2.SP X pins D) X.xe s₃) X.xe s₂) X.xe s₁) (fun u s' q => ?_) PassesOwn.looking).run [] s σ H D (I.toTry _) h) (fun f s1 q => ?_) (fun _ _ q => q))
  · obtain ⟨a, B, sI, pins', τ, G, cls, d, rfl, J', nb, up, sky, na, os, ag, b, hb1, hyes, hno⟩ := q
    have J : Inv X pins τ G sI := J'.ofTry ok
    have sky' : Sky B (X.env :: X.outer) a (Zc cls d) X.env.locals s'.heap := hstk ▸ sky
    refine (show wpAny (model X.prog X.w) X.A (noteFrame (.ref a) X.env) _ _ _ from Sky.land Zc.steady hA hfrm sky' fun h3 fl3 up3 => ?_)
    have J3 : Inv X pins τ G { s' with heap := h3 } := J.landed nb fl3.1 (up.trans up3) os ag
    obtain ⟨o3, v3, he3, hz3, hd3⟩ := fl3.there
    have out : a ∉ frs (X.env :: X.outer) := fun hm => by
      obtain ⟨_, o', e', hn'⟩ := fl3.2.2.1.mem hm
      rw [he3] at e'
      cases e'
      exact hn' _ hd3
    have n0 : sI.heap.get? a = none := by
      cases e : sI.heap.get? a with
      | none => rfl
      | some u =>
        have z := nb a u e (by rw [hstk]; exact out)
        rw [fl3.2.1] at z
        cases z
    have S3 := inv_in J3 a
    have LT : PySem.W.Looks (model X.prog X.w) h3 (typeOf (.ref a)) cls := fun _ _ _ _ k q => wpAny_typeOf_ref (k _ _ he3) (hz3.1.symm ▸ q)
    have LM := PySem.W.exm_one (M := model X.prog X.w) J3.kIn LT hb1
    have look : ∀ {Q : Value → Shared → Prop} {E : Value → Shared → Prop}, Q c { s' with heap := h3 } → wpAny (model X.prog X.w) (X.A.mark (some (.ref a))) (eval (.Name x np) X.env) Q E { s' with heap := h3 } := fun {Q E} q => by
      rcases hc with ⟨g1, g2, g3 | ⟨g3, g4, g5⟩⟩
      · exact ld_glob (X := X.suite a (X.pn ++ pins)) S3 g1 g3 q g2
      · exact ld_blt (X := X.suite a (X.pn ++ pins)) S3 g1 g3 g4 q g5 g2
    refine wpAny_handleBy_cons (codeAny_handlers_test (look (LM.here ?_))) (by intro q; cases q)
    cases b with
    | true =>
      refine codeAny_handlers_suite_as (HandSPX.lands_againZ fl3 fun h4 fl4 up4 => ?_)
      have J4 : Inv X pins τ G { s' with heap := h4 } := J.landed nb fl4.1 ((up.trans up3).trans up4) os ag
      obtain ⟨o4, v4, he4, hz4, hd4⟩ := fl4.there
      have T4 : Inv X pins τ (upd G a (ExT cls d a)) { s' with heap := h4 } := inv_track J n0 na J4 (exT_ok he4 hz4 hd4)
      refine store_ok (X := X.suite a (X.pn ++ pins)) (v := .ref a) (inv_in T4 a) hN hi (.inl hln) rfl (fun s5 S5 => ?_) (.inr hln)
      refine wpAny_mono ((hsu a (X.pn ++ pins)).run [] s5 _ _ _ S5 (hyes rfl a na)) (fun f s6 q => ?_) (fun _ _ z => False.elim z)
      have fin : ∀ {τ6 : L2.St} {G6 : Hp} {Q : Shared → Prop}, Inv (X.suite a (X.pn ++ pins)) [] τ6 G6 s6 → (∀ s7, Inv X pins (τ6.set i none) G6 s7 → Q s7) → wpAny (model X.prog X.w) X.A (do bindName X.env n .none; unbindBehindTheSuite X.env n hpos) (fun _ s7 => Q s7) X.xe s6 := fun S6 hq => gone_ok (inv_out S6 ok) hN hi hln hq
      cases f with
      | ret u =>
        obtain ⟨v6, τ6, G6, S6, r6, q6⟩ := q
        exact fin S6 fun s7 J7 => ⟨_, _, _, J7, r6, q6⟩
      | next => obtain ⟨τ6, G6, S6, q6⟩ := q; exact fin S6 fun s7 J7 => ⟨_, _, J7, q6⟩
      | brk => obtain ⟨τ6, G6, S6, q6⟩ := q; exact fin S6 fun s7 J7 => ⟨_, _, J7, q6⟩
      | cont => obtain ⟨τ6, G6, S6, q6⟩ := q; exact fin S6 fun s7 J7 => ⟨_, _, J7, q6⟩
    | false =>
      refine (show wpAny _ X.A (handleBy (.ref a) X.env []) _ _ _ from wpAny_handleBy_nil ?_)
      obtain ⟨_, _, _, o5, v5, T5, _, _, he5, _, hd5, h15, _⟩ := id fl3
      unfold PySem.passOn
      refine wpAny_bind (wpAny_field he5 hd5 h15 ?_)
      rw [if_neg (by simp : ¬ ((Value.ref T5 == Value.none) = true))]
      have fin : wpAny (model X.prog X.w) X.A (setFlight (.ref a) X.env.frame) (fun _ s4 => wpAny (model X.prog X.w) X.A (throw (.ref a) : Sem Flow) (L2.SP X pins D) X.xe s4) X.xe { s' with heap := h3 } := by
        rw [hfrm]
        exact HandSPX.setFlight_upZ fl3 fun h4 hh4 up4 => wpAny_throw (tk _ _ ⟨a, B, sI, pins, τ, G, cls, d, rfl, J, nb, (up.trans up3).trans up4, .inr (.inr (hstk.symm ▸ hh4)), na, os, ag, hno rfl⟩)
      first | exact wpAny_bind (wpAny_pure (wpAny_bind fin)) | exact wpAny_bind fin
  · cases f with
    | ret u => obtain ⟨v, τ, G, J', r, q⟩ := q; exact ⟨v, τ, G, J'.ofTry ok, r, q⟩
    | next => obtain ⟨τ, G, J', q⟩ := q; exact wpAny_execs_nil ⟨τ, G, J'.ofTry ok, q⟩
    | brk => obtain ⟨τ, G, J', q⟩ := q; exact ⟨τ, G, J'.ofTry ok, q⟩
    | cont => obtain ⟨τ, G, J', q⟩ := q; exact ⟨τ, G, J'.ofTry ok, q⟩
end
def xOf (x : Exc) : D := match x.fld with
  | none => .dict [(.int x.cls, .none)]
  | some d => .dict [(.int x.cls, .none), (.none, d)]
def isSub (a b : Nat) : Bool := a == b || b == 0
def mTry (c : Nat) (i : Nat) (mb ms : M Fl) : M Fl := fun E => match mb E with
  | .ok f E' => .ok f E'
  | .ex x E' => if isSub x.cls c then (if i < E'.length then (match ms (E'.set i (.dat (xOf x))) with
      | .ok f E2 => .ok f (E2.set i .un)
      | _ => .bad) else .bad) else .ex x E'
  | .bad => .bad
def veT : List Value := [.type "ValueError", .type "Exception", .type "BaseException", .type "object"]
def oexB (K : PySem.W.Frag) (C : Addr) : Bool := match K.lookup C with
  | some ⟨.type "type", _, .cls cd, sl⟩ => (match cd.mro, sl.toList with
    | .ref C' :: bm, [_, _, _, _, some (.builtin n), _] => C' == C && n == "ValueError.__new__" && !cd.hasDel && cd.hasDict && PySem.HandSPX.refsVE bm
    | _, _ => false)
  | _ => false
theorem oexB_ok {K : PySem.W.Frag} {C : Addr} (h : oexB K C = true) : ∃ nm q N bs bm sn sub ab col dd k0 k1 k2 k3 k5, K.lookup C = some (excClassObj nm q C N bs bm true sn sub ab col dd k0 k1 k2 k3 k5 "ValueError.__new__") ∧ PySem.HandSPX.refsVE bm = true := by
  unfold oexB at h
  split at h
  · rename_i dd cd sl ho
    split at h
    · rename_i C' bm k0 k1 k2 k3 n k5 hm hs
      simp only [Bool.and_eq_true, beq_iff_eq, Bool.not_eq_true'] at h
      obtain ⟨⟨⟨⟨rfl, rfl⟩, hdel⟩, hdi⟩, hr⟩ := h
      obtain ⟨nm, bs, mro, ns, qn, hd, sn, sub, ab, col, del⟩ := cd
      dsimp only at hm hdel hdi
      subst hm hdel hdi
      have hsl : sl = #[k0, k1, k2, k3, some (.builtin "ValueError.__new__"), k5] := by
        obtain ⟨l⟩ := sl
        simp only at hs
        rw [hs]
      subst hsl
      exact ⟨nm, qn, ns, bs, bm, sn, sub, ab, col, dd, k0, k1, k2, k3, k5, ho, hr⟩
    · cases h
  · cases h
def xOneB (K : PySem.W.Frag) (c : Nat) (C : Addr) : Bool := xfB K C && ((PySem.W.clsIn K C).isSome && (decide (PySem.W.typeIn K (.ref C) = some (.type "type")) && (PySem.W.keepIn K (.ref C) && (decide (PySem.W.findIn K (.ref C) "__class__" = some (some (.builtin "object.__class__"))) && (decide (PySem.W.mroIn K C (.type "object") = some true) &&
  (decide (PySem.W.kitOne K (.ref C) (.type "ValueError") = some true) && (decide (PySem.W.kitOne K (.type "NoneType") (.ref C) = some false) &&
  ((if c < 12 then PySem.W.excIn K C veT "ValueError.__new__" else oexB K C && (decide (PySem.W.findIn K (.ref C) (xFld c) = some none) && decide (PySem.W.findIn K (.ref C) "__setattr__" = some (some (.builtin "object.__setattr__"))))) &&
  (List.range 17).all fun n => match PySem.W.nsIn K mainGlobals (xName n) with
    | some (some (.ref N)) => decide (PySem.W.subIn K (.ref C) (.ref N) = some (isSub c n)) && decide (PySem.W.kitOne K (.ref C) (.ref N) = some (isSub c n))
    | _ => true))))))))
def xAllB (K : PySem.W.Frag) : Bool := (decide (PySem.W.specialIn K (.builtin "object.__class__") "__get__" = some (some (.builtin "getset_descriptor.__get__"))) && decide (PySem.W.takesIn K (.builtin "object.__class__") = some true)) && ((match PySem.W.nsIn K mainGlobals "TillError" with
    | some (some (.ref T)) => decide (PySem.W.specialIn K (.ref T) "__getattribute__" = some (some (.builtin "type.__getattribute__"))) && (PySem.W.readsIn K T (.type "type") && decide ((match PySem.W.findCls K (.ref T) (.type "type") "__init__" with | some (.val v) => some v | _ => none) = some (.builtin "ValueError.__init__")))
    | _ => true) && (List.range 17).all fun c => match PySem.W.nsIn K mainGlobals (xName c) with
    | some (some (.ref C)) => xOneB K c C
    | _ => true)
structure XF (K : PySem.W.Frag) (c : Nat) (C : Addr) : Prop where
  fc : XfC K C
  cl : (PySem.W.clsIn K C).isSome = true
  ty : PySem.W.typeIn K (.ref C) = some (.type "type")
  kp : PySem.W.keepIn K (.ref C) = true
  ca : PySem.W.findIn K (.ref C) "__class__" = some (some (.builtin "object.__class__"))
  mo : PySem.W.mroIn K C (.type "object") = some true
  ve : PySem.W.kitOne K (.ref C) (.type "ValueError") = some true
  no : PySem.W.kitOne K (.type "NoneType") (.ref C) = some false
  in0 : c < 12 → PySem.W.excIn K C veT "ValueError.__new__" = true
  in1 : ¬ c < 12 → oexB K C = true ∧ PySem.W.findIn K (.ref C) (xFld c) = some none ∧ PySem.W.findIn K (.ref C) "__setattr__" = some (some (.builtin "object.__setattr__"))
  su : ∀ n N, n < 17 → PySem.W.nsIn K mainGlobals (xName n) = some (some (.ref N)) → PySem.W.subIn K (.ref C) (.ref N) = some (isSub c n) ∧ PySem.W.kitOne K (.ref C) (.ref N) = some (isSub c n)
  sg : PySem.W.specialIn K (.builtin "object.__class__") "__get__" = some (some (.builtin "getset_descriptor.__get__"))
  tk : PySem.W.takesIn K (.builtin "object.__class__") = some true
theorem xf_of {K : PySem.W.Frag} {c : Nat} {C : Addr} (h : xAllB K = true) (hc : c < 17) (e : PySem.W.nsIn K mainGlobals (xName c) = some (some (.ref C))) : XF K c C := by
  unfold xAllB at h
  rw [Bool.and_eq_true, Bool.and_eq_true, Bool.and_eq_true] at h
  obtain ⟨⟨h1, h2⟩, _, h3⟩ := h
  have q := List.all_eq_true.mp h3 c (List.mem_range.mpr hc)
  rw [e] at q
  dsimp only at q
  unfold xOneB at q
  simp only [Bool.and_eq_true, decide_eq_true_eq] at q
  obtain ⟨q1, q2, q3, q4, q5, q6, q7, q8, q9, q10⟩ := q
  refine ⟨xfB_ok q1, q2, q3, q4, q5, q6, q7, q8, fun l => ?_, fun l => ?_, fun n N hn en => ?_, of_decide_eq_true h1, of_decide_eq_true h2⟩
  · rw [if_pos l] at q9; exact q9
  · rw [if_neg l] at q9
    simp only [Bool.and_eq_true, decide_eq_true_eq] at q9
    exact q9
  · have z := List.all_eq_true.mp q10 n (List.mem_range.mpr hn)
    rw [en] at z
    simp only [Bool.and_eq_true, decide_eq_true_eq] at z
    exact z
theorem till_of {K : PySem.W.Frag} {T : Addr} (h : xAllB K = true) (e : PySem.W.nsIn K mainGlobals "TillError" = some (some (.ref T))) : PySem.W.specialIn K (.ref T) "__getattribute__" = some (some (.builtin "type.__getattribute__")) ∧ PySem.W.readsIn K T (.type "type") = true ∧ PySem.W.findCls K (.ref T) (.type "type") "__init__" = some (.val (.builtin "ValueError.__init__")) := by
  unfold xAllB at h
  rw [Bool.and_eq_true, Bool.and_eq_true, Bool.and_eq_true] at h
  obtain ⟨_, q, _⟩ := h
  rw [e] at q
  simp only [Bool.and_eq_true, decide_eq_true_eq] at q
  obtain ⟨q1, q2, q3⟩ := q
  refine ⟨q1, q2, ?_⟩
  split at q3
  · rename_i v ev
    cases q3
    exact ev
  · cases q3
theorem XF.raises {X : Cx} {c : Nat} {C : Addr} (F : XF X.K c C) : Raises X (.ref C) := raises_own F.fc.exC F.ty
theorem XF.oex {K : PySem.W.Frag} {c : Nat} {C : Addr} (F : XF K c C) (h : ¬ c < 12) : OexC K C := ⟨oexB_ok (F.in1 h).1, (F.in1 h).2.2, F.fc.exC, F.ty, F.kp⟩
theorem XF.exm {K : PySem.W.Frag} {c n : Nat} {C N : Addr} (F : XF K c C) (G : XF K n N) (hn : n < 17) (e : PySem.W.nsIn K mainGlobals (xName n) = some (some (.ref N))) : PySem.W.exmOne K (.ref C) (.ref N) = some (isSub c n) := PySem.W.exm_ref G.fc.exC G.fc.hdC G.ty (F.su n N hn e).1
theorem XF.inst {K : PySem.W.Frag} {P : Program} {w : World} {H : Hp} {h : Heap} {c : Nat} {C a : Addr} {dd : Option Addr} (F : XF K c C) (hok : HOk P w H h) (e : H a = some (ExT (.ref C) dd a)) (hd : ∀ q, dd = some q → ∃ fs, H q = some (.xd fs)) : ∃ oe od, PySem.W.InstAt h a oe C od := by
  obtain ⟨oe, vs, h1, ⟨h2, h3⟩, h4⟩ := exT_at hok e
  have nc : PySem.W.notCls oe = true := by unfold PySem.W.notCls; rw [h4]
  cases dd with
  | none => exact ⟨oe, none, h1, h2, nc, by rw [h3]; trivial⟩
  | some q =>
    obtain ⟨fs, hq⟩ := hd q rfl
    obtain ⟨o, ho⟩ := objOk_get (hok q _ hq)
    exact ⟨oe, some o, h1, h2, nc, by rw [h3]; exact ho⟩
def rIsx (K : PySem.W.Frag) : List V → Hp → VK → Prop := fun xs H Q => ∃ (a C : Addr) (c : Nat) (dd : Option Addr) (n : V) (nv : Value) (b : Bool), xs = [.ref a, n] ∧ (∀ u, RelV n u → u = nv) ∧ H a = some (ExT (.ref C) dd a) ∧ (∀ q, dd = some q → ∃ fs, H q = some (.xd fs)) ∧ XF K c C ∧ PySem.W.kitOne K (.ref C) nv = some b ∧ Q (.bl b) H
theorem call_isx {X : Cx} : CallR X (.builtin "isinstance") (rIsx X.K) := by
  intro pins s σ H xs us Q I r h
  obtain ⟨a, C, c, dd, n, nv, b, rfl, hn, ha, hd, F, e, q⟩ := h
  cases r with
  | cons rx rr =>
    cases rr with
    | cons rt rr =>
      cases rr
      cases rx
      have ec := hn _ rt
      subst ec
      obtain ⟨oe, od, J⟩ := F.inst I.hok ha hd
      exact PySem.W.kia_one (PySem.W.kitx_exc F.cl F.fc.ga F.fc.gg F.fc.exC F.ca F.sg F.tk F.mo) I.kIn J e (fun z => nomatch z) fun tk => ⟨.bl b, H, I.kept (t' := tk) fun _ _ z => z, rfl, q⟩
def rIsy (K : PySem.W.Frag) : List V → Hp → VK → Prop := fun xs H Q => rIsx K xs H Q ∨ rIsi K xs H Q
def isCls (n : Nat) : D → Option Bool
  | .dict ((.int c, .none) :: _) => some (isSub c.toNat n || n == 17)
  | .none => if n < 17 then some false else none
  | _ => none
def mIsx (n : Nat) (m : M Ag) : M D := bnd m fun a => fun E => match rsv E a with
  | some d => (match isCls n d with
    | some b => .ok (.bool b) E
    | none => .bad)
  | none => .bad
theorem Rq.exc {K : PySem.W.Frag} {O : List Addr} {H : Hp} {v : V} {c : Int} {r : List (D × D)} (h : Rq K O H v (.dict ((.int c, .none) :: r))) : ∃ (a C : Addr) (n : Nat) (dd : Option Addr), v = .ref a ∧ c = (n : Int) ∧ n < 17 ∧ PySem.W.nsIn K mainGlobals (xName n) = some (some (.ref C)) ∧ H a = some (ExT (.ref C) dd a) ∧ (∀ q, dd = some q → ∃ fs, H q = some (.xd fs)) ∧ (∀ d, r = [(.none, d)] → ∃ q u, dd = some q ∧ H q = some (.xd [(xFld n, u)]) ∧ Rp K (Mask O H) u d) := by
  rcases h with h | ⟨_, _, _, _, e, _⟩
  · generalize hd : (PyData.dict ((.int c, .none) :: r)) = dv at h
    cases h with
    | exc0 h1 h2 h3 =>
      injection hd with hd
      injection hd with hd hr
      injection hd with hd _
      injection hd with hd
      exact ⟨_, _, _, none, rfl, hd, h3, h2, mask_le O H _ _ h1, fun q z => (by cases z), fun d z => by rw [hr] at z; cases z⟩
    | exc1 h1 h2 h3 h4 h5 =>
      injection hd with hd
      injection hd with hd hr
      injection hd with hd _
      injection hd with hd
      refine ⟨_, _, _, some _, rfl, hd, h3, h2, mask_le O H _ _ h1, fun q z => (by cases z; exact ⟨_, mask_le O H _ _ h4⟩), fun d z => ?_⟩
      rw [hr] at z
      cases z
      exact ⟨_, _, rfl, mask_le O H _ _ h4, h5⟩
    | _ => cases hd
  · cases e
section
variable {X : Cx} {W : WX} {e : Expr} {t : TE}
def XcV (K : PySem.W.Frag) (n : Nat) (v : V) : Prop := (∃ N, v = .ref N ∧ n < 17 ∧ PySem.W.nsIn K mainGlobals (xName n) = some (some (.ref N))) ∨ (v = .ty "ValueError" ∧ n = 17)
theorem se_isx {n : Nat} {x : Str} {v : V} {m : M Ag} {p p2 pos : Pos} (K : PySem.W.Frag) (eK : X.K = K) (hx : xAllB K = true) (hg : Gl X "isinstance") (hm : X.mg "isinstance" = none) (h : SO X W e t m) (hT : PE X (.Name x p2) (tC v)) (hv : XcV K n v)
    (hst : starEach [e, .Name x p2] X.env = (false, eval e X.env) :: starEach [.Name x p2] X.env := by rfl) (hst2 : starEach [.Name x p2] X.env = (false, eval (.Name x p2) X.env) :: starEach [] X.env := by rfl) (hpl : (backTo pos (starEach [.Name x p2] X.env)).any (·.1) = false := by rfl) :
    SE X W (.Call (.Name "isinstance" p) [e, .Name x p2] [] pos) (tCB (rIsy K) (tCons t (tCons (tC v) tNil))) (mIsx n m) := by
  subst eK
  refine ⟨pe_callB (call_isx.or call_isi) hg hm (by decide +kernel) (pa_cons h.pe (pa_cons hT pa_nil hst2) hst) (by decide) (by decide) hst hpl, fun F O E σ H Q R s => h.rd F O E σ H _ R (s.bnd.mono (fun a E1 k O1 w H1 R1 l1 av => ?_) (fun _ _ k => k))⟩
  cases ea : rsv E1 a with
  | none => rw [ea] at k; exact k.elim
  | some d =>
    rw [ea] at k
    dsimp only at k
    have rq := R1.rsv av ea
    cases ec : isCls n d with
    | none => rw [ec] at k; exact k.elim
    | some b =>
      rw [ec] at k
      unfold isCls at ec
      split at ec
      · rename_i c r
        cases ec
        obtain ⟨a', C, m', dd, rfl, rfl, hm', hN, ha, hd, _⟩ := rq.exc
        have FC := xf_of hx hm' hN
        refine .inl ⟨a', C, m', dd, v, (match v with | .ref N => .ref N | _ => .type "ValueError"), _, rfl, fun u ru => ?_, ha, hd, FC, ?_, k O1 _ H1 R1 l1 (.bl _)⟩
        · rcases hv with ⟨N, rfl, _⟩ | ⟨rfl, _⟩
          · exact ru
          · exact ru
        · rcases hv with ⟨N, rfl, hn, eN⟩ | ⟨rfl, rfl⟩
          · rw [show (isSub (m' : Int).toNat n || n == 17) = isSub m' n by
              rw [Int.toNat_natCast, show (n == 17) = false from by simp; omega, Bool.or_false]]
            exact (FC.su n N hn eN).2
          · rw [show (isSub (m' : Int).toNat 17 || (17 : Nat) == 17) = true by simp]
            exact FC.ve
      · split at ec
        · rename_i hn
          cases ec
          rcases hv with ⟨N, rfl, _, eN⟩ | ⟨_, rfl⟩
          · exact .inr ⟨w, .ref N, .type "NoneType", .ref N, false, rfl, .own N, rq.ty rfl, (xf_of hx hn eN).no, k O1 _ H1 R1 l1 (.bl _)⟩
          · omega
        · cases ec
      · cases ec
def mFld (cs : List Nat) (m : M Ag) : M D := bnd m fun a => fun E => match rsv E a with
  | some (.dict [(.int c, .none), (.none, d)]) => if c.toNat ∈ cs then .ok d E else .bad
  | _ => .bad
def tFld (K : PySem.W.Frag) (f : Str) (te : TE) : TE := fun σ H Q => te σ H fun x H1 => ∃ (a C q : Addr) (c : Nat) (v : V), x = .ref a ∧ H1 a = some (ExT (.ref C) (some q) a) ∧ H1 q = some (.xd [(f, v)]) ∧ XF K c C ∧ PySem.W.findIn K (.ref C) f = some none ∧ Q v H1
theorem pe_fld {f : Str} {pos : Pos} (he : PE X e t) (hb : attributeBase e f X.env (eval e X.env) = eval e X.env := by rfl) : PE X (.Attribute e f pos) (tFld X.K f t) := by
  refine ⟨fun pins s σ H Q I h => attr_of hb (thn (he.run pins s σ H _ I h) fun u s1 hh => ?_)⟩
  obtain ⟨x, H1, I1, rx, a, C, q, c, v, rfl, ha, hq, FC, hno, k⟩ := hh
  obtain rfl : u = Value.ref a := rx
  obtain ⟨mA, hns, hr⟩ := (show ObjOk X.prog X.w H1 s1.heap q (.xd [(f, v)]) from I1.hok q _ hq)
  obtain ⟨od, ho, hl⟩ := lookIn_ns hns
  obtain ⟨y, hy, ry⟩ := RelO.some_of (v := v) (o := mA f) (by have z := hr f; simpa [List.lookup] using z)
  obtain ⟨oe, vs, h1, ⟨h2, h3⟩, h4⟩ := exT_at I1.hok ha
  have J : PySem.W.InstAt s1.heap a oe C (some od) := ⟨h1, h2, by unfold PySem.W.notCls; rw [h4], by rw [h3]; exact ho⟩
  exact HandSPX.exc_get I1.kIn J FC.fc.ga FC.fc.gg FC.fc.exC (PySem.W.findObj_own FC.fc.hdC hno rfl (by rw [hl, hy])) (handed_of ry) ⟨v, H1, I1.tok _, ry, k⟩
theorem se_fld {f : Str} {cs : List Nat} {m : M Ag} {pos : Pos} (K : PySem.W.Frag) (eK : X.K = K) (hx : xAllB K = true) (h : SO X W e t m) (hc : ∀ c ∈ cs, ¬ c < 12 ∧ xFld c = f) (hb : attributeBase e f X.env (eval e X.env) = eval e X.env := by rfl) : SE X W (.Attribute e f pos) (tFld K f t) (mFld cs m) := by
  subst eK
  refine ⟨pe_fld h.pe hb, fun F O E σ H Q R s => h.rd F O E σ H _ R (s.bnd.mono (fun a E1 k O1 w H1 R1 l1 av => ?_) (fun _ _ k => k))⟩
  split at k
  · rename_i c d ea
    have rq := R1.rsv av ea
    split at k
    · rename_i hcs
      obtain ⟨a', C, m', dd, rfl, rfl, hm', hN, ha, hd, h1⟩ := rq.exc
      obtain ⟨q, u, rfl, hq, ru⟩ := h1 d rfl
      obtain ⟨z1, z2⟩ := hc _ hcs
      rw [Int.toNat_natCast] at z1 z2
      subst z2
      exact ⟨a', C, q, m', u, rfl, ha, hq, xf_of hx hm' hN, ((xf_of hx hm' hN).in1 z1).2.1, k O1 _ H1 R1 l1 ru⟩
    · exact k.elim
  · exact k.elim
end
def XN (K : PySem.W.Frag) (mg : Str → Option Value) (x : Str) (C : Addr) : Prop := PySem.W.nsIn K mainGlobals x = some (some (.ref C)) ∧ mg x = some (.ref C)
def mRaise0 (c : Nat) : M Fl := fun E => .ex ⟨c, none⟩ E
def mRaise1 (c : Nat) (m : M D) : M Fl := bnd m fun d => fun E => .ex ⟨c, some d⟩ E
def spInit (K : PySem.W.Frag) (fl : Str) : Sp := fun vs H Q _ => ∃ (a C : Addr) (v : V), vs = [.ref a, v] ∧ H a = some (exo a C none) ∧ OexC K C ∧ PySem.W.findIn K (.ref C) fl = some none ∧ ∀ dx, H dx = none → dx ≠ a → Q .non (upd (upd H dx (exd dx [(fl, v)])) a (exo a C (some dx)))
section
variable {X : Cx} {W : WX} {e : Expr} {t : TE}
theorem ss_raise0 {c : Nat} {C : Addr} {x m : Str} {j : Nat} {p p2 p3 pos : Pos} (K : PySem.W.Frag) {mg : Str → Option Value} (eK : X.K = K) (eM : X.mg = mg) (hx : xAllB K = true) (N : XN K mg x C) (hcn : c < 12 ∧ xName c = x) (hc : X.calm = true) (tk : Takes X W) (hg : Gl X x) (hdb : (x == ("__debug__" : Str)) = false := by decide) :
    SS X W [] (.Raise (some (.Call (.Name x p) [.Constant (.str m) j p2] [] p3)) none pos) (fun _ σ H => W (.ref C) none σ H) (mRaise0 c) := by
  subst eK eM
  obtain ⟨hl, rfl⟩ := hcn
  have F := xf_of hx (by omega : c < 17) N.1
  refine ⟨ps_raise hc tk (pmk_own PySem.F.excBase_ValueError (F.in0 hl) N.2 F.kp F.raises hg hdb), fun G O E σ H D' R s => ?_⟩
  exact s O σ H (.ref C) none R (Le.refl O H) Agr.refl ⟨⟨C, rfl, N.1⟩, (show c < 17 by omega), rfl⟩
theorem ss_raise1 {P : Program} {w : World} {mg : Str → Option Value} {base : Heap} {c k : Nat} {C fI : Addr} {fd : FuncData} {x fl : Str} {m : M D} {p p3 pos : Pos} (K : PySem.W.Frag) (Fi : FnOk P w K mg base (L2.CX P w) k fI fd ["self", fl] (spInit K fl)) (eP : X.prog = P) (ew : X.w = w) (eK : X.K = K) (eM : X.mg = mg) (eB : X.base = base) (hx : xAllB K = true) (N : XN K mg x C) (hcn : ¬ c < 12 ∧ c < 17 ∧ xName c = x ∧ xFld c = fl)
    (iC : PySem.W.findIn K (.ref C) "__init__" = some (some (.ref fI))) (tI : PySem.W.typeIn K (.ref fI) = some (.type "function")) (hb : Binds K fd ["self", fl] []) (hr : Room (k + 1) X.A) (hc : X.calm = true) (tk : Takes X W) (hg : Gl X x) (h : SE X W e t m) (hdb : (x == ("__debug__" : Str)) = false := by decide)
    (he : starEach [e] X.env = (false, eval e X.env) :: starEach [] X.env := by rfl) (hpl : (backTo p3 (starEach [] X.env)).any (·.1) = false := by rfl) :
    SS X W [] (.Raise (some (.Call (.Name x p) [e] [] p3)) none pos) (fun _ σ H => tMkO C (spInit K fl) [] (tCons t tNil) σ H fun cls d H' => W cls d σ H') (mRaise1 c m) := by
  subst eP ew eK eM eB
  obtain ⟨hl, hl2, rfl, rfl⟩ := hcn
  have F := xf_of hx hl2 N.1
  refine ⟨ps_raise hc tk (pmk_oex (F.oex hl) iC tI Fi hr hb .nil (fun pins σ H s e s' I q => passL pins σ H s e s' I q) hg N.2 (pa_cons h.pe pa_nil he) hdb he hpl), fun G O E σ H D' R s => ?_⟩
  refine h.rd G O E σ H _ R (s.bnd.mono (fun d E1 q O1 v H1 R1 l1 rv => ?_) KXs.of)
  refine (show [v].length ≤ 1000 ∧ _ from ⟨Nat.le_of_lt_succ (Nat.lt_of_lt_of_le Nat.one_lt_two (by decide)), fun a ha => ?_⟩)
  refine ⟨a, C, v, rfl, upd_same, F.oex hl, (F.in1 hl).2.1, fun dx hdx hne => ⟨rfl, dx, [(xFld c, v)], upd_same, ?_, ?_, ?_⟩⟩
  · rw [upd_ne hne, upd_same]
  · rw [upd_ne hne] at hdx; exact hdx
  · have h1 : H1 dx = none := by rw [upd_ne hne] at hdx; exact hdx
    have eh : upd (del (upd (upd (upd H1 a (exo a C none)) dx (exd dx [(xFld c, v)])) a (exo a C (some dx))) a) dx (.xd [(xFld c, v)]) = upd H1 dx (.xd [(xFld c, v)]) := by
      funext b
      by_cases hb1 : b = dx
      · subst hb1; rw [upd_same, upd_same]
      · rw [upd_ne hb1, upd_ne hb1]
        by_cases hb2 : b = a
        · subst hb2; rw [del_same, ha]
        · rw [del_ne hb2, upd_ne hb2, upd_ne hb1, upd_ne hb2]
    rw [eh]
    have g := Grow.new (o := .xd [(xFld c, v)]) R1.trk h1
    refine q O1 σ _ (.ref C) (some dx) (R1.grow g) (l1.trans g.le) Agr.refl ⟨⟨C, rfl, N.1⟩, hl2, dx, v, rfl, ?_, rv.mono g.le⟩
    rw [mask_out (trk_fresh R1.trk h1), upd_same]
theorem pe_tinit {K : PySem.W.Frag} {mg : Str → Option Value} {es : List Expr} {ta : TA} {T : Addr} {p1 p2 pos : Pos} {pl : Sem Bool} (eK : X.K = K) (eM : X.mg = mg) (hx : xAllB K = true) (N : XN K mg "TillError" T) (hg : Gl X "TillError") (ha : PA X (e :: es) ta)
    (hc : eval (.Call (.Attribute (.Name "TillError" p1) "__init__" p2) (e :: es) [] pos) X.env = (do let ov ← eval (.Name "TillError" p1) X.env; standAt p2.atName; let (f, first) ← holding [ov] (getMethod ov "__init__" pl); callWith pos f first (backTo pos (starEach (e :: es) X.env)) (backToKw pos (keywordEach [] X.env))) := by rfl)
    (he : starEach (e :: es) X.env = (false, eval e X.env) :: starEach es X.env := by rfl) (hpl : (backTo pos (starEach es X.env)).any (·.1) = false := by rfl) :
    PE X (.Call (.Attribute (.Name "TillError" p1) "__init__" p2) (e :: es) [] pos) (tVeI K ta) := by
  subst eK eM
  obtain ⟨q1, q2, q3⟩ := till_of hx N.1
  refine ⟨fun pins s σ H Q I h => PySem.W.methodCall_KW (ld_glob I hg N.2 (PySem.W.method_cls I.kIn q1 (PySem.W.cls_value I.kIn q2 q3 (by decide +kernel) ?_)) (by decide)) hc⟩
  refine (show wpAny _ _ (callWith pos (Value.builtin "ValueError.__init__") [] (backTo pos (starEach (e :: es) X.env)) []) _ _ _ from PyProof.Rows.callWith_method1 (thn (ha.run pos pins _ σ H _ (I.tok _) h) fun us s1 hh => ?_) he hpl)
  obtain ⟨vs, H1, I1, r1, a, C, ws, rfl, hl, oC, ea, q⟩ := hh
  cases r1 with
  | @cons _ u0 _ ur ra rr =>
    obtain rfl : u0 = Value.ref a := ra
    exact oinit_ok oC I1 ea (by rw [← Paired.length rr, sizeLine_eq]; omega) fun s' J => ⟨.non, H1, J, rfl, q⟩
end
theorem ps_ostK {X : Cx} {o e : Expr} {to te : TE} {f : Str} {p' pos : Pos} (K : PySem.W.Frag) (eK : X.K = K) (ho : PE X o to) (he : PE X e te) (hs : swapsWith e (some (.Attribute o f p')) pos.line X.env = pure false := by rfl) : PS X (.Assign [.Attribute o f p'] e pos) (tOst K f to te) := by
  subst eK
  exact ps_ost ho he hs
theorem init_rd {K : PySem.W.Frag} {fl m : Str} {N : List Str} {vs : List V} {H : Hp} {Q : VK} {Ex : XK} (hN : N.length = 2) (h : spInit K fl vs H Q Ex) : tSeq (tDrop (tVeI K (tCons (tVar 0) (tCons (tC (.str m)) tNil)))) (tSeq (tOst K fl (tVar 0) (tVar 1)) tNext) { nx := fun _ H' => Q .non H', rt := Q } (L2.start N vs) H := by
  obtain ⟨a, C, v, rfl, ha, oC, hno, q⟩ := h
  exact ⟨.ref a, rfl, a, C, [.str m], rfl, Nat.le_of_lt_succ (Nat.lt_of_lt_of_le Nat.one_lt_two (by decide)), oC, ha, v, rfl, .ref a, rfl, a, C, rfl, oC, hno, .inl ⟨ha, q⟩⟩
section
variable {X : Cx} {W : WX}
theorem ss_try {c i : Nat} {C : Addr} {x n : Str} {a1 a2 : List Nat} {body sts : List Stmt} {s0 : Stmt} {tb : WX → TS} {ts : TS} {mb ms : M Fl} {np hpos pos : Pos} (K : PySem.W.Frag) {mg : Str → Option Value} (eK : X.K = K) (eM : X.mg = mg) (hx : xAllB K = true) (N : XN K mg x C) (hcn : c < 17 ∧ xName c = x)
    (hstk : X.stack = X.env :: X.outer) (hfrm : X.env.frame = some X.env.locals) (hex : X.ex = []) (hN : X.N.Nodup) (hi : X.N[i]? = some n) (hln : X.env.kindOf n = some .local) (hg : Gl X x) (tk : Takes X W)
    (hb : ∀ (W' : WX) (pn : List (Addr × Obj)) (xe : Value → Shared → Prop), Takes (X.tr pn xe) W' → PassesOwn (model X.prog X.w) X.A X.env xe → SSs (X.tr pn xe) W' a1 body (tb W') mb) (hsu : ∀ (a : Addr) (pn : List (Addr × Obj)), SSs (X.suite a pn) W0 a2 (s0 :: sts) ts ms) (hdb : (x == ("__debug__" : Str)) = false := by decide) :
    SS X W (a1 ++ ([i] ++ a2)) (.Try body [.ExceptHandler (some (.Name x np)) (some n) (s0 :: sts) hpos] [] [] pos) (fun D σ H => tb (wTr K (.ref C) i ts W D) D σ H) (mTry c i mb ms) := by
  subst eK eM
  obtain ⟨hl, rfl⟩ := hcn
  have FC := xf_of hx hl N.1
  refine ⟨ps_tryT hstk hfrm hN hi hln ⟨hg, hdb, .inl N.2⟩ tk (fun W' pn xe t1 t2 => (hb W' pn xe t1 t2).ps) (fun a pn => (hsu a pn).ps), fun F O E σ H D' R s => ?_⟩
  have h0 := hb (wTr X.K (.ref C) i ts W D') [] (fun e s' => wpAny (model X.prog X.w) X.A (leaving X.env e) (fun _ s'' => L2.CX X.prog X.w X.outer X.H_0 X.s_0 (fun _ _ _ => True) e s'') (fun _ _ => True) s') (fun u s' q => XE.leave (X := X.tr [] _) hstk hfrm hex (fun _ _ _ _ _ => trivial) q) PassesOwn.leaving
  refine h0.rd F O E σ H D' R ?_
  unfold mTry at s
  cases em : mb E with
  | bad => rw [em] at s; exact s
  | ok f E1 =>
    rw [em] at s
    exact fun O1 σ1 H1 v R1 l1 g1 => s O1 σ1 H1 v R1 l1 g1.left
  | ex z E1 =>
    rw [em] at s
    dsimp only at s
    intro O1 τ H1 cv dd R1 l1 g1 hex
    obtain ⟨⟨Cz, rfl, hz⟩, hzl, hfl⟩ := hex
    have FZ := xf_of hx hzl hz
    refine ⟨isSub z.cls c, FZ.exm FC hl N.1, fun hs a ha => ?_, fun hs => ?_⟩
    · rw [if_pos hs] at s
      split at s
      · rename_i hlt
        have g := Grow.new (o := ExT (.ref Cz) dd a) R1.trk ha
        have rp : Rp X.K (Mask O1 (upd H1 a (ExT (.ref Cz) dd a))) (.ref a) (xOf z) := by
          have hm : Mask O1 (upd H1 a (ExT (.ref Cz) dd a)) a = some (ExT (.ref Cz) dd a) := by rw [mask_out (trk_fresh R1.trk ha), upd_same]
          unfold xOf
          cases ef : z.fld with
          | none =>
            rw [ef] at hfl
            cases hfl
            exact .exc0 hm hz hzl
          | some d =>
            rw [ef] at hfl
            obtain ⟨q, v, rfl, h4, h5⟩ := hfl
            exact .exc1 hm hz hzl (g.le _ _ h4) (h5.mono g.le)
        have R2 : Rel X.K F O1 (E1.set i (.dat (xOf z))) (τ.set i (some (.ref a))) (upd H1 a (ExT (.ref Cz) dd a)) := (R1.grow g).set rp hlt
        refine (hsu a []).rd F O1 _ _ _ _ R2 ?_
        cases e2 : ms (E1.set i (.dat (xOf z))) with
        | bad => rw [e2] at s; exact s
        | ex y E3 => rw [e2] at s; exact s.elim
        | ok f E2 =>
          rw [e2] at s
          dsimp only at s
          intro O2 τ2 H2 v R3 l3 g3
          have ag : ∀ o, Agr (a1 ++ ([i] ++ a2)) σ (τ2.set i o) := fun o j hj => by
            have h1 : j ∉ a1 := fun z => hj (List.mem_append_left _ z)
            have h2 : i ≠ j := fun z => hj (List.mem_append_right _ (List.mem_append_left _ (by rw [z]; exact List.mem_singleton.mpr rfl)))
            have h3 : j ∉ a2 := fun z => hj (List.mem_append_right _ (List.mem_append_right _ z))
            rw [List.getElem?_set_ne h2, g3 j h3, List.getElem?_set_ne h2]
            exact g1 j h1
          have ll : Le O H O2 H2 := (l1.trans g.le).trans l3
          cases f with
          | nx => exact s O2 _ H2 .non (Rel.un (o := none) R3) ll (ag none)
          | bk => exact s O2 _ H2 .non (Rel.un (o := none) R3) ll (ag none)
          | ct => exact s O2 _ H2 .non (Rel.un (o := none) R3) ll (ag none)
          | rt sl =>
            refine s O2 (τ2.set i none) H2 v ?_ ll (ag none)
            cases sl with
            | dat d => exact ⟨Rel.un R3.1, R3.2⟩
            | ow ob =>
              obtain ⟨p, ho, e1, R4, e3, e4⟩ := R3
              exact ⟨p, ho, e1, Rel.un R4, e3, e4⟩
            | un => exact R3
            | scr _ => exact R3
      · exact s.elim
    · rw [if_neg (by rw [hs]; exact Bool.false_ne_true)] at s
      exact s O1 τ H1 (.ref Cz) dd R1 l1 g1.left ⟨⟨Cz, rfl, hz⟩, hzl, hfl⟩
end
end Bt
namespace Bt
open PySem L2
def mMeth (f : D → D → Option D) (ma mb : M Ag) : M D := bnd ma fun a => fun E0 => match rsv E0 a with
  | some (.list _) => (bnd mb fun b => fun E => match rsv E a, rsv E b with
    | some (.list ds), some y => lift (f (.list ds) y) E
    | _, _ => .bad) E0
  | _ => .bad
section
variable {X : Cx} {W : WX} {o e c : Expr} {to te : TE} {ma mb : M Ag}
theorem RpAll.cnt {K : PySem.W.Frag} {G : Hp} {x : V} {d : D} (hx : Rp K G x d) (fx : flatD d = true) : ∀ {vs : List V} {ds : List D}, RpAll K G vs ds → ds.all flatD = true → vs.countP (fun z => eqV z x) = ds.countP fun y => PyData.eqv y d
  | _, _, .nil, _ => rfl
  | _, _, .cons h r, f => by
    rw [List.all_cons, Bool.and_eq_true] at f
    rw [List.countP_cons, List.countP_cons, RpAll.cnt hx fx r f.2, h.eqv hx f.1 fx]
def idxD : D → D → Option D
  | .list ds, d => if flatD d && ds.all flatD then (ds.findIdx? (fun y => PyData.eqv y d)).map (fun j => .int (j : Nat)) else none
  | _, _ => none
end
end Bt
namespace Bt
open PySem L2
def tKS (n m : Nat) (sp : Sp) (gV : List V → List V → List V) (E : L2.St → XK) (t tk : TA) : TE := fun σ H Q => t σ H fun vs H1 => tk σ H1 fun zs H2 => vs.length = n ∧ zs.length = m ∧ sp (gV vs zs) H2 Q (E σ)
section
variable {X : Cx} {CX : CXT} {k n : Nat} {f : Addr} {fd : FuncData} {ps ks : List Str} {sp : Sp} {Ex : L2.St → XK} {x : Str} {p pos : Pos} {e : Expr} {es : List Expr} {kws : List Keyword} {t tk : TA} {g : List Value → List Value → List Value} {gV : List V → List V → List V}
theorem run_KS {pins : List (Addr × Obj)} {σ : L2.St} {H : Hp} {s : Shared} {Q : VK} {us ws : List Value} {vs zs : List V} (F : FnOk X.prog X.w X.K X.mg X.base CX k f fd ps sp) (hr : Room k X.A) (hb : KBn X.K fd ps n ks g gV) (hx : PassesAt CX X σ (Ex σ)) (I : Inv X pins σ H s) (r : Vals vs us) (rz : Vals zs ws) (l1 : vs.length = n) (l2 : zs.length = ks.length) (h : sp (gV vs zs) H Q (Ex σ)) : wpAny (model X.prog X.w) X.A (call (.ref f) us (ks.zip ws)) (EP X pins σ Q) X.xe s := by
  refine wpAny_call (codeAny_mono (F.run X.A X.stack s H ⟨us, ks.zip ws⟩ (g us ws) (gV vs zs) Q (Ex σ) hr I.env0 (hb.to s us ws I.kIn (r.length ▸ l1) (rz.length ▸ l2)) (hb.rel r rz) h) fun r s' hq => ?_)
  cases r with
  | error u => exact hx pins H s u s' I hq
  | ok fl =>
    cases fl with
    | ret u => exact I.after hq
    | _ => exact False.elim hq
theorem pe_KS0 (F : FnOk X.prog X.w X.K X.mg X.base CX k f fd ps sp) (hr : Room k X.A) (hg : Gl X x) (hm : X.mg x = some (.ref f)) (hk : PySem.W.keepIn X.K (.ref f) = true) (hb : KBn X.K fd ps 0 ks g gV) (hx : ∀ σ, PassesAt CX X σ (Ex σ)) (hkw : PK X kws tk) (hall : (backToKw pos (keywordEach kws X.env)).all (·.1.isSome) = true := by rfl) (hks : (backToKw pos (keywordEach kws X.env)).filterMap (·.1) = ks := by rfl)
    (hdb : (x == ("__debug__" : Str)) = false := by decide) (hpl : ((backTo pos (starEach [] X.env)).any (·.1) || (backToKw pos (keywordEach kws X.env)).any (·.1.isNone)) = false := by rfl) :
    PE X (.Call (.Name x p) [] kws pos) (tKS 0 ks.length sp gV Ex tNil tk) := by
  refine ⟨fun pins s σ H Q I h => wpAny_Call_Name_kw (ld_glob I hg hm (PySem.W.callWith_KW0 (h₀ := X.base) I.ok.mod.kin hk hall (thn (hkw.run pos pins s σ H _ I h) fun ws s2 hh => ?_) hpl) hdb)⟩
  obtain ⟨zs, H2, I2, rz, l1, l2, q2⟩ := hh
  exact ⟨I2.kIn, by rw [hks]; exact run_KS (us := []) (vs := []) F hr hb (hx σ) I2 .nil rz l1 l2 q2⟩
end
section
variable {X : Cx} {W : WX} {P : Program} {w : World} {K : PySem.W.Frag} {mg : Str → Option Value} {base : Heap} {e : Expr} {pos : Pos} {k : Nat} {f : Addr} {fd : FuncData} {ps ks : List Str} {Fm : M Sl} {n n1 : Nat} {x : Str} {p : Pos} {es : List Expr} {kws : List Keyword} {ts tk : TA} {ms1 ms2 : M (List D)}
theorem ks_rd (pk : List Pk) (hpn : pk.length = n) (h : SA X W es ts ms1) (h2 : SK X W kws tk ms2) : ∀ F O E σ H (Q : VK), Rel X.K F O E σ H → Sat (mCallKO Fm pk n1 ks.length ms1 ms2 E) (fun z E' => ∀ O' v H', RelE X.K F O' E' σ H' v (.rt z) → Le O H O' H' → Q v H') (KX X.K X.mg F σ O H W) → tKS n1 ks.length (spOf X.K X.mg n Fm) (fun vs zs => pk.map (pkV (vs ++ zs))) (fun σ => WE W σ) ts tk σ H Q := by
  intro F O E σ H Q R s
  refine h.rd F O E σ H _ R (s.bnd.mono (fun ds1 E1 k1 O1 vs H1 R1 l1 r1 => ?_) (fun _ _ k => k))
  refine h2.rd F O1 E1 σ H1 _ R1 (k1.bnd.mono (fun ds2 E2 k2 O2 zs H2 R2 l2 r2 => ?_) (KX.le l1))
  split at k2
  · rename_i hl
    have ll := l1.trans l2
    refine ⟨r1.length.trans hl.1, r2.length.trans hl.2, call_dat R2 (pk_rp ((r1.mono l2).append r2) pk) (by rw [List.length_map]; exact hpn) ?_⟩
    cases ef : Fm ((pk.map (pkD (ds1 ++ ds2))).map .dat) with
    | bad => rw [ef] at k2; exact k2.elim
    | ok d as' => rw [ef] at k2; exact fun O' v H' R' l => k2 O' v H' R' (ll.trans l)
    | ex z as' => rw [ef] at k2; exact fun O' H' c dd R' l r => k2 O' H' c dd R' (ll.trans l) r
  · exact k2.elim
theorem sv_KS0 (pk : List Pk) (Fo : FnOk P w K mg base (L2.CX P w) k f fd ps (spOf K mg n Fm)) (eP : X.prog = P) (ew : X.w = w) (eK : X.K = K) (eM : X.mg = mg) (eB : X.base = base) (hr : Room k X.A) (hg : Gl X x) (hm : mg x = some (.ref f)) (hk : PySem.W.keepIn K (.ref f) = true) (hb : KBn K fd ps 0 ks (fun us ws => pk.map (pkU (us ++ ws))) (fun vs zs => pk.map (pkV (vs ++ zs)))) (hpn : pk.length = n) (hn : ps.length = n)
    (tk0 : Takes X W) (h2 : SK X W kws tk ms2) (hall : (backToKw pos (keywordEach kws X.env)).all (·.1.isSome) = true := by rfl) (hks : (backToKw pos (keywordEach kws X.env)).filterMap (·.1) = ks := by rfl) (hdb : (x == ("__debug__" : Str)) = false := by decide) (hpl : ((backTo pos (starEach [] X.env)).any (·.1) || (backToKw pos (keywordEach kws X.env)).any (·.1.isNone)) = false := by rfl) :
    SV X W (.Call (.Name x p) [] kws pos) (tKS 0 ks.length (spOf K mg n Fm) (fun vs zs => pk.map (pkV (vs ++ zs))) (fun σ => WE W σ) tNil tk) (mCallKO Fm pk 0 ks.length (ret []) ms2) := by
  subst eP ew eK eM eB
  exact ⟨pe_KS0 Fo hr hg hm hk hb (fun σ => passAt tk0 σ) h2.pk hall hks hdb hpl, ks_rd pk hpn sa_nil h2⟩
end
end Bt
namespace Bt
open PySem L2
def mExt (i : Nat) (m : M D) : M Fl := fun E => match E[i]? with
  | some ((.ow (.l _))) => (bnd m fun d => fun E => match E[i]?, d with
    | some ((.ow (.l ds))), .list es => if ds.length + es.length ≤ LIM then .ok .nx (E.set i ((.ow (.l (ds ++ es))))) else .bad
    | _, _ => .bad) E
  | _ => .bad
section
variable {X : Cx} {W : WX} {e : Expr} {t : TE} {m : M D}
end
end Bt
namespace Bt
open PySem L2
section
open PySem.Spec PyProof.Rows
end
def mExtB (i : Nat) (m : M D) : M Fl := fun E => match E[i]? with
  | some ((.ow (.l _))) => (bnd m fun d => fun E => match E[i]?, d with
    | some ((.ow (.l ds))), .list es => if ds.length + es.length ≤ LIM then .ok .nx (E.set i ((.ow (.l (ds ++ es))))) else .bad
    | some ((.ow (.l ds))), .tuple es => if ds.length + es.length ≤ LIM then .ok .nx (E.set i ((.ow (.l (ds ++ es))))) else .bad
    | _, _ => .bad) E
  | _ => .bad
end Bt
namespace Bt
open PySem L2
section
variable {M : Model} {A : Around} {E : Value → Shared → Prop} {h : Heap} {g : Array GenState} {d : Drawn} {t : Nat} {os : OsState}
variable {nm q : Str} {C N : Addr} {bs bm bmB : List Value} {hdct : Bool} {sn : List Str} {sub : List Value} {ab : Bool} {col : Option Bool} {dd : Option Addr} {k0 k1 k2 k3 k5 : Option Value} {B newId initId : String}
end
section
variable {prog : Program} {w : World} {A : Around} {E : Value → Shared → Prop} {R : Result → Shared → Prop} {h : Heap} {g : Array GenState} {d : Drawn} {t : Nat} {os : OsState}
variable {nm q : Str} {C N : Addr} {bs bm bmB : List Value} {hdct : Bool} {sn : List Str} {sub : List Value} {ab : Bool} {col : Option Bool} {dd : Option Addr} {k0 k1 k2 k3 k5 : Option Value} {B newId initId : String}
end
end Bt
namespace Bt
open PySem L2
section
variable {X : Cx} {pins : List (Addr × Obj)} {σ : L2.St} {H : Hp} {sI s' : Shared}
end
def mNew0 (c : Nat) : M D := ret (.dict [(.int c, .none)])
def mNewN (c : Nat) : M D := ret (.dict [(.int c, .none), (.none, .none)])
def mNew1 (c : Nat) (m : M D) : M D := bnd m fun d => ret (.dict [(.int c, .none), (.none, d)])
section
variable {X : Cx} {W : WX} {e : Expr} {t : TE}
end
end Bt
namespace Bt
open PySem L2
def mIsxO (m : M Ag) : M D := bnd m fun a => fun E => match rsv E a with
  | some (.dict ((.int _, .none) :: _)) => .ok (.bool false) E
  | _ => .bad
section
variable {X : Cx} {W : WX} {e : Expr} {t : TE}
def mIsVE : M D := ret (.bool false)
end
end Bt
namespace Bt
open PySem L2
def mPar (i j : Nat) (ms : M (List D)) : M Fl := bnd ms fun ds => fun E => match ds with
  | [d1, d2] => if i < E.length ∧ j < E.length then .ok .nx ((E.set i (.dat d1)).set j (.dat d2)) else .bad
  | _ => .bad
end Bt
namespace Bt
open PySem L2 PySem.Spec PyProof.Rows
structure FnG (P : Program) (w : World) (K : PySem.W.Frag) (mg : Str → Option Value) (base : Heap) (CX : CXT) (k : Nat) (f : Addr) (fd : FuncData) (ps : List Str) (sp : Sp) : Prop where
  len : ∀ vs H Q E, sp vs H Q E → vs.length = ps.length
  run : ∀ (A : Around) (outer : List Env) (s : Shared) (H : Hp) (args : Args) (us : List Value) (vs : List V) (Q : VK) (E : XK), Room k A → A.guards = some [] → Env0 P w K mg base A outer s H → BindsTo s fd args (ps.zip us) → Vals vs us → sp vs H Q E →
    codeAny (model P w) A (.call (.ref f) args) (CR CX outer P w H s Q E) s
theorem fnG_of {CX : CXT} {P : Program} {w : World} {K : PySem.W.Frag} {mg : Str → Option Value} {base : Heap} {k : Nat} {f : Addr} {name qual : Str} {params : Arguments} {body : List Stmt} {scope : Scope} {dV kV doc pm cdv ct oc : Value} {an od : Option Addr}
    {osl : Array (Option Value)} {N ps : List Str} {sp : Sp} (lk : K.lookup f = some ⟨oc, od, .func (PySem.W.fnOf name qual params body scope dV kV doc pm an cdv ct), osl⟩) (hcd : PySem.W.codeIn K cdv qual = true) (S : FnScope N ps scope)
    (len : ∀ vs H Q E, sp vs H Q E → vs.length = ps.length)
    (hbody : ∀ (A : Around) (outer : List Env) (s : Shared) (H : Hp) (vs : List V) (Q : VK) (E : XK), Room k (A.deeper (envOfC qual scope s.heap.objs.size f cdv)) → A.guards = some [] → sp vs H Q E →
      ∃ t, PSs (cxOf CX P w K mg base N qual scope f cdv A outer s H E) body t ∧ t { nx := fun _ H' => Q .non H', rt := Q } (L2.start N vs) H) :
    FnG P w K mg base CX (k + 1) f (PySem.W.fnOf name qual params body scope dV kV doc pm an cdv ct) ps sp := by
  refine ⟨len, fun A outer s H args us vs Q E hr gd e0 hb r hsp => ?_⟩
  have hl := len _ _ _ _ hsp
  have KX : K.In s.heap := e0.mod.kin.keeps fun b o e => (e0.bs b o e).1
  have lim : s.heap.NoLimit := e0.mod.nolimit.keeps fun b o e => (e0.bs b o e).1
  have hkind : ∀ y ∈ ps.zip us, scope.names.lookup y.1 = some .local ∨ (scope.names.lookup y.1 = some .cell ∧ ((cellsFrom (s.heap.objs.size + 1) scope.names []).lookup y.1).isSome = true) := fun ⟨n, v⟩ hy => by
    rcases S.par n (List.of_mem_zip hy).1 with q | q
    · exact .inl q
    · exact .inr ⟨q, PySem.W.cellsFrom_some _ _ _ (.inl q)⟩
  refine codeAny_call_function hr.depth (KX _ _ lk) rfl S.co S.gen rfl (PySem.W.codeRec_of KX hcd) (hb _ _ _ _ ?_)
  refine wpAny_newFunctionEnv_cells S.kind hkind fun env he s1 x => ?_
  subst he
  refine ⟨lim.keeps x.toInCall.keep, codeAny_func ?_⟩
  obtain ⟨t, ht, hq⟩ := hbody A outer s H vs Q E (hr.deeper _) gd hsp
  have I : Inv (cxOf CX P w K mg base N qual scope f cdv A outer s H E) [] (L2.start N vs) H s1 := inv_start S hr.hd e0 hl r x
  refine wpAny_mono (ht.run [] s1 (L2.start N vs) H _ I hq) (fun fl s' hs => ?_) fun e s' hs => hs
  have fin : ∀ {σ' : L2.St} {H' : Hp} {v : V} {u : Value}, Inv (cxOf CX P w K mg base N qual scope f cdv A outer s H E) [] σ' H' s' → RelV v u → Q v H' → CE outer P w H s Q u s' :=
    fun {σ' H' v u} J rv q => ⟨v, H', J.os, J.bare, J.base, J.hok, rv, q⟩
  cases fl with
  | ret u =>
    obtain ⟨v, σ', H', J, rv, q⟩ := hs
    exact fin J rv q
  | next =>
    obtain ⟨σ', H', J, q⟩ := hs
    exact fin (v := V.non) (u := Value.none) J rfl q
  | brk =>
    obtain ⟨_, _, _, q⟩ := hs
    exact False.elim q
  | cont =>
    obtain ⟨_, _, _, q⟩ := hs
    exact False.elim q
section
variable {P : Program} {w : World} {K : PySem.W.Frag} {mg : Str → Option Value} {base : Heap}
theorem fn_okXG {x qual : Str} {st : Stmt} {f : Addr} {fd : FuncData} {N ps : List Str} {k : Nat} {asg : List Nat} {m : M Fl} (Fn : Fun K x qual st f fd) (S : FnScope N ps (defScope st)) (hN : ps.length ≤ N.length)
    (hbody : ∀ (cdv : Value) (A : Around) (outer : List Env) (s : Shared) (H : Hp) (E : XK), Room k (A.deeper (envOfC qual (defScope st) s.heap.objs.size f cdv)) → A.guards = some [] → ∃ t, SSs (cxOf (L2.CX P w) P w K mg base N qual (defScope st) f cdv A outer s H E) (fun c dd _ H' => E c dd H') asg (defBody st) t m) :
    FnG P w K mg base (L2.CX P w) (k + 1) f fd ps (spOf K mg ps.length (mFn asg (N.length - ps.length) m)) := by
  obtain ⟨oc, od, kV, doc, pm, an, cdv, ct, osl, rfl, lk, hcd⟩ := Fn.ex
  refine fnG_of lk hcd S (fun vs H Q E h => h.1) fun A outer s H vs Q E hr gd h => ?_
  obtain ⟨t, hS⟩ := hbody cdv A outer s H E hr gd
  exact ⟨t, hS.ps, fn_rd hS hN (fun _ _ _ _ z => z) h⟩
theorem fn_ok0G {x qual : Str} {st : Stmt} {f : Addr} {fd : FuncData} {N ps : List Str} {k : Nat} {asg : List Nat} {m : M Fl} (Fn : Fun K x qual st f fd) (S : FnScope N ps (defScope st)) (hN : ps.length ≤ N.length)
    (hbody : ∀ (cdv : Value) (A : Around) (outer : List Env) (s : Shared) (H : Hp) (E : XK), Room k (A.deeper (envOfC qual (defScope st) s.heap.objs.size f cdv)) → A.guards = some [] → ∃ t, SSs (cxOf CX0 P w K mg base N qual (defScope st) f cdv A outer s H E).nox W0 asg (defBody st) t m) :
    FnG P w K mg base CX0 (k + 1) f fd ps (fun vs H Q E => spOf K mg ps.length (mFn asg (N.length - ps.length) m) vs H Q E0) := by
  obtain ⟨oc, od, kV, doc, pm, an, cdv, ct, osl, rfl, lk, hcd⟩ := Fn.ex
  refine fnG_of lk hcd S (fun vs H Q E h => h.1) fun A outer s H vs Q E hr gd h => ?_
  obtain ⟨t, hS⟩ := hbody cdv A outer s H E hr gd
  exact ⟨t, hS.ps.nox, fn_rd hS hN (fun _ _ _ _ z => z) h⟩
theorem FnG.imp {CX : CXT} {k : Nat} {f : Addr} {fd : FuncData} {ps : List Str} {sp sp' : Sp} (F : FnG P w K mg base CX k f fd ps sp) (h : ∀ vs H Q E, sp' vs H Q E → sp vs H Q E) : FnG P w K mg base CX k f fd ps sp' :=
  ⟨fun vs H Q E q => F.len vs H Q E (h _ _ _ _ q), fun A outer s H args us vs Q E hr gd he hb hv hs => F.run A outer s H args us vs Q E hr gd he hb hv (h _ _ _ _ hs)⟩
end
section
variable {X : Cx} {W : WX} {P : Program} {w : World} {K : PySem.W.Frag} {mg : Str → Option Value} {base : Heap} {e : Expr} {pos : Pos}
theorem sv_callG {k : Nat} {f : Addr} {fd : FuncData} {ps : List Str} {Fm : M Sl} {n : Nat} {x : Str} {p : Pos} {es : List Expr} {ts : TA} {ms : M (List Ag)} (Fo : FnG P w K mg base (L2.CX P w) k f fd ps (spOf K mg n Fm)) (eP : X.prog = P) (ew : X.w = w) (eK : X.K = K) (eM : X.mg = mg) (eB : X.base = base) (hr : Room k X.A) (gd : X.A.guards = some []) (hg : Gl X x) (hm : mg x = some (.ref f)) (hk : PySem.W.keepIn K (.ref f) = true) (hb : Binds K fd ps []) (hn : ps.length = n) (tk : Takes X W)
    (h : SOs X W (e :: es) ts ms) (hlen : LenM ms n) (hdb : (x == ("__debug__" : Str)) = false := by decide) (he : starEach (e :: es) X.env = (false, eval e X.env) :: starEach es X.env := by rfl) (hpl : (backTo pos (starEach es X.env)).any (·.1) = false := by rfl) :
    SV X W (.Call (.Name x p) (e :: es) [] pos) (tCallSD (spOf K mg n Fm) [] (fun σ => WE W σ) ts) (mCallO Fm [] ms) := by
  subst eP ew eK eM eB hn
  refine ⟨⟨fun pins s σ H Q I h' => wpAny_Call_Name_kw (ld_glob I hg hm (PySem.W.callWith_K (h₀ := X.base) I.ok.mod.kin hk (thn (h.pa.run pos pins s σ H _ I h') fun us s1 hh => ?_) he hpl) hdb)⟩, call_rd (fun _ => .nil) h fun E ags E' q => hlen E ags E' q⟩
  obtain ⟨vs, H1, I1, r, q⟩ := hh
  refine ⟨I1.kIn, ?_⟩
  rw [List.append_nil] at q
  have hl : us.length = ps.length := by rw [← r.length]; exact Fo.len _ _ _ _ q
  have b := hb s1 us I1.kIn (by rw [List.append_nil]; exact hl)
  rw [List.append_nil] at b
  refine wpAny_call (codeAny_mono (Fo.run X.A X.stack s1 H1 ⟨us, []⟩ us vs Q (WE W σ) hr gd I1.env0 b r q) fun r s' hq => ?_)
  cases r with
  | error u => exact passAt tk σ pins H1 s1 u s' I1 hq
  | ok fl =>
    cases fl with
    | ret u => exact I1.after hq
    | _ => exact False.elim hq
theorem se_callG {k : Nat} {f : Addr} {fd : FuncData} {ps : List Str} {Fm : M Sl} {n : Nat} {x : Str} {p : Pos} {es : List Expr} {ts : TA} {ms : M (List Ag)} (Fo : FnG P w K mg base (L2.CX P w) k f fd ps (spOf K mg n Fm)) (eP : X.prog = P) (ew : X.w = w) (eK : X.K = K) (eM : X.mg = mg) (eB : X.base = base) (hr : Room k X.A) (gd : X.A.guards = some []) (hg : Gl X x) (hm : mg x = some (.ref f)) (hk : PySem.W.keepIn K (.ref f) = true) (hb : Binds K fd ps []) (hn : ps.length = n) (tk : Takes X W)
    (h : SOs X W (e :: es) ts ms) (hlen : LenM ms n) (hdb : (x == ("__debug__" : Str)) = false := by decide) (he : starEach (e :: es) X.env = (false, eval e X.env) :: starEach es X.env := by rfl) (hpl : (backTo pos (starEach es X.env)).any (·.1) = false := by rfl) :
    SE X W (.Call (.Name x p) (e :: es) [] pos) (tCallSD (spOf K mg n Fm) [] (fun σ => WE W σ) ts) (mCall Fm [] ms) := (sv_callG Fo eP ew eK eM eB hr gd hg hm hk hb hn tk h hlen hdb he hpl).se
end
def StrOk (d : D) : Prop := d.canLay0 = true ∧ d.showable = true ∧ d.depth ≤ 40 ∧ d.shown.length ≤ sizeLine
noncomputable def strF : List D → Option D
  | [.str x] => some (.str x)
  | [.none] => some (.str "None")
  | [.bool b] => some (.str (if b then "True" else "False"))
  | [.int i] => if @decide (i.natAbs.log2 < 1920) (Classical.propDecidable _) then some (.str (toString i)) else none
  | [.list ds] => if @decide (StrOk (.list ds)) (Classical.propDecidable _) then some (.str (PyData.list ds).shown) else none
  | [.tuple ds] => if @decide (StrOk (.tuple ds)) (Classical.propDecidable _) then some (.str (PyData.tuple ds).shown) else none
  | _ => none
mutual
theorem noDict : ∀ d : D, d.canLay0 = true → d.hasDict = false
  | .none, _ => rfl
  | .bool _, _ => rfl
  | .int _, _ => rfl
  | .str _, _ => rfl
  | .list xs, h => by simp only [PyData.hasDict]; exact noDictAll xs (by simpa only [PyData.canLay0] using h)
  | .tuple xs, h => by simp only [PyData.hasDict]; exact noDictAll xs (by simpa only [PyData.canLay0] using h)
  | .dict _, h => by simp [PyData.canLay0] at h
theorem noDictAll : ∀ ds : List D, PyData.canLayAll0 ds = true → PyData.hasDictAll ds = false
  | [], _ => rfl
  | d :: ds, h => by
    simp only [PyData.canLayAll0, Bool.and_eq_true] at h
    simp only [PyData.hasDictAll, noDict d h.1, noDictAll ds h.2, Bool.or_false]
end
def rStr (K : PySem.W.Frag) : List V → Hp → VK → Prop := fun xs H Q => (∃ a, xs = [.str a] ∧ Q (.str a) H) ∨ (xs = [.non] ∧ Q (.str "None") H) ∨ (∃ b, xs = [.bl b] ∧ Q (.str (if b then "True" else "False")) H) ∨ (∃ i, xs = [.int i] ∧ i.natAbs.log2 < 1920 ∧ Q (.str (toString i)) H) ∨
  ∃ (a : Addr) (d : D), xs = [.ref a] ∧ Dp K H (.ref a) d ∧ StrOk d ∧ Q (.str d.shown) H
theorem call_strD {X : Cx} (gd : X.A.guards = some []) (hu : X.A.units + 64 < cLine) : CallR X (.type "str") (rStr X.K) := by
  intro pins s σ H xs us Q I r h
  rcases h with ⟨a, rfl, q⟩ | ⟨rfl, q⟩ | ⟨b, rfl, q⟩ | ⟨i, rfl, hi, q⟩ | ⟨a, d, rfl, hd, ⟨c1, c2, c3, c4⟩, q⟩
  · exact SkE.call_str_str pins s σ H _ us Q I r ⟨a, rfl, q⟩
  · obtain ⟨u, rfl, r1⟩ := vals1 r
    cases r1
    exact PySem.P.str_of_none ⟨.str _, H, I.tok _, ⟨_, rfl⟩, q⟩
  · obtain ⟨u, rfl, r1⟩ := vals1 r
    cases r1
    exact PySem.P.str_of_bool ⟨.str _, H, I.tok _, ⟨_, rfl⟩, q⟩
  · exact call_str_int pins s σ H _ us Q I r ⟨i, rfl, hi, q⟩
  · obtain ⟨u, rfl, r1⟩ := vals1 r
    cases (show u = Value.ref a from r1)
    obtain ⟨as, rd⟩ := Dp.reads I d _ _ hd rfl
    exact str_of_reads rd c2 (fun z => by rw [noDict d c1] at z; cases z) gd (by omega) (fun b o e => e) (fun h' u tk hk => ⟨.str d.shown, H, I.kept (t' := tk) hk, ⟨_, rfl⟩, q⟩) c4
theorem cK_str {X : Cx} (K : PySem.W.Frag) (eK : X.K = K) (gd : X.A.guards = some []) (hu : X.A.units + 64 < cLine) : CallR X (.type "str") (rStr K) := eK ▸ call_strD gd hu
theorem ok_str {K : PySem.W.Frag} : COk K (rStr K) strF := by
  intro O H vs ds z Q t hp hf q
  unfold strF at hf
  split at hf
  · cases hf
    obtain ⟨v, rfl, rq⟩ := paired1 hp
    cases rq.str
    exact .inl ⟨_, rfl, q _ H (Grow.refl O H) (.str _)⟩
  · cases hf
    obtain ⟨v, rfl, rq⟩ := paired1 hp
    have e := rq.non
    cases of_decide_eq_true e
    exact .inr (.inl ⟨rfl, q _ H (Grow.refl O H) (.str _)⟩)
  · cases hf
    obtain ⟨v, rfl, rq⟩ := paired1 hp
    cases rq.bool
    exact .inr (.inr (.inl ⟨_, rfl, q _ H (Grow.refl O H) (.str _)⟩))
  · split at hf
    · rename_i hi
      cases hf
      obtain ⟨v, rfl, rq⟩ := paired1 hp
      cases rq.int
      exact .inr (.inr (.inr (.inl ⟨_, rfl, @of_decide_eq_true _ (Classical.propDecidable _) hi, q _ H (Grow.refl O H) (.str _)⟩)))
    · cases hf
  · split at hf
    · rename_i hi
      cases hf
      have ho := @of_decide_eq_true _ (Classical.propDecidable _) hi
      obtain ⟨v, rfl, rq⟩ := paired1 hp
      obtain ⟨p, vs, rfl, h1, r1⟩ := rq.list
      exact .inr (.inr (.inr (.inr ⟨p, _, rfl, rq.dp ho.1, ho, q _ H (Grow.refl O H) (.str _)⟩)))
    · cases hf
  · split at hf
    · rename_i hi
      cases hf
      have ho := @of_decide_eq_true _ (Classical.propDecidable _) hi
      obtain ⟨v, rfl, rq⟩ := paired1 hp
      obtain ⟨p, vs, rfl, h1, r1, _⟩ := rq.tuple
      exact .inr (.inr (.inr (.inr ⟨p, _, rfl, rq.dp ho.1, ho, q _ H (Grow.refl O H) (.str _)⟩)))
    · cases hf
  · cases hf
def neT : D → D → Option D
  | .str a, .str b => some (.bool (!decide (a = b)))
  | _, _ => none
theorem ok_neT {K : PySem.W.Frag} : ROk K rNe neT := by
  intro O H x y d e z Q t hx hy hf q
  unfold neT at hf
  split at hf
  · cases hf
    cases hx.str
    cases hy.str
    exact ⟨rfl, by simpa using q _ H (Grow.refl O H) (.bl _)⟩
  · cases hf
end Bt
namespace Bt
open PySem L2
section
variable (vs vs1 : List Nat) (g g1 : MG) (mt mt1 : M Bool) (mi1 : M (List D)) (me : M D) (E0 : En)
def lc2In : List D → En → List D → Res (List D)
  | [], E, acc => .ok acc E
  | d :: ds, E, acc => match g1 d (wipeE E vs1) with
    | none => .bad
    | some E1 => match mt1 E1 with
      | .ok true E2 => match me E2 with
        | .ok y E3 => if acc.length < LIM then lc2In ds E3 (acc ++ [y]) else .bad
        | _ => .bad
      | .ok false E2 => lc2In ds E2 acc
      | _ => .bad
def lc2Go : List D → En → List D → Res D
  | [], E, acc => .ok (.list acc) (backE E0 E vs)
  | d :: ds, E, acc => match g d (wipeE E vs) with
    | none => .bad
    | some E1 => match mt E1 with
      | .ok true E2 => match mi1 E2 with
        | .ok its E3 => match lc2In vs1 g1 mt1 me its E3 acc with
          | .ok acc' E4 => lc2Go ds E4 acc'
          | _ => .bad
        | _ => .bad
      | .ok false E2 => lc2Go ds E2 acc
      | _ => .bad
end
def mLc2 (mi : M (List D)) (g : MG) (mt : M Bool) (mi1 : M (List D)) (g1 : MG) (mt1 : M Bool) (me : M D) (vs vs1 : List Nat) : M D := bnd mi fun its => fun E => lc2Go vs vs1 g g1 mt mt1 mi1 me E its E []
section
variable {X : Cx} {W : WX}
end
end Bt
namespace Bt
open PySem L2 PySem.Spec PyProof.Rows
abbrev noK : Key → Bool := fun _ => false
section
variable {X : Cx}
end
end Bt
namespace Bt
open PySem L2 PySem.Spec PyProof.Rows
abbrev ZipR (h : Heap) (z TI TO : Addr) (f0 : Value) (f1 b : Bool) : Prop :=
  h.get? z = some { cls := .type "zip", dict := none, data := .fields #[f0, .bool f1, .bool b, .ref TI, .ref TO], slots := #[] }
section
variable {prog : Program} {w : World} {A : Around} {E : Value → Shared → Prop} {s : Shared}
structure ZSt (b : Bool) (z TI TO i1 i2 l1 l2 : Addr) (k : Nat) (h : Heap) : Prop where
  rc : ∃ f0 f1, (f0 = Value.none ∨ ∃ T : Addr, f0 = rawInt T) ∧ ZipR h z TI TO f0 f1 b
  ti : IsPair h TI (.ref i1) (.ref i2)
  to : ∃ x y, IsPair h TO x y
  i1 : h.IsListIter i1 l1 k
  i2 : h.IsListIter i2 l2 k
end
end Bt
namespace Bt
open PySem L2 PySem.Spec PyProof.Rows
section
variable {prog : Program} {w : World} {A : Around} {E : Value → Shared → Prop} {s : Shared}
theorem ZSt.at {b : Bool} {z TI TO i1 i2 l1 l2 : Addr} {k : Nat} {h h' : Heap} (st : ZSt b z TI TO i1 i2 l1 l2 k h) (kz : ∃ f0 f1, (f0 = Value.none ∨ ∃ T : Addr, f0 = rawInt T) ∧ ZipR h' z TI TO f0 f1 b) (kp : ∀ c o, c = TI ∨ c = TO ∨ c = i1 ∨ c = i2 → h.get? c = some o → h'.get? c = some o) : ZSt b z TI TO i1 i2 l1 l2 k h' := by
  obtain ⟨_, t, ⟨x, y, u⟩, a, c⟩ := st
  exact ⟨kz, kp _ _ (.inl rfl) t, ⟨x, y, kp _ _ (.inr (.inl rfl)) u⟩, a.at fun o e => kp _ o (.inr (.inr (.inl rfl))) e, c.at fun o e => kp _ o (.inr (.inr (.inr rfl))) e⟩
end
end Bt
namespace Bt
open PySem L2 PySem.Spec PyProof.Rows
section
variable {prog : Program} {w : World} {A : Around} {E : Value → Shared → Prop} {s : Shared}
end
section
variable {X : Cx}
def mZipE (ms : M (List D)) : M (List D) := bnd ms fun ds => match ds with
  | [.list xs, .list ys] => fun E => if xs.length = ys.length then .ok (zipD xs ys) E else .bad
  | _ => stuck
variable {W : WX}
end
end Bt
namespace Bt
open PySem L2 PySem.Spec PyProof.Rows
section
variable {X : Cx} {W : WX}
end
def maxTF : List D → Option D
  | [.tuple ds] => match intsOf ds with
    | some (n :: ns) => some (.int (maxL (n :: ns)))
    | _ => none
  | _ => none
section
variable {X : Cx} {W : WX} {a b : Expr} {ta tb : TE}
noncomputable def mLrg2 (ma mb : M Ag) : M D := bnd ma fun x => bnd mb fun y => fun E => match rsv E x, rsv E y with
  | some (.int i), some (.int j) => if rgOk i && rgOk j then .ok (.list (rangeD i j)) E else .bad
  | _, _ => .bad
noncomputable def mLrg1 (ma : M Ag) : M D := bnd ma fun x => fun E => match rsv E x with
  | some (.int j) => if rgOk j then .ok (.list (rangeD 0 j)) E else .bad
  | _ => .bad
end
section
variable {X : Cx}
def memK (k : Key) (r : List Key) : Bool := r.any fun j => decide (j = k)
theorem memK_iff {k : Key} {r : List Key} : memK k r = true ↔ k ∈ r := by
  unfold memK
  rw [List.any_eq_true]
  constructor
  · rintro ⟨j, hj, e⟩
    rw [← of_decide_eq_true e]
    exact hj
  · exact fun h => ⟨k, h, decide_eq_true rfl⟩
def cntK : List Key → Nat
  | [] => 0
  | k :: r => if memK k r = true then cntK r else cntK r + 1
section
variable (vs : List Nat) (g : MG) (mt : M Bool) (me : M D) (E0 : En)
def skGo : List D → En → List Key → Res D
  | [], E, acc => .ok (.int (cntK acc)) (backE E0 E vs)
  | d :: ds, E, acc => match g d (wipeE E vs) with
    | none => .bad
    | some E1 => match mt E1 with
      | .ok true E2 => match me E2 with
        | .ok y E3 => match keyOf y with
          | some k => if acc.length < 2000 then skGo ds E3 (k :: acc) else .bad
          | none => .bad
        | _ => .bad
      | .ok false E2 => skGo ds E2 acc
      | _ => .bad
end
def mLenK (mi : M (List D)) (g : MG) (mt : M Bool) (me : M D) (vs : List Nat) : M D := bnd mi fun its => fun E => skGo vs g mt me E its E []
theorem cntK_le : ∀ l : List Key, cntK l ≤ l.length
  | [] => Nat.le_refl _
  | k :: r => by
    have := cntK_le r
    unfold cntK
    split <;> simp <;> omega
variable {W : WX}
end
end Bt
namespace Bt
open PySem L2
section
variable {X : Cx} {W : WX}
def mRaiseN (c : Nat) : M Fl := fun E => .ex ⟨c, some .none⟩ E
def mTry0 (c : Nat) (mb ms : M Fl) : M Fl := fun E => match mb E with
  | .ok f E1 => .ok f E1
  | .ex z E1 => if isSub z.cls c = true then match ms E1 with
    | .ok f E2 => .ok f E2
    | _ => .bad
    else .ex z E1
  | .bad => .bad
end
section
variable {X : Cx} {W : WX} (K : PySem.W.Frag)
end
end Bt
namespace Bt
open PySem L2
section
variable {K : PySem.W.Frag} {F : Frm} {O : List Addr} {E : En} {σ : L2.St} {H : Hp}
theorem get_push {α : Type} {xs : List α} {x y : α} {i : Nat} (h : (xs ++ [x])[i]? = some y) : (i < xs.length ∧ xs[i]? = some y) ∨ (i = xs.length ∧ x = y) := by
  by_cases c : i < xs.length
  · rw [List.getElem?_append_left c] at h; exact .inl ⟨c, h⟩
  · rw [List.getElem?_append_right (by omega)] at h
    by_cases z : i - xs.length = 0
    · rw [z] at h; cases h; exact .inr ⟨by omega, rfl⟩
    · obtain ⟨n, hn⟩ : ∃ n, i - xs.length = n + 1 := ⟨i - xs.length - 1, by omega⟩
      rw [hn] at h; cases h
theorem Rel.push {p : Addr} {vs : HO} {ob : Ob} (R : Rel K ((p, vs) :: F) O E σ H) (r : RpO K (Mask O H) vs ob) (hF : ∀ x ∈ F, x.1 ≠ p) : Rel K F O (E ++ [.ow ob]) (σ ++ [some (.ref p)]) H := by
  obtain ⟨hp, hh⟩ := R.frm _ List.mem_cons_self
  have hl := R.len
  have lf : ∀ i, i < E.length → (σ ++ [some (V.ref p)])[i]? = σ[i]? := fun i h => List.getElem?_append_left (by omega)
  have lr : (σ ++ [some (V.ref p)])[E.length]? = some (some (V.ref p)) := by rw [hl, List.getElem?_append_right (Nat.le_refl _), Nat.sub_self]; rfl
  refine ⟨by rw [List.length_append, List.length_append, hl]; rfl, R.trk, R.tab, fun j s e => ?_, fun j k ds es q e1 e2 e3 e4 => ?_, fun x hx => R.frm x (List.mem_cons_of_mem _ hx), fun j ds q e1 e2 x hx => ?_, fodd_tail R.fodd⟩
  · rcases get_push e with ⟨c, e⟩ | ⟨rfl, rfl⟩
    · rw [lf j c]; exact R.slot j s e
    · rw [lr]; exact ⟨p, vs, rfl, hp, hh, r⟩
  · rcases get_push e1 with ⟨c1, e1⟩ | ⟨rfl, z1⟩
    · rw [lf j c1] at e3
      rcases get_push e2 with ⟨c2, e2⟩ | ⟨rfl, z2⟩
      · rw [lf k c2] at e4
        exact R.apart j k ds es q e1 e2 e3 e4
      · rw [lr] at e4; cases e4
        exact absurd rfl (R.fap j ds p e1 e3 _ List.mem_cons_self)
    · rw [lr] at e3; cases e3
      rcases get_push e2 with ⟨c2, e2⟩ | ⟨rfl, z2⟩
      · rw [lf k c2] at e4
        exact absurd rfl (R.fap k es p e2 e4 _ List.mem_cons_self)
      · rfl
  · rcases get_push e1 with ⟨c1, e1⟩ | ⟨rfl, z1⟩
    · rw [lf j c1] at e2
      exact R.fap j ds q e1 e2 x (List.mem_cons_of_mem _ hx)
    · rw [lr] at e2; cases e2
      exact hF x hx
theorem AgV.push {v : V} {x : Option V} {a : Ag} (h : AgV K σ O H v a) : AgV K (σ ++ [x]) O H v a := by
  cases a with
  | d d => exact h
  | r i =>
    have h' : σ[i]? = some (some v) := h
    show (σ ++ [x])[i]? = some (some v)
    rw [List.getElem?_append_left (List.getElem?_eq_some_iff.mp h').1]
    exact h'
end
section
variable {X : Cx} {W : WX} {e : Expr} {es : List Expr} {t : TE} {ts : TA}
end
section
variable {X : Cx} {W : WX} {k : Nat} {f : Addr} {fd : FuncData} {ps : List Str} {Fm : M Sl} {dds : List D} {dvs : List V} {x : Str} {p pos : Pos} {e : Expr} {es : List Expr} {ts : TA} {ms : M (List Ag)}
end
section
variable {X : Cx} {W : WX} {e : Expr} {t : TE} {es : List Expr} {ts : TA} {pos : Pos} {P : Program} {w : World} {K : PySem.W.Frag} {mg : Str → Option Value} {base : Heap}
end
section
variable {E : En}
end
end Bt
namespace Bt
open PySem L2
structure Gh where
  a : Int
  b : Int
  ws : List D
abbrev MH (α : Type) := En → Gh → Option (α × En × Gh)
section
variable {α β : Type}
def hL (m : M α) : MH α := fun E g => match m E with
  | .ok a E' => some (a, E', g)
  | _ => none
def hB (m : MH α) (f : α → MH β) : MH β := fun E g => match m E g with
  | some (a, E', g') => f a E' g'
  | none => none
def hR (a : α) : MH α := fun E g => some (a, E, g)
theorem hL_ok {m : M α} {E E' : En} {g g' : Gh} {a : α} (h : hL m E g = some (a, E', g')) : m E = .ok a E' ∧ g' = g := by
  unfold hL at h
  cases e : m E with
  | ok b E1 => rw [e] at h; cases h; exact ⟨rfl, rfl⟩
  | ex _ _ => rw [e] at h; cases h
  | bad => rw [e] at h; cases h
theorem hB_ok {m : MH α} {f : α → MH β} {E E' : En} {g g' : Gh} {b : β} (h : hB m f E g = some (b, E', g')) : ∃ a E1 g1, m E g = some (a, E1, g1) ∧ f a E1 g1 = some (b, E', g') := by
  unfold hB at h
  cases e : m E g with
  | none => rw [e] at h; cases h
  | some z => obtain ⟨a, E1, g1⟩ := z; rw [e] at h; exact ⟨a, E1, g1, rfl, h⟩
end
abbrev HoG (g : Gh) (q : Addr) : HO := .lst [.int g.a, .int g.b, .ref q]
def RelG (K : PySem.W.Frag) (i : Nat) (F : Frm) (O : List Addr) (E : En) (g : Gh) (σ : L2.St) (H : Hp) : Prop :=
  ∃ p q vs, σ[i]? = some (some (.ref p)) ∧ Rel K ((p, HoG g q) :: (q, .lst vs) :: F) O E σ H ∧ p ≠ q ∧ (∀ x ∈ F, x.1 ≠ p ∧ x.1 ≠ q) ∧ RpAll K (Mask O H) vs g.ws
section
variable {K : PySem.W.Frag} {F F' : Frm} {O O' : List Addr} {E E' : En} {σ σ' : L2.St} {H H' : Hp} {g : Gh} {i : Nat}
theorem Rel.subF (R : Rel K F O E σ H) (h : ∀ x ∈ F', x ∈ F) : Rel K F' O E σ H :=
  ⟨R.len, R.trk, R.tab, R.slot, R.apart, fun y hy => R.frm y (h y hy), fun i ds p e1 e2 y hy => R.fap i ds p e1 e2 y (h y hy), fun x hx => R.fodd x (h x hx)⟩
theorem RelG.use (R : RelG K i F O E g σ H) : ∃ P : Frm, Rel K (P ++ F) O E σ H ∧ ∀ (F' : Frm) O' E' σ' H', Rel K (P ++ F') O' E' σ' H' → (∀ x ∈ F', x ∈ F ∨ ∀ y ∈ P, x.1 ≠ y.1) → Le O H O' H' → σ'[i]? = σ[i]? → RelG K i F' O' E' g σ' H' := by
  obtain ⟨p, q, vs, hi, R1, hpq, hF, r⟩ := R
  refine ⟨[(p, HoG g q), (q, .lst vs)], R1, fun F' O' E' σ' H' R' hF' l hs => ⟨p, q, vs, hs.trans hi, R', hpq, fun x hx => ?_, r.mono l⟩⟩
  rcases hF' x hx with hx | hx
  · exact hF x hx
  · exact ⟨hx _ List.mem_cons_self, hx _ (List.mem_cons_of_mem _ List.mem_cons_self)⟩
end
structure GE (X : Cx) (i : Nat) (e : Expr) (t : TE) (m : MH D) : Prop where
  pe : PE X e t
  rd : ∀ F O E g σ H (Q : VK) d E' g', RelG X.K i F O E g σ H → m E g = some (d, E', g') → (∀ O' v H', RelG X.K i F O' E' g' σ H' → Le O H O' H' → Rp X.K (Mask O' H') v d → Q v H') → t σ H Q
section
variable {X : Cx} {W : WX} {i : Nat} {e a b : Expr} {t ta tb : TE} {K : PySem.W.Frag} {pos : Pos}
theorem SE.ge {m : M D} (h : SE X W e t m) : GE X i e t (hL m) := by
  refine ⟨h.pe, fun F O E g σ H Q d E' g' R em k => ?_⟩
  obtain ⟨em2, rfl⟩ := hL_ok em
  obtain ⟨P, R1, bk⟩ := R.use
  refine h.rd _ O E σ H Q R1 ?_
  rw [em2]
  exact fun O' v H' R' l r => k O' v H' (bk F O' E' σ H' R' (fun x hx => .inl hx) l rfl) l r
end
section
variable {X : Cx} {W : WX} {i j : Nat} {e : Expr} {es : List Expr} {ts : TA} {K : PySem.W.Frag} {pos p : Pos} {x : Str} {P : Program} {w : World} {mg : Str → Option Value} {base : Heap}
end
end Bt
namespace Bt
open PySem L2
section
variable {K : PySem.W.Frag} {F F' : Frm} {O O' : List Addr} {E E' : En} {σ σ' : L2.St} {H H' : Hp} {g : Gh} {i : Nat}
theorem RelG.at {D : Addr} {ws : List V} (R : RelG K i ((D, .lst ws) :: F) O E g σ H) : D ∈ O ∧ H D = some (.lst ws) := by
  obtain ⟨p, q, vs, hi, R1, hpq, hF, r⟩ := R
  exact R1.frm _ (List.mem_cons_of_mem _ (List.mem_cons_of_mem _ List.mem_cons_self))
theorem RelG.trk (R : RelG K i F O E g σ H) : Trk O H := by
  obtain ⟨p, q, vs, hi, R1, _⟩ := R
  exact R1.trk
theorem RelG.frm (R : RelG K i F O E g σ H) : ∀ x ∈ F, x.1 ∈ O ∧ H x.1 = some x.2 := by
  obtain ⟨p, q, vs, hi, R1, _⟩ := R
  exact fun x hx => R1.frm x (List.mem_cons_of_mem _ (List.mem_cons_of_mem _ hx))
end
section
variable (vs : List Nat) (g : MG) (me : MH D) (E0 : En)
end
section
variable {X : Cx} {W : WX} {i : Nat}
end
end Bt
namespace Bt
open PySem L2
def RelGE (K : PySem.W.Frag) (i : Nat) (F : Frm) (O' : List Addr) (E' : En) (g' : Gh) (σ' : L2.St) (H' : Hp) (v : V) : Fl → Prop
  | .nx => RelG K i F O' E' g' σ' H'
  | .bk => RelG K i F O' E' g' σ' H'
  | .ct => RelG K i F O' E' g' σ' H'
  | .rt s => match s with
    | .dat d => RelG K i F O' E' g' σ' H' ∧ Rp K (Mask O' H') v d
    | _ => False
abbrev KGS (K : PySem.W.Frag) (i : Nat) (F : Frm) (asg : List Nat) (σ : L2.St) (O : List Addr) (H : Hp) (D' : Ends) (f : Fl) (E' : En) (g' : Gh) : Prop := ∀ O' σ' H' v, RelGE K i F O' E' g' σ' H' v f → Le O H O' H' → Agr asg σ σ' → EndV σ' H' D' v f
structure GS (X : Cx) (i : Nat) (asg : List Nat) (st : Stmt) (t : TS) (m : MH Fl) : Prop where
  ps : PS X st t
  rd : ∀ F O E g σ H (D' : Ends) f E' g', RelG X.K i F O E g σ H → m E g = some (f, E', g') → KGS X.K i F asg σ O H D' f E' g' → t D' σ H
structure GSs (X : Cx) (i : Nat) (asg : List Nat) (st : List Stmt) (t : TS) (m : MH Fl) : Prop where
  ps : PSs X st t
  rd : ∀ F O E g σ H (D' : Ends) f E' g', RelG X.K i F O E g σ H → m E g = some (f, E', g') → KGS X.K i F asg σ O H D' f E' g' → t D' σ H
def okFl : Fl → Bool
  | .rt (.dat _) => true
  | .rt _ => false
  | _ => true
def hLS (m : M Fl) : MH Fl := hB (hL m) fun f => if okFl f then hR f else fun _ _ => none
section
variable {X : Cx} {W : WX} {i : Nat} {e : Expr} {t : TE} {pos : Pos} {K : PySem.W.Frag}
theorem SS.gs {asg : List Nat} {st : Stmt} {t : TS} {m : M Fl} (h : SS X W asg st t m) (hia : i ∉ asg) : GS X i asg st t (hLS m) := by
  refine ⟨h.ps, fun F O E g σ H D' f E' g' R em k => ?_⟩
  obtain ⟨f1, E1, g1, e0, em1⟩ := hB_ok em
  obtain ⟨e1, rfl⟩ := hL_ok e0
  split at em1
  · rename_i hf
    cases em1
    obtain ⟨P, R1, bk⟩ := R.use
    refine h.rd _ O E σ H D' R1 ?_
    rw [e1]
    refine fun O' σ' H' v R' l ag => k O' σ' H' v ?_ l ag
    have lnk := ag i hia
    cases f with
    | nx => exact bk F O' E' σ' H' R' (fun x hx => .inl hx) l lnk
    | bk => exact bk F O' E' σ' H' R' (fun x hx => .inl hx) l lnk
    | ct => exact bk F O' E' σ' H' R' (fun x hx => .inl hx) l lnk
    | rt s =>
      cases s with
      | dat d => exact ⟨bk F O' E' σ' H' R'.1 (fun x hx => .inl hx) l lnk, R'.2⟩
      | un => cases hf
      | ow _ => cases hf
      | scr _ => cases hf
  · cases em1
theorem RelG.out {K : PySem.W.Frag} {F : Frm} {O : List Addr} {E : En} {g : Gh} {σ : L2.St} {H : Hp} (R : RelG K i F O E g σ H) : Rel K F O E σ H := by
  obtain ⟨p, q, vs, hi, R1, _⟩ := R
  exact R1.subF fun x hx => List.mem_cons_of_mem _ (List.mem_cons_of_mem _ hx)
end
section
variable {P : Program} {w : World} {K : PySem.W.Frag} {mg : Str → Option Value} {base : Heap}
theorem GSs.ex {X : Cx} {i : Nat} {asg asg' : List Nat} {st : List Stmt} {t : TS} {m : MH Fl} (h : GSs X i asg st t m) (hs : ∀ j ∈ asg, j ∈ asg') : ∃ t, GSs X i asg' st t m := ⟨t, h.ps, fun F O E g σ H D' f E' g' R em k => h.rd F O E g σ H D' f E' g' R em fun O' σ' H' v R' l ag => k O' σ' H' v R' l fun j hj => ag j fun z => hj (hs j z)⟩
end
end Bt
namespace Bt
open PySem L2
end Bt
namespace Bt
open PySem L2
end Bt
namespace Bt
open PySem L2 PySem.Spec PyProof.Rows
section
variable {P : Program} {w : World} {K : PySem.W.Frag} {mg : Str → Option Value} {base : Heap}
end
section
variable {X : Cx} {P : Program} {w : World} {K : PySem.W.Frag} {mg : Str → Option Value} {base : Heap} {e : Expr} {pos : Pos}
end
end Bt
namespace Bt
open PySem L2
section
variable {X : Cx} {W : WX} {e : Expr} {t : TE}
end
end Bt
namespace Bt
open PySem L2
section
variable {K : PySem.W.Frag} {F : Frm} {O : List Addr} {E : En} {σ : L2.St} {H : Hp}
end
section
variable {X : Cx} {W : WX} {e e1 e2 e3 : Expr} {es : List Expr} {t t1 t2 t3 : TE} {ts : TA} {K : PySem.W.Frag} {pos p pl : Pos} {x : Str} {P : Program} {w : World} {mg : Str → Option Value} {base : Heap}
end
end Bt
namespace Bt
open PySem L2
section
variable {X : Cx} {W : WX} {pos : Pos} {keys : List (Option Expr)} {values : List Expr} {trs : List (TE × TE)} {ms : M (List (Key × D))}
end
section
variable {X : Cx} {W : WX} {e : Expr} {es : List Expr} {t : TE} {ts : TA}
end
section
variable {E : En}
end
end Bt
namespace Bt
open PySem PySem.Spec PyProof.Rows L2
section
variable {prog : Program} {w : World} {A : Around} {E : Value → Shared → Prop} {s : Shared}
end
section
variable {X : Cx} {W : WX} {e tg : Expr}
end
section
variable {E : En}
end
end Bt
namespace Bt
open PySem PySem.Spec PyProof.Rows L2
structure ZlG (xs ys : Array Value) (lo : Addr) (h : Heap) (as : List Addr) : Prop where
  rise : as.Pairwise (· < ·)
  above : ∀ a ∈ as, lo ≤ a
  pairs : ∀ (j : Nat) (a : Addr), as[j]? = some a → ∃ x y, xs[j]? = some x ∧ ys[j]? = some y ∧ IsPair h a x y
theorem ZlG.there {xs ys : Array Value} {lo : Addr} {h : Heap} {as : List Addr} (g : ZlG xs ys lo h as) {a : Addr} (ha : a ∈ as) : a < h.objs.size := by
  obtain ⟨j, hj⟩ := List.mem_iff_getElem?.mp ha
  obtain ⟨_, _, _, _, e⟩ := g.pairs j a hj
  exact Heap.lt_size e
theorem ZlG.keep {xs ys : Array Value} {lo : Addr} {h h' : Heap} {as : List Addr} (g : ZlG xs ys lo h as) (k : ∀ b o, lo ≤ b → h.get? b = some o → h'.get? b = some o) : ZlG xs ys lo h' as := ⟨g.rise, g.above, fun j a hj => by
  obtain ⟨x, y, e1, e2, e3⟩ := g.pairs j a hj
  exact ⟨x, y, e1, e2, k a _ (g.above a (List.mem_of_getElem? hj)) e3⟩⟩
section
variable {prog : Program} {w : World} {A : Around} {s : Shared} {R : Result → Shared → Prop}
end
section
variable {prog : Program} {w : World} {A : Around} {E : Value → Shared → Prop} {s : Shared}
end
section
variable {X : Cx} {W : WX}
end
section
variable {E : En}
end
end Bt
namespace Bt
open PySem PySem.Spec PyProof.Rows L2
section
variable {X : Cx}
end
end Bt
namespace Bt
open PySem PySem.Spec PyProof.Rows L2
section
variable {X : Cx} {W : WX}
end
section
variable {E : En}
end
end Bt
namespace Bt
open PySem PySem.Spec PyProof.Rows _root_.SS
section
variable {prog : Program} {w : World} {A : Around} {R : Result → Shared → Prop} {I : Addr} {fp wr : List Addr} {G : Array GenState → Array GenState → Prop} {n : Nat} {P : Nat → Value → Prop} {St : Nat → Shared → Prop}
end

section
variable {prog : Program} {w : World} {A : Around} {E : Value → Shared → Prop} {s : Shared}
set_option maxHeartbeats 3200000 in
end
end Bt
namespace Bt
open PySem L2 PySem.Spec PyProof.Rows
section
variable {X : Cx} {W : WX}
end
end Bt
namespace Bt
open PySem L2 PySem.Spec PyProof.Rows
section
variable {X : Cx}
end
section
variable (vs : List Nat) (g : MG) (mt : M Bool) (me : M D) (E0 : En)
end
section
variable {X : Cx}
variable {W : WX}
end
end Bt
namespace Bt
open PySem L2 PySem.Spec PyProof.Rows
structure ZStD (z TI TO i1 i2 : Addr) (S1 S2 : Nat → Heap → Prop) (k : Nat) (h : Heap) : Prop where
  rc : ∃ f0 f1, (f0 = Value.none ∨ ∃ T : Addr, f0 = rawInt T) ∧ ZipR h z TI TO f0 f1 false
  ti : IsPair h TI (.ref i1) (.ref i2)
  to : ∃ x y, IsPair h TO x y
  s1 : S1 k h
  s2 : S2 k h
section
variable {prog : Program} {w : World} {A : Around} {E : Value → Shared → Prop} {s : Shared} {z TI TO i1 i2 : Addr} {fp1 fp2 : List Addr} {n1 n2 k : Nat} {P1 P2 : Nat → Value → Prop} {S1 S2 : Nat → Heap → Prop}
end
end Bt
namespace Bt
open PySem L2 PySem.Spec PyProof.Rows
abbrev S1z (i1 : Addr) (zt : Str) (t : Tok) : Nat → Heap → Prop := fun i h => h.IsStrIter i1 (strIterType zt) zt t i
abbrev S2z (i2 b : Addr) : Nat → Heap → Prop := fun i h => h.IsListIter i2 b i
theorem ZStD.map {z TI TO i1 i2 : Addr} {S1 S2 T2 : Nat → Heap → Prop} {k : Nat} {h : Heap} (st : ZStD z TI TO i1 i2 S1 S2 k h) (f : S2 k h → T2 k h) : ZStD z TI TO i1 i2 S1 T2 k h := ⟨st.rc, st.ti, st.to, st.s1, f st.s2⟩
theorem strIter_at {h h' : Heap} {a : Addr} {ty : String} {x : Str} {t : Tok} {i : Nat} (st : h.IsStrIter a ty x t i) (k : ∀ o, h.get? a = some o → h'.get? a = some o) : h'.IsStrIter a ty x t i := by
  obtain ⟨o, e, c, d⟩ := st
  exact ⟨o, k o e, c, d⟩
section
variable {X : Cx}
end
end Bt
namespace Bt
open PySem L2 PySem.Spec PyProof.Rows
section
variable {X : Cx} {W : WX}
end
section
variable {E : En}
end
structure ZtG (zt : Str) (ys : Array Value) (lo : Addr) (h : Heap) (as : List Addr) : Prop where
  rise : as.Pairwise (· < ·)
  above : ∀ a ∈ as, lo ≤ a
  pairs : ∀ (j : Nat) (a : Addr), as[j]? = some a → ∃ c u y, zt.cps[j]? = some c ∧ ys[j]? = some y ∧ IsPair h a (.str ⟨#[c]⟩ u) y
theorem ZtG.there {zt : Str} {ys : Array Value} {lo : Addr} {h : Heap} {as : List Addr} (g : ZtG zt ys lo h as) {a : Addr} (ha : a ∈ as) : a < h.objs.size := by
  obtain ⟨j, hj⟩ := List.mem_iff_getElem?.mp ha
  obtain ⟨_, _, _, _, _, e⟩ := g.pairs j a hj
  exact Heap.lt_size e
theorem ZtG.keep {zt : Str} {ys : Array Value} {lo : Addr} {h h' : Heap} {as : List Addr} (g : ZtG zt ys lo h as) (k : ∀ b o, lo ≤ b → h.get? b = some o → h'.get? b = some o) : ZtG zt ys lo h' as := ⟨g.rise, g.above, fun j a hj => by
  obtain ⟨c, u, y, e1, e2, e3⟩ := g.pairs j a hj
  exact ⟨c, u, y, e1, e2, k a _ (g.above a (List.mem_of_getElem? hj)) e3⟩⟩
abbrev ZtS (z TI TO i1 i2 l2 : Addr) (zt : Str) (t : Tok) (i : Nat) (h : Heap) : Prop := ZStD z TI TO i1 i2 (S1z i1 zt t) (S2z i2 l2) i h
theorem ZtS.at {z TI TO i1 i2 l2 : Addr} {zt : Str} {t : Tok} {i : Nat} {h h' : Heap} (st : ZtS z TI TO i1 i2 l2 zt t i h) (k : ∀ c o, c = z ∨ c = TI ∨ c = TO ∨ c = i1 ∨ c = i2 → h.get? c = some o → h'.get? c = some o) : ZtS z TI TO i1 i2 l2 zt t i h' := by
  obtain ⟨⟨f0, f1, hf, hz⟩, tt, ⟨x, y, u⟩, s1, s2⟩ := st
  exact ⟨⟨f0, f1, hf, k _ _ (.inl rfl) hz⟩, k _ _ (.inr (.inl rfl)) tt, ⟨x, y, k _ _ (.inr (.inr (.inl rfl))) u⟩, strIter_at s1 fun o e => k _ _ (.inr (.inr (.inr (.inl rfl)))) e, Heap.IsListIter.at s2 fun o e => k _ _ (.inr (.inr (.inr (.inr rfl)))) e⟩
section
variable {prog : Program} {w : World} {A : Around} {s : Shared} {R : Result → Shared → Prop}
end
section
variable {prog : Program} {w : World} {A : Around} {E : Value → Shared → Prop} {s : Shared}
end
section
variable {X : Cx} {W : WX}
end
section
variable {E : En}
end
end Bt
namespace Bt
open PySem L2 PySem.Spec PyProof.Rows
section
variable {X : Cx} {W : WX}
end
section
variable {E : En}
end
end Bt
namespace Bt
open PySem L2
abbrev Cs := List Ob
abbrev MC (α : Type) := Cs → M (α × Cs)
def cL {α : Type} (m : M α) : MC α := fun c => bnd m fun a => ret (a, c)
def refsOf (ms : Frm) : List V := ms.map fun m => V.ref m.1
def objs (p : Addr) (ms : Frm) : Frm := (p, HO.lst (refsOf ms)) :: ms
def Inj (P : Frm) : Prop := ∀ (k k' : Nat) (x y : Addr × HO), P[k]? = some x → P[k']? = some y → x.1 = y.1 → k = k'
def Ap (F P : Frm) : Prop := ∀ x ∈ F, ∀ y ∈ P, x.1 ≠ y.1
def RpC (K : PySem.W.Frag) (G : Hp) (ms : Frm) (c : Cs) : Prop := Paired (fun m o => RpO K G m.2 o) ms c
def RelC (K : PySem.W.Frag) (i : Nat) (F : Frm) (O : List Addr) (E : En) (c : Cs) (σ : L2.St) (H : Hp) : Prop :=
  ∃ p ms, σ[i]? = some (some (.ref p)) ∧ Rel K (objs p ms ++ F) O E σ H ∧ Inj (objs p ms) ∧ Ap F (objs p ms) ∧ RpC K (Mask O H) ms c
section
variable {K : PySem.W.Frag} {F F' : Frm} {O O' : List Addr} {E E' : En} {σ σ' : L2.St} {H H' : Hp} {c : Cs} {i : Nat}
theorem RpC.mono {G G' : Hp} (e : Same G G') : ∀ {ms : Frm} {c : Cs}, RpC K G ms c → RpC K G' ms c
  | _, _, .nil => .nil
  | _, _, .cons h r => .cons (h.mono e) (RpC.mono e r)
theorem RelC.use (R : RelC K i F O E c σ H) : ∃ P : Frm, Rel K (P ++ F) O E σ H ∧ ∀ (F' : Frm) O' E' σ' H', Rel K (P ++ F') O' E' σ' H' → (∀ x ∈ F', x ∈ F ∨ ∀ y ∈ P, x.1 ≠ y.1) → Le O H O' H' → σ'[i]? = σ[i]? → RelC K i F' O' E' c σ' H' := by
  obtain ⟨p, ms, hi, R1, hj, hF, r⟩ := R
  refine ⟨objs p ms, R1, fun F' O' E' σ' H' R' hF' l hs => ⟨p, ms, hs.trans hi, R', hj, fun x hx => ?_, r.mono l⟩⟩
  rcases hF' x hx with hx | hx
  · exact hF x hx
  · exact hx
theorem RelC.out (R : RelC K i F O E c σ H) : Rel K F O E σ H := by
  obtain ⟨p, ms, hi, R1, _⟩ := R
  exact R1.subF fun x hx => List.mem_append_right _ hx
theorem RelC.outP {P : Frm} (R : Rel K (P ++ F) O E σ H) : Rel K F O E σ H := R.subF fun x hx => List.mem_append_right _ hx
theorem mem_set_erase {α : Type} {l : List α} {k : Nat} {a x : α} (h : x ∈ l.set k a) : x = a ∨ ∃ j, j ≠ k ∧ l[j]? = some x := by
  obtain ⟨j, hj⟩ := List.mem_iff_getElem?.mp h
  by_cases e : k = j
  · subst e
    by_cases hk : k < l.length
    · rw [List.getElem?_set_self hk] at hj
      cases hj
      exact .inl rfl
    · rw [List.getElem?_eq_none (by rw [List.length_set]; omega)] at hj; cases hj
  · rw [List.getElem?_set_ne e] at hj
    exact .inr ⟨j, Ne.symm e, hj⟩
theorem Rel.updM {k : Nat} {p : Addr} {o o' : HO} (R : Rel K F O E σ H) (hk : F[k]? = some (p, o)) (hF : ∀ (j : Nat) (x : Addr × HO), j ≠ k → F[j]? = some x → x.1 ≠ p) (ho' : ¬ OddO o' := by first | exact notOdd_lst | exact notOdd_dK | exact notOdd_ext | assumption) : Rel K (F.set k (p, o')) O E σ (upd H p o') := by
  have R1 : Rel K ((p, o) :: F.eraseIdx k) O E σ H := R.subF fun x hx => by
    rcases List.mem_cons.mp hx with rfl | hx
    · exact List.mem_of_getElem? hk
    · exact List.mem_of_mem_eraseIdx hx
  have R2 := R1.updF (o' := o') fun x hx => by
    obtain ⟨j, hj, e⟩ := List.mem_eraseIdx_iff_getElem?.mp hx
    exact hF j x hj e
  refine R2.subF fun x hx => ?_
  rcases mem_set_erase hx with rfl | ⟨j, hj, e⟩
  · exact List.mem_cons_self
  · exact List.mem_cons_of_mem _ (List.mem_eraseIdx_iff_getElem?.mpr ⟨j, hj, e⟩)
theorem RpC.get {G : Hp} : ∀ {ms : Frm} {c : Cs} {j : Nat} {o : Ob}, RpC K G ms c → c[j]? = some o → ∃ m, ms[j]? = some m ∧ RpO K G m.2 o
  | _, _, _, _, .nil, e => by simp at e
  | _, _, 0, _, .cons h _, e => by simp at e; subst e; exact ⟨_, rfl, h⟩
  | _, _, j + 1, o, .cons _ r, e => by
    obtain ⟨m, h1, h2⟩ := RpC.get (j := j) (o := o) r (by simpa using e)
    exact ⟨m, by simpa using h1, h2⟩
theorem RpC.set {G : Hp} {m : Addr × HO} {o : Ob} (h : RpO K G m.2 o) : ∀ {ms : Frm} {c : Cs} (j : Nat), RpC K G ms c → RpC K G (ms.set j m) (c.set j o)
  | _, _, _, .nil => .nil
  | _, _, 0, .cons _ r => .cons h r
  | _, _, j + 1, .cons q r => .cons q (RpC.set h j r)
theorem RpC.length {G : Hp} : ∀ {ms : Frm} {c : Cs}, RpC K G ms c → ms.length = c.length
  | _, _, .nil => rfl
  | _, _, .cons _ r => by rw [List.length_cons, List.length_cons, RpC.length r]
theorem inj_set {P : Frm} {k : Nat} {q : Addr} {o o' : HO} (h : P[k]? = some (q, o)) (hP : Inj P) : Inj (P.set k (q, o')) := by
  have key : ∀ (j : Nat) (x : Addr × HO), (P.set k (q, o'))[j]? = some x → ∃ y, P[j]? = some y ∧ y.1 = x.1 := fun j x e => by
    by_cases ej : k = j
    · subst ej
      rw [List.getElem?_set_self (List.getElem?_eq_some_iff.mp h).1] at e
      cases e
      exact ⟨_, h, rfl⟩
    · rw [List.getElem?_set_ne ej] at e
      exact ⟨x, e, rfl⟩
  intro a b x y e1 e2 e3
  obtain ⟨x', f1, g1⟩ := key a x e1
  obtain ⟨y', f2, g2⟩ := key b y e2
  exact hP a b x' y' f1 f2 (by rw [g1, g2, e3])
theorem ap_set {P : Frm} {k : Nat} {q : Addr} {o o' : HO} (h : P[k]? = some (q, o)) (hF : Ap F P) : Ap F (P.set k (q, o')) := fun x hx y hy => by
  rcases mem_set_erase hy with rfl | ⟨j, _, e⟩
  · exact hF x hx (q, o) (List.mem_of_getElem? h)
  · exact hF x hx y (List.mem_of_getElem? e)
end
def RelCE (K : PySem.W.Frag) (i : Nat) (F : Frm) (O' : List Addr) (E' : En) (c : Cs) (σ' : L2.St) (H' : Hp) (v : V) : Fl → Prop
  | .nx => RelC K i F O' E' c σ' H'
  | .bk => RelC K i F O' E' c σ' H'
  | .ct => RelC K i F O' E' c σ' H'
  | .rt s => RelE K F O' E' σ' H' v (.rt s)
abbrev KCS (K : PySem.W.Frag) (i : Nat) (F : Frm) (asg : List Nat) (σ : L2.St) (O : List Addr) (H : Hp) (D' : Ends) : Fl × Cs → En → Prop := fun z E' => ∀ O' σ' H' v, RelCE K i F O' E' z.2 σ' H' v z.1 → Le O H O' H' → Agr asg σ σ' → EndV σ' H' D' v z.1
structure CS (X : Cx) (W : WX) (i : Nat) (asg : List Nat) (st : Stmt) (t : TS) (m : MC Fl) : Prop where
  ps : PS X st t
  rd : ∀ F O E c σ H (D' : Ends), RelC X.K i F O E c σ H → Sat (m c E) (KCS X.K i F asg σ O H D') (KXs X.K X.mg F asg σ O H W) → t D' σ H
structure CSs (X : Cx) (W : WX) (i : Nat) (asg : List Nat) (st : List Stmt) (t : TS) (m : MC Fl) : Prop where
  ps : PSs X st t
  rd : ∀ F O E c σ H (D' : Ends), RelC X.K i F O E c σ H → Sat (m c E) (KCS X.K i F asg σ O H D') (KXs X.K X.mg F asg σ O H W) → t D' σ H
section
variable {X : Cx} {W : WX} {i : Nat} {e : Expr} {t : TE} {pos : Pos} {K : PySem.W.Frag}
theorem SS.cs {asg : List Nat} {st : Stmt} {t : TS} {m : M Fl} (h : SS X W asg st t m) (hia : i ∉ asg) : CS X W i asg st t (cL m) := by
  refine ⟨h.ps, fun F O E c σ H D' R s => ?_⟩
  obtain ⟨P, R1, bk⟩ := R.use
  refine h.rd _ O E σ H D' R1 (s.bnd.mono (fun f E' k O' σ' H' v R' l ag => ?_) (fun x E' k O' σ' H' c dd R' l ag ex => k O' σ' H' c dd (RelC.outP R') l ag ex))
  refine k O' σ' H' v ?_ l ag
  have lnk := ag i hia
  cases f with
  | nx => exact bk F O' E' σ' H' R' (fun x hx => .inl hx) l lnk
  | bk => exact bk F O' E' σ' H' R' (fun x hx => .inl hx) l lnk
  | ct => exact bk F O' E' σ' H' R' (fun x hx => .inl hx) l lnk
  | rt s =>
    cases s with
    | dat d => exact ⟨RelC.outP R'.1, R'.2⟩
    | ow ob =>
      obtain ⟨p, ho, e, R2, hF, r⟩ := R'
      exact ⟨p, ho, e, R2.subF fun x hx => by
        rcases List.mem_cons.mp hx with rfl | hx
        · exact List.mem_cons_self
        · exact List.mem_cons_of_mem _ (List.mem_append_right _ hx), fun x hx => hF x (List.mem_append_right _ hx), r⟩
    | un => exact R'.elim
    | scr _ => exact R'.elim
theorem RelC.forgets {F : Frm} {O : List Addr} {E : En} {c : Cs} {σ : L2.St} {H : Hp} (R : RelC K i F O E c σ H) (ws : List Nat) : RelC K i F O (wipeE E ws) c σ H := by
  obtain ⟨p, ms, hi, R1, hj, hF, r⟩ := R
  exact ⟨p, ms, hi, R1.forgets ws, hj, hF, r⟩
end
end Bt
namespace Bt
open PySem L2
section
end
section
variable (vs : List Nat) (g : MG) (me : M Ob) (E0 : En)
end
theorem RpC.append {K : PySem.W.Frag} {G : Hp} {m : Addr × HO} {o : Ob} (h : RpO K G m.2 o) : ∀ {ms : Frm} {c : Cs}, RpC K G ms c → RpC K G (ms ++ [m]) (c ++ [o])
  | _, _, .nil => .cons h .nil
  | _, _, .cons q r => .cons q (RpC.append h r)
section
variable {X : Cx} {W : WX} {i : Nat} {K : PySem.W.Frag}
end
end Bt
namespace Bt
open PySem L2
section
variable {X : Cx} {W : WX} {i : Nat} {K : PySem.W.Frag} {pos : Pos}
end
section
variable (vs : List Nat) (j : Nat) (me : M D) (E0 : En)
end
section
variable {X : Cx} {W : WX} {i : Nat} {K : PySem.W.Frag}
theorem CS.one {a1 : List Nat} {st : Stmt} {t : TS} {m : MC Fl} (h : CS X W i a1 st t m) : CSs X W i a1 [st] t m := ⟨pss_one h.ps, h.rd⟩
end
end Bt
namespace Bt
open PySem L2
section
variable {K : PySem.W.Frag} {F : Frm} {O : List Addr} {E : En} {σ : L2.St} {H : Hp} {i : Nat} {ds : List D}
end
section
variable {X : Cx} {W : WX}
end
section
variable (E : En) (c : Cs)
end
end Bt
namespace Bt
open PySem L2
def insL {α : Type} (xs : List α) (k : Nat) (y : α) : List α := xs.take k ++ y :: xs.drop k
theorem RpAll.ins {K : PySem.W.Frag} {G : Hp} {xs : List V} {ds : List D} {v : V} {d : D} (h : RpAll K G xs ds) (r : Rp K G v d) (k : Nat) : RpAll K G (insL xs k v) (insL ds k d) := (h.take k).append (.cons r (h.drop k))
end Bt
namespace Bt
open PySem L2
section
variable {X : Cx} {x1 x2 n : Str} {c1 c2 : Value} {i : Nat} {body sts1 sts2 : List Stmt} {s1 s2 : Stmt} {np1 np2 pos hpos1 hpos2 : Pos} {tb : WX → TS} {ts1 ts2 : TS} {Wout : WX}
end
section
variable {X : Cx} {W : WX}
end
end Bt
namespace Bt
open PySem L2 PySem.Spec PyProof.Rows
def hidA (H : Hp) (l : Addr) : Hp := fun b => if b = l then none else H b
theorem hid_ne {H : Hp} {l b : Addr} (h : b ≠ l) : hidA H l b = H b := if_neg h
def Soft (o : HO) : Prop := (∃ xs, o = .lst xs) ∨ ∃ φ, o = .ext φ
theorem Soft.hid {H : Hp} {l : Addr} {o u : HO} (s : Soft o) (h : H l = some o) {b : Addr} (e : H b = some u) (n : ¬ Soft u) : hidA H l b = some u := by
  rw [hid_ne (fun z => n (by rw [z, h] at e; cases e; exact s))]; exact e
section
variable {X : Cx} {pins : List (Addr × Obj)} {σ : L2.St} {H : Hp} {s s' : Shared} {l : Addr} {o : HO}
end
end Bt
namespace Bt
open PySem L2 PySem.Spec PyProof.Rows
structure Lam0 (L : LamD) (x : Str) : Prop where
  sc : FnScope [x] [x] L.scope
  bind : ∀ (pm cv ctv u : Value), bindArgs (PySem.W.kla_fn "<lambda>" L.qual L.params L.body L.scope [] pm cv ctv) ⟨[u], []⟩ = pure [(x, u)]
  body : ∃ (p1 p2 p3 : Pos) (k : Nat), L.body = .Subscript (.Name x p1) (.Constant (.int 0) k p2) p3
  vis : Vis L.scope x
  d1 : (x == ("__debug__" : Str)) = false
  d2 : (x == ("__classdict__" : Str)) = false
def t0 (K : PySem.W.Frag) : TE := tOp (rIxT K) (tVar 0) (tC (.int 0))
theorem Lam0.pe {X : Cx} {L : LamD} {x : Str} {f c' : Addr} {H : Hp} (h : Lam0 L x) (A : Around) (s0 : Shared) : PE (cxOf CX0 X.prog X.w X.K X.mg X.base [x] L.qual L.scope f (.ref c') A X.stack s0 H E0).nox L.body (t0 X.K) := by
  obtain ⟨p1, p2, p3, k, e⟩ := h.body
  rw [e]
  exact pe_ix ix_tup (pe_var (i := 0) rfl h.vis h.d1 h.d2) pe_int (fun _ _ => rfl)
end Bt
namespace Bt
open PySem L2 PySem.Spec PyProof.Rows
section
variable {X : Cx} {W : WX} {e : Expr} {t : TE} {pos : Pos}
end
section
variable {P : Program} {w : World} {K : PySem.W.Frag} {mg : Str → Option Value} {base : Heap}
end
end Bt
namespace Bt
open PySem L2 PySem.Spec PyProof.Rows
abbrev tabO : Obj := { cls := .none, data := .fields #[] }
def hpT (Ts : List Addr) (z : Option (Addr × HO)) : Hp := fun b => match z with
  | some (a, o) => if b = a then some o else if b ∈ Ts then some (.tbl #[]) else none
  | none => if b ∈ Ts then some (.tbl #[]) else none
structure EndT (P : Program) (w : World) (K : PySem.W.Frag) (mg mb : Str → Option Value) (a : Addr) (cs : List (Addr × Addr)) (s1 : Shared) (vs : List Value) (ns : List Int) : Prop where
  KX : K.In s1.heap
  hns : s1.heap.Ns mainGlobals mg
  hb : s1.heap.Ns builtinsNs mb
  hbb : ∀ x : Str, x ≠ "__name__" → mb x = bootBuiltins x
  lim : s1.heap.NoLimit
  gens : s1.gens = #[]
  tabs : ∀ p ∈ cs, s1.heap.get? p.2 = some tabO
  noK : ∀ p ∈ cs, K.lookup p.2 = none
  hds : ∀ p ∈ cs, PySem.W.CodeHd s1.heap p.1 p.2
  bmain : ∃ (bm : Addr) (ob : Obj), mg "__builtins__" = some (.ref bm) ∧ bm ≠ builtinsNs ∧ s1.heap.get? bm = some ob ∧ ob.cls = .type "module" ∧ ob.dict = some builtinsNs ∧ ob.data = .plain
  ha : s1.heap.get? a = some { cls := .type "list", data := .seq vs.toArray }
  hi : IntsAre vs ns
  hl : ns.length ≤ sizeLine
section
variable {P : Program} {w : World} {K : PySem.W.Frag} {mg mb : Str → Option Value} {a : Addr} {cs : List (Addr × Addr)} {s1 : Shared} {vs : List Value} {ns : List Int} {H : Hp}
theorem EndT.isT (T : EndT P w K mg mb a cs s1 vs ns) {b : Addr} (h : b ∈ cs.map (·.2)) : s1.heap.get? b = some tabO := by
  obtain ⟨p, hp, rfl⟩ := List.mem_map.mp h
  exact T.tabs p hp
theorem EndT.aT (T : EndT P w K mg mb a cs s1 vs ns) : a ∉ cs.map (·.2) := fun z => by
  have q := T.isT z
  rw [T.ha] at q
  have z' : Data.seq vs.toArray _ = Data.fields #[] := congrArg Obj.data (Option.some.inj q)
  cases z'
structure FirstH (P : Program) (w : World) (K : PySem.W.Frag) (a : Addr) (cs : List (Addr × Addr)) (s1 : Shared) (ns : List Int) (H : Hp) : Prop where
  tb : ∀ p ∈ cs, H p.2 = some (.tbl #[])
  only : ∀ b, H b = none ∨ b ∈ cs.map (·.2) ∨ ∃ o xs, H b = some (.frz o (.lst xs))
  sq : SqL K H a (ns.map V.int)
  hok : HOk P w H s1.heap
  at_ : ∀ b, H b ≠ none → b = a ∨ b ∈ cs.map (·.2)
  ka : H a ≠ none → K.lookup a = none
theorem EndT.hid (T : EndT P w K mg mb a cs s1 vs ns) (F : FirstH P w K a cs s1 ns H) {b : Addr} {o : Obj} (e : s1.heap.get? b = some o) (h1 : ∀ us n, o.data ≠ .seq us n) (h2 : o.data ≠ .fields #[]) : H b = none := by
  cases q : H b with
  | none => rfl
  | some u =>
    rcases F.at_ b (by rw [q]; exact fun z => nomatch z) with rfl | h
    · rw [T.ha] at e; cases e; exact (h1 _ _ rfl).elim
    · rw [T.isT h] at e; cases e; exact (h2 rfl).elim
theorem EndT.ns1 (T : EndT P w K mg mb a cs s1 vs ns) (F : FirstH P w K a cs s1 ns H) {b : Addr} {m : Str → Option Value} (h : s1.heap.Ns b m) : (hidT s1.heap H).Ns b m := by
  obtain ⟨o, es, ep, e, d, r⟩ := h
  exact ⟨o, es, ep, hidT_get e (T.hid F e (fun us n z => by rw [d] at z; cases z) (fun z => by rw [d] at z; cases z)), d, r⟩
theorem EndT.kb (T : EndT P w K mg mb a cs s1 vs ns) (F : FirstH P w K a cs s1 ns H) : K.In (hidT s1.heap H) := fun b o e => hidT_get (T.KX b o e) (by
  cases q : H b with
  | none => rfl
  | some u =>
    rcases F.at_ b (by rw [q]; exact fun z => nomatch z) with rfl | h
    · rw [F.ka (by rw [q]; exact fun z => nomatch z)] at e; cases e
    · obtain ⟨p, hp, rfl⟩ := List.mem_map.mp h
      rw [T.noK p hp] at e; cases e)
theorem EndT.tabB (T : EndT P w K mg mb a cs s1 vs ns) (F : FirstH P w K a cs s1 ns H) {p : Addr × Addr} (hp : p ∈ cs) : LamX.TabB (hidT s1.heap H) mg p.1 p.2 := by
  have tp := T.tabs p hp
  obtain ⟨go, ges, gep, ge, gd, gr⟩ := T.hns
  refine ⟨?_, ?_, fun z => by rw [z, tp] at ge; cases ge; cases gd⟩
  · obtain ⟨o, us, file, tf, flags, tg, inF, text, tt, e1, r1, r2, r3, rs⟩ := T.hds p hp
    refine ⟨o, us, file, tf, flags, tg, inF, text, tt, hidT_get e1 (T.hid F e1 (fun xs n z => by rw [r2] at z; cases z) (fun z => ?_)), r1, r2, r3, rs⟩
    rw [r2] at z
    cases z
    simp at r3
  · obtain ⟨bm, ob, b1, b2, b3, b4, b5, b6⟩ := T.bmain
    refine ⟨bm, ob, b1, b2, fun q => ?_, fun q => ?_, hidT_get b3 (T.hid F b3 (fun xs n z => by rw [b6] at z; cases z) (fun z => by rw [b6] at z; cases z)), b4, b5, b6⟩
    · rw [q, ge] at b3; cases b3; rw [gd] at b6; cases b6
    · rw [q, tp] at b3; cases b3; cases b6
theorem EndT.first (T : EndT P w K mg mb a cs s1 vs ns) : ∃ H, FirstH P w K a cs s1 ns H := by
  have rv := vals_ints T.hi
  have lv := T.hi.length
  have mT : ∀ p ∈ cs, p.2 ∈ cs.map (·.2) := fun p hp => List.mem_map.mpr ⟨p, hp, rfl⟩
  have aT := T.aT
  cases hk : K.lookup a with
  | some o =>
    have e := T.KX a o hk
    rw [T.ha] at e
    cases e
    refine ⟨hpT (cs.map fun p : Addr × Addr => p.2) none, fun p hp => if_pos (mT p hp), fun b => ?_, .inr ⟨_, vs.toArray, _, hk, rfl, rfl, rfl, by rw [List.size_toArray, lv]; exact T.hl, by simpa using rv⟩, fun b u z => ?_, fun b z => ?_, fun z => absurd (if_neg aT) z⟩
    · by_cases hb : b ∈ cs.map (·.2)
      · exact .inr (.inl hb)
      · exact .inl (if_neg hb)
    · by_cases hb : b ∈ cs.map (·.2)
      · cases (if_pos hb).symm.trans z; exact T.isT hb
      · cases (if_neg hb).symm.trans z
    · by_cases hb : b ∈ cs.map (·.2)
      · exact .inr hb
      · exact absurd (if_neg hb) z
  | none =>
    have neA : ∀ p ∈ cs, p.2 ≠ a := fun p hp z => aT (by rw [← z]; exact mT p hp)
    refine ⟨hpT (cs.map fun p : Addr × Addr => p.2) (some (a, .frz { cls := .type "list", data := .seq vs.toArray } (.lst (ns.map V.int)))), fun p hp => (if_neg (neA p hp)).trans (if_pos (mT p hp)), fun b => ?_, .inl (.inr ⟨_, if_pos rfl⟩), fun b u z => ?_, fun b z => ?_, fun _ => hk⟩
    · by_cases ha : b = a
      · exact .inr (.inr ⟨_, _, if_pos ha⟩)
      · by_cases hb : b ∈ cs.map (·.2)
        · exact .inr (.inl hb)
        · exact .inl ((if_neg ha).trans (if_neg hb))
    · by_cases ha : b = a
      · cases (if_pos ha).symm.trans z
        subst ha
        exact ⟨T.ha, by rw [List.length_map]; exact T.hl, vs, _, rv, T.ha⟩
      · have z1 := (if_neg ha).symm.trans z
        by_cases hb : b ∈ cs.map (·.2)
        · cases (if_pos hb).symm.trans z1; exact T.isT hb
        · cases (if_neg hb).symm.trans z1
    · by_cases ha : b = a
      · exact .inl ha
      · by_cases hb : b ∈ cs.map (·.2)
        · exact .inr hb
        · exact absurd ((if_neg ha).trans (if_neg hb)) z
theorem law_callT {CX : CXT} {k : Nat} {fa : Addr} {fd : FuncData} {x : Str} {sp : Sp} (T : EndT P w K mg mb a cs s1 vs ns) (hr : Room k callerA)
    (F : ∀ base : Heap, K.In base → base.Ns mainGlobals mg → (∀ p ∈ cs, LamX.TabB base mg p.1 p.2) → FnG P w K mg base CX k fa fd [x] sp) (hbind : ∀ (s : Shared) (u : Value), BindsTo s fd ⟨[u], []⟩ [(x, u)])
    (hsp : ∀ H : Hp, (∀ p ∈ cs, H p.2 = some (.tbl #[])) → (∀ b, H b = none ∨ b ∈ cs.map (·.2) ∨ ∃ o xs, H b = some (.frz o (.lst xs))) → SqL K H a (ns.map V.int) → sp [.ref a] H (fun v _ => v = .bl true) fun _ _ _ => False) (hCX : ∀ H e s', CX [] H s1 (fun _ _ _ => False) e s' → False) :
    codeAny (model P w) callerA (.call (.ref fa) ⟨[.ref a], []⟩) (fun r s' => r = .ok (.ret (.bool true)) ∧ OldK s1.heap s'.heap ∧ s'.os = s1.os ∧ AllBare s'.gens) s1 := by
  obtain ⟨H, G⟩ := T.first
  have hM : L2.Mod K mg (hidT s1.heap H) := ⟨T.kb G, T.ns1 G T.hns, ⟨mb, T.ns1 G T.hb, T.hbb⟩, by obtain ⟨mc, h1, h2⟩ := T.lim; exact ⟨mc, T.ns1 G h1, h2⟩⟩
  have e0 : Env0 P w K mg (hidT s1.heap H) callerA [] s1 H := ⟨rfl, hM, fun b o e => of_hidT e, Nat.le_of_eq (hidT_size _ _), trivial, fun b hb => absurd (show b ∈ ([] : List Addr) from hb) (by simp), G.hok, .of_eq T.gens⟩
  have run := (F _ (T.kb G) (T.ns1 G T.hns) fun p hp => T.tabB G hp).run callerA [] s1 H ⟨[.ref a], []⟩ [.ref a] [.ref a] _ _ hr rfl e0 (hbind s1 (.ref a)) (.cons rfl .nil) (hsp H G.tb G.only G.sq)
  refine codeAny_mono run fun r s' h => ?_
  cases r with
  | error e => exact (hCX H e s' h).elim
  | ok fl =>
    cases fl with
    | next => exact False.elim h
    | brk => exact False.elim h
    | cont => exact False.elim h
    | ret u =>
      obtain ⟨v, H2, os, bare, un, hok2, r2, q⟩ := h
      cases (show v = .bl true from q)
      cases (show u = Value.bool true from r2)
      have same : ∀ b o, b ∉ cs.map (·.2) → s1.heap.get? b = some o → s'.heap.get? b = some o := fun b o nb e => by
        rcases G.only b with z | z | ⟨ob, xs, z⟩
        · exact un.keep b o e z (fun y => absurd (show b ∈ ([] : List Addr) from y) (by simp)) (by simp)
        · exact absurd z nb
        · obtain ⟨e1, _⟩ := G.hok b _ z
          obtain ⟨e2, _⟩ := hok2 b _ (un.frzs b ob _ z)
          rw [e] at e1; cases e1
          exact e2
      have grown : ∀ p ∈ cs, ∃ more : Array Value, s'.heap.get? p.2 = some { cls := .none, data := .fields more } := fun p hp => by
        obtain ⟨more, z⟩ := un.tbls p.2 #[] (G.tb p hp)
        exact ⟨_, hok2 p.2 _ z⟩
      refine ⟨rfl, ⟨fun b o e => ?_, fun b o e => ?_⟩, os, bare⟩
      · by_cases hb : b ∈ cs.map (·.2)
        · obtain ⟨p, hp, rfl⟩ := List.mem_map.mp hb
          obtain ⟨more, hm⟩ := grown p hp
          rw [T.tabs p hp] at e
          cases e
          exact .inr (.inl ⟨((T.hds p hp).tab (T.tabs p hp)).isCodeTable, rfl, #[], more, rfl, by rw [Array.empty_append]; exact hm⟩)
        · exact .inl (same b o hb e)
      · by_cases hb : b ∈ cs.map (·.2)
        · obtain ⟨p, hp, rfl⟩ := List.mem_map.mp hb
          obtain ⟨more, hm⟩ := grown p hp
          exact ⟨_, hm⟩
        · exact ⟨o, same b o hb e⟩
end
def LawT (l : PySem.W.OpenLaw) (w : World) (K : PySem.W.Frag) (k n : Nat) (x : Str) (mg : Str → Option Value) (fa : Addr) (h : Heap) : Prop :=
  ∃ (fd : FuncData) (cs : List (Addr × Addr)) (sp : Sp), (∀ p ∈ cs, h.get? p.2 = some tabO) ∧ (∀ p ∈ cs, K.lookup p.2 = none) ∧ (∀ p ∈ cs, PySem.W.CodeHd h p.1 p.2) ∧ (∀ (s : Shared) (u : Value), BindsTo s fd ⟨[u], []⟩ [(x, u)]) ∧
    (∀ (H : Hp) (a : Addr) (ns : List Int), ns.length ≤ n → (∀ p ∈ cs, H p.2 = some (.tbl #[])) → (∀ b, H b = none ∨ b ∈ cs.map (·.2) ∨ ∃ o xs, H b = some (.frz o (.lst xs))) → SqL K H a (ns.map V.int) → sp [.ref a] H (fun v _ => v = .bl true) fun _ _ _ => False) ∧
    ∀ base : Heap, K.In base → base.Ns mainGlobals mg → (∀ p ∈ cs, LamX.TabB base mg p.1 p.2) → FnG l.prog w K mg base CX0 k fa fd [x] sp
theorem walk_ofT {l : PySem.W.OpenLaw} {n k : Nat} {q : Program} {loose : List Str} {XP : (Str → Option Value) → Heap → Prop} {YP : World → Heap → Prop} {d : DefRec} {K : Params → PySem.W.Frag} {x : Str}
    (hn : l.most = some n) (hn2 : n ≤ sizeLine) (hdf : d.params.defaults = []) (hr : Room k callerA) (hY : ∀ (w : World) (h : Heap), YP w h → (K w.params).In h)
    (F : ∀ (w : World) (mg : Str → Option Value) (fa : Addr) (h : Heap), YP w h → (K w.params).In h → h.Ns mainGlobals mg → mg d.name = some (.ref fa) → LawT l w (K w.params) k n x mg fa h) :
    PySem.W.WalkO q loose XP YP l.row.toRowW d [] (fun f vs => PySem.call f vs) := by
  refine Att.attach_call hn hdf fun w s0 s1 mg mb fa o pm cd doc a vs ns G Y ho hd hcd hmg hobj hints hlen hg => ?_
  have KX := hY w _ Y
  obtain ⟨fd, cs, sp, h1, h2, h3, hb, hs, hF⟩ := F w mg fa _ Y KX G.T.g hmg
  exact law_callT ⟨KX, G.T.g, G.T.b, G.T.builtins, G.T.nolimit, hg, h1, h2, h3, G.T.bmain, hobj, hints, Nat.le_trans hlen hn2⟩ hr hF hb (fun H t1 t2 t3 => hs H a ns hlen t1 t2 t3) fun H e s' z => z
end Bt
namespace Bt
open PySem L2 PySem.Spec PyProof.Rows
theorem rel_law {K : PySem.W.Frag} {H : Hp} {a : Addr} {ns : List Int} {cs : List (Addr × Addr)} (hS : SqL K H a (ns.map V.int)) (ht : ∀ p ∈ cs, H p.2 = some (.tbl #[])) (hc : ∀ x ∈ lamDefs, ∀ c P, PySem.W.tabIn K x = some (c, P) → (c, P) ∈ cs) : Rel K [] (cs.map (·.2)) [.scr ns] [some (.ref a)] H := by
  refine ⟨rfl, fun p hp => ?_, fun x hx c P e => ?_, fun i s e => ?_, fun i j ds es p e1 _ _ _ => ?_, fun x hx => (by cases hx), fun i ds p e1 _ x hx => (by cases hx), fun x hx => (by cases hx)⟩
  · obtain ⟨q, hq, rfl⟩ := List.mem_map.mp hp
    rw [ht q hq]; exact fun z => nomatch z
  · have h1 := hc x hx c P e
    refine ⟨List.mem_map.mpr ⟨_, h1, rfl⟩, #[], ht _ h1, True.intro, fun pos cv q => ?_⟩
    have z : codeAmong pos [] = some cv := q
    simp [codeAmong] at z
  · match i, e with
    | 0, e =>
      cases e
      refine ⟨a, rfl, ?_⟩
      have na : ∀ o, H a = some o → (∀ ps, o ≠ .tbl ps) → Mask (cs.map (·.2)) H a = some o := fun o e n => by
        rw [mask_out fun z => ?_]
        · exact e
        · obtain ⟨q, hq, z⟩ := List.mem_map.mp z
          have := ht q hq
          rw [show q.2 = a from z, e] at this
          cases this
          exact n _ rfl
      rcases hS with (z | ⟨o, z⟩) | z
      · exact .inl (.inl (na _ z fun _ y => nomatch y))
      · exact .inl (.inr ⟨o, na _ z fun _ y => nomatch y⟩)
      · exact .inr z
  · match i, e1 with
    | 0, e1 => cases e1
theorem tabIn_none {K : PySem.W.Frag} {x : Str} (a : PySem.W.nsIn K mainGlobals x = some none) : PySem.W.tabIn K x = none := by
  unfold PySem.W.tabIn
  rw [a]
end Bt
namespace Bt
open PySem L2
section
variable {X : Cx} {W : WX}
end
end Bt
namespace Bt
open PySem L2 PySem.Spec PyProof.Rows NdefX
end Bt
namespace Bt
open PySem L2 PySem.Spec PyProof.Rows NdefX
section
variable {X : Cx} {W : WX} {n : Int} {fn fv x : Str} {i k : Nat} {g : Addr} {fd : FuncData} {ps : List Str} {sp : Sp} {e : Expr} {t : TE} {p pos : Pos}
end
end Bt
namespace Bt
open PySem L2 PySem.Spec PyProof.Rows
end Bt
namespace Bt
open PySem L2 PySem.Spec PyProof.Rows
section
variable {P : Program} {w : World} {K : PySem.W.Frag} {mg : Str → Option Value} {base : Heap}
end
end Bt
namespace Bt
open PySem L2
section
variable {K : PySem.W.Frag} {F : Frm} {O : List Addr} {E : En} {σ : L2.St} {H : Hp}
end
section
variable {X : Cx} {W : WX} {P : Program} {w : World} {K : PySem.W.Frag} {mg : Str → Option Value} {base : Heap} {e : Expr} {pos : Pos}
end
end Bt
namespace Bt
open PySem L2
theorem vals_ints : ∀ {ns : List Int} {us : List Value}, Vals (ns.map V.int) us → ∀ (i : Nat) (u : Value), us[i]? = some u → ∃ n t, ns[i]? = some n ∧ u = .int n t
  | [], _, .nil, i, u, h => by simp at h
  | n :: ns, _, .cons r rr, 0, u, h => by
    simp at h
    subst h
    obtain ⟨t, e⟩ := r
    exact ⟨n, t, rfl, e⟩
  | n :: ns, _, .cons r rr, i + 1, u, h => by
    obtain ⟨n', t, h1, h2⟩ := vals_ints rr i u (by simpa using h)
    exact ⟨n', t, by simpa using h1, h2⟩
end Bt
namespace Bt
open PySem L2
section
variable {X : Cx} {W : WX} {e e2 : Expr} {t : TE} {m : M Ob}
end
section
variable {E : En}
end
end Bt
namespace Bt
open PySem L2 PySem.W
section
variable {X : Cx} {W : WX} {e e2 : Expr} {t : TE} {m : M Ag}
end
section
variable {E : En}
end
end Bt
namespace Bt
open PySem L2 PySem.W
section
variable {X : Cx} {W : WX} {i j : Nat} {e : Expr} {t : TE} {K : PySem.W.Frag} {pos p : Pos} {x : Str} {P : Program} {w : World} {mg : Str → Option Value} {base : Heap}
end
section
variable {P : Program} {w : World} {K : PySem.W.Frag} {mg : Str → Option Value} {base : Heap}
end
section
variable {X : Cx} {W : WX} {e : Expr} {es : List Expr} {t : TE} {ts : TA}
end
section
variable {X : Cx} {W : WX} {k : Nat} {f : Addr} {fd : FuncData} {ps : List Str} {Fm : M Sl} {x : Str} {p pos : Pos} {e : Expr} {es : List Expr} {ts : TA} {ms : M (List Ag)}
end
end Bt
namespace Bt
open PySem L2 PySem.W
structure CE (X : Cx) (W : WX) (i : Nat) (e : Expr) (t : TE) (m : Cs → M D) : Prop where
  pe : PE X e t
  rd : ∀ F O E c σ H (Q : VK), RelC X.K i F O E c σ H → Sat (m c E) (fun d E' => ∀ O' v H', RelC X.K i F O' E' c σ H' → Le O H O' H' → Rp X.K (Mask O' H') v d → Q v H') (KX X.K X.mg F σ O H W) → t σ H Q
structure CT (X : Cx) (W : WX) (i : Nat) (e : Expr) (t : TT) (m : Cs → M Bool) : Prop where
  pt : PT X e t
  rd : ∀ F O E c σ H (Q : Bool → Hp → Prop), RelC X.K i F O E c σ H → Sat (m c E) (fun b E' => ∀ O' H', RelC X.K i F O' E' c σ H' → Le O H O' H' → Q b H') (KX X.K X.mg F σ O H W) → t σ H Q
section
variable {X : Cx} {W : WX} {i : Nat} {e a b : Expr} {t ta tb : TE} {K : PySem.W.Frag} {pos : Pos}
theorem kxC {P F : Frm} {σ : L2.St} {O : List Addr} {H : Hp} {x : Exc} {E : En} (k : KX X.K X.mg F σ O H W x E) : KX X.K X.mg (P ++ F) σ O H W x E := fun O' H' c dd R' l ex => k O' H' c dd (RelC.outP R') l ex
theorem SE.ce {m : M D} (h : SE X W e t m) : CE X W i e t (fun _ => m) := by
  refine ⟨h.pe, fun F O E c σ H Q R s => ?_⟩
  obtain ⟨P, R1, bk⟩ := R.use
  exact h.rd _ O E σ H Q R1 (s.mono (fun d E' k O' v H' R' l r => k O' v H' (bk F O' E' σ H' R' (fun x hx => .inl hx) l rfl) l r) (fun x E' k => kxC k))
theorem STt.ct {m : M Bool} {tt : TT} (h : STt X W e tt m) : CT X W i e tt (fun _ => m) := by
  refine ⟨h.pt, fun F O E c σ H Q R s => ?_⟩
  obtain ⟨P, R1, bk⟩ := R.use
  exact h.rd _ O E σ H Q R1 (s.mono (fun d E' k O' H' R' l => k O' H' (bk F O' E' σ H' R' (fun x hx => .inl hx) l rfl) l) (fun x E' k => kxC k))
theorem RelC.seq {F : Frm} {O : List Addr} {E : En} {c : Cs} {σ : L2.St} {H : Hp} (R : RelC K i F O E c σ H) : ∃ p ms, σ[i]? = some (some (.ref p)) ∧ H p = some (.lst (refsOf ms)) ∧ (refsOf ms).length = c.length ∧ Rel K (objs p ms ++ F) O E σ H ∧ Inj (objs p ms) ∧ Ap F (objs p ms) ∧ RpC K (Mask O H) ms c := by
  obtain ⟨p, ms, hi, R1, inj, hF, rc⟩ := R
  refine ⟨p, ms, hi, (R1.frm (p, HO.lst (refsOf ms)) (List.mem_append_left _ (by unfold objs; exact List.mem_cons_self))).2, ?_, R1, inj, hF, rc⟩
  unfold refsOf
  rw [List.length_map, rc.length]
end
end Bt
namespace Bt
open PySem L2 PySem.W
theorem RpB.lst {b : Bool} {K : PySem.W.Frag} {G : Hp} {v : V} {ds : List D} (h : RpB b K G v (.list ds)) : ∃ a xs, v = .ref a ∧ G a = some (.lst xs) ∧ RpAll K G xs ds := by
  rcases h with h | ⟨hb, a, xs, ds, h1, h2, h3, h4⟩
  · cases h with
    | lst h r => exact ⟨_, _, rfl, h, r⟩
  · cases h2
end Bt
namespace Bt
open PySem L2 PySem.Spec PyProof.Rows
structure LamG (L : LamD) (x : Str) : Prop where
  sc : FnScope [x] [x] L.scope
  bind : ∀ (pm cv ctv u : Value), bindArgs (PySem.W.kla_fn "<lambda>" L.qual L.params L.body L.scope [] pm cv ctv) ⟨[u], []⟩ = pure [(x, u)]
  body : ∃ (p1 p2 p3 p4 p5 : Pos) (cx : Nat), L.body = .Tuple [.Call (.Name "len" p1) [.Name x p2] [] p3, .Name x p4] cx p5
  vis : Vis L.scope x
  d1 : (x == ("__debug__" : Str)) = false
  d2 : (x == ("__classdict__" : Str)) = false
  gl : L.scope.names.lookup ("len" : Str) = some .globalImplicit
def rLenS (K : PySem.W.Frag) : List V → Hp → VK → Prop := fun xs H Q => ∃ p ys, xs = [.ref p] ∧ (SqL K H p ys ∨ SqT K H p ys) ∧ Q (.int ys.length) H
def tG (K : PySem.W.Frag) : TE := tTup (tCons (tCB (rLenS K) (tCons (tVar 0) tNil)) (tCons (tVar 0) tNil))
theorem LamG.pe {X : Cx} {L : LamD} {x : Str} {f c' : Addr} {H : Hp} (h : LamG L x) (hm : X.mg "len" = none) (A : Around) (s0 : Shared) : PE (cxOf CX0 X.prog X.w X.K X.mg X.base [x] L.qual L.scope f (.ref c') A X.stack s0 H E0).nox L.body (tG X.K) := by
  obtain ⟨p1, p2, p3, p4, p5, cx, e⟩ := h.body
  rw [e]
  have hv : ∀ p : Pos, PE (cxOf CX0 X.prog X.w X.K X.mg X.base [x] L.qual L.scope f (.ref c') A X.stack s0 H E0).nox (.Name x p) (tVar 0) := fun p => pe_var (i := 0) rfl h.vis h.d1 h.d2
  exact pe_tup (pa_cons (pe_callB call_len_seq h.gl hm (by decide +kernel) (pa_cons (hv p2) pa_nil)) (pa_cons (hv p4) pa_nil))
inductive Laid : Hp → Hp → Prop
  | refl (H : Hp) : Laid H H
  | new {H H1 : Hp} {l : Addr} {xs : List V} : Laid H H1 → H1 l = none → Laid H (upd H1 l (.tup xs))
theorem Laid.same {H H1 : Hp} (l : Laid H H1) : Same H H1 := by
  induction l with
  | refl => exact Same.refl _
  | new _ h ih =>
    intro a o e
    have e1 := ih a o e
    rw [upd_ne (ne_of_none e1 h)]
    exact e1
theorem Laid.grow {O : List Addr} {H H1 : Hp} (l : Laid H H1) (t : Trk O H) : Grow O H H1 ∧ Trk O H1 := by
  induction l with
  | refl => exact ⟨Grow.refl _ _, t⟩
  | @new H1 l xs l1 h ih =>
    obtain ⟨g, t1⟩ := ih
    refine ⟨g.trans (Grow.new t1 h), fun p hp => ?_⟩
    rw [upd_ne (fun z => t1 p hp (by rw [z]; exact h))]
    exact t1 p hp
section
variable {X : Cx} {pins : List (Addr × Obj)} {σ : L2.St} {H : Hp} {s : Shared} {L : LamD} {x : Str}
end

section
variable {X : Cx} {W : WX} {e : Expr} {t : TE} {pos : Pos}
end
end Bt
namespace Bt
open PySem L2 PySem.Spec PyProof.Rows
section
variable {X : Cx} {i : Nat} {e a : Expr} {pos : Pos}
end
section
variable {X : Cx} {W : WX} {P : Program} {w : World} {K : PySem.W.Frag} {mg : Str → Option Value} {base : Heap} {e : Expr} {pos : Pos}
end
section
variable {X : Cx} {W : WX} {i j : Nat} {e : Expr} {t : TE} {K : PySem.W.Frag} {pos p : Pos} {x : Str} {P : Program} {w : World} {mg : Str → Option Value} {base : Heap}
end
section
variable {X : Cx} {W : WX} {e : Expr} {t : TE} {pos : Pos}
end
end Bt
namespace Bt
open PySem L2 PySem.Spec PyProof.Rows
section
variable {X : Cx} {pins : List (Addr × Obj)} {σ : L2.St} {H : Hp} {s : Shared} {y : Str} {cl : Addr} {i : Nat} {vc : V}
structure OwnCell (X : Cx) (y : Str) (cl : Addr) (i : Nat) : Prop where
  hN : X.N[i]? = some y
  nd : X.N.Nodup
  hcl : X.env.cells.lookup y = some cl
  one : ∀ x c, X.env.cells.lookup x = some c → x = y ∧ c = cl
  ge : X.s_0.heap.objs.size ≤ cl
  vis : Vis X.env.scope y
  kc : X.env.kindOf y ≠ some .local
theorem OwnCell.val (C : OwnCell X y cl i) (I : Inv X pins σ H s) (hs : σ[i]? = some (some vc)) : ∃ u, RelV vc u ∧ s.heap.IsCell cl (some u) := by
  obtain ⟨m, _, hl⟩ := I.loc
  obtain ⟨u, ru, l⟩ := hl i y vc C.hN hs C.vis
  rcases l with ⟨k, _⟩ | ⟨k, c, e, z⟩
  · exact absurd k C.kc
  · rw [C.hcl] at e
    cases e
    exact ⟨u, ru, z⟩
end

section
variable {X : Cx} {W : WX} {P : Program} {w : World} {K : PySem.W.Frag} {mg : Str → Option Value} {base : Heap} {pos : Pos}
end
end Bt
namespace Bt
open PySem L2
section
variable {X : Cx} {W : WX} {e e0 : Expr} {t ta : TE} {pos : Pos}
end
end Bt
namespace Bt
open PySem L2
inductive RY (S α : Type) where
  | ok (a : α) (E : En) (c : S)
  | ex (x : Exc) (E : En) (c : S)
  | bad
abbrev MY (S α : Type) := En → S → RY S α
section
variable {S α β : Type}
def yR (a : α) : MY S α := fun E c => .ok a E c
def yB (m : MY S α) (f : α → MY S β) : MY S β := fun E c => match m E c with
  | .ok a E' c' => f a E' c'
  | .ex x E' c' => .ex x E' c'
  | .bad => .bad
def yStuck : MY S α := fun _ _ => .bad
def yL (m : M α) : MY S α := fun E c => match m E with
  | .ok a E' => .ok a E' c
  | .ex x E' => .ex x E' c
  | .bad => .bad
def SatY (r : RY S α) (k : α → En → S → Prop) (w : Exc → En → S → Prop) : Prop := match r with
  | .ok a E c => k a E c
  | .ex x E c => w x E c
  | .bad => False
theorem SatY.mono {r : RY S α} {k k' : α → En → S → Prop} {w w' : Exc → En → S → Prop} (h : SatY r k w) (hk : ∀ a E c, k a E c → k' a E c) (hw : ∀ x E c, w x E c → w' x E c) : SatY r k' w' := by
  cases r with
  | ok a E c => exact hk a E c h
  | ex x E c => exact hw x E c h
  | bad => exact h
theorem SatY.bnd {m : MY S α} {f : α → MY S β} {E : En} {c : S} {k : β → En → S → Prop} {w : Exc → En → S → Prop} (h : SatY (yB m f E c) k w) : SatY (m E c) (fun a E' c' => SatY (f a E' c') k w) w := by
  unfold yB at h
  cases e : m E c with
  | ok a E1 c1 => rw [e] at h; exact h
  | ex x E1 c1 => rw [e] at h; exact h
  | bad => rw [e] at h; exact h
theorem SatY.lift {m : M α} {E : En} {c : S} {k : α → En → S → Prop} {w : Exc → En → S → Prop} (h : SatY (yL m E c) k w) : Sat (m E) (fun a E' => k a E' c) (fun x E' => w x E' c) := by
  unfold yL at h
  cases e : m E with
  | ok a E1 => rw [e] at h; exact h
  | ex x E1 => rw [e] at h; exact h
  | bad => rw [e] at h; exact h
end
structure Lay (S : Type) where
  rel : PySem.W.Frag → Frm → List Addr → En → S → L2.St → Hp → Prop
  sl : S → List Nat
  use : ∀ {K : PySem.W.Frag} {F : Frm} {O : List Addr} {E : En} {c : S} {σ : L2.St} {H : Hp}, rel K F O E c σ H → ∃ P : Frm, Rel K (P ++ F) O E σ H ∧ (∀ x ∈ F, ∀ y ∈ P, x.1 ≠ y.1) ∧ ∀ (F' : Frm) O' E' σ' H', Rel K (P ++ F') O' E' σ' H' → (∀ x ∈ F', x ∈ F ∨ ∀ y ∈ P, x.1 ≠ y.1) → Le O H O' H' → (∀ i ∈ sl c, σ'[i]? = σ[i]?) → rel K F' O' E' c σ' H'
section
variable {S : Type} {L : Lay S} {K : PySem.W.Frag} {F : Frm} {O : List Addr} {E : En} {c : S} {σ : L2.St} {H : Hp}
theorem Lay.out (R : L.rel K F O E c σ H) : Rel K F O E σ H := by
  obtain ⟨P, R1, _, _⟩ := L.use R
  exact R1.subF fun x hx => List.mem_append_right _ hx
theorem Lay.same (R : L.rel K F O E c σ H) : ∃ P : Frm, Rel K (P ++ F) O E σ H ∧ ∀ O' E' σ' H', Rel K (P ++ F) O' E' σ' H' → Le O H O' H' → (∀ i ∈ L.sl c, σ'[i]? = σ[i]?) → L.rel K F O' E' c σ' H' := by
  obtain ⟨P, R1, _, bk⟩ := L.use R
  exact ⟨P, R1, fun O' E' σ' H' R' l h => bk F O' E' σ' H' R' (fun x hx => .inl hx) l h⟩
theorem Lay.forgets (R : L.rel K F O E c σ H) (ws : List Nat) : L.rel K F O (wipeE E ws) c σ H := by
  obtain ⟨P, R1, bk⟩ := Lay.same R
  exact bk O _ σ H (R1.forgets ws) (Le.refl O H) fun _ _ => rfl
theorem Lay.grow {H' : Hp} (R : L.rel K F O E c σ H) (g : Grow O H H') : L.rel K F O E c σ H' := by
  obtain ⟨P, R1, bk⟩ := Lay.same R
  exact bk O E σ H' (R1.grow g) g.le fun _ _ => rfl
theorem Lay.updF {D : Addr} {o o' : HO} (R : L.rel K ((D, o) :: F) O E c σ H) (hF : ∀ x ∈ F, x.1 ≠ D) (ho' : ¬ OddO o' := by first | exact notOdd_lst | exact notOdd_dK | exact notOdd_ext | assumption) : L.rel K ((D, o') :: F) O E c σ (upd H D o') := by
  obtain ⟨P, R1, ap, bk⟩ := L.use R
  have hP : ∀ y ∈ P, y.1 ≠ D := fun y hy z => ap (D, o) List.mem_cons_self y hy z.symm
  have hDO := (R1.frm (D, o) (List.mem_append_right _ List.mem_cons_self)).1
  have R2 : Rel K ((D, o) :: (P ++ F)) O E σ H := R1.subF fun x hx => by
    rcases List.mem_cons.mp hx with rfl | hx
    · exact List.mem_append_right _ List.mem_cons_self
    · rcases List.mem_append.mp hx with hx | hx
      · exact List.mem_append_left _ hx
      · exact List.mem_append_right _ (List.mem_cons_of_mem _ hx)
  have R3 := R2.updF (o' := o') (fun x hx => by
    rcases List.mem_append.mp hx with hx | hx
    · exact hP x hx
    · exact hF x hx) ho'
  have em : Mask O (upd H D o') = Mask O H := mask_upd_in hDO
  refine bk ((D, o') :: F) O E σ _ (R3.subF fun x hx => ?_) (fun x hx => ?_) (by unfold Le; rw [em]; exact Same.refl _) fun _ _ => rfl
  · rcases List.mem_append.mp hx with hx | hx
    · exact List.mem_cons_of_mem _ (List.mem_append_left _ hx)
    · rcases List.mem_cons.mp hx with rfl | hx
      · exact List.mem_cons_self
      · exact List.mem_cons_of_mem _ (List.mem_append_right _ hx)
  · rcases List.mem_cons.mp hx with rfl | hx
    · exact .inr fun y hy z => hP y hy z.symm
    · exact .inl (List.mem_cons_of_mem _ hx)
theorem Lay.freeF {D : Addr} {o : HO} (R : L.rel K ((D, o) :: F) O E c σ H) (hF : ∀ x ∈ F, x.1 ≠ D) : L.rel K F (rmA O D) E c σ H := by
  obtain ⟨P, R1, ap, bk⟩ := L.use R
  have R2 : Rel K ((D, o) :: (P ++ F)) O E σ H := R1.subF fun x hx => by
    rcases List.mem_cons.mp hx with rfl | hx
    · exact List.mem_append_right _ List.mem_cons_self
    · rcases List.mem_append.mp hx with hx | hx
      · exact List.mem_append_left _ hx
      · exact List.mem_append_right _ (List.mem_cons_of_mem _ hx)
  have R3 := R2.freeF (fun x hx => by
    rcases List.mem_append.mp hx with hx | hx
    · exact fun z => ap (D, o) List.mem_cons_self x hx z.symm
    · exact hF x hx)
  exact bk F (rmA O D) E σ H R3 (fun x hx => .inl (List.mem_cons_of_mem _ hx)) mask_rm fun _ _ => rfl
theorem Lay.newF {D : Addr} {o : HO} (R : L.rel K F O E c σ H) (nD : H D = none) (ho : ¬ OddO o := by first | exact notOdd_lst | exact notOdd_dK | exact notOdd_ext | assumption) : L.rel K ((D, o) :: F) (D :: O) E c σ (upd H D o) ∧ ∀ x ∈ F, x.1 ≠ D := by
  obtain ⟨P, R1, ap, bk⟩ := L.use R
  have hn := R1.newApart nD
  refine ⟨bk ((D, o) :: F) _ E σ _ ((R1.newF (o := o) nD ho).subF fun x hx => ?_) (fun x hx => ?_) (mask_cons_new nD) fun _ _ => rfl, fun x hx => hn x (List.mem_append_right _ hx)⟩
  · rcases List.mem_append.mp hx with hx | hx
    · exact List.mem_cons_of_mem _ (List.mem_append_left _ hx)
    · rcases List.mem_cons.mp hx with rfl | hx
      · exact List.mem_cons_self
      · exact List.mem_cons_of_mem _ (List.mem_append_right _ hx)
  · rcases List.mem_cons.mp hx with rfl | hx
    · exact .inr fun y hy z => hn y (List.mem_append_left _ hy) z.symm
    · exact .inl hx
theorem Lay.trk (R : L.rel K F O E c σ H) : Trk O H := (Lay.out R).trk
end
abbrev KYD {S : Type} (L : Lay S) (K : PySem.W.Frag) (F : Frm) (σ : L2.St) (O : List Addr) (H : Hp) (Q : VK) : D → En → S → Prop := fun d E' c' => ∀ O' v H', L.rel K F O' E' c' σ H' → Le O H O' H' → Rp K (Mask O' H') v d → Q v H'
abbrev KYB {S : Type} (L : Lay S) (K : PySem.W.Frag) (F : Frm) (σ : L2.St) (O : List Addr) (H : Hp) (Q : Bool → Hp → Prop) : Bool → En → S → Prop := fun b E' c' => ∀ O' H', L.rel K F O' E' c' σ H' → Le O H O' H' → Q b H'
abbrev KYX {S : Type} (L : Lay S) (K : PySem.W.Frag) (mg : Str → Option Value) (F : Frm) (σ : L2.St) (O : List Addr) (H : Hp) (W : WX) : Exc → En → S → Prop := fun x E' c' => ∀ O' H' cl dd, L.rel K F O' E' c' σ H' → Le O H O' H' → ExR K mg O' H' x cl dd → W cl dd σ H'
abbrev KYXs {S : Type} (L : Lay S) (K : PySem.W.Frag) (mg : Str → Option Value) (F : Frm) (asg : List Nat) (σ : L2.St) (O : List Addr) (H : Hp) (W : WX) : Exc → En → S → Prop := fun x E' c' => ∀ O' σ' H' cl dd, L.rel K F O' E' c' σ' H' → Le O H O' H' → Agr asg σ σ' → ExR K mg O' H' x cl dd → W cl dd σ' H'
def RelYE {S : Type} (L : Lay S) (K : PySem.W.Frag) (F : Frm) (O' : List Addr) (E' : En) (c' : S) (σ' : L2.St) (H' : Hp) (v : V) : Fl → Prop
  | .nx => L.rel K F O' E' c' σ' H'
  | .bk => L.rel K F O' E' c' σ' H'
  | .ct => L.rel K F O' E' c' σ' H'
  | .rt s => match s with
    | .dat d => L.rel K F O' E' c' σ' H' ∧ Rp K (Mask O' H') v d
    | .ow ob => ∃ p ho, v = .ref p ∧ L.rel K ((p, ho) :: F) O' E' c' σ' H' ∧ (∀ x ∈ F, x.1 ≠ p) ∧ RpO K (Mask O' H') ho ob
    | _ => False
abbrev KYS {S : Type} (L : Lay S) (K : PySem.W.Frag) (F : Frm) (asg : List Nat) (σ : L2.St) (O : List Addr) (H : Hp) (D' : Ends) : Fl → En → S → Prop := fun f E' c' => ∀ O' σ' H' v, RelYE L K F O' E' c' σ' H' v f → Le O H O' H' → Agr asg σ σ' → EndV σ' H' D' v f
structure YE {S : Type} (X : Cx) (W : WX) (L : Lay S) (e : Expr) (t : TE) (m : MY S D) : Prop where
  pe : PE X e t
  rd : ∀ F O E c σ H (Q : VK), L.rel X.K F O E c σ H → SatY (m E c) (KYD L X.K F σ O H Q) (KYX L X.K X.mg F σ O H W) → t σ H Q
structure YT {S : Type} (X : Cx) (W : WX) (L : Lay S) (e : Expr) (t : TT) (m : MY S Bool) : Prop where
  pt : PT X e t
  rd : ∀ F O E c σ H (Q : Bool → Hp → Prop), L.rel X.K F O E c σ H → SatY (m E c) (KYB L X.K F σ O H Q) (KYX L X.K X.mg F σ O H W) → t σ H Q
structure YA {S : Type} (X : Cx) (W : WX) (L : Lay S) (es : List Expr) (t : TA) (m : MY S (List D)) : Prop where
  pa : PA X es t
  rd : ∀ F O E c σ H (Q : List V → Hp → Prop), L.rel X.K F O E c σ H → SatY (m E c) (fun ds E' c' => ∀ O' vs H', L.rel X.K F O' E' c' σ H' → Le O H O' H' → RpAll X.K (Mask O' H') vs ds → Q vs H') (KYX L X.K X.mg F σ O H W) → t σ H Q
structure YS {S : Type} (X : Cx) (W : WX) (L : Lay S) (asg : List Nat) (st : Stmt) (t : TS) (m : MY S Fl) : Prop where
  ps : PS X st t
  rd : ∀ F O E c σ H (D' : Ends), L.rel X.K F O E c σ H → SatY (m E c) (KYS L X.K F asg σ O H D') (KYXs L X.K X.mg F asg σ O H W) → t D' σ H
structure YSs {S : Type} (X : Cx) (W : WX) (L : Lay S) (asg : List Nat) (st : List Stmt) (t : TS) (m : MY S Fl) : Prop where
  ps : PSs X st t
  rd : ∀ F O E c σ H (D' : Ends), L.rel X.K F O E c σ H → SatY (m E c) (KYS L X.K F asg σ O H D') (KYXs L X.K X.mg F asg σ O H W) → t D' σ H
theorem KYXs.of {S : Type} {L : Lay S} {K : PySem.W.Frag} {mg : Str → Option Value} {F : Frm} {asg : List Nat} {σ : L2.St} {O : List Addr} {H : Hp} {W : WX} : ∀ x E c, KYXs L K mg F asg σ O H W x E c → KYX L K mg F σ O H W x E c := fun x E c h O' H' cl dd R l e => h O' σ H' cl dd R l Agr.refl e
theorem KYX.le {S : Type} {L : Lay S} {K : PySem.W.Frag} {mg : Str → Option Value} {F : Frm} {σ : L2.St} {O O1 : List Addr} {H H1 : Hp} {W : WX} (l : Le O H O1 H1) : ∀ x E c, KYX L K mg F σ O H W x E c → KYX L K mg F σ O1 H1 W x E c := fun x E c h O' H' cl dd R l' e => h O' H' cl dd R (l.trans l') e
section
variable {S : Type} {X : Cx} {W : WX} {L : Lay S} {e a b : Expr} {pos : Pos}
theorem SE.y {t : TE} {m : M D} (h : SE X W e t m) : YE X W L e t (yL m) := by
  refine ⟨h.pe, fun F O E c σ H Q R s => ?_⟩
  obtain ⟨P, R1, bk⟩ := Lay.same R
  exact h.rd _ O E σ H Q R1 (s.lift.mono (fun d E' k O' v H' R' l r => k O' v H' (bk O' E' σ H' R' l fun _ _ => rfl) l r) (fun x E' k O' H' cl dd R' l ex => k O' H' cl dd (bk O' E' σ H' R' l fun _ _ => rfl) l ex))
theorem STt.y {t : TT} {m : M Bool} (h : STt X W e t m) : YT X W L e t (yL m) := by
  refine ⟨h.pt, fun F O E c σ H Q R s => ?_⟩
  obtain ⟨P, R1, bk⟩ := Lay.same R
  exact h.rd _ O E σ H Q R1 (s.lift.mono (fun d E' k O' H' R' l => k O' H' (bk O' E' σ H' R' l fun _ _ => rfl) l) (fun x E' k O' H' cl dd R' l ex => k O' H' cl dd (bk O' E' σ H' R' l fun _ _ => rfl) l ex))
theorem SA.y {es : List Expr} {t : TA} {m : M (List D)} (h : SA X W es t m) : YA X W L es t (yL m) := by
  refine ⟨h.pa, fun F O E c σ H Q R s => ?_⟩
  obtain ⟨P, R1, bk⟩ := Lay.same R
  exact h.rd _ O E σ H Q R1 (s.lift.mono (fun d E' k O' v H' R' l r => k O' v H' (bk O' E' σ H' R' l fun _ _ => rfl) l r) (fun x E' k O' H' cl dd R' l ex => k O' H' cl dd (bk O' E' σ H' R' l fun _ _ => rfl) l ex))
def inPs (sl : S → List Nat) (ps : List Nat) (c : S) : Bool := (sl c).all fun i => ps.contains i
def yS (sl : S → List Nat) (ps : List Nat) (m : M Fl) : MY S Fl := fun E c => if inPs sl ps c then yL m E c else .bad
theorem apart_sl {asg ps : List Nat} {c : S} (h : inPs L.sl ps c = true) (ha : asg.all (fun i => !ps.contains i) = true) {σ σ' : L2.St} (g : Agr asg σ σ') : ∀ i ∈ L.sl c, σ'[i]? = σ[i]? := fun i hi => g i fun z => by
  have h1 := List.all_eq_true.mp h i hi
  have h2 := List.all_eq_true.mp ha i z
  rw [h1] at h2
  cases h2
theorem SS.y {asg ps : List Nat} {st : Stmt} {t : TS} {m : M Fl} (h : SS X W asg st t m) (ha : asg.all (fun i => !ps.contains i) = true) : YS X W L asg st t (yS L.sl ps m) := by
  refine ⟨h.ps, fun F O E c σ H D' R s => ?_⟩
  unfold yS at s
  split at s
  · rename_i hap
    obtain ⟨P, R1, _, bk⟩ := L.use R
    have fx : ∀ {x : Addr × HO}, x ∈ F → x ∈ F ∨ ∀ y ∈ P, x.1 ≠ y.1 := fun hx => .inl hx
    refine h.rd _ O E σ H D' R1 (s.lift.mono (fun f E' k O' σ' H' v R' l ag => ?_) (fun x E' k O' σ' H' cl dd R' l ag ex => k O' σ' H' cl dd (bk F O' E' σ' H' R' (fun x hx => .inl hx) l (apart_sl hap ha ag)) l ag ex))
    refine k O' σ' H' v ?_ l ag
    have lnk := apart_sl hap ha ag
    cases f with
    | nx => exact bk F O' E' σ' H' R' (fun x hx => .inl hx) l lnk
    | bk => exact bk F O' E' σ' H' R' (fun x hx => .inl hx) l lnk
    | ct => exact bk F O' E' σ' H' R' (fun x hx => .inl hx) l lnk
    | rt s =>
      cases s with
      | dat d => exact ⟨bk F O' E' σ' H' R'.1 (fun x hx => .inl hx) l lnk, R'.2⟩
      | ow ob =>
        obtain ⟨p, ho, e, R2, hF, r⟩ := R'
        refine ⟨p, ho, e, bk ((p, ho) :: F) O' E' σ' H' (R2.subF fun x hx => ?_) (fun x hx => ?_) l lnk, fun x hx => hF x (List.mem_append_right _ hx), r⟩
        · rcases List.mem_append.mp hx with hx | hx
          · exact List.mem_cons_of_mem _ (List.mem_append_left _ hx)
          · rcases List.mem_cons.mp hx with rfl | hx
            · exact List.mem_cons_self
            · exact List.mem_cons_of_mem _ (List.mem_append_right _ hx)
        · rcases List.mem_cons.mp hx with rfl | hx
          · exact .inr fun y hy z => hF y (List.mem_append_left _ hy) z.symm
          · exact .inl hx
      | un => exact R'.elim
      | scr _ => exact R'.elim
  · exact s.elim
def ySeq (x y : MY S Fl) : MY S Fl := yB x fun f => match f with
  | .nx => y
  | f => yR f
theorem yss_nil : YSs X W L [] [] tNext (yR .nx) := ⟨pss_nil, fun F O E c σ H D' R s => s O σ H .non R (Le.refl O H) Agr.refl⟩
theorem yss_cons {a1 a2 : List Nat} {st : Stmt} {sts : List Stmt} {t u : TS} {m1 m2 : MY S Fl} (h : YS X W L a1 st t m1) (hs : YSs X W L a2 sts u m2) : YSs X W L (a1 ++ a2) (st :: sts) (tSeq t u) (ySeq m1 m2) := by
  refine ⟨pss_cons h.ps hs.ps, fun F O E c σ H D' R s => h.rd F O E c σ H _ R (s.bnd.mono (fun f E1 c1 k O1 σ1 H1 v1 R1 l1 g1 => ?_) (fun x E1 c1 k O1 σ1 H1 cl dd R1 l1 g1 ex => k O1 σ1 H1 cl dd R1 l1 g1.left ex))⟩
  cases f with
  | nx =>
    exact hs.rd F O1 E1 c1 σ1 H1 D' R1 (SatY.mono k (fun f E2 c2 k2 O2 σ2 H2 v2 R2 l2 g2 => k2 O2 σ2 H2 v2 R2 (l1.trans l2) (g1.trans g2)) (fun x E2 c2 k2 O2 σ2 H2 cl dd R2 l2 g2 ex => k2 O2 σ2 H2 cl dd R2 (l1.trans l2) (g1.trans g2) ex))
  | bk => exact k O1 σ1 H1 v1 R1 l1 g1.left
  | ct => exact k O1 σ1 H1 v1 R1 l1 g1.left
  | rt d => exact k O1 σ1 H1 v1 R1 l1 g1.left
def yIf {α : Type} (mt : MY S Bool) (x y : MY S α) : MY S α := yB mt fun b => if b then x else y
theorem ys_if {a1 a2 : List Nat} {ce : Expr} {as bs : List Stmt} {tc : TT} {t u : TS} {mt : MY S Bool} {m1 m2 : MY S Fl} (hc : YT X W L ce tc mt) (ha : YSs X W L a1 as t m1) (hb : YSs X W L a2 bs u m2) : YS X W L (a1 ++ a2) (.If ce as bs pos) (tIfS tc t u) (yIf mt m1 m2) := by
  refine ⟨ps_if hc.pt ha.ps hb.ps, fun F O E c σ H D' R s => hc.rd F O E c σ H _ R (s.bnd.mono (fun b E1 c1 k O1 H1 R1 l1 => ?_) KYXs.of)⟩
  cases b with
  | true =>
    show t D' σ H1
    exact ha.rd F O1 E1 c1 σ H1 D' R1 (SatY.mono k (fun f E2 c2 k2 O2 σ2 H2 v2 R2 l2 g2 => k2 O2 σ2 H2 v2 R2 (l1.trans l2) g2.left) (fun x E2 c2 k2 O2 σ2 H2 cl dd R2 l2 g2 ex => k2 O2 σ2 H2 cl dd R2 (l1.trans l2) g2.left ex))
  | false =>
    show u D' σ H1
    exact hb.rd F O1 E1 c1 σ H1 D' R1 (SatY.mono k (fun f E2 c2 k2 O2 σ2 H2 v2 R2 l2 g2 => k2 O2 σ2 H2 v2 R2 (l1.trans l2) g2.right) (fun x E2 c2 k2 O2 σ2 H2 cl dd R2 l2 g2 ex => k2 O2 σ2 H2 cl dd R2 (l1.trans l2) g2.right ex))
end
end Bt
namespace Bt
open PySem L2
abbrev TRow := List Key × Addr × Value
def DTx (P : Program) (w : World) (a : Addr) (R : List TRow) : HO := .ext fun h => (a == sysModules) = false ∧ ∃ (o : Obj) (es : Array DictEntry) (ep : Nat), h.get? a = some o ∧ o.ExactDict ∧ o.data = .dict es ep ∧ es.toList = R.map (entryOfKey (tupleKind (mixKind P w))) ∧ (R.map (·.1)).Nodup
section
variable {X : Cx} {pins : List (Addr × Obj)} {σ : L2.St} {H : Hp} {s : Shared}
end
structure TSt where
  i : Nat
  ks : List (List Key)
def RelT (P : Program) (w : World) (K : PySem.W.Frag) (F : Frm) (O : List Addr) (E : En) (c : TSt) (σ : L2.St) (H : Hp) : Prop :=
  ∃ p R, σ[c.i]? = some (some (.ref p)) ∧ Rel K ((p, DTx P w p R) :: F) O E σ H ∧ (∀ x ∈ F, x.1 ≠ p) ∧ R.map (·.1) = c.ks ∧ ∀ e ∈ R, SqP K (Mask O H) e.2.1 (e.1.map kV)
def slT (c : TSt) : List Nat := [c.i]
def LT (P : Program) (w : World) : Lay TSt where
  rel := RelT P w
  sl := slT
  use := by
    intro K F O E c σ H R
    obtain ⟨p, rs, hi, R1, hF, e, hk⟩ := R
    refine ⟨[(p, DTx P w p rs)], R1, fun x hx y hy => (by rw [List.mem_singleton.mp hy]; exact hF x hx), fun F' O' E' σ' H' R' hF' l hs => ⟨p, rs, (hs _ List.mem_cons_self).trans hi, R', fun x hx => ?_, e, fun y hy => (hk y hy).mono l⟩⟩
    rcases hF' x hx with hx | hx
    · exact hF x hx
    · exact hx _ List.mem_cons_self
section
variable {X : Cx} {W : WX} {e : Expr} {t : TE} {pos : Pos}
end
end Bt
namespace Bt
open PySem L2
section
variable {K : PySem.W.Frag} {G : Hp}
def keysOf : List D → Option (List Key)
  | [] => some []
  | d :: ds => match keyOf d, keysOf ds with
    | some k, some ks => some (k :: ks)
    | _, _ => none
theorem RpAll.keys : ∀ {vs : List V} {ds : List D} {ks : List Key}, RpAll K G vs ds → keysOf ds = some ks → vs = ks.map kV
  | _, _, _, .nil, e => by cases e; rfl
  | _, d :: ds, ks, .cons h r, e => by
    unfold keysOf at e
    split at e
    · rename_i k ks' e1 e2
      cases e
      rw [List.map_cons, h.key e1, RpAll.keys r e2]
    · cases e
end
section
variable {X : Cx} {W : WX} {P : Program} {w : World} {e : Expr} {t : TE} {pos : Pos} {K : PySem.W.Frag}
theorem RelT.sub {F : Frm} {O : List Addr} {E : En} {c : TSt} {σ : L2.St} {H : Hp} (R : (LT P w).rel K F O E c σ H) : ∃ p rs, σ[c.i]? = some (some (.ref p)) ∧ Rel K ((p, DTx P w p rs) :: F) O E σ H ∧ (∀ x ∈ F, x.1 ≠ p) ∧ rs.map (·.1) = c.ks ∧ ∀ e ∈ rs, SqP K (Mask O H) e.2.1 (e.1.map kV) := R
end
end Bt
namespace Bt
open PySem L2
section
variable {X : Cx} {W : WX} {P : Program} {w : World} {e : Expr} {t : TE} {pos : Pos} {K : PySem.W.Frag}
end
end Bt
namespace Bt
open PySem L2
section
variable {S : Type} {sl : S → List Nat} {ps ws : List Nat} {mi : M (List D)} {g : MG} {mb : MY S Fl}
end
end Bt
namespace Bt
open PySem L2 PySem.Spec PyProof.Rows
end Bt
namespace Bt
open PySem L2
section
variable {S : Type} {X : Cx} {W : WX} {L : Lay S} {e a b : Expr} {t ta tb : TE} {pos : Pos} {K : PySem.W.Frag}
end
end Bt
namespace Bt
open PySem L2
def spY {S : Type} (L : Lay S) (K : PySem.W.Frag) (mg : Str → Option Value) (n : Nat) (Fm : MY S Sl) : Sp := fun vs H Q Ex => vs.length = n ∧ ∃ F O as c, L.rel K F O as c (vs.map some) H ∧
  SatY (Fm as c) (fun z as' c' => ∀ O' v H', RelYE L K F O' as' c' (vs.map some) H' v (.rt z) → Le O H O' H' → Q v H')
    (fun x as' c' => ∀ O' H' cl dd, L.rel K F O' as' c' (vs.map some) H' → Le O H O' H' → ExR K mg O' H' x cl dd → Ex cl dd H')
section
variable {P : Program} {w : World} {K : PySem.W.Frag} {mg : Str → Option Value} {base : Heap}
theorem YSs.sub {S : Type} {L : Lay S} {X : Cx} {W : WX} {a1 a2 : List Nat} {sts : List Stmt} {t : TS} {m : MY S Fl} (h : YSs X W L a1 sts t m) (hs : ∀ i ∈ a1, i ∈ a2) : YSs X W L a2 sts t m :=
  ⟨h.ps, fun F O E c σ H D' R s => h.rd F O E c σ H D' R (s.mono (fun f E1 c1 k O1 σ1 H1 v1 R1 l1 g1 => k O1 σ1 H1 v1 R1 l1 fun i hi => g1 i fun z => hi (hs i z)) (fun x E1 c1 k O1 σ1 H1 cl dd R1 l1 g1 ex => k O1 σ1 H1 cl dd R1 l1 (fun i hi => g1 i fun z => hi (hs i z)) ex))⟩
end
end Bt
namespace Bt
open PySem L2
def offVs {S : Type} (sl : S → List Nat) (vs : List Nat) (c : S) : Bool := (sl c).all fun i => !vs.contains i
theorem offVs_get {S : Type} {sl : S → List Nat} {vs : List Nat} {c : S} (h : offVs sl vs c = true) {i : Nat} (hi : i ∈ sl c) : i ∉ vs := fun z => by
  have := List.all_eq_true.mp h i hi
  simp [z] at this
section
variable {S : Type} (sl : S → List Nat) (vs : List Nat) (g : MG) (mt : MY S Bool) (me : MY S D) (E0 : En)
end
section
variable {S : Type} {L : Lay S} {K : PySem.W.Frag} {F : Frm} {O : List Addr} {E : En} {c : S} {σ : L2.St} {H : Hp}
theorem Lay.wipe (R : L.rel K F O E c σ H) {vs : List Nat} (h : offVs L.sl vs c = true) : L.rel K F O (wipeE E vs) c (L2.wipe σ vs) H := by
  obtain ⟨P, R1, bk⟩ := Lay.same R
  exact bk O _ _ H (R1.wipe vs) (Le.refl O H) fun i hi => get_wipe (offVs_get h hi)
theorem Lay.slots {c : S} {σ1 σ2 : L2.St} {vs : List Nat} (h : offVs L.sl vs c = true) (hw : L2.wipe σ2 vs = L2.wipe σ1 vs) : ∀ i ∈ L.sl c, σ2[i]? = σ1[i]? := fun i hi => by
  have hn := offVs_get h hi
  rw [← get_wipe (σ := σ2) hn, hw, get_wipe hn]
end
structure YTs {S : Type} (X : Cx) (W : WX) (L : Lay S) (es : List Expr) (t : TT) (m : MY S Bool) : Prop where
  pt : PTs X es t
  rd : ∀ F O E c σ H (Q : Bool → Hp → Prop), L.rel X.K F O E c σ H → SatY (m E c) (KYB L X.K F σ O H Q) (KYX L X.K X.mg F σ O H W) → t σ H Q
theorem STs.y {S : Type} {X : Cx} {W : WX} {L : Lay S} {es : List Expr} {t : TT} {m : M Bool} (h : STs X W es t m) : YTs X W L es t (yL m) := by
  refine ⟨h.pt, fun F O E c σ H Q R s => ?_⟩
  obtain ⟨P, R1, bk⟩ := Lay.same R
  exact h.rd _ O E σ H Q R1 (s.lift.mono (fun d E' k O' H' R' l => k O' H' (bk O' E' σ H' R' l fun _ _ => rfl) l) (fun x E' k O' H' cl dd R' l ex => k O' H' cl dd (bk O' E' σ H' R' l fun _ _ => rfl) l ex))
end Bt
namespace Bt
open PySem L2
structure TillM where
  coins : D
  row : List (Key × D)
structure Ho where
  known : List (Key × TillM)
  told : List D
  brought : Int
  lent : Int
  loose : List TillM
inductive Pt where
  | h
  | t (n : Nat)
  | l (n : Nat)
  | rest
structure HS where
  h : Ho
  vw : List (Nat × Pt)
  lk : Bool
structure PT where
  t : Addr
  x : Addr
  r : Addr
  v : V
  kvs : List (Key × V)
structure PH where
  a : Addr
  x : Addr
  kn : Addr
  to : Addr
  tvs : List V
  ts : List PT
  lo : List PT
  lk : Option Obj
def tIns (CT : Addr) (p : PT) : HO := .ins CT p.x [("coins", p.v), ("row", .ref p.r)]
def tFr (CT : Addr) (p : PT) : Frm := [(p.t, tIns CT p), (p.x, .own p.t), (p.r, .dK p.kvs)]
def hIns (CH : Addr) (P : PH) (h : Ho) : HO := .ins CH P.x [("known", .ref P.kn), ("told", .ref P.to), ("brought", .int h.brought), ("lent", .int h.lent)]
def knV : List (Key × TillM) → List PT → List (Key × V)
  | (k, _) :: ks, p :: ps => (k, .ref p.t) :: knV ks ps
  | _, _ => []
def knO (lk : Option Obj) (kvs : List (Key × V)) : HO := match lk with
  | none => .dK kvs
  | some o => .frz o (.dK kvs)
def hFr (CH CT : Addr) (P : PH) (h : Ho) : Frm := (P.a, hIns CH P h) :: (P.x, .own P.a) :: (P.kn, knO P.lk (knV h.known P.ts)) :: (P.to, .lst P.tvs) :: (P.ts ++ P.lo).flatMap (tFr CT)
def TOk (K : PySem.W.Frag) (G : Hp) (p : PT) (m : TillM) : Prop := Rp K G p.v m.coins ∧ RpKV K G p.kvs m.row
structure HOkP (K : PySem.W.Frag) (G : Hp) (P : PH) (h : Ho) : Prop where
  ts : Paired (TOk K G) P.ts (h.known.map (·.2))
  lo : Paired (TOk K G) P.lo h.loose
  to : RpAll K G P.tvs h.told
def ptA (P : PH) : Pt → Option Addr
  | .h => some P.a
  | .t n => (P.ts[n]?).map (·.t)
  | .l n => (P.lo[n]?).map (·.t)
  | .rest => none
def VwOk (P : PH) (σ : L2.St) (vw : List (Nat × Pt)) : Prop := ∀ z ∈ vw, z.2 = .rest ∨ ∃ a, ptA P z.2 = some a ∧ σ[z.1]? = some (some (.ref a))
structure RelH (CH CT : Addr) (gv : List (Addr × Pt)) (K : PySem.W.Frag) (F : Frm) (O : List Addr) (E : En) (c : HS) (σ : L2.St) (H : Hp) (P : PH) : Prop where
  r : Rel K (hFr CH CT P c.h ++ F) O E σ H
  i : Inj (hFr CH CT P c.h)
  ap : Ap F (hFr CH CT P c.h)
  ok : HOkP K (Mask O H) P c.h
  vw : VwOk P σ c.vw
  lk : P.lk.isSome = c.lk
  gv : ∀ z ∈ gv, ptA P z.2 = some z.1
theorem TOk.mono {K : PySem.W.Frag} {G G' : Hp} (e : Same G G') {p : PT} {m : TillM} (h : TOk K G p m) : TOk K G' p m := ⟨h.1.mono e, h.2.mono e⟩
theorem pairedH_mono {α β : Type} {R R' : α → β → Prop} (h : ∀ a b, R a b → R' a b) : ∀ {xs : List α} {ys : List β}, Paired R xs ys → Paired R' xs ys
  | _, _, .nil => .nil
  | _, _, .cons q r => .cons (h _ _ q) (pairedH_mono h r)
theorem HOkP.mono {K : PySem.W.Frag} {G G' : Hp} (e : Same G G') {P : PH} {h : Ho} (k : HOkP K G P h) : HOkP K G' P h := ⟨pairedH_mono (fun _ _ q => q.mono e) k.ts, pairedH_mono (fun _ _ q => q.mono e) k.lo, k.to.mono e⟩
def slH (c : HS) : List Nat := c.vw.map (·.1)
theorem VwOk.same {P : PH} {σ σ' : L2.St} {vw : List (Nat × Pt)} (h : VwOk P σ vw) (e : ∀ i ∈ vw.map (·.1), σ'[i]? = σ[i]?) : VwOk P σ' vw := fun z hz => by
  rcases h z hz with q | ⟨a, q1, q2⟩
  · exact .inl q
  · exact .inr ⟨a, q1, by rw [e _ (List.mem_map_of_mem hz)]; exact q2⟩
def LH (CH CT : Addr) (gv : List (Addr × Pt)) : Lay HS where
  rel := fun K F O E c σ H => ∃ P, RelH CH CT gv K F O E c σ H P
  sl := slH
  use := by
    intro K F O E c σ H R
    obtain ⟨P, R⟩ := R
    refine ⟨hFr CH CT P c.h, R.r, R.ap, fun F' O' E' σ' H' R' hF' l hs => ⟨P, R', R.i, fun x hx => ?_, R.ok.mono l, R.vw.same hs, R.lk, R.gv⟩⟩
    rcases hF' x hx with hx | hx
    · exact R.ap x hx
    · exact hx
theorem Rel.updK {K : PySem.W.Frag} {P F : Frm} {O : List Addr} {E : En} {σ : L2.St} {H : Hp} {k : Nat} {p : Addr} {o o' : HO} (R : Rel K (P ++ F) O E σ H) (i : Inj P) (ap : Ap F P) (hk : P[k]? = some (p, o)) (ho' : ¬ OddO o' := by first | exact notOdd_lst | exact notOdd_dK | exact notOdd_ext | assumption) : Rel K (P.set k (p, o') ++ F) O E σ (upd H p o') ∧ Inj (P.set k (p, o')) ∧ Ap F (P.set k (p, o')) ∧ Mask O (upd H p o') = Mask O H := by
  have hlt := (List.getElem?_eq_some_iff.mp hk).1
  have hk2 : (P ++ F)[k]? = some (p, o) := by rw [List.getElem?_append_left hlt]; exact hk
  obtain ⟨pO, pH⟩ := R.frm _ (List.mem_of_getElem? hk2)
  have R2 := R.updM (o' := o') hk2 (fun a x ha e => by
    by_cases hl : a < P.length
    · rw [List.getElem?_append_left hl] at e
      exact fun z => ha (i a k x (p, o) e hk z)
    · rw [List.getElem?_append_right (by omega)] at e
      exact ap x (List.mem_of_getElem? e) (p, o) (List.mem_of_getElem? hk)) ho'
  rw [List.set_append_left _ _ hlt] at R2
  exact ⟨R2, inj_set hk i, ap_set hk ap, mask_upd_in pO⟩
theorem fm_get {α : Type} (f : α → Frm) (hf : ∀ a, (f a).length = 3) : ∀ (l : List α) (n : Nat) (a : α) (j : Nat), l[n]? = some a → j < 3 → (l.flatMap f)[3 * n + j]? = (f a)[j]?
  | [], n, a, j, h, _ => by simp at h
  | b :: l, 0, a, j, h, hj => by
    simp at h
    subst h
    rw [List.flatMap_cons, List.getElem?_append_left (by rw [hf]; omega)]
    congr 1
    omega
  | b :: l, n + 1, a, j, h, hj => by
    rw [List.flatMap_cons, List.getElem?_append_right (by rw [hf]; omega), hf, ← fm_get f hf l n a j (by simpa using h) hj]
    congr 1
    omega
theorem fm_set {α : Type} (f : α → Frm) (hf : ∀ a, (f a).length = 3) : ∀ (l : List α) (n : Nat) (a y : α) (j : Nat) (z : Addr × HO), l[n]? = some a → j < 3 → f y = (f a).set j z → (l.set n y).flatMap f = (l.flatMap f).set (3 * n + j) z
  | [], n, a, y, j, z, h, _, _ => by simp at h
  | b :: l, 0, a, y, j, z, h, hj, e => by
    simp at h
    subst h
    rw [List.set_cons_zero, List.flatMap_cons, List.flatMap_cons, e, List.set_append_left _ _ (by rw [hf]; omega)]
    congr 2
    omega
  | b :: l, n + 1, a, y, j, z, h, hj, e => by
    rw [List.set_cons_succ, List.flatMap_cons, List.flatMap_cons, fm_set f hf l n a y j z (by simpa using h) hj e, List.set_append_right _ _ (by rw [hf]; omega), hf]
    congr 2
    omega
theorem tFr_len (CT : Addr) (p : PT) : (tFr CT p).length = 3 := rfl
section
variable {CH CT : Addr} {gv : List (Addr × Pt)} {K : PySem.W.Frag} {F : Frm} {O : List Addr} {E : En} {c : HS} {σ : L2.St} {H : Hp} {P : PH}
theorem RelH.knL (R : RelH CH CT gv K F O E c σ H P) : H P.kn = some (knO P.lk (knV c.h.known P.ts)) ∧ P.kn ∈ O := by
  obtain ⟨a, b⟩ := R.r.frm (P.kn, knO P.lk (knV c.h.known P.ts)) (by unfold hFr; simp)
  exact ⟨b, a⟩
theorem RelH.kn (R : RelH CH CT gv K F O E c σ H P) (hl : c.lk = false) : H P.kn = some (.dK (knV c.h.known P.ts)) ∧ P.kn ∈ O := by
  obtain ⟨a, b⟩ := R.knL
  have e : P.lk = none := by
    have := R.lk
    rw [hl] at this
    cases h : P.lk with
    | none => rfl
    | some o => rw [h] at this; cases this
  rw [e] at a
  exact ⟨a, b⟩
theorem RelH.told (R : RelH CH CT gv K F O E c σ H P) : H P.to = some (.lst P.tvs) ∧ P.to ∈ O := by
  obtain ⟨a, b⟩ := R.r.frm (P.to, .lst P.tvs) (by unfold hFr; simp)
  exact ⟨b, a⟩
theorem paired_get {α β : Type} {R : α → β → Prop} : ∀ {xs : List α} {ys : List β} {n : Nat} {b : β}, Paired R xs ys → ys[n]? = some b → ∃ a, xs[n]? = some a ∧ R a b
  | _, _, _, _, .nil, e => by simp at e
  | _, _, 0, b, .cons h _, e => by simp at e; subst e; exact ⟨_, rfl, h⟩
  | _, _, n + 1, b, .cons _ r, e => by
    obtain ⟨a, h1, h2⟩ := paired_get (n := n) (b := b) r (by simpa using e)
    exact ⟨a, by simpa using h1, h2⟩
theorem paired_len {α β : Type} {R : α → β → Prop} : ∀ {xs : List α} {ys : List β}, Paired R xs ys → xs.length = ys.length
  | _, _, .nil => rfl
  | _, _, .cons _ r => by rw [List.length_cons, List.length_cons, paired_len r]
def tillAt (h : Ho) : Pt → Option TillM
  | .t n => (h.known[n]?).map (·.2)
  | .l n => h.loose[n]?
  | _ => none
def setTill (h : Ho) (p : Pt) (m : TillM) : Ho := match p with
  | .t n => match h.known[n]? with
    | some (k, _) => { h with known := h.known.set n (k, m) }
    | none => h
  | .l n => { h with loose := h.loose.set n m }
  | _ => h
def vwOf (c : HS) (i : Nat) : Option Pt := (c.vw.find? fun z => z.1 == i).map (·.2)
theorem vwOf_mem {i : Nat} {p : Pt} (h : vwOf c i = some p) : (i, p) ∈ c.vw := by
  unfold vwOf at h
  cases e : c.vw.find? fun z => z.1 == i with
  | none => rw [e] at h; cases h
  | some z =>
    rw [e] at h
    cases h
    have h1 := List.mem_of_find?_eq_some e
    have h2 := List.find?_some e
    rw [← eq_of_beq h2]
    exact h1
theorem RelH.at (R : RelH CH CT gv K F O E c σ H P) {i : Nat} {p : Pt} {m : TillM} (h : vwOf c i = some p) (hm : tillAt c.h p = some m) : ∃ q : PT, ptA P p = some q.t ∧ q ∈ P.ts ++ P.lo ∧ σ[i]? = some (some (.ref q.t)) ∧ TOk K (Mask O H) q m := by
  rcases R.vw _ (vwOf_mem h) with z | ⟨a, z1, z2⟩
  · dsimp only at z
    subst z
    cases hm
  · cases p with
    | h => cases hm
    | rest => cases hm
    | t n =>
      have hm : (c.h.known.map (·.2))[n]? = some m := by rw [List.getElem?_map]; exact hm
      obtain ⟨q, h1, h2⟩ := paired_get R.ok.ts hm
      have z1 : (P.ts[n]?).map (·.t) = some a := z1
      rw [h1] at z1
      cases z1
      exact ⟨q, by show (P.ts[n]?).map (·.t) = _; rw [h1]; rfl, List.mem_append_left _ (List.mem_of_getElem? h1), z2, h2⟩
    | l n =>
      have hm : c.h.loose[n]? = some m := hm
      obtain ⟨q, h1, h2⟩ := paired_get R.ok.lo hm
      have z1 : (P.lo[n]?).map (·.t) = some a := z1
      rw [h1] at z1
      cases z1
      exact ⟨q, by show (P.lo[n]?).map (·.t) = _; rw [h1]; rfl, List.mem_append_right _ (List.mem_of_getElem? h1), z2, h2⟩
end
end Bt
namespace Bt
open PySem L2
theorem inj_setN {P : Frm} {k : Nat} {z : Addr × HO} (i : Inj P) (hz : ∀ x ∈ P, x.1 ≠ z.1) : Inj (P.set k z) := by
  intro a b x y e1 e2 e3
  have key : ∀ (j : Nat) (u : Addr × HO), (P.set k z)[j]? = some u → (j = k ∧ u = z) ∨ (j ≠ k ∧ P[j]? = some u) := fun j u e => by
    by_cases h : k = j
    · subst h
      by_cases hl : k < P.length
      · rw [List.getElem?_set_self hl] at e; cases e; exact .inl ⟨rfl, rfl⟩
      · rw [List.getElem?_eq_none (by rw [List.length_set]; omega)] at e; cases e
    · rw [List.getElem?_set_ne h] at e
      exact .inr ⟨fun q => h q.symm, e⟩
  rcases key a x e1 with ⟨h1, rfl⟩ | ⟨h1, f1⟩ <;> rcases key b y e2 with ⟨h2, rfl⟩ | ⟨h2, f2⟩
  · rw [h1, h2]
  · exact absurd e3.symm (hz y (List.mem_of_getElem? f2))
  · exact absurd e3 (hz x (List.mem_of_getElem? f1))
  · exact i a b x y f1 f2 e3
theorem ap_setN {F P : Frm} {k : Nat} {z : Addr × HO} (ap : Ap F P) (hz : ∀ x ∈ F, x.1 ≠ z.1) : Ap F (P.set k z) := fun x hx y hy => by
  rcases mem_set_erase hy with rfl | ⟨j, _, e⟩
  · exact hz x hx
  · exact ap x hx y (List.mem_of_getElem? e)
def setPT (P : PH) (p : Pt) (q : PT) : PH := match p with
  | .t n => { P with ts := P.ts.set n q }
  | .l n => { P with lo := P.lo.set n q }
  | _ => P
def posOf (P : PH) : Pt → Nat
  | .t n => n
  | .l n => P.ts.length + n
  | _ => 0
theorem fm_set2 {α : Type} (f : α → Frm) (hf : ∀ a, (f a).length = 3) : ∀ (l : List α) (n : Nat) (a y : α) (j j2 : Nat) (z z2 : Addr × HO), l[n]? = some a → j < 3 → j2 < 3 → f y = ((f a).set j z).set j2 z2 → (l.set n y).flatMap f = ((l.flatMap f).set (3 * n + j) z).set (3 * n + j2) z2
  | [], n, a, y, j, j2, z, z2, h, _, _, _ => by simp at h
  | b :: l, 0, a, y, j, j2, z, z2, h, hj, hj2, e => by
    simp at h
    subst h
    rw [List.set_cons_zero, List.flatMap_cons, List.flatMap_cons, e, List.set_append_left _ _ (by rw [hf]; omega), List.set_append_left _ _ (by rw [List.length_set, hf]; omega)]
    rw [show 3 * 0 + j = j by omega, show 3 * 0 + j2 = j2 by omega]
  | b :: l, n + 1, a, y, j, j2, z, z2, h, hj, hj2, e => by
    rw [List.set_cons_succ, List.flatMap_cons, List.flatMap_cons, fm_set2 f hf l n a y j j2 z z2 (by simpa using h) hj hj2 e, List.set_append_right _ _ (by rw [hf]; omega), List.set_append_right _ _ (by rw [hf]; omega), hf]
    rw [show 3 * (n + 1) + j - 3 = 3 * n + j by omega, show 3 * (n + 1) + j2 - 3 = 3 * n + j2 by omega]
section
variable {CH CT : Addr} {gv : List (Addr × Pt)} {K : PySem.W.Frag} {F : Frm} {O : List Addr} {E : En} {c : HS} {σ : L2.St} {H : Hp} {P : PH}
structure Spot (K : PySem.W.Frag) (O : List Addr) (H : Hp) (P : PH) (h : Ho) (p : Pt) (q : PT) (m : TillM) : Prop where
  a : ptA P p = some q.t
  i : (P.ts ++ P.lo)[posOf P p]? = some q
  hm : tillAt h p = some m
  ok : TOk K (Mask O H) q m
  sp : ∀ (q' : PT) (m' : TillM) (G : Hp), q'.t = q.t → HOkP K G P h → TOk K G q' m' → HOkP K G (setPT P p q') (setTill h p m') ∧ knV (setTill h p m').known (setPT P p q').ts = knV h.known P.ts ∧ (setPT P p q').ts ++ (setPT P p q').lo = (P.ts ++ P.lo).set (posOf P p) q' ∧ ∀ pt, ptA (setPT P p q') pt = ptA P pt
  fx : ∀ (q' : PT) (m' : TillM), (setPT P p q').a = P.a ∧ (setPT P p q').x = P.x ∧ (setPT P p q').kn = P.kn ∧ (setPT P p q').to = P.to ∧ (setPT P p q').tvs = P.tvs ∧ (setPT P p q').lk = P.lk ∧ (setTill h p m').told = h.told ∧ (setTill h p m').brought = h.brought ∧ (setTill h p m').lent = h.lent
theorem hFr_at {h : Ho} {N j : Nat} {q : PT} (hq : (P.ts ++ P.lo)[N]? = some q) (hj : j < 3) : (hFr CH CT P h)[4 + (3 * N + j)]? = (tFr CT q)[j]? := by
  unfold hFr
  have := fm_get (tFr CT) (tFr_len CT) _ N q j hq hj
  rw [← this]
  show (_ :: _ :: _ :: _ :: _)[4 + (3 * N + j)]? = _
  rw [show 4 + (3 * N + j) = (3 * N + j) + 1 + 1 + 1 + 1 by omega]
  simp only [List.getElem?_cons_succ]
theorem hFr_set {P' : PH} {h h' : Ho} {N j : Nat} {q q' : PT} {z : Addr × HO} (hq : (P.ts ++ P.lo)[N]? = some q) (hj : j < 3) (e : tFr CT q' = (tFr CT q).set j z) (e1 : P'.ts ++ P'.lo = (P.ts ++ P.lo).set N q') (e2 : knV h'.known P'.ts = knV h.known P.ts) (e3 : P'.a = P.a ∧ P'.x = P.x ∧ P'.kn = P.kn ∧ P'.to = P.to ∧ P'.tvs = P.tvs ∧ P'.lk = P.lk) (e4 : h'.brought = h.brought ∧ h'.lent = h.lent) : hFr CH CT P' h' = (hFr CH CT P h).set (4 + (3 * N + j)) z := by
  obtain ⟨a1, a2, a3, a4, a5, a6⟩ := e3
  obtain ⟨b1, b2⟩ := e4
  have h1 : hIns CH P' h' = hIns CH P h := by unfold hIns; rw [a2, a3, a4, b1, b2]
  unfold hFr
  rw [h1, e1, e2, a1, a2, a3, a4, a5, a6, fm_set (tFr CT) (tFr_len CT) _ N q q' j z hq hj e]
  rw [show 4 + (3 * N + j) = (3 * N + j) + 1 + 1 + 1 + 1 by omega]
  rfl
theorem RelH.coins (R : RelH CH CT gv K F O E c σ H P) {p : Pt} {q : PT} {m : TillM} (s : Spot K O H P c.h p q m) {v : V} {d : D} (r : Rp K (Mask O H) v d) :
    RelH CH CT gv K F O E { c with h := setTill c.h p { m with coins := d } } σ (upd H q.t (tIns CT { q with v := v })) (setPT P p { q with v := v }) ∧ Mask O (upd H q.t (tIns CT { q with v := v })) = Mask O H := by
  have hk : (hFr CH CT P c.h)[4 + (3 * posOf P p + 0)]? = some (q.t, tIns CT q) := hFr_at s.i (by omega)
  obtain ⟨R1, i1, ap1, em⟩ := R.r.updK (o' := tIns CT { q with v := v }) R.i R.ap hk (fun ⟨_, z⟩ => by cases z)
  obtain ⟨ok, ek, el, ep⟩ := s.sp { q with v := v } { m with coins := d } (Mask O H) rfl R.ok ⟨r, s.ok.2⟩
  obtain ⟨f1, f2, f3, f4, f5, f9, f6, f7, f8⟩ := s.fx { q with v := v } { m with coins := d }
  have e := hFr_set (CH := CH) (CT := CT) (P' := setPT P p { q with v := v }) (h := c.h) (h' := setTill c.h p { m with coins := d }) (q' := { q with v := v }) (z := (q.t, tIns CT { q with v := v })) (j := 0) s.i (by omega) rfl el ek ⟨f1, f2, f3, f4, f5, f9⟩ ⟨f7, f8⟩
  refine ⟨⟨by dsimp only; rw [e]; exact R1, by dsimp only; rw [e]; exact i1, by dsimp only; rw [e]; exact ap1, by dsimp only; rw [em]; exact ok, fun z hz => ?_, by rw [f9]; exact R.lk, fun z hz => by rw [ep]; exact R.gv z hz⟩, em⟩
  rcases R.vw z hz with w | ⟨a, w1, w2⟩
  · exact .inl w
  · exact .inr ⟨a, by rw [ep]; exact w1, w2⟩
theorem RelH.row {r' : Addr} {kvs : List (Key × V)} {row : List (Key × D)} (R : RelH CH CT gv K ((r', .dK kvs) :: F) O E c σ H P) (hF : ∀ x ∈ F, x.1 ≠ r') {p : Pt} {q : PT} {m : TillM} (s : Spot K O H P c.h p q m) (rk : RpKV K (Mask O H) kvs row) :
    RelH CH CT gv K F O E { c with h := setTill c.h p { m with row := row } } σ (upd H q.t (tIns CT { q with r := r', kvs := kvs })) (setPT P p { q with r := r', kvs := kvs }) ∧ Mask O (upd H q.t (tIns CT { q with r := r', kvs := kvs })) = Mask O H := by
  have hk2 : (hFr CH CT P c.h)[4 + (3 * posOf P p + 2)]? = some (q.r, .dK q.kvs) := hFr_at s.i (by omega)
  have hnew : ∀ x ∈ hFr CH CT P c.h, x.1 ≠ r' := fun x hx z => R.ap (r', .dK kvs) List.mem_cons_self x hx z.symm
  -- the row's object changed for the new one
  have R0 : Rel K ((hFr CH CT P c.h).set (4 + (3 * posOf P p + 2)) (r', .dK kvs) ++ F) O E σ H := R.r.subF fun x hx => by
    rcases List.mem_append.mp hx with hx | hx
    · rcases mem_set_erase hx with rfl | ⟨j, _, e⟩
      · exact List.mem_append_right _ List.mem_cons_self
      · exact List.mem_append_left _ (List.mem_of_getElem? e)
    · exact List.mem_append_right _ (List.mem_cons_of_mem _ hx)
  have i0 : Inj ((hFr CH CT P c.h).set (4 + (3 * posOf P p + 2)) (r', .dK kvs)) := inj_setN R.i hnew
  have ap0 : Ap F ((hFr CH CT P c.h).set (4 + (3 * posOf P p + 2)) (r', .dK kvs)) := ap_setN (fun x hx => R.ap x (List.mem_cons_of_mem _ hx)) hF
  have hk : ((hFr CH CT P c.h).set (4 + (3 * posOf P p + 2)) (r', .dK kvs))[4 + (3 * posOf P p + 0)]? = some (q.t, tIns CT q) := by
    rw [List.getElem?_set_ne (by omega)]
    exact hFr_at s.i (by omega)
  obtain ⟨R1, i1, ap1, em⟩ := R0.updK (o' := tIns CT { q with r := r', kvs := kvs }) i0 ap0 hk (fun ⟨_, z⟩ => by cases z)
  obtain ⟨ok, ek, el, ep⟩ := s.sp { q with r := r', kvs := kvs } { m with row := row } (Mask O H) rfl R.ok ⟨s.ok.1, rk⟩
  obtain ⟨f1, f2, f3, f4, f5, f9, f6, f7, f8⟩ := s.fx { q with r := r', kvs := kvs } { m with row := row }
  have e : hFr CH CT (setPT P p { q with r := r', kvs := kvs }) (setTill c.h p { m with row := row }) = ((hFr CH CT P c.h).set (4 + (3 * posOf P p + 2)) (r', .dK kvs)).set (4 + (3 * posOf P p + 0)) (q.t, tIns CT { q with r := r', kvs := kvs }) := by
    have h1 : hIns CH (setPT P p { q with r := r', kvs := kvs }) (setTill c.h p { m with row := row }) = hIns CH P c.h := by unfold hIns; rw [f2, f3, f4, f7, f8]
    unfold hFr
    rw [h1, ek, el, f1, f2, f3, f4, f5, f9, fm_set2 (tFr CT) (tFr_len CT) (P.ts ++ P.lo) (posOf P p) q { q with r := r', kvs := kvs } 2 0 (r', .dK kvs) (q.t, tIns CT { q with r := r', kvs := kvs }) s.i (by omega) (by omega) rfl]
    rw [show 4 + (3 * posOf P p + 2) = (3 * posOf P p + 2) + 1 + 1 + 1 + 1 by omega, show 4 + (3 * posOf P p + 0) = (3 * posOf P p + 0) + 1 + 1 + 1 + 1 by omega]
    rfl
  refine ⟨⟨by dsimp only; rw [e]; exact R1, by dsimp only; rw [e]; exact i1, by dsimp only; rw [e]; exact ap1, by dsimp only; rw [em]; exact ok, fun z hz => ?_, by rw [f9]; exact R.lk, fun z hz => by rw [ep]; exact R.gv z hz⟩, em⟩
  rcases R.vw z hz with w | ⟨a, w1, w2⟩
  · exact .inl w
  · exact .inr ⟨a, by rw [ep]; exact w1, w2⟩
end
end Bt
namespace Bt
open PySem L2
section
variable {X : Cx} {W : WX} {CH CT : Addr} {gv : List (Addr × Pt)} {K : PySem.W.Frag} {e : Expr} {t : TE} {pos : Pos} {i : Nat}
end
end Bt
namespace Bt
open PySem L2
section
variable {X : Cx} {W : WX} {K : PySem.W.Frag}
end
end Bt
namespace Bt
open PySem L2
section
variable {K : PySem.W.Frag} {F : Frm} {O : List Addr} {E : En} {σ : L2.St} {H : Hp}
end
section
variable {CH CT : Addr} {gv : List (Addr × Pt)} {K : PySem.W.Frag} {mg : Str → Option Value} {F : Frm} {O : List Addr} {E : En} {c : HS} {σ : L2.St} {H : Hp} {P : PH} {gk : Pt → Bool} {Fm : MY HS Sl}
end
end Bt
namespace Bt
open PySem L2
def isT : Pt → Bool
  | .t _ => true
  | .l _ => true
  | _ => false
section
variable {CH CT : Addr} {gv : List (Addr × Pt)} {K : PySem.W.Frag} {F : Frm} {O : List Addr} {E : En} {c : HS} {σ : L2.St} {H : Hp} {P : PH}
end
section
variable {X : Cx} {W : WX} {CH CT : Addr} {gv : List (Addr × Pt)} {K : PySem.W.Frag} {mg : Str → Option Value} {gk : Pt → Bool} {Fm : MY HS Sl} {base : Heap} {P : Program} {w : World}
end
end Bt
namespace Bt
open PySem L2
def knIx : List (Key × TillM) → Key → Option Nat
  | [], _ => none
  | (k0, _) :: ks, k => if k0 = k then some 0 else (knIx ks k).map (· + 1)
theorem valV_kn : ∀ {ks : List (Key × TillM)} {ps : List PT} (k : Key), ps.length = ks.length → valV (knV ks ps) k = (knIx ks k).bind fun n => (ps[n]?).map fun p => V.ref p.t
  | [], _, k, _ => rfl
  | _ :: _, [], k, h => by simp at h
  | (k0, m) :: ks, p :: ps, k, h => by
    have ih := valV_kn (ks := ks) (ps := ps) k (by simpa using h)
    show valV ((k0, V.ref p.t) :: knV ks ps) k = _
    unfold valV at ih ⊢
    rw [List.find?_cons]
    unfold knIx
    by_cases c : k0 = k
    · simp [c]
    · rw [show decide (k0 = k) = false from decide_eq_false c, if_neg c]
      dsimp only
      rw [ih]
      cases knIx ks k with
      | none => rfl
      | some n => simp
theorem rd_knO {H : Hp} {a : Addr} {lk : Option Obj} {kvs : List (Key × V)} (h : H a = some (knO lk kvs)) : Rd H a (.dK kvs) := by
  cases lk with
  | none => exact .inl h
  | some o => exact .inr ⟨o, h⟩
section
variable {CH CT : Addr} {gv : List (Addr × Pt)} {K : PySem.W.Frag} {F : Frm} {O : List Addr} {E : En} {c : HS} {σ : L2.St} {H : Hp} {P : PH}
theorem RelH.keep (R : RelH CH CT gv K F O E c σ H P) {F' : Frm} {O' : List Addr} {E' : En} {σ' : L2.St} {H' : Hp} (R' : Rel K (hFr CH CT P c.h ++ F') O' E' σ' H') (ap : Ap F' (hFr CH CT P c.h)) (l : Le O H O' H') (hs : ∀ i ∈ slH c, σ'[i]? = σ[i]?) : RelH CH CT gv K F' O' E' c σ' H' P :=
  ⟨R', R.i, ap, R.ok.mono l, R.vw.same hs, R.lk, R.gv⟩
theorem RelH.tsLen (R : RelH CH CT gv K F O E c σ H P) : P.ts.length = c.h.known.length := by
  rw [paired_len R.ok.ts, List.length_map]
theorem RelH.get (R : RelH CH CT gv K F O E c σ H P) (k : Key) : DGet H P.kn (kV k) ((knIx c.h.known k).bind fun n => (P.ts[n]?).map fun p => V.ref p.t) := by
  refine .inl ⟨_, k, rd_knO R.knL.1, rfl, ?_⟩
  rw [valV_kn k R.tsLen]
end
section
variable {X : Cx} {W : WX} {CH CT : Addr} {gv : List (Addr × Pt)} {K : PySem.W.Frag} {e o : Expr} {t : TE} {pos : Pos} {i : Nat}
end
end Bt
namespace Bt
open PySem L2
def IsRefs (P : PH) (xs : List V) (ns : List Nat) : Prop := Paired (fun x n => ∃ q : PT, P.ts[n]? = some q ∧ x = V.ref q.t) xs ns
section
variable {X : Cx} {W : WX} {CH CT : Addr} {gv : List (Addr × Pt)} {K : PySem.W.Frag}
end
end Bt
namespace Bt
open PySem L2
section
variable {CH CT : Addr} {gv : List (Addr × Pt)} {K : PySem.W.Frag} {mg : Str → Option Value} {F : Frm} {O : List Addr} {E : En} {c : HS} {σ : L2.St} {H : Hp} {P : PH} {gk : Pt → Bool} {vs dvs : List V} {ags : List Ag} {dds : List D} {as : List Sl}
end
abbrev KYR (CH CT : Addr) (gv : List (Addr × Pt)) (K : PySem.W.Frag) (F : Frm) (σ : L2.St) (O : List Addr) (H : Hp) (Q : VK) : List Nat → En → HS → Prop := fun ns E' c' => ∀ O' p xs H' P, RelH CH CT gv K F O' E' c' σ H' P → Le O H O' H' → H' p = some (.lst xs) → IsRefs P xs ns → Q (.ref p) H'
section
variable {CH CT : Addr} {gv : List (Addr × Pt)} {K : PySem.W.Frag} {mg : Str → Option Value} {F : Frm} {O : List Addr} {E : En} {c : HS} {σ : L2.St} {H : Hp} {P : PH} {gk : Pt → Bool} {vs dvs : List V} {ags : List Ag} {dds : List D} {as : List Sl}
end
section
variable {X : Cx} {W : WX} {CH CT : Addr} {gv : List (Addr × Pt)} {pos : Pos}
end
end Bt
namespace Bt
open PySem L2
section
variable {X : Cx} {W : WX} {k : Nat} {f C : Addr} {fd : FuncData} {ps : List Str} {sp : Sp} {dvs : List V} {ds : List Value} {x m : Str} {p pos apos : Pos} {e o : Expr} {es : List Expr} {ta : TE} {t : TA}
end
section
variable {X : Cx} {W : WX} {CH CT : Addr} {gv : List (Addr × Pt)} {K : PySem.W.Frag} {F : Frm} {O : List Addr} {E : En} {c : HS} {σ : L2.St} {H : Hp} {P : PH} {e : Expr} {es : List Expr} {t : TE} {ts : TA} {m : MY HS D} {ms : MY HS (List Ag)} {i : Nat}
end
abbrev KYV {S : Type} (L : Lay S) (K : PySem.W.Frag) (F : Frm) (σ : L2.St) (O : List Addr) (H : Hp) (Q : VK) : Sl → En → S → Prop := fun z E' c' => ∀ O' v H', RelYE L K F O' E' c' σ H' v (.rt z) → Le O H O' H' → Q v H'
theorem KYV.le {S : Type} {L : Lay S} {K : PySem.W.Frag} {F : Frm} {σ : L2.St} {O O1 : List Addr} {H H1 : Hp} {Q : VK} (l : Le O H O1 H1) : ∀ z E c, KYV L K F σ O H Q z E c → KYV L K F σ O1 H1 Q z E c := fun z E c h O' v H' R l' => h O' v H' R (l.trans l')
theorem KYR.le {CH CT : Addr} {gv : List (Addr × Pt)} {K : PySem.W.Frag} {F : Frm} {σ : L2.St} {O O1 : List Addr} {H H1 : Hp} {Q : VK} (l : Le O H O1 H1) : ∀ z E c, KYR CH CT gv K F σ O H Q z E c → KYR CH CT gv K F σ O1 H1 Q z E c := fun z E c h O' p xs H' P R l' => h O' p xs H' P R (l.trans l')
section
variable {X : Cx} {W : WX} {CH CT : Addr} {gv : List (Addr × Pt)} {gk : Pt → Bool} {n : Nat} {m : Str} {t : TA} {i : Nat} {mo : MY HS (List Ag)} {h : Bool} {dds : List D} {dvs : List V} {sp : Sp} {α : Type} {Fm : MY HS α} {KK : List (Addr × Pt) → Frm → L2.St → List Addr → Hp → VK → α → En → HS → Prop}
end
section
variable {X : Cx} {W : WX} {CH CT : Addr} {gv : List (Addr × Pt)} {K : PySem.W.Frag} {mg : Str → Option Value} {gk : Pt → Bool} {base : Heap} {P : Program} {w : World} {k n : Nat} {f : Addr} {fd : FuncData} {ps : List Str} {m x : Str} {p pos apos : Pos} {e o : Expr} {es : List Expr} {t : TA} {i : Nat} {mo : MY HS (List Ag)} {h : Bool} {dds : List D} {dvs : List V} {ds : List Value}
theorem Lay.melt {S : Type} {L : Lay S} {F : Frm} {O : List Addr} {E : En} {c : S} {σ : L2.St} {H : Hp} {p : Addr} {ho : HO} {ds : List D} (R : L.rel K ((p, ho) :: F) O E c σ H) (hF : ∀ x ∈ F, x.1 ≠ p) (r : RpO K (Mask O H) ho (.l ds)) : L.rel K F (rmA O p) E c σ H ∧ Rp K (Mask (rmA O p) H) (.ref p) (.list ds) := by
  obtain ⟨P, R1, ap, bk⟩ := L.use R
  have R2 : Rel K ((p, ho) :: (P ++ F)) O E σ H := R1.subF fun x hx => by
    rcases List.mem_cons.mp hx with rfl | hx
    · exact List.mem_append_right _ List.mem_cons_self
    · rcases List.mem_append.mp hx with hx | hx
      · exact List.mem_append_left _ hx
      · exact List.mem_append_right _ (List.mem_cons_of_mem _ hx)
  obtain ⟨R3, r3⟩ := R2.melt (fun x hx => by
    rcases List.mem_append.mp hx with hx | hx
    · exact fun z => ap (p, ho) List.mem_cons_self x hx z.symm
    · exact hF x hx) r
  exact ⟨bk F (rmA O p) E σ H R3 (fun x hx => .inl (List.mem_cons_of_mem _ hx)) mask_rm fun _ _ => rfl, r3⟩
end
end Bt
namespace Bt
open PySem L2
section
variable {CH CT : Addr} {gv : List (Addr × Pt)} {K : PySem.W.Frag} {F : Frm} {O : List Addr} {E : En} {c : HS} {σ : L2.St} {H : Hp} {P : PH} {i : Nat}
theorem RelH.grow (R : RelH CH CT gv K F O E c σ H P) {H' : Hp} (g : Grow O H H') : RelH CH CT gv K F O E c σ H' P := R.keep (R.r.grow g) R.ap g.le fun _ _ => rfl
end
section
variable {X : Cx} {W : WX} {CH CT : Addr} {gv : List (Addr × Pt)} {K : PySem.W.Frag} {mg : Str → Option Value} {e : Expr} {t : TE} {pos apos : Pos} {i j : Nat} {mq : MY HS (List Nat)}
structure YP (X : Cx) (W : WX) (CH CT : Addr) (gv : List (Addr × Pt)) (e : Expr) (t : TE) (m : MY HS Pt) : Prop where
  pe : PE X e t
  rd : ∀ F O E c σ H (Q : VK), (LH CH CT gv).rel X.K F O E c σ H → SatY (m E c) (fun pt E' c' => ∀ O' a H' P, RelH CH CT gv X.K F O' E' c' σ H' P → Le O H O' H' → ptA P pt = some a → Q (.ref a) H') (KYX (LH CH CT gv) X.K X.mg F σ O H W) → t σ H Q
end
end Bt
namespace Bt
open PySem L2
section
variable {CH CT : Addr} {gv : List (Addr × Pt)} {K : PySem.W.Frag} {F : Frm} {O : List Addr} {E : En} {c : HS} {σ : L2.St} {H : Hp} {P : PH}
end
end Bt
namespace Bt
open PySem L2
section
variable {P : Program} {w : World} {K : PySem.W.Frag} {mg : Str → Option Value} {base : Heap}
end
section
variable {X : Cx} {W : WX} {CH CT : Addr} {gv : List (Addr × Pt)} {K : PySem.W.Frag} {mg : Str → Option Value} {base : Heap} {P : Program} {w : World} {k : Nat} {f : Addr} {fd : FuncData} {ps : List Str} {x : Str} {p pos cpos pos' apos : Pos} {o ke ve : Expr} {tk tv : TE} {i : Nat} {mk : M D} {mv : MY HS D}
end
end Bt
namespace Bt
open PySem L2
open PySem.Spec PyProof.Rows PySem.W
section
variable {X : Cx} {e : PySem.Expr} {te : TE} {p pos apos cpos : Pos}
end
end Bt
namespace Bt
open PySem L2
def dropD (es : List (Key × D)) (k : Key) : List (Key × D) := es.filter fun e => decide (e.1 ≠ k)
theorem RpKV.drop {K : PySem.W.Frag} {G : Hp} {k : Key} : ∀ {xs : List (Key × V)} {es : List (Key × D)}, RpKV K G xs es → RpKV K G (dropK xs k) (dropD es k)
  | _, _, .nil => .nil
  | x :: xs, e :: es, .cons h r => by
    unfold dropK dropD
    rw [List.filter_cons, List.filter_cons]
    by_cases z : e.1 = k
    · rw [if_neg (by simp [h.1, z]), if_neg (by simp [z])]
      exact RpKV.drop r
    · rw [if_pos (by simp [h.1, z]), if_pos (by simp [z])]
      exact .cons h (RpKV.drop r)
section
variable {X : Cx} {W : WX} {e : Expr} {t : TE} {pos : Pos}
end
section
variable {X : Cx} {W : WX} {CH CT : Addr} {gv : List (Addr × Pt)} {K : PySem.W.Frag} {mg : Str → Option Value} {e o : Expr} {t tk : TE} {pos apos : Pos} {i j : Nat}
end
end Bt
namespace Bt
open PySem L2
section
variable {CH CT : Addr} {gv : List (Addr × Pt)} {K : PySem.W.Frag} {mg : Str → Option Value} {F : Frm} {O : List Addr} {E : En} {c : HS} {σ : L2.St} {H : Hp} {P : PH} {gk : Pt → Bool} {vs dvs : List V} {ags : List Ag} {dds : List D} {as : List Sl} {cs : List Nat}
theorem RelH.push {p : Addr} {ho : HO} {ob : Ob} (R : RelH CH CT gv K ((p, ho) :: F) O E c σ H P) (r : RpO K (Mask O H) ho ob) (hF : ∀ x ∈ F, x.1 ≠ p) : RelH CH CT gv K F O (E ++ [.ow ob]) c (σ ++ [some (.ref p)]) H P := by
  have R1 : Rel K ((p, ho) :: (hFr CH CT P c.h ++ F)) O E σ H := R.r.subF fun x hx => by
    rcases List.mem_cons.mp hx with rfl | hx
    · exact List.mem_append_right _ List.mem_cons_self
    · rcases List.mem_append.mp hx with hx | hx
      · exact List.mem_append_left _ hx
      · exact List.mem_append_right _ (List.mem_cons_of_mem _ hx)
  have hh : ∀ x ∈ hFr CH CT P c.h ++ F, x.1 ≠ p := fun x hx => by
    rcases List.mem_append.mp hx with hx | hx
    · exact fun z => R.ap (p, ho) List.mem_cons_self x hx z.symm
    · exact hF x hx
  refine ⟨R1.push r hh, R.i, fun x hx => R.ap x (List.mem_cons_of_mem _ hx), R.ok, fun z hz => ?_, R.lk, R.gv⟩
  rcases R.vw z hz with q | ⟨a, q1, q2⟩
  · exact .inl q
  · exact .inr ⟨a, q1, by rw [List.getElem?_append_left (List.getElem?_eq_some_iff.mp q2).1]; exact q2⟩
end
section
variable {X : Cx} {W : WX} {CH CT : Addr} {gv : List (Addr × Pt)} {K : PySem.W.Frag} {mg : Str → Option Value} {e o : Expr} {t tk : TE} {pos apos pos' : Pos} {i j : Nat}
end
end Bt
namespace Bt
open PySem L2
section
variable {X : Cx} {W : WX} {CH CT : Addr} {gv : List (Addr × Pt)} {K : PySem.W.Frag} {mg : Str → Option Value} {gk : Pt → Bool} {base : Heap} {P : Program} {w : World} {k : Nat} {f : Addr} {fd : FuncData} {ps : List Str} {m : Str} {pos apos : Pos} {o e1 e2 e3 : Expr} {t2 t3 : TE} {i j : Nat} {mr : MY HS Sl} {mp : MY HS D}
end
end Bt
namespace Bt
open PySem L2
section
variable {CH CT : Addr} {gv : List (Addr × Pt)} {K : PySem.W.Frag} {F : Frm} {O : List Addr} {E : En} {c : HS} {σ : L2.St} {H : Hp} {P : PH}
end
section
variable {X : Cx} {W : WX} {CH CT : Addr} {gv : List (Addr × Pt)} {K : PySem.W.Frag} {mg : Str → Option Value} {e o v : Expr} {t tk : TE} {pos apos tpos : Pos} {i j : Nat}
end
end Bt
namespace Bt
open PySem PySem.Spec PyProof.Rows PySem.W L2
section
variable {X : Cx} {e : PySem.Expr} {te : TE} {p apos cpos pos : Pos}
end
section
variable {X : Cx} {W : WX} {CH CT : Addr} {gv : List (Addr × Pt)} {K : PySem.W.Frag} {e o : PySem.Expr} {t : TE} {i : Nat}
end
end Bt
namespace Bt
open PySem L2
def LS (CT : Addr) (q : PT) (m : TillM) : Lay Bool where
  rel := fun K F O E c σ H => (c = true → σ[0]? = some (some (.ref q.t))) ∧ Rel K (tFr CT q ++ F) O E σ H ∧ Ap F (tFr CT q) ∧ TOk K (Mask O H) q m
  sl := fun c => if c then [0] else []
  use := by
    rintro K F O E c σ H ⟨h0, R, ap, ok⟩
    exact ⟨tFr CT q, R, ap, fun F' O' E' σ' H' R' hF' l hs => ⟨fun hc => by rw [hs 0 (by rw [hc]; exact List.mem_singleton.mpr rfl)]; exact h0 hc, R', fun x hx => by
      rcases hF' x hx with hx | hx
      · exact ap x hx
      · exact hx, ok.mono l⟩⟩
section
variable {S : Type} {L : Lay S} {K : PySem.W.Frag} {F : Frm} {O : List Addr} {E : En} {c : S} {σ : L2.St} {H : Hp}
theorem Lay.toOwn {p : Addr} {ho : HO} {ob : Ob} {j : Nat} (R : L.rel K ((p, ho) :: F) O E c σ H) (r : RpO K (Mask O H) ho ob) (hF : ∀ x ∈ F, x.1 ≠ p) (hj : j < E.length) (hs : ∀ i ∈ L.sl c, j ≠ i) : L.rel K F O (E.set j (.ow ob)) c (σ.set j (some (.ref p))) H := by
  obtain ⟨P, R1, ap, bk⟩ := L.use R
  have hh : ∀ x ∈ P ++ F, x.1 ≠ p := fun x hx => by
    rcases List.mem_append.mp hx with hx | hx
    · exact fun z => ap (p, ho) List.mem_cons_self x hx z.symm
    · exact hF x hx
  have R3 : Rel K ((p, ho) :: (P ++ F)) O E σ H := R1.subF fun x hx => by
    rcases List.mem_cons.mp hx with rfl | hx
    · exact List.mem_append_right _ List.mem_cons_self
    · rcases List.mem_append.mp hx with hx | hx
      · exact List.mem_append_left _ hx
      · exact List.mem_append_right _ (List.mem_cons_of_mem _ hx)
  exact bk F O _ _ H (R3.toOwn r hh hj) (fun x hx => .inl (List.mem_cons_of_mem _ hx)) (Le.refl O H) fun i hi => List.getElem?_set_ne (hs i hi)
end
section
variable {S : Type} {L : Lay S} {X : Cx} {W : WX} {K : PySem.W.Frag} {e : Expr} {t tk : TE} {i j : Nat} {ro : S → Option (List (Key × D))}
end
def spL (CT : Addr) (K : PySem.W.Frag) (mg : Str → Option Value) (n : Nat) (Fm : TillM → MY Bool Sl) : Sp := fun vs H Q Ex => ∃ q m, spY (LS CT q m) K mg n (Fm m) vs H Q Ex
section
variable {CT : Addr} {K : PySem.W.Frag} {mg : Str → Option Value} {G : Frm} {O : List Addr} {E : En} {σ : L2.St} {H : Hp} {q : PT} {m : TillM} {vs dvs : List V} {ags : List Ag} {dds : List D}
end
end Bt
namespace Bt
open PySem L2
section
variable {X : Cx} {W : WX} {CH CT : Addr} {gv : List (Addr × Pt)} {K : PySem.W.Frag} {mg : Str → Option Value} {base : Heap} {P : Program} {w : World} {k n : Nat} {f : Addr} {fd : FuncData} {ps : List Str} {m x : Str} {p pos apos : Pos} {e o : Expr} {es : List Expr} {t : TA} {te : TE} {i j : Nat} {mo : MY HS (List Ag)} {dds : List D} {dvs : List V} {ds : List Value} {Fm : TillM → MY Bool Sl}
end
end Bt
namespace Bt
open PySem L2
section
variable {X : Cx} {W : WX} {CH CT : Addr} {gv : List (Addr × Pt)} {K : PySem.W.Frag} {mg : Str → Option Value} {base : Heap} {P : Program} {w : World} {k n : Nat} {f : Addr} {fd : FuncData} {ps : List Str} {m x : Str} {p pos apos : Pos} {e o ke : Expr} {es : List Expr} {te tk : TE} {i j : Nat} {dds : List D} {dvs : List V} {ds : List Value} {Fm : TillM → MY Bool Sl}
end
section
variable {X : Cx} {W : WX} {CH CT : Addr} {gv : List (Addr × Pt)} {K : PySem.W.Frag} {e o : Expr} {te : TE} {i j : Nat} {me : TillM → M D}
end
end Bt
namespace Bt
open PySem L2
section
variable {X : Cx} {W : WX} {CH CT : Addr} {gv : List (Addr × Pt)} {K : PySem.W.Frag} {e o : Expr} {te : TE} {i j : Nat} {me : TillM → M D}
end
end Bt
namespace Bt
open PySem L2
section
variable {X : Cx} {W : WX} {CH CT : Addr} {gv : List (Addr × Pt)} {K : PySem.W.Frag} {e o : Expr} {te : TE} {i j k : Nat} {me : TillM → M D}
end
end Bt
namespace Bt
open PySem L2
section
variable {X : Cx} {W : WX} {CH CT : Addr} {gv : List (Addr × Pt)} {K : PySem.W.Frag} {e : Expr} {i : Nat}
end
end Bt
namespace Bt
open PySem L2
def yTry {S : Type} (sl : S → List Nat) (ps : List Nat) (cn : Nat) (i : Nat) (mb : MY S Fl) (ms : M Fl) : MY S Fl := fun E c => match mb E c with
  | .ok f E' c' => .ok f E' c'
  | .ex x E' c' => if isSub x.cls cn then (if i < E'.length ∧ inPs sl ps c' = true then (match ms (E'.set i (.dat (xOf x))) with
      | .ok .nx E2 => .ok .nx (E2.set i .un) c'
      | _ => .bad) else .bad) else .ex x E' c'
  | .bad => .bad
section
variable {S : Type} {L : Lay S} {X : Cx} {W : WX}
theorem ys_try {cn i : Nat} {C : Addr} {x n : Str} {a1 a2 ps : List Nat} {body sts : List Stmt} {s0 : Stmt} {tb : WX → TS} {ts : TS} {mb : MY S Fl} {ms : M Fl} {np hpos pos : Pos} (K : PySem.W.Frag) {mg : Str → Option Value} (eK : X.K = K) (eM : X.mg = mg) (hx : xAllB K = true) (N : XN K mg x C) (hcn : cn < 17 ∧ xName cn = x)
    (hstk : X.stack = X.env :: X.outer) (hfrm : X.env.frame = some X.env.locals) (hex : X.ex = []) (hN : X.N.Nodup) (hi : X.N[i]? = some n) (hln : X.env.kindOf n = some .local) (hg : Gl X x) (tk : Takes X W)
    (hb : ∀ (W' : WX) (pn : List (Addr × Obj)) (xe : Value → Shared → Prop), Takes (X.tr pn xe) W' → PassesOwn (model X.prog X.w) X.A X.env xe → YSs (X.tr pn xe) W' L a1 body (tb W') mb) (hsu : ∀ (a : Addr) (pn : List (Addr × Obj)), SSs (X.suite a pn) W0 a2 (s0 :: sts) ts ms) (ha : (i :: a2).all (fun i => !ps.contains i) = true) (hdb : (x == ("__debug__" : Str)) = false := by decide) :
    YS X W L (a1 ++ ([i] ++ a2)) (.Try body [.ExceptHandler (some (.Name x np)) (some n) (s0 :: sts) hpos] [] [] pos) (fun D σ H => tb (wTr K (.ref C) i ts W D) D σ H) (yTry L.sl ps cn i mb ms) := by
  subst eK eM
  obtain ⟨hl, rfl⟩ := hcn
  have FC := xf_of hx hl N.1
  refine ⟨ps_tryT hstk hfrm hN hi hln ⟨hg, hdb, .inl N.2⟩ tk (fun W' pn xe t1 t2 => (hb W' pn xe t1 t2).ps) (fun a pn => (hsu a pn).ps), fun F O E c σ H D' R s => ?_⟩
  have h0 := hb (wTr X.K (.ref C) i ts W D') [] (fun e s' => wpAny (model X.prog X.w) X.A (leaving X.env e) (fun _ s'' => L2.CX X.prog X.w X.outer X.H_0 X.s_0 (fun _ _ _ => True) e s'') (fun _ _ => True) s') (fun u s' q => XE.leave (X := X.tr [] _) hstk hfrm hex (fun _ _ _ _ _ => trivial) q) PassesOwn.leaving
  refine h0.rd F O E c σ H D' R ?_
  unfold yTry at s
  cases em : mb E c with
  | bad => rw [em] at s; exact s
  | ok f E1 c1 =>
    rw [em] at s
    exact fun O1 σ1 H1 v R1 l1 g1 => s O1 σ1 H1 v R1 l1 g1.left
  | ex z E1 c1 =>
    rw [em] at s
    dsimp only at s
    intro O1 τ H1 cv dd R1 l1 g1 hex
    obtain ⟨⟨Cz, rfl, hz⟩, hzl, hfl⟩ := hex
    have FZ := xf_of hx hzl hz
    refine ⟨isSub z.cls cn, FZ.exm FC hl N.1, fun hs a hna => ?_, fun hs => ?_⟩
    · rw [if_pos hs] at s
      split at s
      · rename_i hlt
        obtain ⟨hlt, hap⟩ := hlt
        obtain ⟨P0, R1', _, bk⟩ := L.use R1
        have g := Grow.new (o := ExT (.ref Cz) dd a) R1'.trk hna
        have rp : Rp X.K (Mask O1 (upd H1 a (ExT (.ref Cz) dd a))) (.ref a) (xOf z) := by
          have hm : Mask O1 (upd H1 a (ExT (.ref Cz) dd a)) a = some (ExT (.ref Cz) dd a) := by rw [mask_out (trk_fresh R1'.trk hna), upd_same]
          unfold xOf
          cases ef : z.fld with
          | none =>
            rw [ef] at hfl
            cases hfl
            exact .exc0 hm hz hzl
          | some d =>
            rw [ef] at hfl
            obtain ⟨q, v, rfl, h4, h5⟩ := hfl
            exact .exc1 hm hz hzl (g.le _ _ h4) (h5.mono g.le)
        have R2 : Rel X.K (P0 ++ F) O1 (E1.set i (.dat (xOf z))) (τ.set i (some (.ref a))) (upd H1 a (ExT (.ref Cz) dd a)) := (R1'.grow g).set rp hlt
        refine (hsu a []).rd _ O1 _ _ _ _ R2 ?_
        cases e2 : ms (E1.set i (.dat (xOf z))) with
        | bad => rw [e2] at s; exact s
        | ex y E3 => rw [e2] at s; exact s.elim
        | ok f E2 =>
          rw [e2] at s
          cases f with
          | bk => exact s.elim
          | ct => exact s.elim
          | rt _ => exact s.elim
          | nx =>
            dsimp only at s
            intro O2 τ2 H2 v R3 l3 g3
            have ll : Le O H O2 H2 := (l1.trans g.le).trans l3
            have sl0 : ∀ j ∈ L.sl c1, (τ2.set i none)[j]? = τ[j]? := fun j hj => by
              have h1 := List.all_eq_true.mp hap j hj
              have hij : i ≠ j := fun e => by
                have h2 := List.all_eq_true.mp ha i List.mem_cons_self
                rw [e, h1] at h2
                cases h2
              have hj2 : j ∉ a2 := fun z => by
                have h2 := List.all_eq_true.mp ha j (List.mem_cons_of_mem _ z)
                rw [h1] at h2
                cases h2
              rw [List.getElem?_set_ne hij, g3 j hj2, List.getElem?_set_ne hij]
            refine s O2 _ H2 .non (bk F O2 _ _ H2 (Rel.un (o := none) R3) (fun x hx => .inl hx) (g.le.trans l3) sl0) ll fun j hj => ?_
            have h1 : j ∉ a1 := fun z => hj (List.mem_append_left _ z)
            have h2 : i ≠ j := fun z => hj (List.mem_append_right _ (List.mem_append_left _ (by rw [z]; exact List.mem_singleton.mpr rfl)))
            have h3 : j ∉ a2 := fun z => hj (List.mem_append_right _ (List.mem_append_right _ z))
            rw [List.getElem?_set_ne h2, g3 j h3, List.getElem?_set_ne h2]
            exact g1 j h1
      · exact s.elim
    · rw [if_neg (by rw [hs]; exact Bool.false_ne_true)] at s
      exact s O1 τ H1 (.ref Cz) dd R1 l1 g1.left ⟨⟨Cz, rfl, hz⟩, hzl, hfl⟩
end
section
variable {P : Program} {w : World} {K : PySem.W.Frag} {mg : Str → Option Value} {base : Heap}
end
section
variable {X : Cx} {W : WX} {CH CT : Addr} {K : PySem.W.Frag} {mg : Str → Option Value} {base : Heap} {P : Program} {w : World} {k : Nat} {f : Addr} {fd : FuncData} {ps : List Str} {x : Str} {p pos : Pos} {i : Nat}
theorem Lay.ofY {S : Type} {L : Lay S} {F : Frm} {O : List Addr} {E : En} {c : S} {σ : L2.St} {H : Hp} {v : V} {f : Fl} (R : RelYE L K F O E c σ H v f) : RelE K F O E σ H v f := by
  cases f with
  | nx => exact Lay.out R
  | bk => exact Lay.out R
  | ct => exact Lay.out R
  | rt s =>
    cases s with
    | un => exact R.elim
    | scr _ => exact R.elim
    | dat d => exact ⟨Lay.out R.1, R.2⟩
    | ow ob =>
      obtain ⟨p, ho, e, R2, hF, r⟩ := R
      exact ⟨p, ho, e, Lay.out R2, hF, r⟩
end
end Bt
namespace Bt
open PySem L2
abbrev Core (α : Type) := PySem.W.Frag → List Addr → Hp → V → α → Frm → Prop
def RR {α : Type} (core : Core α) (K : PySem.W.Frag) (F : Frm) (O : List Addr) (E : En) (σ : L2.St) (H : Hp) (v : V) (z : α) : Prop := ∃ G : Frm, Rel K (G ++ F) O E σ H ∧ (∀ x ∈ F, ∀ y ∈ G, x.1 ≠ y.1) ∧ core K O H v z G
def cTL : Core (List D × D) := fun K O H v z G => ∃ T p w us, v = .ref T ∧ SqP K (Mask O H) T [.ref p, w] ∧ Rp K (Mask O H) w z.2 ∧ G = [(p, .lst us)] ∧ RpAll K (Mask O H) us z.1
inductive RA where
  | tl (ds : List D) (d c : D)
  | dt (d : D)
def cRA : Core RA := fun K O H v z G => match z with
  | .dt d => G = [] ∧ Rp K (Mask O H) v d
  | .tl ds d c => ∃ T v1 u, v = .ref T ∧ SqP K (Mask O H) T [v1, u] ∧ Rp K (Mask O H) u c ∧ cTL K O H v1 (ds, d) G
theorem cTL.mono {K : PySem.W.Frag} {O O' : List Addr} {H H' : Hp} {v : V} {z : List D × D} {G : Frm} (h : cTL K O H v z G) (l : Le O H O' H') : cTL K O' H' v z G := by
  obtain ⟨T, p, w, us, e, h1, h2, h3, h4⟩ := h
  exact ⟨T, p, w, us, e, h1.mono l, h2.mono l, h3, h4.mono l⟩
abbrev TL := Option (Nat × List D × D)
def RelTL (K : PySem.W.Frag) (F : Frm) (O : List Addr) (E : En) (c : TL) (σ : L2.St) (H : Hp) : Prop := match c with
  | none => Rel K F O E σ H
  | some (i, z) => ∃ v, σ[i]? = some (some v) ∧ RR cTL K F O E σ H v z
def slTL : TL → List Nat
  | none => []
  | some (i, _) => [i]
def LTL : Lay TL where
  rel := RelTL
  sl := slTL
  use := by
    intro K F O E c σ H R
    cases c with
    | none => exact ⟨[], R, (fun x hx y hy => (by cases hy)), fun F' O' E' σ' H' R' hF' l hs => R'⟩
    | some z =>
      obtain ⟨i, z⟩ := z
      obtain ⟨v, hv, G, R1, ap, hc⟩ := R
      refine ⟨G, R1, ap, fun F' O' E' σ' H' R' hF' l hs => ⟨v, (hs i List.mem_cons_self).trans hv, G, R', fun x hx y hy => ?_, hc.mono l⟩⟩
      rcases hF' x hx with hx | hx
      · exact ap x hx y hy
      · exact hx y hy
section
variable {α : Type} {core : Core α}
def spX (core : Core α) (K : PySem.W.Frag) (mg : Str → Option Value) (n : Nat) (Fm : En → Res α) : Sp := fun vs H Q Ex => vs.length = n ∧ ∃ F O as, Rel K F O as (vs.map some) H ∧
  Sat (Fm as) (fun z as' => ∀ O' v H', RR core K F O' as' (vs.map some) H' v z → Le O H O' H' → Q v H') (fun x as' => ∀ O' H' c dd, Rel K F O' as' (vs.map some) H' → Le O H O' H' → ExR K mg O' H' x c dd → Ex c dd H')
structure SVX (core : Core α) (X : Cx) (W : WX) (e : Expr) (t : TE) (m : En → Res α) : Prop where
  pe : PE X e t
  rd : ∀ F O E σ H (Q : VK), Rel X.K F O E σ H → Sat (m E) (fun z E' => ∀ O' v H', RR core X.K F O' E' σ H' v z → Le O H O' H' → Q v H') (KX X.K X.mg F σ O H W) → t σ H Q
structure YSsX (core : Core α) (X : Cx) (W : WX) (asg : List Nat) (st : List Stmt) (t : TS) (m : MY TL α) : Prop where
  ps : PSs X st t
  rd : ∀ F O E c σ H (D' : Ends), RelTL X.K F O E c σ H → SatY (m E c) (fun z E' _ => ∀ O' σ' v H', RR core X.K F O' E' σ' H' v z → Le O H O' H' → Agr asg σ σ' → D'.rt v H') (KYXs LTL X.K X.mg F asg σ O H W) → t D' σ H
variable {X : Cx} {W : WX} {pos : Pos}
theorem ysx_cons {a1 a2 : List Nat} {st : Stmt} {sts : List Stmt} {t u : TS} {m1 : MY TL Fl} {m2 : MY TL α} (h : YS X W LTL a1 st t m1) (hs : YSsX core X W a2 sts u m2) : YSsX core X W (a1 ++ a2) (st :: sts) (tSeq t u) (yB m1 fun f => match f with | .nx => m2 | _ => yStuck) := by
  refine ⟨pss_cons h.ps hs.ps, fun F O E c σ H D' R s => h.rd F O E c σ H _ R (s.bnd.mono (fun f E1 c1 k O1 σ1 H1 v1 R1 l1 g1 => ?_) (fun x E1 c1 k O1 σ1 H1 cl dd R1 l1 g1 ex => k O1 σ1 H1 cl dd R1 l1 g1.left ex))⟩
  cases f with
  | nx =>
    exact hs.rd F O1 E1 c1 σ1 H1 D' R1 (SatY.mono k (fun z E2 c2 k2 O2 σ2 v H2 R2 l2 g2 => k2 O2 σ2 v H2 R2 (l1.trans l2) (g1.trans g2)) (fun x E2 c2 k2 O2 σ2 H2 cl dd R2 l2 g2 ex => k2 O2 σ2 H2 cl dd R2 (l1.trans l2) (g1.trans g2) ex))
  | bk => exact k.elim
  | ct => exact k.elim
  | rt d => exact k.elim
def mRetTL (i : Nat) (m : M D) : MY TL (List D × D) := fun E c => match c, E[i]? with
  | none, some (.ow (.l _)) => (match m E with
    | .ok d E1 => (match E1[i]? with
      | some (.ow (.l ds)) => .ok (ds, d) (E1.set i .un) none
      | _ => .bad)
    | .ex x E1 => .ex x E1 none
    | .bad => .bad)
  | _, _ => .bad
theorem ysx_ret {e e2 : Expr} {k : Nat} {p : Pos} {i : Nat} {t : TE} {m : M D} (he : PE X e (tVar i)) (h : SE X W e2 t m) (hpa : PA X [e, e2] (tCons (tVar i) (tCons t tNil))) : YSsX cTL X W [] [.Return (some (.Tuple [e, e2] k p)) pos] (tRet (tTupP (tCons (tVar i) (tCons t tNil)))) (mRetTL i m) := by
  refine ⟨pss_one (ps_ret (pe_tupP hpa)), fun F O E c σ H D' R s => ?_⟩
  unfold mRetTL at s
  split at s
  · rename_i ds0 h0
    obtain ⟨p0, us0, e0, hp0, hh0, r0⟩ := Rel.ownL R h0
    refine ⟨.ref p0, e0, ?_⟩
    cases em : m E with
    | bad => rw [em] at s; exact s.elim
    | ex x E1 =>
      rw [em] at s
      refine h.rd F O E σ H _ R ?_
      rw [em]
      exact fun O' H' cl dd R' l ex => s O' σ H' cl dd R' l Agr.refl ex
    | ok d E1 =>
      rw [em] at s
      refine h.rd F O E σ H _ R ?_
      rw [em]
      dsimp only at s
      intro O1 w H1 R1 l1 rw1
      split at s
      · rename_i ds h1
        obtain ⟨p1, us, e1, hp1, hh1, r1⟩ := R1.ownL h1
        rw [e0] at e1
        cases e1
        refine ⟨by show 2 ≤ sizeLine; rw [sizeLine_eq]; omega, fun q o nq ho => ?_⟩
        have g : Grow O1 H1 (upd H1 q (.frz o (.tup [.ref p0, w]))) := Grow.new R1.trk nq
        have hq : q ∉ O1 := fun z => R1.trk q z nq
        have np : p0 ≠ q := fun z => by rw [z] at hh1; rw [hh1] at nq; cases nq
        obtain ⟨R2, hF⟩ := (R1.grow g).give h1 e0 (by rw [upd_ne np]; exact hh1)
        refine s O1 σ _ _ ⟨[(p0, .lst us)], R2, fun x hx y hy => ?_, q, p0, w, us, rfl, .inl ⟨o, ?_, ho⟩, rw1.mono g.le, rfl, r1.mono g.le⟩ (l1.trans g.le) Agr.refl
        · rw [List.mem_singleton.mp hy]; exact hF x hx
        · rw [mask_out hq, upd_same]
      · exact s.elim
  · exact s.elim
def mRetA (i : Nat) (m : M D) : MY TL RA := fun E c => match c with
  | none => (match E[i]?, m E with
    | some (.dat f), .ok d E1 => .ok (.dt (.tuple [f, d])) E1 none
    | _, _ => .bad)
  | some (j, ds, d) => if j = i then (match m E with
    | .ok u E1 => .ok (.tl ds d u) E1 none
    | _ => .bad) else .bad
theorem ysx_retA {e e2 : Expr} {k : Nat} {p : Pos} {i : Nat} {t : TE} {m : M D} (h : SE X W e2 t m) (hpa : PA X [e, e2] (tCons (tVar i) (tCons t tNil))) : YSsX cRA X W [] [.Return (some (.Tuple [e, e2] k p)) pos] (tRet (tTupP (tCons (tVar i) (tCons t tNil)))) (mRetA i m) := by
  refine ⟨pss_one (ps_ret (pe_tupP hpa)), fun F O E c σ H D' R s => ?_⟩
  have two : 2 ≤ sizeLine := by rw [sizeLine_eq]; omega
  unfold mRetA at s
  cases c with
  | none =>
    have R : Rel X.K F O E σ H := R
    dsimp only at s
    split at s
    · rename_i f d E1 h0 em
      obtain ⟨v0, e0, r0⟩ := R.slot i _ h0
      refine ⟨v0, e0, h.rd F O E σ H _ R ?_⟩
      rw [em]
      intro O1 w H1 R1 l1 rw1
      refine ⟨two, fun q o nq ho => ?_⟩
      obtain ⟨g2, r2⟩ := new_tup (vs := [v0, w]) (ds := [f, d]) R1.trk (.cons (r0.mono l1) (.cons rw1 .nil)) nq ho
      exact s O1 σ _ _ ⟨[], R1.grow g2, (fun x hx y hy => (by cases hy)), rfl, r2⟩ (l1.trans g2.le) Agr.refl
    · exact s.elim
  | some z =>
    obtain ⟨j, ds, d⟩ := z
    dsimp only at s
    split at s
    · rename_i hj
      subst hj
      obtain ⟨v0, e0, G, R1, ap, hc⟩ := R
      refine ⟨v0, e0, h.rd _ O E σ H _ R1 ?_⟩
      cases em : m E with
      | bad => rw [em] at s; exact s.elim
      | ex x E1 => rw [em] at s; exact s.elim
      | ok u E1 =>
        rw [em] at s
        intro O1 w H1 R2 l1 rw1
        refine ⟨two, fun q o nq ho => ?_⟩
        have g : Grow O1 H1 (upd H1 q (.frz o (.tup [v0, w]))) := Grow.new R2.trk nq
        have hq : q ∉ O1 := fun z => R2.trk q z nq
        exact s O1 σ _ _ ⟨G, R2.grow g, ap, q, v0, w, rfl, .inl ⟨o, by rw [mask_out hq, upd_same], ho⟩, rw1.mono g.le, hc.mono (l1.trans g.le)⟩ (l1.trans g.le) Agr.refl
    · exact s.elim
end
end Bt
namespace Bt
open PySem L2
def mCallX {α : Type} (Fm : En → Res α) (ms : M (List Ag)) : En → Res α := fun E0 => match ms E0 with
  | .ok ags E => (if apartA E ags then match argSl E ags with
    | none => .bad
    | some as => match Fm as with
      | .ok d as' => (match putB E ags (as'.take ags.length) with
        | some E' => .ok d E'
        | none => .bad)
      | .ex x as' => (match putB E ags (as'.take ags.length) with
        | some E' => .ex x E'
        | none => .bad)
      | .bad => .bad
    else .bad)
  | .ex x E => .ex x E
  | .bad => .bad
section
variable {α : Type} {core : Core α} {K : PySem.W.Frag} {F : Frm} {O : List Addr} {E : En} {σ : L2.St} {H : Hp} {vs : List V} {ags : List Ag}
theorem call_outX {z : α} {v : V} {O' : List Addr} {H' : Hp} {as' : List Sl} {E' : En} (R : Rel K F O E σ H) (av : Paired (AgV K σ O H) vs ags) (ap : apartA E ags = true) (R' : RR core K (F ++ othF E σ H ags) O' as' (vs.map some) H' v z) (l : Le O H O' H') (hb : putB E ags (as'.take ags.length) = some E') : RR core K F O' E' σ H' v z := by
  obtain ⟨G, R1, hG, hc⟩ := R'
  rw [← List.append_assoc] at R1
  refine ⟨G, call_out (F' := G ++ F) (dvs := []) R av ap (by rw [List.append_nil]; exact R1) l hb fun i ds p e1 e3 e2 x hx => ?_, fun x hx => hG x (List.mem_append_left _ hx), hc⟩
  rcases List.mem_append.mp hx with hx | hx
  · obtain ⟨q', ho', e', hp, hh, _⟩ := R.slot i _ e1
    rw [e2] at e'
    cases e'
    exact fun z => hG _ (List.mem_append_right _ (othF_in e3 e1 e2 hh)) x hx z.symm
  · exact R.fap i ds p e1 e2 x hx
end
section
variable {α : Type} {core : Core α} {X : Cx} {W : WX} {K : PySem.W.Frag} {mg : Str → Option Value} {base : Heap} {P : Program} {w : World} {k : Nat} {f : Addr} {fd : FuncData} {ps : List Str} {Fm : En → Res α} {x : Str} {p pos : Pos} {e : Expr} {es : List Expr} {ts : TA} {ms : M (List Ag)}
theorem svx_call {n : Nat} (Fo : FnOk P w K mg base (L2.CX P w) k f fd ps (spX core K mg n Fm)) (eP : X.prog = P) (ew : X.w = w) (eK : X.K = K) (eM : X.mg = mg) (eB : X.base = base) (hr : Room k X.A) (hg : Gl X x) (hm : mg x = some (.ref f)) (hk : PySem.W.keepIn K (.ref f) = true) (hb : Binds K fd ps []) (hn : ps.length = n) (tk : Takes X W)
    (h : SOs X W (e :: es) ts ms) (hlen : LenM ms n) (hdb : (x == ("__debug__" : Str)) = false := by decide) (he : starEach (e :: es) X.env = (false, eval e X.env) :: starEach es X.env := by rfl) (hpl : (backTo pos (starEach es X.env)).any (·.1) = false := by rfl) :
    SVX core X W (.Call (.Name x p) (e :: es) [] pos) (tCallSD (spX core K mg n Fm) [] (fun σ => WE W σ) ts) (mCallX Fm ms) := by
  subst eP ew eK eM eB hn
  refine ⟨pe_callSD Fo hr hg hm hk hb .nil (fun σ => passAt tk σ) h.pa hdb he hpl, ?_⟩
  intro F O E σ H Q R s
  refine h.rd F O E σ H _ R ?_
  unfold mCallX at s
  cases em : ms E with
  | bad => rw [em] at s; exact s.elim
  | ex z E1 => rw [em] at s; exact s
  | ok ags E1 =>
    rw [em] at s
    intro O1 vs H1 R1 l1 av
    have hl := hlen E ags E1 em
    refine ⟨by rw [List.append_nil, av.length]; simpa using hl, ?_⟩
    dsimp only at s
    split at s
    · rename_i ap
      cases ha : argSl E1 ags with
      | none => rw [ha] at s; exact s.elim
      | some as =>
        rw [ha] at s
        dsimp only at s
        have R0 := call_in (dvs := []) (dds := []) R1 av .nil ap ha
        rw [List.map_nil, List.append_nil] at R0
        refine ⟨F ++ othF E1 σ H1 ags, O1, as, R0, ?_⟩
        rw [List.append_nil]
        cases ef : Fm as with
        | bad => rw [ef] at s; exact s.elim
        | ok d as' =>
          rw [ef] at s
          dsimp only at s
          intro O2 v H2 R2 l2
          split at s
          · rename_i E2 hb2
            exact s O2 v H2 (call_outX R1 av ap R2 l2 hb2) (l1.trans l2)
          · exact s.elim
        | ex z as' =>
          rw [ef] at s
          dsimp only at s
          intro O2 H2 c dd R2 l2 r2
          split at s
          · rename_i E2 hb2
            exact s O2 H2 c dd (call_out (dvs := []) R1 av ap (by rw [List.append_nil]; exact R2) l2 hb2 fun i ds p e1 _ e2 => R1.fap i ds p e1 e2) (l1.trans l2) r2
          · exact s.elim
    · exact s.elim
end
def mFnX {α : Type} (asg : List Nat) (nl : Nat) (m : MY TL α) : En → Res α := fun as => if okAsg asg as then match m (as ++ List.replicate nl .un) none with
  | .ok z E' _ => (match parBack as E' with
    | some as' => .ok z as'
    | none => .bad)
  | .ex x E' _ => (match parBack as E' with
    | some as' => .ex x as'
    | none => .bad)
  | .bad => .bad
  else .bad
section
variable {α : Type} {core : Core α} {P : Program} {w : World} {K : PySem.W.Frag} {mg : Str → Option Value} {base : Heap}
theorem fn_okXx {x qual : Str} {st : Stmt} {f : Addr} {fd : FuncData} {N ps : List Str} {k : Nat} {asg : List Nat} {m : MY TL α} (Fn : Fun K x qual st f fd) (S : FnScope N ps (defScope st)) (hN : ps.length ≤ N.length)
    (hbody : ∀ (cdv : Value) (A : Around) (outer : List Env) (s : Shared) (H : Hp) (E : XK), Room k (A.deeper (PyProof.Rows.envOfC qual (defScope st) s.heap.objs.size f cdv)) → ∃ t, YSsX core (cxOf (L2.CX P w) P w K mg base N qual (defScope st) f cdv A outer s H E) (fun c dd _ H' => E c dd H') asg (defBody st) t m) :
    FnOk P w K mg base (L2.CX P w) (k + 1) f fd ps (spX core K mg ps.length (mFnX asg (N.length - ps.length) m)) := by
  refine Fn.okX S (fun vs H Q E h => h.1) (fun cdv A outer s H vs Q Ex hr h => ?_)
  obtain ⟨t, hS⟩ := hbody cdv A outer s H Ex hr
  refine ⟨t, hS.ps, ?_⟩
  obtain ⟨hl, F, O, as, R, s0⟩ := h
  rw [← hl] at s0 hN
  refine hS.rd F O _ none _ H _ (R.start hN) ?_
  unfold mFnX at s0
  split at s0
  · rename_i okk
    cases em : m (as ++ List.replicate (N.length - vs.length) .un) none with
    | bad => rw [em] at s0; exact s0.elim
    | ex x E' c' =>
      rw [em] at s0
      dsimp only at s0
      cases hb : parBack as E' with
      | none => rw [hb] at s0; exact s0.elim
      | some as' =>
        rw [hb] at s0
        intro O' σ' H' cl dd R' l ag ex
        exact s0 O' H' cl dd (R.finish (Lay.out (L := LTL) R') l ag okk hb) l ex
    | ok z E' c' =>
      rw [em] at s0
      dsimp only at s0
      cases hb : parBack as E' with
      | none => rw [hb] at s0; exact s0.elim
      | some as' =>
        rw [hb] at s0
        rintro O' σ' v H' ⟨G, R', hG, hc⟩ l ag
        exact s0 O' v H' ⟨G, R.finish R' l ag okk hb, hG, hc⟩ l
  · exact s0.elim
theorem YSsX.ex {X : Cx} {W : WX} {a1 a2 : List Nat} {sts : List Stmt} {t : TS} {m : MY TL α} (h : YSsX core X W a1 sts t m) (hs : ∀ i ∈ a1, i ∈ a2) : ∃ t, YSsX core X W a2 sts t m :=
  ⟨t, h.ps, fun F O E c σ H D' R s => h.rd F O E c σ H D' R (s.mono (fun z E' c' k O' σ' v H' R' l ag => k O' σ' v H' R' l (fun i hi => ag i fun z => hi (hs i z))) (fun x E' c' k O' σ' H' cl dd R' l ag ex => k O' σ' H' cl dd R' l (fun i hi => ag i fun z => hi (hs i z)) ex))⟩
end
section
variable {X : Cx} {W : WX} {pos : Pos}
theorem Rel.setUn {K : PySem.W.Frag} {F : Frm} {O : List Addr} {E : En} {σ : L2.St} {H : Hp} {i : Nat} {v : V} (R : Rel K F O E σ H) (hi : i < E.length) : Rel K F O (E.set i .un) (σ.set i (some v)) H := by
  have ne : ∀ {j : Nat} {s : Sl}, (E.set i Sl.un)[j]? = some s → (i = j ∧ s = .un) ∨ (i ≠ j ∧ E[j]? = some s ∧ (σ.set i (some v))[j]? = σ[j]?) := fun {j s} e => by
    by_cases h : i = j
    · subst h; rw [List.getElem?_set_self hi] at e; cases e; exact .inl ⟨rfl, rfl⟩
    · rw [List.getElem?_set_ne h] at e; exact .inr ⟨h, e, List.getElem?_set_ne h⟩
  refine ⟨by rw [List.length_set, List.length_set]; exact R.len, R.trk, R.tab, fun j s e => ?_, fun j k ds es p e1 e2 e3 e4 => ?_, R.frm, fun j ds p e1 e2 => ?_, R.fodd⟩
  · rcases ne e with ⟨_, rfl⟩ | ⟨_, h2, h3⟩
    · trivial
    · rw [h3]; exact R.slot j s h2
  · rcases ne e1 with ⟨_, z⟩ | ⟨_, h2, h3⟩
    · cases z
    · rcases ne e2 with ⟨_, z⟩ | ⟨_, h4, h5⟩
      · cases z
      · rw [h3] at e3; rw [h5] at e4
        exact R.apart j k ds es p h2 h4 e3 e4
  · rcases ne e1 with ⟨_, z⟩ | ⟨_, h2, h3⟩
    · cases z
    · rw [h3] at e2
      exact R.fap j ds p h2 e2
def ySetTL (i : Nat) (mt : M Bool) (mb : En → Res (List D × D)) : MY TL Fl := fun E c => match c, mt E with
  | none, .ok false E1 => (match mb E1 with
    | .ok z E2 => if i < E2.length then .ok .nx (E2.set i .un) (some (i, z)) else .bad
    | .ex x E2 => .ex x E2 none
    | .bad => .bad)
  | _, _ => .bad
theorem ys_setTL {i : Nat} {st : Stmt} {cnd a b : Expr} {tt : TT} {ta tb : TE} {mt : M Bool} {mb : En → Res (List D × D)} (hp : PE X (.IfExp cnd a b pos) (tIf tt ta tb) → PS X st (tAsg (tIf tt ta tb) (gName i))) (hc : STt X W cnd tt mt) (ha : PE X a ta) (hb : SVX cTL X W b tb mb) : YS X W LTL [i] st (tAsg (tIf tt ta tb) (gName i)) (ySetTL i mt mb) := by
  refine ⟨hp (pe_ifExp hc.pt ha hb.pe), fun F O E c σ H D' R s => ?_⟩
  unfold ySetTL at s
  split at s
  · rename_i E1 em
    refine hc.rd F O E σ H _ R ?_
    rw [em]
    intro O1 H1 R1 l1
    show tb σ H1 _
    refine hb.rd F O1 E1 σ H1 _ R1 ?_
    cases e2 : mb E1 with
    | bad => rw [e2] at s; exact s.elim
    | ex x E2 =>
      rw [e2] at s
      exact fun O' H' cl dd R' l ex => s O' σ H' cl dd R' (l1.trans l) Agr.refl ex
    | ok z E2 =>
      rw [e2] at s
      rintro O2 v H2 ⟨G, R2, hG, hcc⟩ l2
      dsimp only at s
      split at s
      · rename_i hi
        have hi2 : i < σ.length := by rw [← R2.len]; exact hi
        exact s O2 _ H2 .non ⟨v, List.getElem?_set_self hi2, G, R2.setUn hi, hG, hcc⟩ (l1.trans l2) (fun j hj => List.getElem?_set_ne fun z => hj (by rw [← z]; exact List.mem_cons_self))
      · exact s.elim
  · exact s.elim
end
end Bt
namespace Bt
open PySem L2
def outTL : RY TL Fl → Res Fl
  | .ok f E _ => .ok f E
  | .ex x E _ => .ex x E
  | .bad => .bad
def mAsk (i j : Nat) (mc : En → Res RA) (rest : MY TL Fl) : M Fl := fun E => match mc E with
  | .ok z E1 => if i ≠ j ∧ i < E1.length ∧ j < E1.length then (match z with
    | .tl ds d c => outTL (rest ((E1.set i .un).set j (.dat c)) (some (i, ds, d)))
    | .dt (.tuple [a, b]) => outTL (rest ((E1.set i (.dat a)).set j (.dat b)) none)
    | _ => .bad) else .bad
  | .ex x E1 => .ex x E1
  | .bad => .bad
section
variable {X : Cx} {W : WX} {pos : Pos}
theorem sss_ask {i j : Nat} {st : Stmt} {e tg : Expr} {t : TE} {mc : En → Res RA} {a2 : List Nat} {sts : List Stmt} {u : TS} {rest : MY TL Fl} (hp : PE X e t → PG X tg (gTup X.K 2 (gCons (gName i) (gCons (gName j) gNil))) → PS X st (tAsg t (gTup X.K 2 (gCons (gName i) (gCons (gName j) gNil))))) (h : SVX cRA X W e t mc) (hg : PG X tg (gTup X.K 2 (gCons (gName i) (gCons (gName j) gNil)))) (hr : YSs X W LTL a2 sts u rest) :
    SSs X W ([i, j] ++ a2) (st :: sts) (tSeq (tAsg t (gTup X.K 2 (gCons (gName i) (gCons (gName j) gNil)))) u) (mAsk i j mc rest) := by
  refine ⟨pss_cons (hp h.pe hg) hr.ps, fun F O E σ H D' R s => ?_⟩
  show t σ H _
  refine h.rd F O E σ H _ R ?_
  unfold mAsk at s
  cases em : mc E with
  | bad => rw [em] at s; exact s.elim
  | ex x E1 =>
    rw [em] at s
    exact fun O' H' cl dd R' l ex => s O' σ H' cl dd R' l Agr.refl ex
  | ok z E1 =>
    rw [em] at s
    rintro O1 v H1 ⟨G, R1, hG, hc⟩ l1
    dsimp only at s
    split at s
    · rename_i hij
      obtain ⟨ne, hi, hj⟩ := hij
      have hl : E1.length = σ.length := R1.len
      have ag : ∀ (a b : Option V), Agr ([i, j] ++ a2) σ ((σ.set i a).set j b) := fun a b m hm => by
        have h1 : i ≠ m := fun z => hm (by rw [← z]; simp)
        have h2 : j ≠ m := fun z => hm (by rw [← z]; simp)
        rw [List.getElem?_set_ne h2, List.getElem?_set_ne h1]
      -- what follows, once the names are set
      have go : ∀ (c0 : TL) (E2 : En) (a b : V), SatY (rest E2 c0) (KYS LTL X.K F ([i, j] ++ a2) σ O H D') (KYXs LTL X.K X.mg F ([i, j] ++ a2) σ O H W) → RelTL X.K F O1 E2 c0 ((σ.set i (some a)).set j (some b)) H1 → u D' ((σ.set i (some a)).set j (some b)) H1 := fun c0 E2 a b s2 R2 =>
        hr.rd F O1 E2 c0 _ H1 D' R2 (s2.mono (fun f E3 c3 k O3 σ3 H3 v3 R3 l3 g3 => k O3 σ3 H3 v3 R3 (l1.trans l3) (fun m hm => (g3 m fun z => hm (List.mem_append_right _ z)).trans (ag _ _ m hm))) (fun x E3 c3 k O3 σ3 H3 cl dd R3 l3 g3 ex => k O3 σ3 H3 cl dd R3 (l1.trans l3) (fun m hm => (g3 m fun z => hm (List.mem_append_right _ z)).trans (ag _ _ m hm)) ex))
      have lift : ∀ (c0 : TL) (E2 : En), Sat (outTL (rest E2 c0)) (KS X.K F ([i, j] ++ a2) σ O H D') (KXs X.K X.mg F ([i, j] ++ a2) σ O H W) → SatY (rest E2 c0) (KYS LTL X.K F ([i, j] ++ a2) σ O H D') (KYXs LTL X.K X.mg F ([i, j] ++ a2) σ O H W) := fun c0 E2 s2 => by
        cases er : rest E2 c0 with
        | bad => rw [er] at s2; exact s2.elim
        | ok f E3 c3 =>
          rw [er] at s2
          exact fun O' σ' H' v' R' l' g' => s2 O' σ' H' v' (Lay.ofY R') l' g'
        | ex x E3 c3 =>
          rw [er] at s2
          exact fun O' σ' H' cl dd R' l' g' ex => s2 O' σ' H' cl dd (Lay.out (L := LTL) R') l' g' ex
      split at s
      · rename_i ds d c
        obtain ⟨T, v1, u1, rfl, ht, ru, hcc⟩ := hc
        refine ⟨T, [v1, u1], rfl, sqT_mono (mask_le O1 H1) ht.t, rfl, v1, [u1], rfl, u1, [], rfl, rfl, ?_⟩
        refine go (some (i, ds, d)) _ v1 u1 (lift _ _ s) ⟨v1, ?_, G, (R1.setUn hi).set ru (by rw [List.length_set]; exact hj), hG, hcc⟩
        rw [List.getElem?_set_ne ne.symm, List.getElem?_set_self (by omega)]
      · rename_i a b
        obtain ⟨rfl, rv⟩ := hc
        cases rv with
        | tup ht rr =>
          rename_i T xs
          cases rr with
          | cons ra rr =>
            cases rr with
            | cons rb rr =>
              cases rr
              rename_i va vb
              refine ⟨T, [va, vb], rfl, sqT_mono (mask_le O1 H1) ht.t, rfl, va, [vb], rfl, vb, [], rfl, rfl, ?_⟩
              have R1 : Rel X.K F O1 E1 σ H1 := R1
              exact go none _ va vb (lift _ _ s) ((R1.set ra hi).set rb (by rw [List.length_set]; exact hj))
      · exact s.elim
    · exact s.elim
end
def noOw (E : En) : Bool := E.all fun s => match s with
  | .ow _ => false
  | _ => true
theorem noOw_get {E : En} (h : noOw E = true) {i : Nat} {o : Ob} : E[i]? ≠ some (.ow o) := fun e => by
  have := List.all_eq_true.mp h _ (List.mem_of_getElem? e)
  cases this
section
variable {K : PySem.W.Frag} {F : Frm} {O : List Addr} {E : En} {σ : L2.St} {H : Hp} {i : Nat} {ds : List D} {d : D}
theorem lendTL (R : RelTL K F O E (some (i, ds, d)) σ H) (hi : i < E.length) (hn : noOw E = true) : ∃ p : Addr, Rel K F (rmA O p) (E.set i (.dat (.tuple [.list ds, d]))) σ H ∧ ∀ (O' : List Addr) (E' : En) (σ' : L2.St) (H' : Hp), Rel K F O' E' σ' H' → Le (rmA O p) H O' H' → (∀ j : Nat, σ'[j]? = σ[j]?) → RelTL K F (p :: O') E (some (i, ds, d)) σ' H' ∧ Le O H (p :: O') H' := by
  obtain ⟨v, e, G, R1, ap, T, p, w, us, rfl, h1, h2, rfl, h3⟩ := R
  have hF : ∀ x ∈ F, x.1 ≠ p := fun x hx => ap x hx _ List.mem_cons_self
  have R1 : Rel K ((p, .lst us) :: F) O E σ H := R1
  have hpO := (R1.frm _ List.mem_cons_self).1
  have hpH : H p = some (.lst us) := (R1.frm _ List.mem_cons_self).2
  have hpm : Mask (rmA O p) H p = some (.lst us) := by
    rw [mask_out (fun z => (mem_rmA.mp z).2 rfl)]
    exact hpH
  refine ⟨p, ?_, fun O' E' σ' H' R' l eσ => ?_⟩
  · have R2 := R1.freeF hF
    have es : σ.set i (some (.ref T)) = σ := by
      obtain ⟨hl, hv⟩ := List.getElem?_eq_some_iff.mp e
      rw [← hv]
      exact List.set_getElem_self hl
    have := R2.set (i := i) (v := .ref T) (d := .tuple [.list ds, d]) (.tup (h1.mono mask_rm) (.cons (.lst hpm (h3.mono mask_rm)) (.cons (h2.mono mask_rm) .nil))) hi
    rw [es] at this
    exact this
  · have es : σ' = σ := List.ext_getElem? eσ
    subst es
    obtain ⟨hpO', hpH'⟩ := mask_some (l p _ hpm)
    have l2 : Le O H (p :: O') H' := fun a o h => by
      obtain ⟨q1, q2⟩ := mask_some h
      have hne : a ≠ p := fun z => q1 (by rw [z]; exact hpO)
      have q3 : Mask (rmA O p) H a = some o := by rw [mask_out (fun z => q1 (mem_rmA.mp z).1)]; exact q2
      obtain ⟨q4, q5⟩ := mask_some (l a o q3)
      rw [mask_out (fun z => by rcases List.mem_cons.mp z with z | z; exact hne z; exact q4 z)]
      exact q5
    refine ⟨⟨_, e, [(p, .lst us)], ?_, ap, T, p, w, us, rfl, h1.mono l2, h2.mono l2, rfl, h3.mono l2⟩, l2⟩
    refine ⟨R1.len, fun q hq => ?_, ?_, fun j s ej => ?_, fun a b x y q e1 => absurd e1 (noOw_get hn), fun x hx => ?_, fun a x q e1 => absurd e1 (noOw_get hn), R1.fodd⟩
    · rcases List.mem_cons.mp hq with rfl | hq
      · rw [hpH']; exact nofun
      · exact R'.trk q hq
    · exact R'.tab.of (fun P ps _ h => ⟨List.mem_cons_of_mem _ h, by assumption⟩) fun a φ h => by
        obtain ⟨q4, q5⟩ := mask_some h
        rw [mask_out (fun z => by
          rcases List.mem_cons.mp z with z | z
          · rw [z, hpH'] at q5; cases q5
          · exact q4 z)]
        exact q5
    · have z := R1.slot j s ej
      cases s with
      | un => trivial
      | dat d => obtain ⟨v, e, r⟩ := z; exact ⟨v, e, r.mono l2⟩
      | ow o => exact absurd ej (noOw_get hn)
      | scr ns => obtain ⟨q, e, r⟩ := z; exact ⟨q, e, Same.seq l2 r⟩
    · rcases List.mem_cons.mp hx with rfl | hx
      · exact ⟨List.mem_cons_self, hpH'⟩
      · obtain ⟨a, b⟩ := R'.frm x hx
        exact ⟨List.mem_cons_of_mem _ a, b⟩
end
def yLend (i : Nat) (m : M Fl) : MY TL Fl := fun E c => match c with
  | none => yL m E none
  | some (j, ds, d) => if j = i ∧ i < E.length ∧ noOw E = true then (match m (E.set i (.dat (.tuple [.list ds, d]))) with
    | .ok .nx _ => .ok .nx E (some (j, ds, d))
    | .ok (.rt (.dat (.bool b))) _ => .ok (.rt (.dat (.bool b))) E (some (j, ds, d))
    | _ => .bad) else .bad
def yLendT (i : Nat) (m : M Bool) : MY TL Bool := fun E c => match c with
  | none => yL m E none
  | some (j, ds, d) => if j = i ∧ i < E.length ∧ noOw E = true then (match m (E.set i (.dat (.tuple [.list ds, d]))) with
    | .ok b _ => .ok b E (some (j, ds, d))
    | _ => .bad) else .bad
section
variable {X : Cx} {W : WX} {pos : Pos}
theorem yt_lend {i : Nat} {e : Expr} {t : TT} {m : M Bool} (h : STt X W e t m) : YT X W LTL e t (yLendT i m) := by
  refine ⟨h.pt, fun F O E c σ H Q R s => ?_⟩
  unfold yLendT at s
  cases c with
  | none => exact h.rd F O E σ H Q R (s.lift.mono (fun b E' k O' H' R' l => k O' H' R' l) (fun x E' k O' H' cl dd R' l ex => k O' H' cl dd R' l ex))
  | some z =>
    obtain ⟨j, ds, d⟩ := z
    dsimp only at s
    split at s
    · rename_i hj
      obtain ⟨rfl, hi, hn⟩ := hj
      obtain ⟨p, R1, bk⟩ := lendTL R hi hn
      refine h.rd F _ _ σ H Q R1 ?_
      cases em : m (E.set j (.dat (.tuple [.list ds, d]))) with
      | bad => rw [em] at s; exact s.elim
      | ex x E' => rw [em] at s; exact s.elim
      | ok b E' =>
        rw [em] at s
        intro O' H' R' l
        obtain ⟨R2, l2⟩ := bk O' E' σ H' R' l fun _ => rfl
        exact s _ H' R2 l2
    · exact s.elim
theorem ys_lend {i : Nat} {st : Stmt} {t : TS} {m : M Fl} (h : SS X W [] st t m) : YS X W LTL [] st t (yLend i m) := by
  refine ⟨h.ps, fun F O E c σ H D' R s => ?_⟩
  unfold yLend at s
  cases c with
  | none =>
    refine h.rd F O E σ H D' R (s.lift.mono (fun f E' k O' σ' H' v R' l ag => k O' σ' H' v ?_ l ag) (fun x E' k O' σ' H' cl dd R' l ag ex => k O' σ' H' cl dd R' l ag ex))
    cases f with
    | nx => exact R'
    | bk => exact R'
    | ct => exact R'
    | rt z => cases z <;> exact R'
  | some z =>
    obtain ⟨j, ds, d⟩ := z
    dsimp only at s
    split at s
    · rename_i hj
      obtain ⟨rfl, hi, hn⟩ := hj
      obtain ⟨p, R1, bk⟩ := lendTL R hi hn
      refine h.rd F _ _ σ H D' R1 ?_
      split at s
      · rename_i E' em
        rw [em]
        intro O' σ' H' v R' l ag
        obtain ⟨R2, l2⟩ := bk O' E' σ' H' R' l fun q => ag q (by simp)
        exact s _ σ' H' v R2 l2 ag
      · rename_i b E' em
        rw [em]
        intro O' σ' H' v R' l ag
        obtain ⟨R2, l2⟩ := bk O' E' σ' H' R'.1 l fun q => ag q (by simp)
        have hv := R'.2
        cases hv
        exact s _ σ' H' _ ⟨R2, .bl b⟩ l2 ag
      · exact s.elim
    · exact s.elim
def mApp0 (i : Nat) : MY TL Fl := fun E c => match c with
  | some (j, ds, _) => if j = i ∧ ds.length < LIM then .ok .nx E none else .bad
  | none => .bad
theorem ys_app0 {i : Nat} {st : Stmt} (hp : PS X st (tDrop (tBM X.K "list" rAppend (tOp (rIx X.K) (tVar i) (tC (.int 0))) (tCons (tC .non) tNil)))) : YS X W LTL [] st (tDrop (tBM X.K "list" rAppend (tOp (rIx X.K) (tVar i) (tC (.int 0))) (tCons (tC .non) tNil))) (mApp0 i) := by
  refine ⟨hp, fun F O E c σ H D' R s => ?_⟩
  unfold mApp0 at s
  split at s
  · rename_i j ds d
    split at s
    · rename_i hj
      obtain ⟨rfl, hl⟩ := hj
      obtain ⟨v, e, G, R1, ap, T, p, w, us, rfl, h1, h2, rfl, h3⟩ := R
      have hF : ∀ x ∈ F, x.1 ≠ p := fun x hx => ap x hx _ List.mem_cons_self
      have R1 : Rel X.K ((p, .lst us) :: F) O E σ H := R1
      have hpH : H p = some (.lst us) := (R1.frm _ List.mem_cons_self).2
      have hpO := (R1.frm _ List.mem_cons_self).1
      have R2 := R1.updF (o' := .lst (us ++ [.non])) hF (by first | exact notOdd_lst | exact notOdd_dK | exact notOdd_ext | assumption)
      have em : Mask O (upd H p (.lst (us ++ [.non]))) = Mask O H := mask_upd_in hpO
      refine ⟨.ref T, e, .inr (.inl ⟨T, [.ref p, w], 0, .ref p, rfl, rfl, sqT_mono (mask_le O H) h1.t, rfl, .inl ⟨rfl, _, SqL.of hpH⟩, p, us, .non, rfl, rfl, hpH, by rw [h3.length]; exact lim_lt hl, ?_⟩)⟩
      exact s O σ _ .non (R2.subF fun x hx => List.mem_cons_of_mem _ hx) (by unfold Le; rw [em]; exact Same.refl _) Agr.refl
    · exact s.elim
  · exact s.elim
end
end Bt
namespace Lw
open PySem L2 Bt
noncomputable def m_is_from : M Fl := (mSeq (mRet (mAndV (mIsi "int" (mR 0)) (mAndV (mNotV (mIsi "bool" (mR 0))) (mOp geD (mR 0) (mR 1))))) mNil)
noncomputable def s_is_from : M Sl := mFn [] 0 m_is_from
noncomputable def m_look_at_number : M Fl := (mSeq (mIfS (mNot (bnd (mCall s_is_from [] (mCons (mR 0) (mCons (mR 1) (ret [])))) asB)) (mSeq (mRaise0 4) mNil) mNil) mNil)
noncomputable def s_look_at_number : M Sl := mFn [] 0 m_look_at_number
noncomputable def m_is_lot : M Fl := (mSeq (mRet (mAndV (mIsi "tuple" (mR 0)) (mAndV (mOp eqD (mD (mB lenF (mCons (mR 0) (ret [])))) (mD (ret (.int 2)))) (mAndV (mCall s_is_from [] (mCons (mD (mOp ixD (mR 0) (mD (ret (.int 0))))) (mCons (mD (ret (.int 1))) (ret [])))) (mCall s_is_from [] (mCons (mD (mOp ixD (mR 0) (mD (ret (.int 1))))) (mCons (mD (ret (.int 1))) (ret [])))))))) mNil)
noncomputable def s_is_lot : M Sl := mFn [] 0 m_is_lot
noncomputable def lc_is_pile_1 : M D := (mLc (mIt (mV 0)) (gN 3) (ret true) (mCall s_is_lot [] (mCons (mR 3) (ret []))) [3])
noncomputable def lc_is_pile_2 : M D := (mLc (mZip (mConsD (mV 0) (mConsD (mSl (mR 0) (mPart (some (ret (.int 1)))) (mPart none)) (ret [])))) (gTupM 2 (gConsM (gN 1) (gConsM (gN 2) gNilM))) (ret true) (mOp ltD (mD (mOp ixD (mR 1) (mD (ret (.int 0))))) (mD (mOp ixD (mR 2) (mD (ret (.int 0)))))) [1, 2])
noncomputable def m_is_pile : M Fl := (mSeq (mIfS (mOr (mNot (bnd (mIsi "tuple" (mR 0)) asB)) (mNot (bnd (mB allF (mCons (mD lc_is_pile_1) (ret []))) asB))) (mSeq (mRet (ret (.bool false))) mNil) mNil) (mSeq (mRet (mB allF (mCons (mD lc_is_pile_2) (ret [])))) mNil))
noncomputable def s_is_pile : M Sl := mFn [] 3 m_is_pile
noncomputable def m_look_at_pile : M Fl := (mSeq (mIfS (mNot (bnd (mCall s_is_pile [] (mCons (mR 0) (ret []))) asB)) (mSeq (mRaise0 1) mNil) mNil) mNil)
noncomputable def s_look_at_pile : M Sl := mFn [] 0 m_look_at_pile
end Lw
namespace Lw
open PySem L2 Bt
noncomputable def lc_from_counts_1 : M D := (mLc (mIt (mSortD 0)) (gN 1) (bnd (mOp gtD (mD (mDGet 0 (mR 1))) (mD (ret (.int 0)))) asB) (mTup (mConsD (mV 1) (mConsD (mDGet 0 (mR 1)) (ret [])))) [1])
noncomputable def m_from_counts : M Fl := (mSeq (mRet (mB tupleF (mCons (mD lc_from_counts_1) (ret [])))) mNil)
noncomputable def s_from_counts : M Sl := mFn [] 1 m_from_counts
noncomputable def lp_take_by_1 : M Fl := (mSeq (mIfS (bnd (mOp ltD (mD (mDGet2 2 (mR 3) (ret (.int 0)))) (mR 4)) asB) (mSeq (mRaise1 13 (mV 3)) mNil) mNil) (mSeq (mDAug (· - ·) 2 (mR 3) (mV 4)) mNil))
noncomputable def fr_take_by_1 : M Fl := (mFor [3, 4] (mIt (mV 1)) (gTupM 2 (gConsM (gN 3) (gConsM (gN 4) gNilM))) lp_take_by_1)
noncomputable def m_take_by : M Fl := (mSeq (mOwnO 2 (mDict (mR 0))) (mSeq fr_take_by_1 (mSeq (mRetS (mCallO s_from_counts [] (mCons (mR 2) (ret [])))) mNil)))
noncomputable def s_take_by : M Sl := mFn [2, 3, 4] 3 m_take_by
end Lw
namespace Lw
open PySem L2 Bt
end Lw
namespace Lw
open PySem L2 Bt
end Lw
namespace Lw
open PySem L2 Bt
noncomputable def m_frame_of : M Fl := (mSeq (mRet (mIf (mOr (bnd (mOp eqD (mR 1) (mD (ret (.int 0)))) asB) (bnd (mOp eqD (mR 2) (mD (ret (.tuple [.str (Str.ofString "none")])))) asB)) (ret (.tuple [.str (Str.ofString "none")])) (mTup (mConsD (mV 0) (mConsD (mV 1) (mConsD (mV 2) (ret []))))))) mNil)
noncomputable def s_frame_of : M Sl := mFn [] 0 m_frame_of
end Lw
namespace Lw
open PySem L2 Bt
noncomputable def lc_is_name_1 : M D := (mLc (mIt (mV 0)) (gN 1) (ret true) (mOp inD (mR 1) (mD (ret (.str (Str.ofString "abcdefghijklmnopqrstuvwxyz"))))) [1])
noncomputable def m_is_name : M Fl := (mSeq (mIfS (mOr (mNot (bnd (mIsi "str" (mR 0)) asB)) (mNot (bnd (mChain leD leD (mD (ret (.int 1))) (mD (mB lenF (mCons (mR 0) (ret [])))) (mD (ret (.int 8)))) asB))) (mSeq (mRet (ret (.bool false))) mNil) mNil) (mSeq (mRet (mB allF (mCons (mD lc_is_name_1) (ret [])))) mNil))
noncomputable def s_is_name : M Sl := mFn [] 1 m_is_name
noncomputable def m_parts_in : M Fl := (mSeq (mIfS (bnd (mOp inD (mD (mOp ixD (mR 0) (mD (ret (.int 0))))) (mD (ret (.tuple [.str (Str.ofString "all"), .str (Str.ofString "one")])))) asB) (mSeq (mRet (mOp ixD (mR 0) (mD (ret (.int 1))))) mNil) mNil) (mSeq (mRet (mIf (bnd (mOp inD (mD (mOp ixD (mR 0) (mD (ret (.int 0))))) (mD (ret (.tuple [.str (Str.ofString "within"), .str (Str.ofString "calls")])))) asB) (mTup (mConsD (mOp ixD (mR 0) (mD (ret (.int 2)))) (ret []))) (mTup (ret [])))) mNil))
noncomputable def s_parts_in : M Sl := mFn [] 0 m_parts_in
noncomputable def lc_is_form_1 (ih : M Sl) : M D := (mLc (mIt (mOp ixD (mR 3) (mD (ret (.int 0))))) (gN 4) (ret true) (mCall ih [] (mCons (mR 4) (mCons (mD (mOp subD (mR 1) (mD (ret (.int 1))))) (ret [])))) [4])
noncomputable def m_is_form (ih : M Sl) : M Fl := (mSeq (mIfS (mOr (mNot (bnd (mIsi "tuple" (mR 0)) asB)) (mOr (bnd (mOp eqD (mD (mB lenF (mCons (mR 0) (ret [])))) (mD (ret (.int 0)))) asB) (mOr (mNot (bnd (mIsi "str" (mD (mOp ixD (mR 0) (mD (ret (.int 0)))))) asB)) (bnd (mOp ltD (mR 1) (mD (ret (.int 1)))) asB)))) (mSeq (mRet (ret (.bool false))) mNil) mNil) (mSeq (mSet (gStarM (gN 2) 3) (mV 0)) (mSeq (mIfS (bnd (mOp eqD (mR 2) (mD (ret (.str (Str.ofString "none"))))) asB) (mSeq (mRet (mOp eqD (mD (mB lenF (mCons (mR 3) (ret [])))) (mD (ret (.int 0))))) mNil) mNil) (mSeq (mIfS (bnd (mOp eqD (mR 2) (mD (ret (.str (Str.ofString "call"))))) asB) (mSeq (mRet (mAndV (mOp eqD (mD (mB lenF (mCons (mR 3) (ret [])))) (mD (ret (.int 3)))) (mAndV (mCall s_is_name [] (mCons (mD (mOp ixD (mR 3) (mD (ret (.int 0))))) (ret []))) (mAndV (mCall s_is_from [] (mCons (mD (mOp ixD (mR 3) (mD (ret (.int 1))))) (mCons (mD (ret (.int 1))) (ret [])))) (mCall s_is_from [] (mCons (mD (mOp ixD (mR 3) (mD (ret (.int 2))))) (mCons (mD (ret (.int 1))) (ret [])))))))) mNil) mNil) (mSeq (mIfS (bnd (mOp inD (mR 2) (mD (ret (.tuple [.str (Str.ofString "within"), .str (Str.ofString "calls")])))) asB) (mSeq (mRet (mAndV (mOp eqD (mD (mB lenF (mCons (mR 3) (ret [])))) (mD (ret (.int 2)))) (mAndV (mCall s_is_from [] (mCons (mD (mOp ixD (mR 3) (mD (ret (.int 0))))) (mCons (mD (ret (.int 1))) (ret [])))) (mCall ih [] (mCons (mD (mOp ixD (mR 3) (mD (ret (.int 1))))) (mCons (mD (mOp subD (mR 1) (mD (ret (.int 1))))) (ret []))))))) mNil) mNil) (mSeq (mIfS (mOr (bnd (mOp ninD (mR 2) (mD (ret (.tuple [.str (Str.ofString "all"), .str (Str.ofString "one")])))) asB) (mOr (bnd (mOp neD (mD (mB lenF (mCons (mR 3) (ret [])))) (mD (ret (.int 1)))) asB) (mNot (bnd (mIsi "tuple" (mD (mOp ixD (mR 3) (mD (ret (.int 0)))))) asB)))) (mSeq (mRet (ret (.bool false))) mNil) mNil) (mSeq (mRet (mB allF (mCons (mD (lc_is_form_1 ih)) (ret [])))) mNil)))))))
noncomputable def s_is_form : Nat → M Sl
  | 0 => stuck
  | n + 1 => mFn [2, 3] 3 (m_is_form (s_is_form n))
theorem r_is_form (n : Nat) : s_is_form (n + 1) = mFn [2, 3] 3 (m_is_form (s_is_form n)) := rfl
noncomputable def lc_calls_in_1 (ih : M Sl) : M D := (mLc2 (mIt (mCall s_parts_in [] (mCons (mR 0) (ret [])))) (gN 1) (ret true) (mIt (mCall ih [] (mCons (mR 1) (ret [])))) (gN 2) (ret true) (mV 2) [1, 2] [2])
noncomputable def m_calls_in (ih : M Sl) : M Fl := (mSeq (mIfS (bnd (mOp eqD (mD (mOp ixD (mR 0) (mD (ret (.int 0))))) (mD (ret (.str (Str.ofString "call"))))) asB) (mSeq (mRet (mLst (mConsD (mV 0) (ret [])))) mNil) mNil) (mSeq (mRet (lc_calls_in_1 ih)) mNil))
noncomputable def s_calls_in : Nat → M Sl
  | 0 => stuck
  | n + 1 => mFn [] 2 (m_calls_in (s_calls_in n))
theorem r_calls_in (n : Nat) : s_calls_in (n + 1) = mFn [] 2 (m_calls_in (s_calls_in n)) := rfl
noncomputable def lc_names_in_1 : M D := (mLc (mIt (mCall (s_calls_in 30) [] (mCons (mR 0) (ret [])))) (gTupM 4 (gConsM (gN 1) (gConsM (gN 2) (gConsM (gN 3) (gConsM (gN 4) gNilM))))) (ret true) (mV 2) [1, 2, 3, 4])
noncomputable def m_names_in : M Fl := (mSeq (mRetS (mObj (mLstO (mAsL lc_names_in_1)))) mNil)
noncomputable def s_names_in : M Sl := mFn [] 4 m_names_in
noncomputable def lc_is_right_1 : M D := (mLenK (mIt (mV 1)) (gN 2) (ret true) (mV 2) [2])
noncomputable def m_is_right : M Fl := (mSeq (mIfS (mNot (bnd (mCall (s_is_form 30) [] (mCons (mR 0) (mCons (mD (ret (.int 6))) (ret [])))) asB)) (mSeq (mRet (ret (.bool false))) mNil) mNil) (mSeq (mSet (gN 1) (mCall s_names_in [] (mCons (mR 0) (ret [])))) (mSeq (mRet (mOp eqD (mD lc_is_right_1) (mD (mB lenF (mCons (mR 1) (ret [])))))) mNil)))
noncomputable def s_is_right : M Sl := mFn [1] 2 m_is_right
noncomputable def m_look_at_right : M Fl := (mSeq (mIfS (mNot (bnd (mCall s_is_right [] (mCons (mR 0) (ret []))) asB)) (mSeq (mRaise0 2) mNil) mNil) mNil)
noncomputable def s_look_at_right : M Sl := mFn [] 0 m_look_at_right
end Lw
namespace Lw
open PySem L2 Bt
noncomputable def lp_pay_by_1 : M Fl := (mSeq (mSet (gN 6) (mB minF (mCons (mR 5) (mCons (mD (mOp fdivD (mR 2) (mR 4))) (ret []))))) (mSeq (mAug (· - ·) 2 (mOp mulD (mR 6) (mR 4))) (mSeq (mIfS (bnd (mOp gtD (mR 6) (mD (ret (.int 0)))) asB) (mSeq (mApp 3 (mTup (mConsD (mV 4) (mConsD (mV 6) (ret []))))) mNil) mNil) mNil)))
noncomputable def fr_pay_by_1 : M Fl := (mFor [4, 5, 6] (mIt (mRev (mR 0))) (gTupM 2 (gConsM (gN 4) (gConsM (gN 5) gNilM))) lp_pay_by_1)
noncomputable def m_pay_by : M Fl := (mSeq (mSet (gN 2) (mV 1)) (mSeq (mOwn 3 (mLstF (ret []))) (mSeq fr_pay_by_1 (mSeq (mIfS (bnd (mOp gtD (mR 2) (mD (ret (.int 0)))) asB) (mSeq (mRaise1 14 (mV 2)) mNil) mNil) (mSeq (mRet (mB tupleF (mCons (mD (mRev (mR 3))) (ret [])))) mNil)))))
noncomputable def s_pay_by : M Sl := mFn [2, 3, 4, 5, 6] 5 m_pay_by
noncomputable def m_pay : M Fl := (mSeq (mExpr (mCall s_look_at_pile [] (mCons (mR 0) (ret [])))) (mSeq (mExpr (mCall s_look_at_number [] (mCons (mR 1) (mCons (mD (ret (.int 0))) (ret []))))) (mSeq (mRetS (mCallO s_pay_by [] (mCons (mR 0) (mCons (mR 1) (ret []))))) mNil)))
noncomputable def s_pay : M Sl := mFn [] 0 m_pay
noncomputable def lc_paid_1 : M D := (mLc (mIt (mV 1)) (gN 4) (ret true) (mCall s_is_from [] (mCons (mR 4) (mCons (mD (ret (.int 0))) (ret [])))) [4])
noncomputable def lp_paid_1 : M Fl := (mSeq (mApp 2 (mCall s_pay_by [] (mCons (mR 3) (mCons (mR 4) (ret []))))) (mSeq (mSet (gN 3) (mCall s_take_by [] (mCons (mR 3) (mCons (mD (mOp ixD (mR 2) (mD (mNeg (mD (ret (.int 1))))))) (ret []))))) mNil))
noncomputable def fr_paid_1 : M Fl := (mFor [4] (mIt (mV 1)) (gN 4) lp_paid_1)
noncomputable def m_paid : M Fl := (mSeq (mExpr (mCall s_look_at_pile [] (mCons (mR 0) (ret [])))) (mSeq (mIfS (mOr (mNot (bnd (mIsi "list" (mR 1)) asB)) (mNot (bnd (mB allF (mCons (mD lc_paid_1) (ret []))) asB))) (mSeq (mRaise0 4) mNil) mNil) (mSeq (mOwn 2 (mLstF (ret []))) (mSeq (mSet (gN 3) (mV 0)) (mSeq fr_paid_1 (mSeq (mRet (mTup (mConsD (mFrz 2) (mConsD (mV 3) (ret []))))) mNil))))))
noncomputable def s_paid : M Sl := mFn [2, 3, 4] 3 m_paid
end Lw
namespace Lw
open PySem L2 Bt
noncomputable def m__law_mixed : M Fl := (mSeq (mSet (gN 2) (mOp modD (mD (mOp addD (mD (mOp addD (mD (mOp mulD (mD (mOp modD (mR 0) (mD (ret (.int 2147483647))))) (mD (ret (.int 48271))))) (mD (mOp mulD (mR 1) (mD (ret (.int 69621))))))) (mD (ret (.int 1048583))))) (mD (ret (.int 2147483629))))) (mSeq (mSet (gN 2) (mOp modD (mD (mOp mulD (mR 2) (mR 2))) (mD (ret (.int 2147483587))))) (mSeq (mRet (mOp modD (mD (mOp mulD (mR 2) (mD (mOp addD (mR 2) (mD (ret (.int 2))))))) (mD (ret (.int 2147483579))))) mNil)))
noncomputable def s__law_mixed : M Sl := mFn [2] 1 m__law_mixed
noncomputable def lp__law_cell_1 : M Fl := (mSeq (mSet (gN 3) (mOp addD (mD (mOp mulD (mR 3) (mD (ret (.int 2147483579))))) (mD (mCall s__law_mixed [] (mCons (mR 2) (mCons (mD (mOp addD (mD (mOp addD (mD (mOp mulD (mD (ret (.int 7))) (mR 1))) (mD (mOp mulD (mD (ret (.int 100))) (mR 4))))) (mD (mOp mulD (mR 4) (mR 4))))) (ret []))))))) mNil)
noncomputable def fr__law_cell_1 : M Fl := (mFor [4] (mRng1 (mCons (mD (ret (.int 24))) (ret []))) (gN 4) lp__law_cell_1)
noncomputable def m__law_cell : M Fl := (mSeq (mSet (gN 2) (ret (.int 0))) (mSeq (mIfS (bnd (mOp ltD (mR 1) (mD (mLenScr 0))) asB) (mSeq (mSet (gN 2) (mIxScr 0 (mR 1))) mNil) mNil) (mSeq (mIfS (bnd (mOp geD (mR 2) (mD (mOp powD (mD (ret (.int 10))) (mD (ret (.int 18)))))) asB) (mSeq (mRet (mOp modD (mD (mOp subD (mR 2) (mD (mOp powD (mD (ret (.int 10))) (mD (ret (.int 18))))))) (mD (mOp mulD (mD (mOp mulD (mD (mOp mulD (mD (mOp powD (mD (ret (.int 10))) (mD (ret (.int 60))))) (mD (mOp powD (mD (ret (.int 10))) (mD (ret (.int 60))))))) (mD (mOp powD (mD (ret (.int 10))) (mD (ret (.int 60))))))) (mD (mOp powD (mD (ret (.int 10))) (mD (ret (.int 60))))))))) mNil) mNil) (mSeq (mSet (gN 3) (ret (.int 0))) (mSeq fr__law_cell_1 (mSeq (mRet (mV 3)) mNil))))))
noncomputable def s__law_cell : M Sl := mFn [2, 3, 4] 3 m__law_cell
noncomputable def m__law_take : M Fl := (mSeq (mSet (gN 2) (mOp modD (mD (mOp ixD (mR 0) (mD (ret (.int 0))))) (mR 1))) (mSeq (mPut 0 (mD (ret (.int 0))) (mOp fdivD (mD (mOp ixD (mR 0) (mD (ret (.int 0))))) (mR 1))) (mSeq (mRet (mV 2)) mNil)))
noncomputable def s__law_take : M Sl := mFn [2] 1 m__law_take
end Lw
namespace Lw
open PySem L2 Bt
noncomputable def lp__law_coins_v2_1 : M Fl := (mSeq (mSet (gN 5) (mOp addD (mD (mOp addD (mR 5) (mD (ret (.int 1))))) (mD (mCall s__law_take [] (mCons (mR 0) (mCons (mR 2) (ret []))))))) (mSeq (mApp 4 (mTup (mConsD (mV 5) (mConsD (mOp addD (mD (ret (.int 1))) (mD (mCall s__law_take [] (mCons (mR 0) (mCons (mR 3) (ret [])))))) (ret []))))) mNil))
noncomputable def fr__law_coins_v2_1 : M Fl := (mFor [6] (mRng1 (mCons (mD (mCall s__law_take [] (mCons (mR 0) (mCons (mD (mOp addD (mR 1) (mD (ret (.int 1))))) (ret []))))) (ret []))) (gN 6) lp__law_coins_v2_1)
noncomputable def m__law_coins_v2 : M Fl := (mSeq (mOwn 4 (mLstF (ret []))) (mSeq (mSet (gN 5) (ret (.int 0))) (mSeq fr__law_coins_v2_1 (mSeq (mRet (mB tupleF (mCons (mR 4) (ret [])))) mNil))))
noncomputable def s__law_coins_v2 : M Sl := mFn [4, 5, 6] 3 m__law_coins_v2
end Lw
namespace Lw
open PySem L2 Bt
noncomputable def lc_k20_paidX_1 : M D := (mLc (mIt (mV 1)) (gN 4) (ret true) (mCall s_is_from [] (mCons (mR 4) (mCons (mD (ret (.int 0))) (ret [])))) [4])
noncomputable def lp_k20_paidX_1 : M Fl := (mSeq (mApp 2 (mCall s_pay_by [] (mCons (mR 3) (mCons (mR 4) (ret []))))) (mSeq (mSet (gN 3) (mCall s_take_by [] (mCons (mR 3) (mCons (mD (mOp ixD (mR 2) (mD (mNeg (mD (ret (.int 1))))))) (ret []))))) mNil))
noncomputable def fr_k20_paidX_1 : M Fl := (mFor [4] (mIt (mV 1)) (gN 4) lp_k20_paidX_1)
noncomputable def m_k20_paidX : MY TL (List D × D) := (yB (yS slTL [] (mExpr (mCall s_look_at_pile [] (mCons (mR 0) (ret []))))) fun fl => match fl with | .nx => (yB (yS slTL [] (mIfS (mOr (mNot (bnd (mIsi "list" (mR 1)) asB)) (mNot (bnd (mB allF (mCons (mD lc_k20_paidX_1) (ret []))) asB))) (mSeq (mRaise0 4) mNil) mNil)) fun fl => match fl with | .nx => (yB (yS slTL [] (mOwn 2 (mLstF (ret [])))) fun fl => match fl with | .nx => (yB (yS slTL [] (mSet (gN 3) (mV 0))) fun fl => match fl with | .nx => (yB (yS slTL [] fr_k20_paidX_1) fun fl => match fl with | .nx => (mRetTL 2 (mV 3)) | _ => yStuck) | _ => yStuck) | _ => yStuck) | _ => yStuck) | _ => yStuck)
noncomputable def s_k20_paidX : En → Res (List D × D) := mFnX [2, 3, 4] 3 m_k20_paidX
noncomputable def lc_k20__law_one_1 : M D := (mLc (mIt (mV 0)) (gTupM 2 (gConsM (gN 4) (gConsM (gN 8) gNilM))) (ret true) (mTup (mConsD (mV 4) (mConsD (mV 8) (ret [])))) [4, 8])
noncomputable def lp_k20__law_one_1 : M Fl := (mSeq (mSet (gN 7) (mOp fdivD (mR 1) (mR 4))) (mSeq (mIfS (bnd (mOp gtD (mR 7) (mD (mDGet 2 (mR 4)))) asB) (mSeq (mSet (gN 7) (mDGet 2 (mR 4))) mNil) mNil) (mSeq (mDPut 3 (mR 4) (mV 7)) (mSeq (mSet (gN 1) (mOp subD (mR 1) (mD (mOp mulD (mR 7) (mR 4))))) mNil))))
noncomputable def fr_k20__law_one_1 : M Fl := (mFor [4, 7] (mIt (mRev (mD (mSortD 2)))) (gN 4) lp_k20__law_one_1)
noncomputable def lc_k20__law_one_2 : M D := (mLc (mIt (mSortD 3)) (gN 4) (bnd (mOp gtD (mD (mDGet 3 (mR 4))) (mD (ret (.int 0)))) asB) (mTup (mConsD (mV 4) (mConsD (mDGet 3 (mR 4)) (ret [])))) [4])
noncomputable def lc_k20__law_one_3 : M D := (mLc (mIt (mSortD 3)) (gN 4) (bnd (mOp gtD (mD (mDGet 2 (mR 4))) (mD (mDGet 3 (mR 4)))) asB) (mTup (mConsD (mV 4) (mConsD (mOp subD (mD (mDGet 2 (mR 4))) (mD (mDGet 3 (mR 4)))) (ret [])))) [4])
noncomputable def m_k20__law_one : M Fl := (mSeq (mOwnO 2 (mDict (mD lc_k20__law_one_1))) (mSeq (mOwnO 3 mDNew) (mSeq fr_k20__law_one_1 (mSeq (mSet (gN 5) (mB tupleF (mCons (mD lc_k20__law_one_2) (ret [])))) (mSeq (mSet (gN 6) (mB tupleF (mCons (mD lc_k20__law_one_3) (ret [])))) (mSeq (mRet (mTup (mConsD (mV 5) (mConsD (mV 6) (mConsD (mV 1) (ret [])))))) mNil))))))
noncomputable def s_k20__law_one : M Sl := mFn [1, 2, 3, 4, 5, 6, 7] 7 m_k20__law_one
noncomputable def lp_k20__law_row_1 : M Fl := (mSeq (mSet (gTupM 3 (gConsM (gN 4) (gConsM (gN 0) (gConsM (gN 5) gNilM)))) (mCall s_k20__law_one [] (mCons (mR 0) (mCons (mR 3) (ret []))))) (mSeq (mApp 2 (mV 4)) (mSeq (mIfS (bnd (mOp gtD (mR 5) (mD (ret (.int 0)))) asB) (mSeq (mRet (mTup (mConsD (ret .none) (mConsD (mV 5) (ret []))))) mNil) mNil) mNil)))
noncomputable def fr_k20__law_row_1 : M Fl := (mFor [3, 4, 5] (mIt (mV 1)) (gN 3) lp_k20__law_row_1)
noncomputable def m_k20__law_row : M Fl := (mSeq (mOwn 2 (mLstF (ret []))) (mSeq fr_k20__law_row_1 (mSeq (mRet (mTup (mConsD (mTup (mConsD (mFrz 2) (mConsD (mV 0) (ret [])))) (mConsD (ret (.int 0)) (ret []))))) mNil)))
noncomputable def s_k20__law_row : M Sl := mFn [0, 2, 3, 4, 5] 4 m_k20__law_row
noncomputable def tb_k20__law_asked_1 : M Fl := (mSeq (mSet (gN 4) (mIf (bnd (mOp eqD (mR 0) (mD (ret (.int 0)))) asB) (mCall s_pay [] (mCons (mR 1) (mCons (mR 2) (ret [])))) (mCall s_paid [] (mCons (mR 1) (mCons (mR 2) (ret [])))))) mNil)
noncomputable def m_k20__law_asked : M Fl := (mSeq (mSet (gTupM 2 (gConsM (gN 4) (gConsM (gN 5) gNilM))) (mTup (mConsD (ret .none) (mConsD (ret .none) (ret []))))) (mSeq (mTry 0 3 tb_k20__law_asked_1 (mSeq (mSet (gN 5) (mV 3)) mNil)) (mSeq (mRet (mTup (mConsD (mV 4) (mConsD (mV 5) (ret []))))) mNil)))
noncomputable def s_k20__law_asked : M Sl := mFn [3, 4, 5] 3 m_k20__law_asked
noncomputable def tb_k20__law_askedX_1 : MY TL Fl := (ySeq (ySetTL 4 (bnd (mOp eqD (mR 0) (mD (ret (.int 0)))) asB) (mCallX s_k20_paidX (mCons (mR 1) (mCons (mR 2) (ret []))))) (yR .nx))
noncomputable def m_k20__law_askedX : MY TL (RA) := (yB (yS slTL [] (mSet (gTupM 2 (gConsM (gN 4) (gConsM (gN 5) gNilM))) (mTup (mConsD (ret .none) (mConsD (ret .none) (ret [])))))) fun fl => match fl with | .nx => (yB (yTry slTL [] 0 3 tb_k20__law_askedX_1 (mSeq (mSet (gN 5) (mV 3)) mNil)) fun fl => match fl with | .nx => (mRetA 4 (mV 5)) | _ => yStuck) | _ => yStuck)
noncomputable def s_k20__law_askedX : En → Res (RA) := mFnX [3, 4, 5] 3 m_k20__law_askedX
noncomputable def lc_k20__law_only_1 : M D := (mLc (mIt (mLst (mConsD (ret (.str (Str.ofString "pile"))) (mConsD (ret (.str (Str.ofString "number"))) (mConsD (ret (.str (Str.ofString "rest"))) (mConsD (ret (.str (Str.ofString "coins"))) (mConsD (ret (.str (Str.ofString "served"))) (ret [])))))))) (gN 3) (ret true) (mOp eqD (mR 1) (mR 3)) [3])
noncomputable def m_k20__law_only : M Fl := (mSeq (mSet (gN 2) (mLst (mConsD (mIsx 1 (mR 0)) (mConsD (mIsx 4 (mR 0)) (mConsD (mIsx 14 (mR 0)) (ret [])))))) (mSeq (mSet (gN 2) (mOp addD (mR 2) (mD (mLst (mConsD (mIsx 13 (mR 0)) (mConsD (mIsx 15 (mR 0)) (ret []))))))) (mSeq (mRet (mOp eqD (mR 2) (mD lc_k20__law_only_1))) mNil)))
noncomputable def s_k20__law_only : M Sl := mFn [2] 2 m_k20__law_only
noncomputable def m_k20__law_told : M Fl := (mSeq (mIfS (bnd (mOp eqD (mR 3) (mD (ret (.int 0)))) asB) (mSeq (mRet (mAndV (mOp isD (mR 1) (mD (ret .none))) (mOp eqD (mR 0) (mR 2)))) mNil) mNil) (mSeq (mRet (mAndV (mOp isD (mR 0) (mD (ret .none))) (mAndV (mCall s_k20__law_only [] (mCons (mR 1) (mCons (mD (ret (.str (Str.ofString "rest")))) (ret [])))) (mAndV (mOp eqD (mD (mFld [14] (mR 1))) (mR 3)) (mNotV (mIsi "bool" (mD (mFld [14] (mR 1))))))))) mNil))
noncomputable def s_k20__law_told : M Sl := mFn [] 0 m_k20__law_told
noncomputable def lp_k20__law_good_1 : M Fl := (mSeq (mSet (gTupM 3 (gConsM (gN 8) (gConsM (gN 9) (gConsM (gN 5) gNilM)))) (mCall s_k20__law_one [] (mCons (mR 0) (mCons (mR 3) (ret []))))) (mSeq (mSet (gTupM 2 (gConsM (gN 6) (gConsM (gN 7) gNilM))) (mCall s_k20__law_asked [] (mCons (mD (ret (.int 0))) (mCons (mR 0) (mCons (mR 3) (ret [])))))) (mSeq (mIfS (mOr (mNot (bnd (mCall s_k20__law_told [] (mCons (mR 6) (mCons (mR 7) (mCons (mR 8) (mCons (mR 5) (ret [])))))) asB)) (mAnd (bnd (mOp eqD (mR 5) (mD (ret (.int 0)))) asB) (bnd (mOp neD (mD (mCallK s_pay [.at 1, .at 0] 0 2 (ret []) (mConsD (mV 3) (mConsD (mV 0) (ret []))))) (mR 8)) asB))) (mSeq (mRet (ret (.bool false))) mNil) mNil) mNil)))
noncomputable def fr_k20__law_good_1 : M Fl := (mFor [3, 5, 6, 7, 8, 9] (mIt (mV 1)) (gN 3) lp_k20__law_good_1)
noncomputable def hr_k20__law_good_1 : MY TL Fl := (ySeq (yLend 6 (mIfS (mOr (mNot (bnd (mCall s_k20__law_told [] (mCons (mR 6) (mCons (mR 7) (mCons (mR 4) (mCons (mR 5) (ret [])))))) asB)) (bnd (mOp neT (mD (mB strF (mCons (mD (mLst (mConsD (mV 0) (mConsD (mV 1) (ret []))))) (ret [])))) (mR 2)) asB)) (mSeq (mRet (ret (.bool false))) mNil) mNil)) (ySeq (yIf (yLendT 6 (bnd (mOp isntD (mR 6) (mD (ret .none))) asB)) (ySeq (mApp0 6) (ySeq (yS slTL [] (mRet (mOp eqD (mD (mCall s_paid [] (mCons (mR 0) (mCons (mR 1) (ret []))))) (mR 4)))) (yR .nx))) (yR .nx)) (ySeq (yS slTL [] (mRet (ret (.bool true)))) (yR .nx))))
noncomputable def m_k20__law_good : M Fl := (mSeq (mSet (gN 2) (mB strF (mCons (mD (mLst (mConsD (mV 0) (mConsD (mV 1) (ret []))))) (ret [])))) (mSeq fr_k20__law_good_1 (mSeq (mSet (gTupM 2 (gConsM (gN 4) (gConsM (gN 5) gNilM))) (mCall s_k20__law_row [] (mCons (mR 0) (mCons (mR 1) (ret []))))) (mAsk 6 7 (mCallX s_k20__law_askedX (mCons (mD (ret (.int 1))) (mCons (mR 0) (mCons (mR 1) (ret []))))) hr_k20__law_good_1))))
noncomputable def s_k20__law_good : M Sl := mFn [2, 3, 4, 5, 6, 7, 8, 9] 8 m_k20__law_good
noncomputable def lp_k20__law_refused_good_1 : M Fl := (mSeq (mIfS (mNot (bnd (mCall s_k20__law_only [] (mCons (mD (mOp ixD (mD (mCall s_k20__law_asked [] (mCons (mD (ret (.int 1))) (mCons (mR 0) (mCons (mR 2) (ret [])))))) (mD (ret (.int 1))))) (mCons (mD (ret (.str (Str.ofString "number")))) (ret [])))) asB)) (mSeq (mRet (ret (.bool false))) mNil) mNil) mNil)
noncomputable def fr_k20__law_refused_good_1 : M Fl := (mFor [2] (mIt (mLst (mConsD (mLst (mConsD (ret (.int 0)) (mConsD (mV 1) (ret [])))) (mConsD (mLst (mConsD (mV 1) (mConsD (ret (.int 0)) (ret [])))) (mConsD (mLst (mConsD (ret (.int 0)) (mConsD (mV 1) (mConsD (ret (.int 0)) (ret []))))) (mConsD (mLst (mConsD (mOp powD (mD (ret (.int 10))) (mD (ret (.int 12)))) (mConsD (mV 1) (ret [])))) (mConsD (mLst (mConsD (mV 1) (mConsD (mOp powD (mD (ret (.int 10))) (mD (ret (.int 12)))) (ret [])))) (mConsD (mLst (mConsD (mOp powD (mD (ret (.int 10))) (mD (ret (.int 12)))) (mConsD (ret (.int 0)) (mConsD (mV 1) (mConsD (ret (.int 1)) (ret [])))))) (ret []))))))))) (gN 2) lp_k20__law_refused_good_1)
noncomputable def lp_k20__law_refused_good_2 : M Fl := (mSeq (mIfS (mNot (bnd (mCall s_k20__law_only [] (mCons (mD (mOp ixD (mD (mCall s_k20__law_asked [] (mCons (mD (ret (.int 0))) (mCons (mR 0) (mCons (mR 1) (ret [])))))) (mD (ret (.int 1))))) (mCons (mD (ret (.str (Str.ofString "number")))) (ret [])))) asB)) (mSeq (mRet (ret (.bool false))) mNil) mNil) (mSeq fr_k20__law_refused_good_1 mNil))
noncomputable def fr_k20__law_refused_good_2 : M Fl := (mFor [1, 2] (mIt (mLst (mConsD (ret .none) (mConsD (ret (.bool true)) (mConsD (ret (.bool false)) (mConsD (mOp subD (mD (ret (.int 0))) (mD (ret (.int 1)))) (mConsD (ret (.str (Str.ofString "1"))) (mConsD (mTup (mConsD (ret (.int 1)) (ret []))) (mConsD (mLst (mConsD (ret (.int 1)) (ret []))) (ret [])))))))))) (gN 1) lp_k20__law_refused_good_2)
noncomputable def lp_k20__law_refused_good_3 : M Fl := (mSeq (mIfS (mNot (bnd (mCall s_k20__law_only [] (mCons (mD (mOp ixD (mD (mCall s_k20__law_asked [] (mCons (mD (ret (.int 1))) (mCons (mR 0) (mCons (mR 1) (ret [])))))) (mD (ret (.int 1))))) (mCons (mD (ret (.str (Str.ofString "number")))) (ret [])))) asB)) (mSeq (mRet (ret (.bool false))) mNil) mNil) mNil)
noncomputable def fr_k20__law_refused_good_3 : M Fl := (mFor [1] (mIt (mLst (mConsD (ret .none) (mConsD (ret (.int 3)) (mConsD (ret (.str (Str.ofString ""))) (mConsD (mTup (ret [])) (mConsD (mTup (mConsD (ret (.int 1)) (mConsD (ret (.int 2)) (ret [])))) (ret [])))))))) (gN 1) lp_k20__law_refused_good_3)
noncomputable def lc_k20__law_refused_good_1 : M D := (mLc (mIt (mLst (mConsD (ret (.int 0)) (mConsD (ret (.int 1)) (ret []))))) (gN 3) (ret true) (mCall s_k20__law_only [] (mCons (mD (mOp ixD (mD (mCall s_k20__law_asked [] (mCons (mR 3) (mCons (mR 1) (mCons (mD (ret .none)) (ret [])))))) (mD (ret (.int 1))))) (mCons (mD (ret (.str (Str.ofString "pile")))) (ret [])))) [3])
noncomputable def lp_k20__law_refused_good_4 : M Fl := (mSeq (mIfS (bnd (mOp neD (mD lc_k20__law_refused_good_1) (mD (mLst (mConsD (ret (.bool true)) (mConsD (ret (.bool true)) (ret [])))))) asB) (mSeq (mRet (ret (.bool false))) mNil) mNil) mNil)
noncomputable def fr_k20__law_refused_good_4 : M Fl := (mFor [1] (mIt (mLst (mConsD (ret .none) (mConsD (mB listF (mCons (mR 0) (ret []))) (mConsD (mTup (mConsD (mTup (mConsD (ret (.int 0)) (mConsD (ret (.int 1)) (ret [])))) (ret []))) (mConsD (mTup (mConsD (mTup (mConsD (ret (.int 1)) (mConsD (ret (.int 0)) (ret [])))) (ret []))) (mConsD (mTup (mConsD (mTup (mConsD (ret (.int 2)) (mConsD (ret (.int 1)) (ret [])))) (mConsD (mTup (mConsD (ret (.int 1)) (mConsD (ret (.int 1)) (ret [])))) (ret [])))) (mConsD (ret (.int 3)) (mConsD (ret (.str (Str.ofString ""))) (mConsD (mTup (mConsD (mTup (mConsD (ret (.int 1)) (ret []))) (ret []))) (ret []))))))))))) (gN 1) lp_k20__law_refused_good_4)
noncomputable def m_k20__law_refused_good : M Fl := (mSeq fr_k20__law_refused_good_2 (mSeq fr_k20__law_refused_good_3 (mSeq fr_k20__law_refused_good_4 (mSeq (mRet (ret (.bool true))) mNil))))
noncomputable def s_k20__law_refused_good : M Sl := mFn [1, 2] 3 m_k20__law_refused_good
noncomputable def lc_k20_law_1 : M D := (mLc (mIt (mV 4)) (gTupM 2 (gConsM (gN 10) (gConsM (gN 11) gNilM))) (ret true) (mOp mulD (mR 10) (mR 11)) [10, 11])
noncomputable def lc_k20_law_2 : M D := (mLc (mIt (mV 4)) (gTupM 2 (gConsM (gN 10) (gConsM (gN 11) gNilM))) (ret true) (mOp mulD (mR 10) (mD (mCall s__law_take [] (mCons (mR 2) (mCons (mD (mOp addD (mR 11) (mD (ret (.int 1))))) (ret [])))))) [10, 11])
noncomputable def lc_k20_law_3 : M D := (mLc (mRng1 (mCons (mD (mOp addD (mD (ret (.int 1))) (mD (mCall s__law_take [] (mCons (mR 2) (mCons (mD (ret (.int 8))) (ret []))))))) (ret []))) (gN 9) (ret true) (mCall s__law_take [] (mCons (mR 2) (mCons (mD (mB maxF (mCons (mD (ret (.int 2))) (mCons (mD (mOp fdivD (mR 5) (mD (ret (.int 4))))) (ret []))))) (ret [])))) [9])
noncomputable def lp_k20_law_1 : M Fl := (mSeq (mSet (gN 4) (mCall s__law_coins_v2 [] (mCons (mR 2) (mCons (mD (ret (.int 8))) (mCons (mD (mOp ixD (mD (mLst (mConsD (ret (.int 2)) (mConsD (ret (.int 5)) (mConsD (mOp powD (mD (ret (.int 10))) (mD (ret (.int 8)))) (ret [])))))) (mD (mCall s__law_take [] (mCons (mR 2) (mCons (mD (ret (.int 3))) (ret []))))))) (mCons (mD (mOp ixD (mD (mLst (mConsD (ret (.int 2)) (mConsD (ret (.int 9)) (mConsD (mOp powD (mD (ret (.int 10))) (mD (ret (.int 2)))) (ret [])))))) (mD (mCall s__law_take [] (mCons (mR 2) (mCons (mD (ret (.int 3))) (ret []))))))) (ret []))))))) (mSeq (mSet (gN 5) (mB sumF (mCons (mD lc_k20_law_1) (ret [])))) (mSeq (mSet (gN 6) (mB sumF (mCons (mD lc_k20_law_2) (ret [])))) (mSeq (mSet (gN 7) (mLst (mConsD (mV 6) (mConsD (mCall s__law_take [] (mCons (mR 2) (mCons (mD (mOp addD (mR 5) (mD (ret (.int 3))))) (ret [])))) (mConsD (mV 5) (mConsD (ret (.int 0)) (mConsD (mOp addD (mR 5) (mD (ret (.int 1)))) (ret [])))))))) (mSeq (mSet (gN 8) lc_k20_law_3) (mSeq (mIfS (mOr (mNot (bnd (mCall s_k20__law_good [] (mCons (mR 4) (mCons (mR 7) (ret [])))) asB)) (mOr (mNot (bnd (mCall s_k20__law_good [] (mCons (mR 4) (mCons (mR 8) (ret [])))) asB)) (mNot (bnd (mCall s_k20__law_refused_good [] (mCons (mR 4) (ret []))) asB)))) (mSeq (mRet (ret (.bool false))) mNil) mNil) mNil))))))
noncomputable def fr_k20_law_1 : M Fl := (mFor [3, 4, 5, 6, 7, 8] (mRng1 (mCons (mD (ret (.int 2))) (ret []))) (gN 3) lp_k20_law_1)
noncomputable def lp_k20_law_2 : M Fl := (mSeq (mOwn 2 (mLstF (mConsD (mCall s__law_cell [] (mCons (mR 0) (mCons (mR 1) (ret [])))) (ret [])))) (mSeq fr_k20_law_1 mNil))
noncomputable def fr_k20_law_2 : M Fl := (mFor [1, 2, 3, 4, 5, 6, 7, 8] (mRng1 (mCons (mD (mB maxF (mCons (mD (mB minF (mCons (mD (mLenScr 0)) (mCons (mD (ret (.int 5))) (ret []))))) (mCons (mD (ret (.int 1))) (ret []))))) (ret []))) (gN 1) lp_k20_law_2)
noncomputable def m_k20_law : M Fl := (mSeq fr_k20_law_2 (mSeq (mRet (mAndV (mOp eqD (mD (mCall s_paid [] (mCons (mD (mTup (ret []))) (mCons (mD (mLst (ret []))) (ret []))))) (mD (mTup (mConsD (mLst (ret [])) (mConsD (mTup (ret [])) (ret [])))))) (mAndV (mOp eqD (mD (mCall s_pay [] (mCons (mD (mTup (ret []))) (mCons (mD (ret (.int 0))) (ret []))))) (mD (mTup (ret [])))) (mCall s_k20__law_told [] (mCons (mD (ret .none)) (mCons (mD (mOp ixD (mD (mCall s_k20__law_asked [] (mCons (mD (ret (.int 0))) (mCons (mD (mTup (ret []))) (mCons (mD (ret (.int 3))) (ret [])))))) (mD (ret (.int 1))))) (mCons (mD (ret .none)) (mCons (mD (ret (.int 3))) (ret []))))))))) mNil))
noncomputable def s_k20_law : M Sl := mFn [1, 2, 3, 4, 5, 6, 7, 8] 11 m_k20_law
end Lw
namespace Lw
open PySem L2 Bt
def topS (i : Nat) : Stmt := PySem.Challenge.pw_blindtill_k20_what_the_clerk_pays.main.body.getD i (.Pass ⟨0, 0, 0, 0⟩)
def clsS (i : Nat) : Stmt := match topS i with
  | .ClassDef _ _ _ b _ _ _ _ _ _ _ => b.getD 0 (.Pass ⟨0, 0, 0, 0⟩)
  | _ => .Pass ⟨0, 0, 0, 0⟩
abbrev tx_NoCoins : Stmt := clsS 4
theorem scx_NoCoins : FnScope ["self", "worth"] ["self", "worth"] (defScope tx_NoCoins) := ⟨rfl, rfl, rfl, by decide +kernel, rfl, by decide +kernel, by decide +kernel⟩
abbrev tx_NoPay : Stmt := clsS 5
theorem scx_NoPay : FnScope ["self", "rest"] ["self", "rest"] (defScope tx_NoPay) := ⟨rfl, rfl, rfl, by decide +kernel, rfl, by decide +kernel, by decide +kernel⟩
abbrev t_is_from : Stmt := topS 8
abbrev N_is_from : List Str := ["thing", "least"]
theorem sc_is_from : FnScope N_is_from ["thing", "least"] (defScope t_is_from) := ⟨rfl, rfl, rfl, by decide +kernel, rfl, by decide +kernel, by decide +kernel⟩
abbrev t_look_at_number : Stmt := topS 9
abbrev N_look_at_number : List Str := ["thing", "least"]
theorem sc_look_at_number : FnScope N_look_at_number ["thing", "least"] (defScope t_look_at_number) := ⟨rfl, rfl, rfl, by decide +kernel, rfl, by decide +kernel, by decide +kernel⟩
abbrev t_is_lot : Stmt := topS 10
abbrev N_is_lot : List Str := ["thing"]
theorem sc_is_lot : FnScope N_is_lot ["thing"] (defScope t_is_lot) := ⟨rfl, rfl, rfl, by decide +kernel, rfl, by decide +kernel, by decide +kernel⟩
abbrev t_is_pile : Stmt := topS 11
abbrev N_is_pile : List Str := ["thing", "one", "other", "lot"]
theorem sc_is_pile : FnScope N_is_pile ["thing"] (defScope t_is_pile) := ⟨rfl, rfl, rfl, by decide +kernel, rfl, by decide +kernel, by decide +kernel⟩
abbrev t_look_at_pile : Stmt := topS 12
abbrev N_look_at_pile : List Str := ["thing"]
theorem sc_look_at_pile : FnScope N_look_at_pile ["thing"] (defScope t_look_at_pile) := ⟨rfl, rfl, rfl, by decide +kernel, rfl, by decide +kernel, by decide +kernel⟩
abbrev t_from_counts : Stmt := topS 13
abbrev N_from_counts : List Str := ["counts", "worth"]
theorem sc_from_counts : FnScope N_from_counts ["counts"] (defScope t_from_counts) := ⟨rfl, rfl, rfl, by decide +kernel, rfl, by decide +kernel, by decide +kernel⟩
abbrev t_take_by : Stmt := topS 14
abbrev N_take_by : List Str := ["pile", "other", "counts", "worth", "many"]
theorem sc_take_by : FnScope N_take_by ["pile", "other"] (defScope t_take_by) := ⟨rfl, rfl, rfl, by decide +kernel, rfl, by decide +kernel, by decide +kernel⟩
abbrev t_pay_by : Stmt := topS 16
abbrev N_pay_by : List Str := ["pile", "amount", "rest", "found", "worth", "many", "used"]
theorem sc_pay_by : FnScope N_pay_by ["pile", "amount"] (defScope t_pay_by) := ⟨rfl, rfl, rfl, by decide +kernel, rfl, by decide +kernel, by decide +kernel⟩
abbrev t_pay : Stmt := topS 17
abbrev N_pay : List Str := ["pile", "amount"]
theorem sc_pay : FnScope N_pay ["pile", "amount"] (defScope t_pay) := ⟨rfl, rfl, rfl, by decide +kernel, rfl, by decide +kernel, by decide +kernel⟩
abbrev t_paid : Stmt := topS 18
abbrev N_paid : List Str := ["pile", "amounts", "found", "left", "amount"]
theorem sc_paid : FnScope N_paid ["pile", "amounts"] (defScope t_paid) := ⟨rfl, rfl, rfl, by decide +kernel, rfl, by decide +kernel, by decide +kernel⟩
abbrev t__law_mixed : Stmt := topS 20
abbrev N__law_mixed : List Str := ["_law_cell_here", "_law_k", "_law_mix"]
theorem sc__law_mixed : FnScope N__law_mixed ["_law_cell_here", "_law_k"] (defScope t__law_mixed) := ⟨rfl, rfl, rfl, by decide +kernel, rfl, by decide +kernel, by decide +kernel⟩
abbrev t__law_cell : Stmt := topS 21
abbrev N__law_cell : List Str := ["_law_script", "_law_k", "_law_cell_here", "_law_found", "_law_j"]
theorem sc__law_cell : FnScope N__law_cell ["_law_script", "_law_k"] (defScope t__law_cell) := ⟨rfl, rfl, rfl, by decide +kernel, rfl, by decide +kernel, by decide +kernel⟩
abbrev t__law_take : Stmt := topS 22
abbrev N__law_take : List Str := ["_law_own", "_law_size", "_law_digit"]
theorem sc__law_take : FnScope N__law_take ["_law_own", "_law_size"] (defScope t__law_take) := ⟨rfl, rfl, rfl, by decide +kernel, rfl, by decide +kernel, by decide +kernel⟩
abbrev t__law_coins : Stmt := topS 23
abbrev N__law_coins : List Str := ["_law_own", "_law_lots", "_law_gap", "_law_often", "_law_found", "_law_coin", "_law_k"]
theorem sc__law_coins : FnScope N__law_coins ["_law_own", "_law_lots", "_law_gap", "_law_often"] (defScope t__law_coins) := ⟨rfl, rfl, rfl, by decide +kernel, rfl, by decide +kernel, by decide +kernel⟩
abbrev t__law_one : Stmt := topS 24
abbrev N__law_one : List Str := ["_law_some", "_law_size", "_law_counts", "_law_gone", "_law_coin", "_law_paying", "_law_left", "_law_fit", "_law_many"]
theorem sc__law_one : FnScope N__law_one ["_law_some", "_law_size"] (defScope t__law_one) := ⟨rfl, rfl, rfl, by decide +kernel, rfl, by decide +kernel, by decide +kernel⟩
abbrev t__law_row : Stmt := topS 25
abbrev N__law_row : List Str := ["_law_some", "_law_sizes", "_law_found", "_law_size", "_law_paying", "_law_rest"]
theorem sc__law_row : FnScope N__law_row ["_law_some", "_law_sizes"] (defScope t__law_row) := ⟨rfl, rfl, rfl, by decide +kernel, rfl, by decide +kernel, by decide +kernel⟩
abbrev t__law_asked : Stmt := topS 26
abbrev N__law_asked : List Str := ["_law_which", "_law_some", "_law_odd", "e", "_law_found", "_law_caught"]
theorem sc__law_asked : FnScope N__law_asked ["_law_which", "_law_some", "_law_odd"] (defScope t__law_asked) := ⟨rfl, rfl, rfl, by decide +kernel, rfl, by decide +kernel, by decide +kernel⟩
abbrev t__law_only : Stmt := topS 27
abbrev N__law_only : List Str := ["_law_caught", "_law_kind", "_law_kinds", "_law_one_here"]
theorem sc__law_only : FnScope N__law_only ["_law_caught", "_law_kind"] (defScope t__law_only) := ⟨rfl, rfl, rfl, by decide +kernel, rfl, by decide +kernel, by decide +kernel⟩
abbrev t__law_told : Stmt := topS 28
abbrev N__law_told : List Str := ["_law_found", "_law_caught", "_law_due", "_law_rest"]
theorem sc__law_told : FnScope N__law_told ["_law_found", "_law_caught", "_law_due", "_law_rest"] (defScope t__law_told) := ⟨rfl, rfl, rfl, by decide +kernel, rfl, by decide +kernel, by decide +kernel⟩
abbrev t__law_good : Stmt := topS 29
abbrev N__law_good : List Str := ["_law_some", "_law_sizes", "_law_stood", "_law_size", "_law_due", "_law_rest", "_law_found", "_law_caught", "_law_paying", "_law_left"]
theorem sc__law_good : FnScope N__law_good ["_law_some", "_law_sizes"] (defScope t__law_good) := ⟨rfl, rfl, rfl, by decide +kernel, rfl, by decide +kernel, by decide +kernel⟩
abbrev t__law_refused_good : Stmt := topS 30
abbrev N__law_refused_good : List Str := ["_law_some", "_law_odd", "_law_sizes", "_law_which"]
theorem sc__law_refused_good : FnScope N__law_refused_good ["_law_some"] (defScope t__law_refused_good) := ⟨rfl, rfl, rfl, by decide +kernel, rfl, by decide +kernel, by decide +kernel⟩
abbrev t_law : Stmt := topS 31
abbrev N_law : List Str := ["_law_script", "_law_turn", "_law_own", "_law_k", "_law_some", "_law_total", "_law_some_size", "_law_sizes", "_law_small", "_law_turn_two", "_law_coin", "_law_many"]
theorem sc_law : FnScope N_law ["_law_script"] (defScope t_law) := ⟨rfl, rfl, rfl, by decide +kernel, rfl, by decide +kernel, by decide +kernel⟩
structure Adr where
  f_is_from : Addr
  d_is_from : FuncData
  f_look_at_number : Addr
  d_look_at_number : FuncData
  f_is_lot : Addr
  d_is_lot : FuncData
  f_is_pile : Addr
  d_is_pile : FuncData
  f_look_at_pile : Addr
  d_look_at_pile : FuncData
  f_from_counts : Addr
  d_from_counts : FuncData
  f_take_by : Addr
  d_take_by : FuncData
  f_pay_by : Addr
  d_pay_by : FuncData
  f_pay : Addr
  d_pay : FuncData
  f_paid : Addr
  d_paid : FuncData
  f__law_mixed : Addr
  d__law_mixed : FuncData
  f__law_cell : Addr
  d__law_cell : FuncData
  f__law_take : Addr
  d__law_take : FuncData
  f__law_coins : Addr
  d__law_coins : FuncData
  f__law_one : Addr
  d__law_one : FuncData
  f__law_row : Addr
  d__law_row : FuncData
  f__law_asked : Addr
  d__law_asked : FuncData
  f__law_only : Addr
  d__law_only : FuncData
  f__law_told : Addr
  d__law_told : FuncData
  f__law_good : Addr
  d__law_good : FuncData
  f__law_refused_good : Addr
  d__law_refused_good : FuncData
  f_law : Addr
  d_law : FuncData
  x_NoCoins : Addr
  x_NoNumber : Addr
  x_NoPay : Addr
  x_NoPile : Addr
  x_TillError : Addr
  x_Unserved : Addr
  fx_NoCoins : Addr
  dx_NoCoins : FuncData
  fx_NoPay : Addr
  dx_NoPay : FuncData
structure Fx (K : PySem.W.Frag) (mg : Str → Option Value) (a : Adr) : Prop where
  b_all : mg "all" = none
  b_bool : mg "bool" = none
  b_dict : mg "dict" = none
  b_int : mg "int" = none
  b_isinstance : mg "isinstance" = none
  b_len : mg "len" = none
  b_list : mg "list" = none
  b_max : mg "max" = none
  b_min : mg "min" = none
  b_range : mg "range" = none
  b_sorted : mg "sorted" = none
  b_str : mg "str" = none
  b_sum : mg "sum" = none
  b_tuple : mg "tuple" = none
  b_zip : mg "zip" = none
  x_ok : xAllB K = true
  x_NoCoins : XN K mg "NoCoins" a.x_NoCoins
  x_NoNumber : XN K mg "NoNumber" a.x_NoNumber
  x_NoPay : XN K mg "NoPay" a.x_NoPay
  x_NoPile : XN K mg "NoPile" a.x_NoPile
  x_TillError : XN K mg "TillError" a.x_TillError
  x_Unserved : XN K mg "Unserved" a.x_Unserved
  xf_NoCoins : Fun K "__init__" "NoCoins.__init__" tx_NoCoins a.fx_NoCoins a.dx_NoCoins
  xi_NoCoins : PySem.W.findIn K (.ref a.x_NoCoins) "__init__" = some (some (.ref a.fx_NoCoins))
  xt_NoCoins : PySem.W.typeIn K (.ref a.fx_NoCoins) = some (.type "function")
  xb_NoCoins : Binds K a.dx_NoCoins ["self", "worth"] []
  xf_NoPay : Fun K "__init__" "NoPay.__init__" tx_NoPay a.fx_NoPay a.dx_NoPay
  xi_NoPay : PySem.W.findIn K (.ref a.x_NoPay) "__init__" = some (some (.ref a.fx_NoPay))
  xt_NoPay : PySem.W.typeIn K (.ref a.fx_NoPay) = some (.type "function")
  xb_NoPay : Binds K a.dx_NoPay ["self", "rest"] []
  F_is_from : Fun K "is_from" "is_from" t_is_from a.f_is_from a.d_is_from
  g_is_from : mg "is_from" = some (.ref a.f_is_from)
  k_is_from : PySem.W.keepIn K (.ref a.f_is_from) = true
  B_is_from : Binds K a.d_is_from ["thing", "least"] []
  F_look_at_number : Fun K "look_at_number" "look_at_number" t_look_at_number a.f_look_at_number a.d_look_at_number
  g_look_at_number : mg "look_at_number" = some (.ref a.f_look_at_number)
  k_look_at_number : PySem.W.keepIn K (.ref a.f_look_at_number) = true
  B_look_at_number : Binds K a.d_look_at_number ["thing", "least"] []
  F_is_lot : Fun K "is_lot" "is_lot" t_is_lot a.f_is_lot a.d_is_lot
  g_is_lot : mg "is_lot" = some (.ref a.f_is_lot)
  k_is_lot : PySem.W.keepIn K (.ref a.f_is_lot) = true
  B_is_lot : Binds K a.d_is_lot ["thing"] []
  F_is_pile : Fun K "is_pile" "is_pile" t_is_pile a.f_is_pile a.d_is_pile
  g_is_pile : mg "is_pile" = some (.ref a.f_is_pile)
  k_is_pile : PySem.W.keepIn K (.ref a.f_is_pile) = true
  B_is_pile : Binds K a.d_is_pile ["thing"] []
  F_look_at_pile : Fun K "look_at_pile" "look_at_pile" t_look_at_pile a.f_look_at_pile a.d_look_at_pile
  g_look_at_pile : mg "look_at_pile" = some (.ref a.f_look_at_pile)
  k_look_at_pile : PySem.W.keepIn K (.ref a.f_look_at_pile) = true
  B_look_at_pile : Binds K a.d_look_at_pile ["thing"] []
  F_from_counts : Fun K "from_counts" "from_counts" t_from_counts a.f_from_counts a.d_from_counts
  g_from_counts : mg "from_counts" = some (.ref a.f_from_counts)
  k_from_counts : PySem.W.keepIn K (.ref a.f_from_counts) = true
  B_from_counts : Binds K a.d_from_counts ["counts"] []
  F_take_by : Fun K "take_by" "take_by" t_take_by a.f_take_by a.d_take_by
  g_take_by : mg "take_by" = some (.ref a.f_take_by)
  k_take_by : PySem.W.keepIn K (.ref a.f_take_by) = true
  B_take_by : Binds K a.d_take_by ["pile", "other"] []
  F_pay_by : Fun K "pay_by" "pay_by" t_pay_by a.f_pay_by a.d_pay_by
  g_pay_by : mg "pay_by" = some (.ref a.f_pay_by)
  k_pay_by : PySem.W.keepIn K (.ref a.f_pay_by) = true
  B_pay_by : Binds K a.d_pay_by ["pile", "amount"] []
  F_pay : Fun K "pay" "pay" t_pay a.f_pay a.d_pay
  g_pay : mg "pay" = some (.ref a.f_pay)
  k_pay : PySem.W.keepIn K (.ref a.f_pay) = true
  B_pay : Binds K a.d_pay ["pile", "amount"] []
  K_pay_0 : KBn K a.d_pay ["pile", "amount"] 0 ["amount", "pile"] (fun us ws => ([.at 1, .at 0] : List Pk).map (pkU (us ++ ws))) (fun vs zs => ([.at 1, .at 0] : List Pk).map (pkV (vs ++ zs)))
  F_paid : Fun K "paid" "paid" t_paid a.f_paid a.d_paid
  g_paid : mg "paid" = some (.ref a.f_paid)
  k_paid : PySem.W.keepIn K (.ref a.f_paid) = true
  B_paid : Binds K a.d_paid ["pile", "amounts"] []
  F__law_mixed : Fun K "_law_mixed" "_law_mixed" t__law_mixed a.f__law_mixed a.d__law_mixed
  g__law_mixed : mg "_law_mixed" = some (.ref a.f__law_mixed)
  k__law_mixed : PySem.W.keepIn K (.ref a.f__law_mixed) = true
  B__law_mixed : Binds K a.d__law_mixed ["_law_cell_here", "_law_k"] []
  F__law_cell : Fun K "_law_cell" "_law_cell" t__law_cell a.f__law_cell a.d__law_cell
  g__law_cell : mg "_law_cell" = some (.ref a.f__law_cell)
  k__law_cell : PySem.W.keepIn K (.ref a.f__law_cell) = true
  B__law_cell : Binds K a.d__law_cell ["_law_script", "_law_k"] []
  F__law_take : Fun K "_law_take" "_law_take" t__law_take a.f__law_take a.d__law_take
  g__law_take : mg "_law_take" = some (.ref a.f__law_take)
  k__law_take : PySem.W.keepIn K (.ref a.f__law_take) = true
  B__law_take : Binds K a.d__law_take ["_law_own", "_law_size"] []
  F__law_coins : Fun K "_law_coins" "_law_coins" t__law_coins a.f__law_coins a.d__law_coins
  g__law_coins : mg "_law_coins" = some (.ref a.f__law_coins)
  k__law_coins : PySem.W.keepIn K (.ref a.f__law_coins) = true
  B__law_coins : Binds K a.d__law_coins ["_law_own", "_law_lots", "_law_gap", "_law_often"] []
  F__law_one : Fun K "_law_one" "_law_one" t__law_one a.f__law_one a.d__law_one
  g__law_one : mg "_law_one" = some (.ref a.f__law_one)
  k__law_one : PySem.W.keepIn K (.ref a.f__law_one) = true
  B__law_one : Binds K a.d__law_one ["_law_some", "_law_size"] []
  F__law_row : Fun K "_law_row" "_law_row" t__law_row a.f__law_row a.d__law_row
  g__law_row : mg "_law_row" = some (.ref a.f__law_row)
  k__law_row : PySem.W.keepIn K (.ref a.f__law_row) = true
  B__law_row : Binds K a.d__law_row ["_law_some", "_law_sizes"] []
  F__law_asked : Fun K "_law_asked" "_law_asked" t__law_asked a.f__law_asked a.d__law_asked
  g__law_asked : mg "_law_asked" = some (.ref a.f__law_asked)
  k__law_asked : PySem.W.keepIn K (.ref a.f__law_asked) = true
  B__law_asked : Binds K a.d__law_asked ["_law_which", "_law_some", "_law_odd"] []
  F__law_only : Fun K "_law_only" "_law_only" t__law_only a.f__law_only a.d__law_only
  g__law_only : mg "_law_only" = some (.ref a.f__law_only)
  k__law_only : PySem.W.keepIn K (.ref a.f__law_only) = true
  B__law_only : Binds K a.d__law_only ["_law_caught", "_law_kind"] []
  F__law_told : Fun K "_law_told" "_law_told" t__law_told a.f__law_told a.d__law_told
  g__law_told : mg "_law_told" = some (.ref a.f__law_told)
  k__law_told : PySem.W.keepIn K (.ref a.f__law_told) = true
  B__law_told : Binds K a.d__law_told ["_law_found", "_law_caught", "_law_due", "_law_rest"] []
  F__law_good : Fun K "_law_good" "_law_good" t__law_good a.f__law_good a.d__law_good
  g__law_good : mg "_law_good" = some (.ref a.f__law_good)
  k__law_good : PySem.W.keepIn K (.ref a.f__law_good) = true
  B__law_good : Binds K a.d__law_good ["_law_some", "_law_sizes"] []
  F__law_refused_good : Fun K "_law_refused_good" "_law_refused_good" t__law_refused_good a.f__law_refused_good a.d__law_refused_good
  g__law_refused_good : mg "_law_refused_good" = some (.ref a.f__law_refused_good)
  k__law_refused_good : PySem.W.keepIn K (.ref a.f__law_refused_good) = true
  B__law_refused_good : Binds K a.d__law_refused_good ["_law_some"] []
  F_law : Fun K "law" "law" t_law a.f_law a.d_law
  g_law : mg "law" = some (.ref a.f_law)
  k_law : PySem.W.keepIn K (.ref a.f_law) = true
section
variable {P : Program} {w : World} {K : PySem.W.Frag} {mg : Str → Option Value} {base : Heap} {a : Adr}
theorem oki_NoCoins (C : Fx K mg a) : FnOk P w K mg base (L2.CX P w) 1 a.fx_NoCoins a.dx_NoCoins ["self", "worth"] (spInit K "worth") := by
  refine Fun.okX (k := 0) C.xf_NoCoins scx_NoCoins (fun vs H Q E h => by obtain ⟨_, _, _, rfl, _⟩ := h; rfl) (fun cdv A outer s H vs Q E hr hsp => ⟨_, pss_cons (ps_expr (pe_tinit rfl rfl C.x_ok C.x_TillError (by rfl) (pa_cons (pv 0) (pa_cons pe_str pa_nil)))) (pss_cons (ps_ostK K rfl (pv 0) (pv 1)) pss_nil), init_rd rfl hsp⟩)
theorem oki_NoPay (C : Fx K mg a) : FnOk P w K mg base (L2.CX P w) 1 a.fx_NoPay a.dx_NoPay ["self", "rest"] (spInit K "rest") := by
  refine Fun.okX (k := 0) C.xf_NoPay scx_NoPay (fun vs H Q E h => by obtain ⟨_, _, _, rfl, _⟩ := h; rfl) (fun cdv A outer s H vs Q E hr hsp => ⟨_, pss_cons (ps_expr (pe_tinit rfl rfl C.x_ok C.x_TillError (by rfl) (pa_cons (pv 0) (pa_cons pe_str pa_nil)))) (pss_cons (ps_ostK K rfl (pv 0) (pv 1)) pss_nil), init_rd rfl hsp⟩)
theorem ok_is_from (C : Fx K mg a) : FnOk P w K mg base (L2.CX P w) 1 a.f_is_from a.d_is_from ["thing", "least"] (spOf K mg 2 s_is_from) := by
  refine fn_okX (k := 0) C.F_is_from sc_is_from (by decide) (fun cdv A outer s H E hr => ?_)
  have po : PassesOwn (model P w) (cxOf (L2.CX P w) P w K mg base N_is_from "is_from" (defScope t_is_from) a.f_is_from cdv A outer s H E).A (cxOf (L2.CX P w) P w K mg base N_is_from "is_from" (defScope t_is_from) a.f_is_from cdv A outer s H E).env (cxOf (L2.CX P w) P w K mg base N_is_from "is_from" (defScope t_is_from) a.f_is_from cdv A outer s H E).xe := passes_of rfl
  have tk : Takes (cxOf (L2.CX P w) P w K mg base N_is_from "is_from" (defScope t_is_from) a.f_is_from cdv A outer s H E) (fun c dd _ H' => E c dd H') := takes_of rfl rfl rfl rfl
  unfold m_is_from
  exact SSs.ex (sss_cons (ss_ret (se_and (se_isiK K rfl (by rfl) C.b_isinstance (so_var (pv 0)) (pe_bltn (v := .ty "int") (by rfl) C.b_int (by decide +kernel) rfl) (by decide +kernel)) (se_and (se_not (se_isiK K rfl (by rfl) C.b_isinstance (so_var (pv 0)) (pe_bltn (v := .ty "bool") (by rfl) C.b_bool (by decide +kernel) rfl) (by decide +kernel))) (se_one (se_cmp op_ge ok_ge (nomark _) (so_var (pv 0)) (so_var (pv 1))))))) sss_nil) (by decide)
theorem ok_look_at_number (C : Fx K mg a) : FnOk P w K mg base (L2.CX P w) 2 a.f_look_at_number a.d_look_at_number ["thing", "least"] (spOf K mg 2 s_look_at_number) := by
  refine fn_okX (k := 1) C.F_look_at_number sc_look_at_number (by decide) (fun cdv A outer s H E hr => ?_)
  have po : PassesOwn (model P w) (cxOf (L2.CX P w) P w K mg base N_look_at_number "look_at_number" (defScope t_look_at_number) a.f_look_at_number cdv A outer s H E).A (cxOf (L2.CX P w) P w K mg base N_look_at_number "look_at_number" (defScope t_look_at_number) a.f_look_at_number cdv A outer s H E).env (cxOf (L2.CX P w) P w K mg base N_look_at_number "look_at_number" (defScope t_look_at_number) a.f_look_at_number cdv A outer s H E).xe := passes_of rfl
  have tk : Takes (cxOf (L2.CX P w) P w K mg base N_look_at_number "look_at_number" (defScope t_look_at_number) a.f_look_at_number cdv A outer s H E) (fun c dd _ H' => E c dd H') := takes_of rfl rfl rfl rfl
  unfold m_look_at_number
  exact SSs.ex (sss_cons (ss_if (st_not (st_val (se_callC (ok_is_from C) rfl rfl rfl rfl rfl (hr.mono (by first | decide | omega)) (by rfl) C.g_is_from C.k_is_from C.B_is_from rfl tk (so_cons (so_var (pv 0)) (so_cons (so_var (pv 1)) sos_nil)) (lm_cons (lm_cons lm_nil))))) (sss_cons (ss_raise0 K rfl rfl C.x_ok C.x_NoNumber ⟨by decide, rfl⟩ rfl tk (by rfl)) sss_nil) sss_nil) sss_nil) (by decide)
theorem ok_is_lot (C : Fx K mg a) : FnOk P w K mg base (L2.CX P w) 2 a.f_is_lot a.d_is_lot ["thing"] (spOf K mg 1 s_is_lot) := by
  refine fn_okX (k := 1) C.F_is_lot sc_is_lot (by decide) (fun cdv A outer s H E hr => ?_)
  have po : PassesOwn (model P w) (cxOf (L2.CX P w) P w K mg base N_is_lot "is_lot" (defScope t_is_lot) a.f_is_lot cdv A outer s H E).A (cxOf (L2.CX P w) P w K mg base N_is_lot "is_lot" (defScope t_is_lot) a.f_is_lot cdv A outer s H E).env (cxOf (L2.CX P w) P w K mg base N_is_lot "is_lot" (defScope t_is_lot) a.f_is_lot cdv A outer s H E).xe := passes_of rfl
  have tk : Takes (cxOf (L2.CX P w) P w K mg base N_is_lot "is_lot" (defScope t_is_lot) a.f_is_lot cdv A outer s H E) (fun c dd _ H' => E c dd H') := takes_of rfl rfl rfl rfl
  unfold m_is_lot
  exact SSs.ex (sss_cons (ss_ret (se_and (se_isiK K rfl (by rfl) C.b_isinstance (so_var (pv 0)) (pe_bltn (v := .ty "tuple") (by rfl) C.b_tuple (by decide +kernel) rfl) (by decide +kernel)) (se_and (se_cmp (oK_eq K rfl hr.units) ok_eq (nomark _) (SE.so (se_callB (cK_len K rfl) ok_len (by rfl) C.b_len (by decide +kernel) (so_cons (so_var (pv 0)) sos_nil))) (SE.so se_int)) (se_and (se_callC (ok_is_from C) rfl rfl rfl rfl rfl (hr.mono (by first | decide | omega)) (by rfl) C.g_is_from C.k_is_from C.B_is_from rfl tk (so_cons (SE.so (se_ixK K rfl (fun _ _ => rfl) (so_var (pv 0)) (SE.so se_int))) (so_cons (SE.so se_int) sos_nil)) (lm_cons (lm_cons lm_nil))) (se_one (se_callC (ok_is_from C) rfl rfl rfl rfl rfl (hr.mono (by first | decide | omega)) (by rfl) C.g_is_from C.k_is_from C.B_is_from rfl tk (so_cons (SE.so (se_ixK K rfl (fun _ _ => rfl) (so_var (pv 0)) (SE.so se_int))) (so_cons (SE.so se_int) sos_nil)) (lm_cons (lm_cons lm_nil)))))))) sss_nil) (by decide)
theorem ok_is_pile (C : Fx K mg a) : FnOk P w K mg base (L2.CX P w) 3 a.f_is_pile a.d_is_pile ["thing"] (spOf K mg 1 s_is_pile) := by
  refine fn_okX (k := 2) C.F_is_pile sc_is_pile (by decide) (fun cdv A outer s H E hr => ?_)
  have po : PassesOwn (model P w) (cxOf (L2.CX P w) P w K mg base N_is_pile "is_pile" (defScope t_is_pile) a.f_is_pile cdv A outer s H E).A (cxOf (L2.CX P w) P w K mg base N_is_pile "is_pile" (defScope t_is_pile) a.f_is_pile cdv A outer s H E).env (cxOf (L2.CX P w) P w K mg base N_is_pile "is_pile" (defScope t_is_pile) a.f_is_pile cdv A outer s H E).xe := passes_of rfl
  have tk : Takes (cxOf (L2.CX P w) P w K mg base N_is_pile "is_pile" (defScope t_is_pile) a.f_is_pile cdv A outer s H E) (fun c dd _ H' => E c dd H') := takes_of rfl rfl rfl rfl
  unfold m_is_pile lc_is_pile_2 lc_is_pile_1
  exact SSs.ex (sss_cons (ss_if (SW.st (sw_or (st_not (st_val (se_isiK K rfl (by rfl) C.b_isinstance (so_var (pv 0)) (pe_bltn (v := .ty "tuple") (by rfl) C.b_tuple (by decide +kernel) rfl) (by decide +kernel)))) (sw_or1 (st_not (st_val (se_callB (cK_all K rfl rfl) ok_all (by rfl) C.b_all (by decide +kernel) (so_cons (SE.so (se_lc (own := [("lot", 3)]) rfl sc_is_pile.nd (si_seqK K rfl (se_var (pv 0))) (blkOk_by (own := [("lot", 3)]) (N := N_is_pile) (sc := defScope t_is_pile) (by decide +kernel)) (fun _ _ _ _ _ => (sg_name (pg_name (i := 3) sc_is_pile.nd rfl (by first | exact Or.inl rfl | exact Or.inr rfl)))) (by decide) (fun _ _ _ _ _ => sts_nil) (fun _ _ _ _ _ => (se_callC (ok_is_lot C) rfl rfl rfl rfl rfl (hr.mono (by first | decide | omega)) (by rfl) C.g_is_lot C.k_is_lot C.B_is_lot rfl takes0 (so_cons (so_var (pv 3)) sos_nil) (lm_cons lm_nil))))) sos_nil))))))) (sss_cons (ss_ret se_bl) sss_nil) sss_nil) (sss_cons (ss_ret (se_callB (cK_all K rfl rfl) ok_all (by rfl) C.b_all (by decide +kernel) (so_cons (SE.so (se_lc (own := [("one", 1), ("other", 2)]) rfl sc_is_pile.nd (si_zipK K rfl (by rfl) C.b_zip (sa_cons (se_var (pv 0)) (sa_cons (se_slK K rfl (so_var (pv 0)) (sp_some se_int) sp_none) sa_nil))) (blkOk_by (own := [("one", 1), ("other", 2)]) (N := N_is_pile) (sc := defScope t_is_pile) (by decide +kernel)) (fun _ _ _ _ _ => (sg_tupK K rfl rfl (sgs_cons (sg_name (pg_name (i := 1) sc_is_pile.nd rfl (by first | exact Or.inl rfl | exact Or.inr rfl))) (sgs_cons (sg_name (pg_name (i := 2) sc_is_pile.nd rfl (by first | exact Or.inl rfl | exact Or.inr rfl))) sgs_nil)))) (by decide) (fun _ _ _ _ _ => sts_nil) (fun _ _ _ _ _ => (se_cmp op_lt ok_lt (nomark _) (SE.so (se_ixK K rfl (fun _ _ => rfl) (so_var (pv 1)) (SE.so se_int))) (SE.so (se_ixK K rfl (fun _ _ => rfl) (so_var (pv 2)) (SE.so se_int))))))) sos_nil))) sss_nil)) (by decide)
theorem ok_look_at_pile (C : Fx K mg a) : FnOk P w K mg base (L2.CX P w) 4 a.f_look_at_pile a.d_look_at_pile ["thing"] (spOf K mg 1 s_look_at_pile) := by
  refine fn_okX (k := 3) C.F_look_at_pile sc_look_at_pile (by decide) (fun cdv A outer s H E hr => ?_)
  have po : PassesOwn (model P w) (cxOf (L2.CX P w) P w K mg base N_look_at_pile "look_at_pile" (defScope t_look_at_pile) a.f_look_at_pile cdv A outer s H E).A (cxOf (L2.CX P w) P w K mg base N_look_at_pile "look_at_pile" (defScope t_look_at_pile) a.f_look_at_pile cdv A outer s H E).env (cxOf (L2.CX P w) P w K mg base N_look_at_pile "look_at_pile" (defScope t_look_at_pile) a.f_look_at_pile cdv A outer s H E).xe := passes_of rfl
  have tk : Takes (cxOf (L2.CX P w) P w K mg base N_look_at_pile "look_at_pile" (defScope t_look_at_pile) a.f_look_at_pile cdv A outer s H E) (fun c dd _ H' => E c dd H') := takes_of rfl rfl rfl rfl
  unfold m_look_at_pile
  exact SSs.ex (sss_cons (ss_if (st_not (st_val (se_callC (ok_is_pile C) rfl rfl rfl rfl rfl (hr.mono (by first | decide | omega)) (by rfl) C.g_is_pile C.k_is_pile C.B_is_pile rfl tk (so_cons (so_var (pv 0)) sos_nil) (lm_cons lm_nil)))) (sss_cons (ss_raise0 K rfl rfl C.x_ok C.x_NoPile ⟨by decide, rfl⟩ rfl tk (by rfl)) sss_nil) sss_nil) sss_nil) (by decide)
theorem ok_from_counts (C : Fx K mg a) : FnOk P w K mg base (L2.CX P w) 1 a.f_from_counts a.d_from_counts ["counts"] (spOf K mg 1 s_from_counts) := by
  refine fn_okX (k := 0) C.F_from_counts sc_from_counts (by decide) (fun cdv A outer s H E hr => ?_)
  have po : PassesOwn (model P w) (cxOf (L2.CX P w) P w K mg base N_from_counts "from_counts" (defScope t_from_counts) a.f_from_counts cdv A outer s H E).A (cxOf (L2.CX P w) P w K mg base N_from_counts "from_counts" (defScope t_from_counts) a.f_from_counts cdv A outer s H E).env (cxOf (L2.CX P w) P w K mg base N_from_counts "from_counts" (defScope t_from_counts) a.f_from_counts cdv A outer s H E).xe := passes_of rfl
  have tk : Takes (cxOf (L2.CX P w) P w K mg base N_from_counts "from_counts" (defScope t_from_counts) a.f_from_counts cdv A outer s H E) (fun c dd _ H' => E c dd H') := takes_of rfl rfl rfl rfl
  unfold m_from_counts lc_from_counts_1
  exact SSs.ex (sss_cons (ss_ret (se_callTy (cK_tuple K rfl) ok_tuple (by rfl) C.b_tuple (by decide +kernel) (so_cons (SE.so (se_lc (own := [("worth", 1)]) rfl sc_from_counts.nd (si_seqK K rfl (se_sortD (pe_callB (call_sortD rfl) (by rfl) C.b_sorted (by decide +kernel) (pa_cons (pv 0) pa_nil)))) (blkOk_by (own := [("worth", 1)]) (N := N_from_counts) (sc := defScope t_from_counts) (by decide +kernel)) (fun _ _ _ _ _ => (sg_name (pg_name (i := 1) sc_from_counts.nd rfl (by first | exact Or.inl rfl | exact Or.inr rfl)))) (by decide) (fun _ _ _ _ _ => (sts_one (st_cmp op_gt ok_gt (nomark _) (SE.so (se_dget (fun h => pe_dget (hu1 hr.units) (pv 0) h (fun _ _ => rfl)) (so_var (pv 1)))) (SE.so se_int)))) (fun _ _ _ _ _ => (se_tup (sa_cons (se_var (pv 1)) (sa_cons (se_dget (fun h => pe_dget (hu1 hr.units) (pv 0) h (fun _ _ => rfl)) (so_var (pv 1))) sa_nil)))))) sos_nil))) sss_nil) (by decide)
theorem ok_take_by (C : Fx K mg a) : FnOk P w K mg base (L2.CX P w) 3 a.f_take_by a.d_take_by ["pile", "other"] (spOf K mg 2 s_take_by) := by
  refine fn_okX (k := 2) C.F_take_by sc_take_by (by decide) (fun cdv A outer s H E hr => ?_)
  have po : PassesOwn (model P w) (cxOf (L2.CX P w) P w K mg base N_take_by "take_by" (defScope t_take_by) a.f_take_by cdv A outer s H E).A (cxOf (L2.CX P w) P w K mg base N_take_by "take_by" (defScope t_take_by) a.f_take_by cdv A outer s H E).env (cxOf (L2.CX P w) P w K mg base N_take_by "take_by" (defScope t_take_by) a.f_take_by cdv A outer s H E).xe := passes_of rfl
  have tk : Takes (cxOf (L2.CX P w) P w K mg base N_take_by "take_by" (defScope t_take_by) a.f_take_by cdv A outer s H E) (fun c dd _ H' => E c dd H') := takes_of rfl rfl rfl rfl
  unfold m_take_by fr_take_by_1 lp_take_by_1
  exact SSs.ex (sss_cons (ss_ownO (fun h => ps_set (i := 2) sc_take_by.nd rfl (by first | exact Or.inl rfl | exact Or.inr rfl) h) (sfo_dict (K := K) rfl (fun h => pe_callTy (call_dictA rfl) (by rfl) C.b_dict (by decide +kernel) (pa_cons h pa_nil)) (so_var (pv 0)))) (sss_cons (ss_for [3, 4] po rfl (si_seqK K rfl (se_var (pv 1))) (sg_tupK K rfl rfl (sgs_cons (sg_name (pg_name (i := 3) sc_take_by.nd rfl (by first | exact Or.inl rfl | exact Or.inr rfl))) (sgs_cons (sg_name (pg_name (i := 4) sc_take_by.nd rfl (by first | exact Or.inl rfl | exact Or.inr rfl))) sgs_nil))) (sss_cons (ss_if (st_cmp op_lt ok_lt (nomark _) (SE.so (se_dget2 (fun h1 h2 => pe_dget2 (hu1 hr.units) (pv 2) h1 h2 ⟨rfl, rfl, rfl, rfl⟩) (so_var (pv 3)) se_int)) (so_var (pv 4))) (sss_cons (ss_raise1 K (oki_NoCoins C) rfl rfl rfl rfl rfl C.x_ok C.x_NoCoins ⟨by decide, by decide, rfl, rfl⟩ C.xi_NoCoins C.xt_NoCoins C.xb_NoCoins (hr.mono (by first | decide | omega)) rfl tk (by rfl) (se_var (pv 3))) sss_nil) sss_nil) (sss_cons (ss_daug (fun hk he => ps_daug (hu1 hr.units) (pv 2) hk he in_subI (by intros; rfl)) (so_var (pv 3)) (se_var (pv 4))) sss_nil))) (sss_cons (ss_retS (sv_callC (ok_from_counts C) rfl rfl rfl rfl rfl (hr.mono (by first | decide | omega)) (by rfl) C.g_from_counts C.k_from_counts C.B_from_counts rfl tk (so_cons (so_var (pv 2)) sos_nil) (lm_cons lm_nil))) sss_nil))) (by decide)
theorem ok_pay_by (C : Fx K mg a) : FnOk P w K mg base (L2.CX P w) 3 a.f_pay_by a.d_pay_by ["pile", "amount"] (spOf K mg 2 s_pay_by) := by
  refine fn_okX (k := 2) C.F_pay_by sc_pay_by (by decide) (fun cdv A outer s H E hr => ?_)
  have po : PassesOwn (model P w) (cxOf (L2.CX P w) P w K mg base N_pay_by "pay_by" (defScope t_pay_by) a.f_pay_by cdv A outer s H E).A (cxOf (L2.CX P w) P w K mg base N_pay_by "pay_by" (defScope t_pay_by) a.f_pay_by cdv A outer s H E).env (cxOf (L2.CX P w) P w K mg base N_pay_by "pay_by" (defScope t_pay_by) a.f_pay_by cdv A outer s H E).xe := passes_of rfl
  have tk : Takes (cxOf (L2.CX P w) P w K mg base N_pay_by "pay_by" (defScope t_pay_by) a.f_pay_by cdv A outer s H E) (fun c dd _ H' => E c dd H') := takes_of rfl rfl rfl rfl
  unfold m_pay_by fr_pay_by_1 lp_pay_by_1
  exact SSs.ex (sss_cons (ss_set (i := 2) sc_pay_by.nd rfl (by first | exact Or.inl rfl | exact Or.inr rfl) (se_var (pv 1))) (sss_cons (ss_own (fun h => ps_set (i := 3) sc_pay_by.nd rfl (by first | exact Or.inl rfl | exact Or.inr rfl) h) (sf_lst sa_nil)) (sss_cons (ss_for [4, 5, 6] po rfl (si_seqK K rfl (se_revK K rfl (so_var (pv 0)))) (sg_tupK K rfl rfl (sgs_cons (sg_name (pg_name (i := 4) sc_pay_by.nd rfl (by first | exact Or.inl rfl | exact Or.inr rfl))) (sgs_cons (sg_name (pg_name (i := 5) sc_pay_by.nd rfl (by first | exact Or.inl rfl | exact Or.inr rfl))) sgs_nil))) (sss_cons (ss_set (i := 6) sc_pay_by.nd rfl (by first | exact Or.inl rfl | exact Or.inr rfl) (se_callB (cK_min K rfl rfl) ok_min (by rfl) C.b_min (by decide +kernel) (so_cons (so_var (pv 5)) (so_cons (SE.so (se_op op_fdivW ok_fdiv (so_var (pv 2)) (so_var (pv 4)))) sos_nil)))) (sss_cons (ss_aug (fun h => ps_aug (i := 2) sc_pay_by.nd rfl (by first | exact Or.inl rfl | exact Or.inr rfl) h ip_sub) (se_op (oK_mul K rfl) ok_mul (so_var (pv 6)) (so_var (pv 4)))) (sss_cons (ss_if (st_cmp op_gt ok_gt (nomark _) (so_var (pv 6)) (SE.so se_int)) (sss_cons (ss_app (fun h => ps_expr (pe_bm PySem.F.plainAttrs_list PySem.F.slot_list_append PySem.F.type_list_append mt_append (pv 3) (pa_cons h pa_nil))) (se_tup (sa_cons (se_var (pv 4)) (sa_cons (se_var (pv 6)) sa_nil)))) sss_nil) sss_nil) sss_nil)))) (sss_cons (ss_if (st_cmp op_gt ok_gt (nomark _) (so_var (pv 2)) (SE.so se_int)) (sss_cons (ss_raise1 K (oki_NoPay C) rfl rfl rfl rfl rfl C.x_ok C.x_NoPay ⟨by decide, by decide, rfl, rfl⟩ C.xi_NoPay C.xt_NoPay C.xb_NoPay (hr.mono (by first | decide | omega)) rfl tk (by rfl) (se_var (pv 2))) sss_nil) sss_nil) (sss_cons (ss_ret (se_callTy (cK_tuple K rfl) ok_tuple (by rfl) C.b_tuple (by decide +kernel) (so_cons (SE.so (se_revK K rfl (so_var (pv 3)))) sos_nil))) sss_nil))))) (by decide)
theorem ok_pay (C : Fx K mg a) : FnOk P w K mg base (L2.CX P w) 5 a.f_pay a.d_pay ["pile", "amount"] (spOf K mg 2 s_pay) := by
  refine fn_okX (k := 4) C.F_pay sc_pay (by decide) (fun cdv A outer s H E hr => ?_)
  have po : PassesOwn (model P w) (cxOf (L2.CX P w) P w K mg base N_pay "pay" (defScope t_pay) a.f_pay cdv A outer s H E).A (cxOf (L2.CX P w) P w K mg base N_pay "pay" (defScope t_pay) a.f_pay cdv A outer s H E).env (cxOf (L2.CX P w) P w K mg base N_pay "pay" (defScope t_pay) a.f_pay cdv A outer s H E).xe := passes_of rfl
  have tk : Takes (cxOf (L2.CX P w) P w K mg base N_pay "pay" (defScope t_pay) a.f_pay cdv A outer s H E) (fun c dd _ H' => E c dd H') := takes_of rfl rfl rfl rfl
  unfold m_pay
  exact SSs.ex (sss_cons (ss_expr (fun h => ps_expr h) (se_callC (ok_look_at_pile C) rfl rfl rfl rfl rfl (hr.mono (by first | decide | omega)) (by rfl) C.g_look_at_pile C.k_look_at_pile C.B_look_at_pile rfl tk (so_cons (so_var (pv 0)) sos_nil) (lm_cons lm_nil))) (sss_cons (ss_expr (fun h => ps_expr h) (se_callC (ok_look_at_number C) rfl rfl rfl rfl rfl (hr.mono (by first | decide | omega)) (by rfl) C.g_look_at_number C.k_look_at_number C.B_look_at_number rfl tk (so_cons (so_var (pv 1)) (so_cons (SE.so se_int) sos_nil)) (lm_cons (lm_cons lm_nil)))) (sss_cons (ss_retS (sv_callC (ok_pay_by C) rfl rfl rfl rfl rfl (hr.mono (by first | decide | omega)) (by rfl) C.g_pay_by C.k_pay_by C.B_pay_by rfl tk (so_cons (so_var (pv 0)) (so_cons (so_var (pv 1)) sos_nil)) (lm_cons (lm_cons lm_nil)))) sss_nil))) (by decide)
theorem ok_paid (C : Fx K mg a) : FnOk P w K mg base (L2.CX P w) 5 a.f_paid a.d_paid ["pile", "amounts"] (spOf K mg 2 s_paid) := by
  refine fn_okX (k := 4) C.F_paid sc_paid (by decide) (fun cdv A outer s H E hr => ?_)
  have po : PassesOwn (model P w) (cxOf (L2.CX P w) P w K mg base N_paid "paid" (defScope t_paid) a.f_paid cdv A outer s H E).A (cxOf (L2.CX P w) P w K mg base N_paid "paid" (defScope t_paid) a.f_paid cdv A outer s H E).env (cxOf (L2.CX P w) P w K mg base N_paid "paid" (defScope t_paid) a.f_paid cdv A outer s H E).xe := passes_of rfl
  have tk : Takes (cxOf (L2.CX P w) P w K mg base N_paid "paid" (defScope t_paid) a.f_paid cdv A outer s H E) (fun c dd _ H' => E c dd H') := takes_of rfl rfl rfl rfl
  unfold m_paid fr_paid_1 lp_paid_1 lc_paid_1
  exact SSs.ex (sss_cons (ss_expr (fun h => ps_expr h) (se_callC (ok_look_at_pile C) rfl rfl rfl rfl rfl (hr.mono (by first | decide | omega)) (by rfl) C.g_look_at_pile C.k_look_at_pile C.B_look_at_pile rfl tk (so_cons (so_var (pv 0)) sos_nil) (lm_cons lm_nil))) (sss_cons (ss_if (SW.st (sw_or (st_not (st_val (se_isiK K rfl (by rfl) C.b_isinstance (so_var (pv 1)) (pe_bltn (v := .ty "list") (by rfl) C.b_list (by decide +kernel) rfl) (by decide +kernel)))) (sw_or1 (st_not (st_val (se_callB (cK_all K rfl rfl) ok_all (by rfl) C.b_all (by decide +kernel) (so_cons (SE.so (se_lc (own := [("amount", 4)]) rfl sc_paid.nd (si_seqK K rfl (se_var (pv 1))) (blkOk_by (own := [("amount", 4)]) (N := N_paid) (sc := defScope t_paid) (by decide +kernel)) (fun _ _ _ _ _ => (sg_name (pg_name (i := 4) sc_paid.nd rfl (by first | exact Or.inl rfl | exact Or.inr rfl)))) (by decide) (fun _ _ _ _ _ => sts_nil) (fun _ _ _ _ _ => (se_callC (ok_is_from C) rfl rfl rfl rfl rfl (hr.mono (by first | decide | omega)) (by rfl) C.g_is_from C.k_is_from C.B_is_from rfl takes0 (so_cons (so_var (pv 4)) (so_cons (SE.so se_int) sos_nil)) (lm_cons (lm_cons lm_nil)))))) sos_nil))))))) (sss_cons (ss_raise0 K rfl rfl C.x_ok C.x_NoNumber ⟨by decide, rfl⟩ rfl tk (by rfl)) sss_nil) sss_nil) (sss_cons (ss_own (fun h => ps_set (i := 2) sc_paid.nd rfl (by first | exact Or.inl rfl | exact Or.inr rfl) h) (sf_lst sa_nil)) (sss_cons (ss_set (i := 3) sc_paid.nd rfl (by first | exact Or.inl rfl | exact Or.inr rfl) (se_var (pv 0))) (sss_cons (ss_for [4] po rfl (si_seqK K rfl (se_var (pv 1))) (sg_name (pg_name (i := 4) sc_paid.nd rfl (by first | exact Or.inl rfl | exact Or.inr rfl))) (sss_cons (ss_app (fun h => ps_expr (pe_bm PySem.F.plainAttrs_list PySem.F.slot_list_append PySem.F.type_list_append mt_append (pv 2) (pa_cons h pa_nil))) (se_callC (ok_pay_by C) rfl rfl rfl rfl rfl (hr.mono (by first | decide | omega)) (by rfl) C.g_pay_by C.k_pay_by C.B_pay_by rfl tk (so_cons (so_var (pv 3)) (so_cons (so_var (pv 4)) sos_nil)) (lm_cons (lm_cons lm_nil)))) (sss_cons (ss_set (i := 3) sc_paid.nd rfl (by first | exact Or.inl rfl | exact Or.inr rfl) (se_callC (ok_take_by C) rfl rfl rfl rfl rfl (hr.mono (by first | decide | omega)) (by rfl) C.g_take_by C.k_take_by C.B_take_by rfl tk (so_cons (so_var (pv 3)) (so_cons (SE.so (se_ixK K rfl (fun _ _ => rfl) (so_var (pv 2)) (SE.so (se_neg (SE.so se_int))))) sos_nil)) (lm_cons (lm_cons lm_nil)))) sss_nil))) (sss_cons (ss_ret (se_tup (sa_cons (se_frz (pv 2)) (sa_cons (se_var (pv 3)) sa_nil)))) sss_nil)))))) (by decide)
theorem ok_paidX (C : Fx K mg a) : FnOk P w K mg base (L2.CX P w) 5 a.f_paid a.d_paid ["pile", "amounts"] (spX cTL K mg 2 s_k20_paidX) := by
  refine fn_okXx (k := 4) C.F_paid sc_paid (by decide) (fun cdv A outer s H E hr => ?_)
  have po : PassesOwn (model P w) (cxOf (L2.CX P w) P w K mg base N_paid "paid" (defScope t_paid) a.f_paid cdv A outer s H E).A (cxOf (L2.CX P w) P w K mg base N_paid "paid" (defScope t_paid) a.f_paid cdv A outer s H E).env (cxOf (L2.CX P w) P w K mg base N_paid "paid" (defScope t_paid) a.f_paid cdv A outer s H E).xe := passes_of rfl
  have tk : Takes (cxOf (L2.CX P w) P w K mg base N_paid "paid" (defScope t_paid) a.f_paid cdv A outer s H E) (fun c dd _ H' => E c dd H') := takes_of rfl rfl rfl rfl
  unfold m_k20_paidX fr_k20_paidX_1 lp_k20_paidX_1 lc_k20_paidX_1
  exact YSsX.ex (ysx_cons (SS.y (ps := []) (ss_expr (fun h => ps_expr h) (se_callC (ok_look_at_pile C) rfl rfl rfl rfl rfl (hr.mono (by first | decide | omega)) (by rfl) C.g_look_at_pile C.k_look_at_pile C.B_look_at_pile rfl tk (so_cons (so_var (pv 0)) sos_nil) (lm_cons lm_nil))) (by decide)) (ysx_cons (SS.y (ps := []) (ss_if (SW.st (sw_or (st_not (st_val (se_isiK K rfl (by rfl) C.b_isinstance (so_var (pv 1)) (pe_bltn (v := .ty "list") (by rfl) C.b_list (by decide +kernel) rfl) (by decide +kernel)))) (sw_or1 (st_not (st_val (se_callB (cK_all K rfl rfl) ok_all (by rfl) C.b_all (by decide +kernel) (so_cons (SE.so (se_lc (own := [("amount", 4)]) rfl sc_paid.nd (si_seqK K rfl (se_var (pv 1))) (blkOk_by (own := [("amount", 4)]) (N := N_paid) (sc := defScope t_paid) (by decide +kernel)) (fun _ _ _ _ _ => (sg_name (pg_name (i := 4) sc_paid.nd rfl (by first | exact Or.inl rfl | exact Or.inr rfl)))) (by decide) (fun _ _ _ _ _ => sts_nil) (fun _ _ _ _ _ => (se_callC (ok_is_from C) rfl rfl rfl rfl rfl (hr.mono (by first | decide | omega)) (by rfl) C.g_is_from C.k_is_from C.B_is_from rfl takes0 (so_cons (so_var (pv 4)) (so_cons (SE.so se_int) sos_nil)) (lm_cons (lm_cons lm_nil)))))) sos_nil))))))) (sss_cons (ss_raise0 K rfl rfl C.x_ok C.x_NoNumber ⟨by decide, rfl⟩ rfl tk (by rfl)) sss_nil) sss_nil) (by decide)) (ysx_cons (SS.y (ps := []) (ss_own (fun h => ps_set (i := 2) sc_paid.nd rfl (by first | exact Or.inl rfl | exact Or.inr rfl) h) (sf_lst sa_nil)) (by decide)) (ysx_cons (SS.y (ps := []) (ss_set (i := 3) sc_paid.nd rfl (by first | exact Or.inl rfl | exact Or.inr rfl) (se_var (pv 0))) (by decide)) (ysx_cons (SS.y (ps := []) (ss_for [4] po rfl (si_seqK K rfl (se_var (pv 1))) (sg_name (pg_name (i := 4) sc_paid.nd rfl (by first | exact Or.inl rfl | exact Or.inr rfl))) (sss_cons (ss_app (fun h => ps_expr (pe_bm PySem.F.plainAttrs_list PySem.F.slot_list_append PySem.F.type_list_append mt_append (pv 2) (pa_cons h pa_nil))) (se_callC (ok_pay_by C) rfl rfl rfl rfl rfl (hr.mono (by first | decide | omega)) (by rfl) C.g_pay_by C.k_pay_by C.B_pay_by rfl tk (so_cons (so_var (pv 3)) (so_cons (so_var (pv 4)) sos_nil)) (lm_cons (lm_cons lm_nil)))) (sss_cons (ss_set (i := 3) sc_paid.nd rfl (by first | exact Or.inl rfl | exact Or.inr rfl) (se_callC (ok_take_by C) rfl rfl rfl rfl rfl (hr.mono (by first | decide | omega)) (by rfl) C.g_take_by C.k_take_by C.B_take_by rfl tk (so_cons (so_var (pv 3)) (so_cons (SE.so (se_ixK K rfl (fun _ _ => rfl) (so_var (pv 2)) (SE.so (se_neg (SE.so se_int))))) sos_nil)) (lm_cons (lm_cons lm_nil)))) sss_nil))) (by decide)) (ysx_ret (i := 2) (pv 2) (se_var (pv 3)) (pa_cons (pv 2) (pa_cons (pv 3) pa_nil)))))))) (by decide)
theorem ok__law_mixed (C : Fx K mg a) : FnOk P w K mg base (L2.CX P w) 1 a.f__law_mixed a.d__law_mixed ["_law_cell_here", "_law_k"] (spOf K mg 2 s__law_mixed) := by
  refine fn_okX (k := 0) C.F__law_mixed sc__law_mixed (by decide) (fun cdv A outer s H E hr => ?_)
  have po : PassesOwn (model P w) (cxOf (L2.CX P w) P w K mg base N__law_mixed "_law_mixed" (defScope t__law_mixed) a.f__law_mixed cdv A outer s H E).A (cxOf (L2.CX P w) P w K mg base N__law_mixed "_law_mixed" (defScope t__law_mixed) a.f__law_mixed cdv A outer s H E).env (cxOf (L2.CX P w) P w K mg base N__law_mixed "_law_mixed" (defScope t__law_mixed) a.f__law_mixed cdv A outer s H E).xe := passes_of rfl
  have tk : Takes (cxOf (L2.CX P w) P w K mg base N__law_mixed "_law_mixed" (defScope t__law_mixed) a.f__law_mixed cdv A outer s H E) (fun c dd _ H' => E c dd H') := takes_of rfl rfl rfl rfl
  unfold m__law_mixed
  exact SSs.ex (sss_cons (ss_set (i := 2) sc__law_mixed.nd rfl (by first | exact Or.inl rfl | exact Or.inr rfl) (se_op op_mod ok_mod (SE.so (se_op (oK_add K rfl) ok_add (SE.so (se_op (oK_add K rfl) ok_add (SE.so (se_op (oK_mul K rfl) ok_mul (SE.so (se_op op_mod ok_mod (so_var (pv 0)) (SE.so se_int))) (SE.so se_int))) (SE.so (se_op (oK_mul K rfl) ok_mul (so_var (pv 1)) (SE.so se_int))))) (SE.so se_int))) (SE.so se_int))) (sss_cons (ss_set (i := 2) sc__law_mixed.nd rfl (by first | exact Or.inl rfl | exact Or.inr rfl) (se_op op_mod ok_mod (SE.so (se_op (oK_mul K rfl) ok_mul (so_var (pv 2)) (so_var (pv 2)))) (SE.so se_int))) (sss_cons (ss_ret (se_op op_mod ok_mod (SE.so (se_op (oK_mul K rfl) ok_mul (so_var (pv 2)) (SE.so (se_op (oK_add K rfl) ok_add (so_var (pv 2)) (SE.so se_int))))) (SE.so se_int))) sss_nil))) (by decide)
theorem ok__law_cell (C : Fx K mg a) : FnOk P w K mg base (L2.CX P w) 2 a.f__law_cell a.d__law_cell ["_law_script", "_law_k"] (spOf K mg 2 s__law_cell) := by
  refine fn_okX (k := 1) C.F__law_cell sc__law_cell (by decide) (fun cdv A outer s H E hr => ?_)
  have po : PassesOwn (model P w) (cxOf (L2.CX P w) P w K mg base N__law_cell "_law_cell" (defScope t__law_cell) a.f__law_cell cdv A outer s H E).A (cxOf (L2.CX P w) P w K mg base N__law_cell "_law_cell" (defScope t__law_cell) a.f__law_cell cdv A outer s H E).env (cxOf (L2.CX P w) P w K mg base N__law_cell "_law_cell" (defScope t__law_cell) a.f__law_cell cdv A outer s H E).xe := passes_of rfl
  have tk : Takes (cxOf (L2.CX P w) P w K mg base N__law_cell "_law_cell" (defScope t__law_cell) a.f__law_cell cdv A outer s H E) (fun c dd _ H' => E c dd H') := takes_of rfl rfl rfl rfl
  unfold m__law_cell fr__law_cell_1 lp__law_cell_1
  exact SSs.ex (sss_cons (ss_set (i := 2) sc__law_cell.nd rfl (by first | exact Or.inl rfl | exact Or.inr rfl) se_int) (sss_cons (ss_if (st_cmp op_lt ok_lt (nomark _) (so_var (pv 1)) (SE.so (se_lenScr (pe_callB call_len (by rfl) C.b_len PySem.boot_len (pa_cons (pv 0) pa_nil))))) (sss_cons (ss_set (i := 2) sc__law_cell.nd rfl (by first | exact Or.inl rfl | exact Or.inr rfl) (se_ixScr (fun h => pe_ix ix_B (pv 0) h (fun _ _ => rfl)) (so_var (pv 1)))) sss_nil) sss_nil) (sss_cons (ss_if (st_cmp op_ge ok_ge (nomark _) (so_var (pv 2)) (SE.so (se_op op_pow ok_pow (SE.so se_int) (SE.so se_int)))) (sss_cons (ss_ret (se_op op_mod ok_mod (SE.so (se_op op_sub ok_sub (so_var (pv 2)) (SE.so (se_op op_pow ok_pow (SE.so se_int) (SE.so se_int))))) (SE.so (se_op (oK_mul K rfl) ok_mul (SE.so (se_op (oK_mul K rfl) ok_mul (SE.so (se_op (oK_mul K rfl) ok_mul (SE.so (se_op op_pow ok_pow (SE.so se_int) (SE.so se_int))) (SE.so (se_op op_pow ok_pow (SE.so se_int) (SE.so se_int))))) (SE.so (se_op op_pow ok_pow (SE.so se_int) (SE.so se_int))))) (SE.so (se_op op_pow ok_pow (SE.so se_int) (SE.so se_int))))))) sss_nil) sss_nil) (sss_cons (ss_set (i := 3) sc__law_cell.nd rfl (by first | exact Or.inl rfl | exact Or.inr rfl) se_int) (sss_cons (ss_for [4] po rfl (si_range1 (fun h => pi_range1 (by rfl) C.b_range h) (so_cons (SE.so se_int) sos_nil)) (sg_name (pg_name (i := 4) sc__law_cell.nd rfl (by first | exact Or.inl rfl | exact Or.inr rfl))) (sss_cons (ss_set (i := 3) sc__law_cell.nd rfl (by first | exact Or.inl rfl | exact Or.inr rfl) (se_op (oK_add K rfl) ok_add (SE.so (se_op (oK_mul K rfl) ok_mul (so_var (pv 3)) (SE.so se_int))) (SE.so (se_callC (ok__law_mixed C) rfl rfl rfl rfl rfl (hr.mono (by first | decide | omega)) (by rfl) C.g__law_mixed C.k__law_mixed C.B__law_mixed rfl tk (so_cons (so_var (pv 2)) (so_cons (SE.so (se_op (oK_add K rfl) ok_add (SE.so (se_op (oK_add K rfl) ok_add (SE.so (se_op (oK_mul K rfl) ok_mul (SE.so se_int) (so_var (pv 1)))) (SE.so (se_op (oK_mul K rfl) ok_mul (SE.so se_int) (so_var (pv 4)))))) (SE.so (se_op (oK_mul K rfl) ok_mul (so_var (pv 4)) (so_var (pv 4)))))) sos_nil)) (lm_cons (lm_cons lm_nil)))))) sss_nil)) (sss_cons (ss_ret (se_var (pv 3))) sss_nil)))))) (by decide)
theorem ok__law_take (C : Fx K mg a) : FnOk P w K mg base (L2.CX P w) 1 a.f__law_take a.d__law_take ["_law_own", "_law_size"] (spOf K mg 2 s__law_take) := by
  refine fn_okX (k := 0) C.F__law_take sc__law_take (by decide) (fun cdv A outer s H E hr => ?_)
  have po : PassesOwn (model P w) (cxOf (L2.CX P w) P w K mg base N__law_take "_law_take" (defScope t__law_take) a.f__law_take cdv A outer s H E).A (cxOf (L2.CX P w) P w K mg base N__law_take "_law_take" (defScope t__law_take) a.f__law_take cdv A outer s H E).env (cxOf (L2.CX P w) P w K mg base N__law_take "_law_take" (defScope t__law_take) a.f__law_take cdv A outer s H E).xe := passes_of rfl
  have tk : Takes (cxOf (L2.CX P w) P w K mg base N__law_take "_law_take" (defScope t__law_take) a.f__law_take cdv A outer s H E) (fun c dd _ H' => E c dd H') := takes_of rfl rfl rfl rfl
  unfold m__law_take
  exact SSs.ex (sss_cons (ss_set (i := 2) sc__law_take.nd rfl (by first | exact Or.inl rfl | exact Or.inr rfl) (se_op op_mod ok_mod (SE.so (se_ixK K rfl (fun _ _ => rfl) (so_var (pv 0)) (SE.so se_int))) (so_var (pv 1)))) (sss_cons (ss_put (fun he hk => ps_asg he (pg_sub (pv 0) hk set_list)) (se_op op_fdivW ok_fdiv (SE.so (se_ixK K rfl (fun _ _ => rfl) (so_var (pv 0)) (SE.so se_int))) (so_var (pv 1))) (SE.so se_int)) (sss_cons (ss_ret (se_var (pv 2))) sss_nil))) (by decide)
theorem ok__law_coins (C : Fx K mg a) : FnOk P w K mg base (L2.CX P w) 2 a.f__law_coins a.d__law_coins ["_law_own", "_law_lots", "_law_gap", "_law_often"] (spOf K mg 4 s__law_coins_v2) := by
  refine fn_okX (k := 1) C.F__law_coins sc__law_coins (by decide) (fun cdv A outer s H E hr => ?_)
  have po : PassesOwn (model P w) (cxOf (L2.CX P w) P w K mg base N__law_coins "_law_coins" (defScope t__law_coins) a.f__law_coins cdv A outer s H E).A (cxOf (L2.CX P w) P w K mg base N__law_coins "_law_coins" (defScope t__law_coins) a.f__law_coins cdv A outer s H E).env (cxOf (L2.CX P w) P w K mg base N__law_coins "_law_coins" (defScope t__law_coins) a.f__law_coins cdv A outer s H E).xe := passes_of rfl
  have tk : Takes (cxOf (L2.CX P w) P w K mg base N__law_coins "_law_coins" (defScope t__law_coins) a.f__law_coins cdv A outer s H E) (fun c dd _ H' => E c dd H') := takes_of rfl rfl rfl rfl
  unfold m__law_coins_v2 fr__law_coins_v2_1 lp__law_coins_v2_1
  exact SSs.ex (sss_cons (ss_own (fun h => ps_set (i := 4) sc__law_coins.nd rfl (by first | exact Or.inl rfl | exact Or.inr rfl) h) (sf_lst sa_nil)) (sss_cons (ss_set (i := 5) sc__law_coins.nd rfl (by first | exact Or.inl rfl | exact Or.inr rfl) se_int) (sss_cons (ss_for [6] po rfl (si_range1 (fun h => pi_range1 (by rfl) C.b_range h) (so_cons (SE.so (se_callC (ok__law_take C) rfl rfl rfl rfl rfl (hr.mono (by first | decide | omega)) (by rfl) C.g__law_take C.k__law_take C.B__law_take rfl tk (so_cons (so_var (pv 0)) (so_cons (SE.so (se_op (oK_add K rfl) ok_add (so_var (pv 1)) (SE.so se_int))) sos_nil)) (lm_cons (lm_cons lm_nil)))) sos_nil)) (sg_name (pg_name (i := 6) sc__law_coins.nd rfl (by first | exact Or.inl rfl | exact Or.inr rfl))) (sss_cons (ss_set (i := 5) sc__law_coins.nd rfl (by first | exact Or.inl rfl | exact Or.inr rfl) (se_op (oK_add K rfl) ok_add (SE.so (se_op (oK_add K rfl) ok_add (so_var (pv 5)) (SE.so se_int))) (SE.so (se_callC (ok__law_take C) rfl rfl rfl rfl rfl (hr.mono (by first | decide | omega)) (by rfl) C.g__law_take C.k__law_take C.B__law_take rfl tk (so_cons (so_var (pv 0)) (so_cons (so_var (pv 2)) sos_nil)) (lm_cons (lm_cons lm_nil)))))) (sss_cons (ss_app (fun h => ps_expr (pe_bm PySem.F.plainAttrs_list PySem.F.slot_list_append PySem.F.type_list_append mt_append (pv 4) (pa_cons h pa_nil))) (se_tup (sa_cons (se_var (pv 5)) (sa_cons (se_op (oK_add K rfl) ok_add (SE.so se_int) (SE.so (se_callC (ok__law_take C) rfl rfl rfl rfl rfl (hr.mono (by first | decide | omega)) (by rfl) C.g__law_take C.k__law_take C.B__law_take rfl tk (so_cons (so_var (pv 0)) (so_cons (so_var (pv 3)) sos_nil)) (lm_cons (lm_cons lm_nil))))) sa_nil)))) sss_nil))) (sss_cons (ss_ret (se_callTy (cK_tuple K rfl) ok_tuple (by rfl) C.b_tuple (by decide +kernel) (so_cons (so_var (pv 4)) sos_nil))) sss_nil)))) (by decide)
theorem ok__law_one (C : Fx K mg a) : FnOk P w K mg base (L2.CX P w) 1 a.f__law_one a.d__law_one ["_law_some", "_law_size"] (spOf K mg 2 s_k20__law_one) := by
  refine fn_okX (k := 0) C.F__law_one sc__law_one (by decide) (fun cdv A outer s H E hr => ?_)
  have po : PassesOwn (model P w) (cxOf (L2.CX P w) P w K mg base N__law_one "_law_one" (defScope t__law_one) a.f__law_one cdv A outer s H E).A (cxOf (L2.CX P w) P w K mg base N__law_one "_law_one" (defScope t__law_one) a.f__law_one cdv A outer s H E).env (cxOf (L2.CX P w) P w K mg base N__law_one "_law_one" (defScope t__law_one) a.f__law_one cdv A outer s H E).xe := passes_of rfl
  have tk : Takes (cxOf (L2.CX P w) P w K mg base N__law_one "_law_one" (defScope t__law_one) a.f__law_one cdv A outer s H E) (fun c dd _ H' => E c dd H') := takes_of rfl rfl rfl rfl
  unfold m_k20__law_one lc_k20__law_one_3 lc_k20__law_one_2 fr_k20__law_one_1 lp_k20__law_one_1 lc_k20__law_one_1
  exact SSs.ex (sss_cons (ss_ownO (fun h => ps_set (i := 2) sc__law_one.nd rfl (by first | exact Or.inl rfl | exact Or.inr rfl) h) (sfo_dict (K := K) rfl (fun h => pe_callTy (call_dictA rfl) (by rfl) C.b_dict (by decide +kernel) (pa_cons h pa_nil)) (SE.so (se_lc (own := [("_law_coin", 4), ("_law_many", 8)]) rfl sc__law_one.nd (si_seqK K rfl (se_var (pv 0))) (blkOk_by (own := [("_law_coin", 4), ("_law_many", 8)]) (N := N__law_one) (sc := defScope t__law_one) (by decide +kernel)) (fun _ _ _ _ _ => (sg_tupK K rfl rfl (sgs_cons (sg_name (pg_name (i := 4) sc__law_one.nd rfl (by first | exact Or.inl rfl | exact Or.inr rfl))) (sgs_cons (sg_name (pg_name (i := 8) sc__law_one.nd rfl (by first | exact Or.inl rfl | exact Or.inr rfl))) sgs_nil)))) (by decide) (fun _ _ _ _ _ => sts_nil) (fun _ _ _ _ _ => (se_tup (sa_cons (se_var (pv 4)) (sa_cons (se_var (pv 8)) sa_nil)))))))) (sss_cons (ss_ownO (fun h => ps_set (i := 3) sc__law_one.nd rfl (by first | exact Or.inl rfl | exact Or.inr rfl) h) (sfo_new pe_dnewK)) (sss_cons (ss_for [4, 7] po rfl (si_seqK K rfl (se_revK K rfl (SE.so (se_sortD (pe_callB (call_sortD rfl) (by rfl) C.b_sorted (by decide +kernel) (pa_cons (pv 2) pa_nil)))))) (sg_name (pg_name (i := 4) sc__law_one.nd rfl (by first | exact Or.inl rfl | exact Or.inr rfl))) (sss_cons (ss_set (i := 7) sc__law_one.nd rfl (by first | exact Or.inl rfl | exact Or.inr rfl) (se_op op_fdivW ok_fdiv (so_var (pv 1)) (so_var (pv 4)))) (sss_cons (ss_if (st_cmp op_gt ok_gt (nomark _) (so_var (pv 7)) (SE.so (se_dget (fun h => pe_dget (hu1 hr.units) (pv 2) h (fun _ _ => rfl)) (so_var (pv 4))))) (sss_cons (ss_set (i := 7) sc__law_one.nd rfl (by first | exact Or.inl rfl | exact Or.inr rfl) (se_dget (fun h => pe_dget (hu1 hr.units) (pv 2) h (fun _ _ => rfl)) (so_var (pv 4)))) sss_nil) sss_nil) (sss_cons (ss_dput (fun he hk => ps_dput (hu1 hr.units) (pv 3) hk he rfl) (se_var (pv 7)) (so_var (pv 4))) (sss_cons (ss_set (i := 1) sc__law_one.nd rfl (by first | exact Or.inl rfl | exact Or.inr rfl) (se_op op_sub ok_sub (so_var (pv 1)) (SE.so (se_op (oK_mul K rfl) ok_mul (so_var (pv 7)) (so_var (pv 4)))))) sss_nil))))) (sss_cons (ss_set (i := 5) sc__law_one.nd rfl (by first | exact Or.inl rfl | exact Or.inr rfl) (se_callTy (cK_tuple K rfl) ok_tuple (by rfl) C.b_tuple (by decide +kernel) (so_cons (SE.so (se_lc (own := [("_law_coin", 4)]) rfl sc__law_one.nd (si_seqK K rfl (se_sortD (pe_callB (call_sortD rfl) (by rfl) C.b_sorted (by decide +kernel) (pa_cons (pv 3) pa_nil)))) (blkOk_by (own := [("_law_coin", 4)]) (N := N__law_one) (sc := defScope t__law_one) (by decide +kernel)) (fun _ _ _ _ _ => (sg_name (pg_name (i := 4) sc__law_one.nd rfl (by first | exact Or.inl rfl | exact Or.inr rfl)))) (by decide) (fun _ _ _ _ _ => (sts_one (st_cmp op_gt ok_gt (nomark _) (SE.so (se_dget (fun h => pe_dget (hu1 hr.units) (pv 3) h (fun _ _ => rfl)) (so_var (pv 4)))) (SE.so se_int)))) (fun _ _ _ _ _ => (se_tup (sa_cons (se_var (pv 4)) (sa_cons (se_dget (fun h => pe_dget (hu1 hr.units) (pv 3) h (fun _ _ => rfl)) (so_var (pv 4))) sa_nil)))))) sos_nil))) (sss_cons (ss_set (i := 6) sc__law_one.nd rfl (by first | exact Or.inl rfl | exact Or.inr rfl) (se_callTy (cK_tuple K rfl) ok_tuple (by rfl) C.b_tuple (by decide +kernel) (so_cons (SE.so (se_lc (own := [("_law_coin", 4)]) rfl sc__law_one.nd (si_seqK K rfl (se_sortD (pe_callB (call_sortD rfl) (by rfl) C.b_sorted (by decide +kernel) (pa_cons (pv 3) pa_nil)))) (blkOk_by (own := [("_law_coin", 4)]) (N := N__law_one) (sc := defScope t__law_one) (by decide +kernel)) (fun _ _ _ _ _ => (sg_name (pg_name (i := 4) sc__law_one.nd rfl (by first | exact Or.inl rfl | exact Or.inr rfl)))) (by decide) (fun _ _ _ _ _ => (sts_one (st_cmp op_gt ok_gt (nomark _) (SE.so (se_dget (fun h => pe_dget (hu1 hr.units) (pv 2) h (fun _ _ => rfl)) (so_var (pv 4)))) (SE.so (se_dget (fun h => pe_dget (hu1 hr.units) (pv 3) h (fun _ _ => rfl)) (so_var (pv 4))))))) (fun _ _ _ _ _ => (se_tup (sa_cons (se_var (pv 4)) (sa_cons (se_op op_sub ok_sub (SE.so (se_dget (fun h => pe_dget (hu1 hr.units) (pv 2) h (fun _ _ => rfl)) (so_var (pv 4)))) (SE.so (se_dget (fun h => pe_dget (hu1 hr.units) (pv 3) h (fun _ _ => rfl)) (so_var (pv 4))))) sa_nil)))))) sos_nil))) (sss_cons (ss_ret (se_tup (sa_cons (se_var (pv 5)) (sa_cons (se_var (pv 6)) (sa_cons (se_var (pv 1)) sa_nil))))) sss_nil)))))) (by decide)
theorem ok__law_row (C : Fx K mg a) : FnOk P w K mg base (L2.CX P w) 2 a.f__law_row a.d__law_row ["_law_some", "_law_sizes"] (spOf K mg 2 s_k20__law_row) := by
  refine fn_okX (k := 1) C.F__law_row sc__law_row (by decide) (fun cdv A outer s H E hr => ?_)
  have po : PassesOwn (model P w) (cxOf (L2.CX P w) P w K mg base N__law_row "_law_row" (defScope t__law_row) a.f__law_row cdv A outer s H E).A (cxOf (L2.CX P w) P w K mg base N__law_row "_law_row" (defScope t__law_row) a.f__law_row cdv A outer s H E).env (cxOf (L2.CX P w) P w K mg base N__law_row "_law_row" (defScope t__law_row) a.f__law_row cdv A outer s H E).xe := passes_of rfl
  have tk : Takes (cxOf (L2.CX P w) P w K mg base N__law_row "_law_row" (defScope t__law_row) a.f__law_row cdv A outer s H E) (fun c dd _ H' => E c dd H') := takes_of rfl rfl rfl rfl
  unfold m_k20__law_row fr_k20__law_row_1 lp_k20__law_row_1
  exact SSs.ex (sss_cons (ss_own (fun h => ps_set (i := 2) sc__law_row.nd rfl (by first | exact Or.inl rfl | exact Or.inr rfl) h) (sf_lst sa_nil)) (sss_cons (ss_for [3, 4, 5] po rfl (si_seqK K rfl (se_var (pv 1))) (sg_name (pg_name (i := 3) sc__law_row.nd rfl (by first | exact Or.inl rfl | exact Or.inr rfl))) (sss_cons (ss_asg (fun he hg => ps_asg he hg) (se_callC (ok__law_one C) rfl rfl rfl rfl rfl (hr.mono (by first | decide | omega)) (by rfl) C.g__law_one C.k__law_one C.B__law_one rfl tk (so_cons (so_var (pv 0)) (so_cons (so_var (pv 3)) sos_nil)) (lm_cons (lm_cons lm_nil))) (sg_tupK K rfl rfl (sgs_cons (sg_name (pg_name (i := 4) sc__law_row.nd rfl (by first | exact Or.inl rfl | exact Or.inr rfl))) (sgs_cons (sg_name (pg_name (i := 0) sc__law_row.nd rfl (by first | exact Or.inl rfl | exact Or.inr rfl))) (sgs_cons (sg_name (pg_name (i := 5) sc__law_row.nd rfl (by first | exact Or.inl rfl | exact Or.inr rfl))) sgs_nil))))) (sss_cons (ss_app (fun h => ps_expr (pe_bm PySem.F.plainAttrs_list PySem.F.slot_list_append PySem.F.type_list_append mt_append (pv 2) (pa_cons h pa_nil))) (se_var (pv 4))) (sss_cons (ss_if (st_cmp op_gt ok_gt (nomark _) (so_var (pv 5)) (SE.so se_int)) (sss_cons (ss_ret (se_tup (sa_cons se_non (sa_cons (se_var (pv 5)) sa_nil)))) sss_nil) sss_nil) sss_nil)))) (sss_cons (ss_ret (se_tup (sa_cons (se_tup (sa_cons (se_frz (pv 2)) (sa_cons (se_var (pv 0)) sa_nil))) (sa_cons se_int sa_nil)))) sss_nil))) (by decide)
theorem ok__law_asked (C : Fx K mg a) : FnOk P w K mg base (L2.CX P w) 6 a.f__law_asked a.d__law_asked ["_law_which", "_law_some", "_law_odd"] (spOf K mg 3 s_k20__law_asked) := by
  refine fn_okX (k := 5) C.F__law_asked sc__law_asked (by decide) (fun cdv A outer s H E hr => ?_)
  have po : PassesOwn (model P w) (cxOf (L2.CX P w) P w K mg base N__law_asked "_law_asked" (defScope t__law_asked) a.f__law_asked cdv A outer s H E).A (cxOf (L2.CX P w) P w K mg base N__law_asked "_law_asked" (defScope t__law_asked) a.f__law_asked cdv A outer s H E).env (cxOf (L2.CX P w) P w K mg base N__law_asked "_law_asked" (defScope t__law_asked) a.f__law_asked cdv A outer s H E).xe := passes_of rfl
  have tk : Takes (cxOf (L2.CX P w) P w K mg base N__law_asked "_law_asked" (defScope t__law_asked) a.f__law_asked cdv A outer s H E) (fun c dd _ H' => E c dd H') := takes_of rfl rfl rfl rfl
  unfold m_k20__law_asked tb_k20__law_asked_1
  exact SSs.ex (sss_cons (ss_asg (fun he hg => ps_asg he hg) (se_tup (sa_cons se_non (sa_cons se_non sa_nil))) (sg_tupK K rfl rfl (sgs_cons (sg_name (pg_name (i := 4) sc__law_asked.nd rfl (by first | exact Or.inl rfl | exact Or.inr rfl))) (sgs_cons (sg_name (pg_name (i := 5) sc__law_asked.nd rfl (by first | exact Or.inl rfl | exact Or.inr rfl))) sgs_nil)))) (sss_cons (ss_try (c := 0) (i := 3) K rfl rfl C.x_ok C.x_TillError ⟨by decide, rfl⟩ rfl rfl rfl sc__law_asked.nd rfl rfl (by rfl) tk (fun _ _ _ tk po => (sss_cons (ss_set (i := 4) sc__law_asked.nd rfl (by first | exact Or.inl rfl | exact Or.inr rfl) (se_if (st_cmp (oK_eq K rfl hr.units) ok_eq (nomark _) (so_var (pv 0)) (SE.so se_int)) (se_callC (ok_pay C) rfl rfl rfl rfl rfl (hr.mono (by first | decide | omega)) (by rfl) C.g_pay C.k_pay C.B_pay rfl tk (so_cons (so_var (pv 1)) (so_cons (so_var (pv 2)) sos_nil)) (lm_cons (lm_cons lm_nil))) (se_callC (ok_paid C) rfl rfl rfl rfl rfl (hr.mono (by first | decide | omega)) (by rfl) C.g_paid C.k_paid C.B_paid rfl tk (so_cons (so_var (pv 1)) (so_cons (so_var (pv 2)) sos_nil)) (lm_cons (lm_cons lm_nil))))) sss_nil)) (fun sua _ => (sss_cons (ss_set (i := 5) sc__law_asked.nd rfl (by first | exact Or.inl rfl | exact Or.inr rfl) (se_var (pv 3))) sss_nil))) (sss_cons (ss_ret (se_tup (sa_cons (se_var (pv 4)) (sa_cons (se_var (pv 5)) sa_nil)))) sss_nil))) (by decide)
theorem ok__law_askedX (C : Fx K mg a) : FnOk P w K mg base (L2.CX P w) 6 a.f__law_asked a.d__law_asked ["_law_which", "_law_some", "_law_odd"] (spX cRA K mg 3 s_k20__law_askedX) := by
  refine fn_okXx (k := 5) C.F__law_asked sc__law_asked (by decide) (fun cdv A outer s H E hr => ?_)
  have po : PassesOwn (model P w) (cxOf (L2.CX P w) P w K mg base N__law_asked "_law_asked" (defScope t__law_asked) a.f__law_asked cdv A outer s H E).A (cxOf (L2.CX P w) P w K mg base N__law_asked "_law_asked" (defScope t__law_asked) a.f__law_asked cdv A outer s H E).env (cxOf (L2.CX P w) P w K mg base N__law_asked "_law_asked" (defScope t__law_asked) a.f__law_asked cdv A outer s H E).xe := passes_of rfl
  have tk : Takes (cxOf (L2.CX P w) P w K mg base N__law_asked "_law_asked" (defScope t__law_asked) a.f__law_asked cdv A outer s H E) (fun c dd _ H' => E c dd H') := takes_of rfl rfl rfl rfl
  unfold m_k20__law_askedX tb_k20__law_askedX_1
  exact YSsX.ex (ysx_cons (SS.y (ps := []) (ss_asg (fun he hg => ps_asg he hg) (se_tup (sa_cons se_non (sa_cons se_non sa_nil))) (sg_tupK K rfl rfl (sgs_cons (sg_name (pg_name (i := 4) sc__law_asked.nd rfl (by first | exact Or.inl rfl | exact Or.inr rfl))) (sgs_cons (sg_name (pg_name (i := 5) sc__law_asked.nd rfl (by first | exact Or.inl rfl | exact Or.inr rfl))) sgs_nil)))) (by decide)) (ysx_cons (ys_try (cn := 0) (i := 3) (ps := []) K rfl rfl C.x_ok C.x_TillError ⟨by decide, rfl⟩ rfl rfl rfl sc__law_asked.nd rfl rfl (by rfl) tk (fun _ _ _ tk po => (yss_cons (ys_setTL (i := 4) (fun h => ps_set (i := 4) sc__law_asked.nd rfl (by first | exact Or.inl rfl | exact Or.inr rfl) h) (st_cmp (oK_eq K rfl hr.units) ok_eq (nomark _) (so_var (pv 0)) (SE.so se_int)) (se_callC (ok_pay C) rfl rfl rfl rfl rfl (hr.mono (by first | decide | omega)) (by rfl) C.g_pay C.k_pay C.B_pay rfl tk (so_cons (so_var (pv 1)) (so_cons (so_var (pv 2)) sos_nil)) (lm_cons (lm_cons lm_nil))).pe (svx_call (ok_paidX C) rfl rfl rfl rfl rfl (hr.mono (by first | decide | omega)) (by rfl) C.g_paid C.k_paid C.B_paid rfl tk (so_cons (so_var (pv 1)) (so_cons (so_var (pv 2)) sos_nil)) (lm_cons (lm_cons lm_nil)))) yss_nil)) (fun sua _ => (sss_cons (ss_set (i := 5) sc__law_asked.nd rfl (by first | exact Or.inl rfl | exact Or.inr rfl) (se_var (pv 3))) sss_nil)) (by decide)) (ysx_retA (i := 4) (se_var (pv 5)) (pa_cons (pv 4) (pa_cons (pv 5) pa_nil))))) (by decide)
theorem ok__law_only (C : Fx K mg a) : FnOk P w K mg base (L2.CX P w) 1 a.f__law_only a.d__law_only ["_law_caught", "_law_kind"] (spOf K mg 2 s_k20__law_only) := by
  refine fn_okX (k := 0) C.F__law_only sc__law_only (by decide) (fun cdv A outer s H E hr => ?_)
  have po : PassesOwn (model P w) (cxOf (L2.CX P w) P w K mg base N__law_only "_law_only" (defScope t__law_only) a.f__law_only cdv A outer s H E).A (cxOf (L2.CX P w) P w K mg base N__law_only "_law_only" (defScope t__law_only) a.f__law_only cdv A outer s H E).env (cxOf (L2.CX P w) P w K mg base N__law_only "_law_only" (defScope t__law_only) a.f__law_only cdv A outer s H E).xe := passes_of rfl
  have tk : Takes (cxOf (L2.CX P w) P w K mg base N__law_only "_law_only" (defScope t__law_only) a.f__law_only cdv A outer s H E) (fun c dd _ H' => E c dd H') := takes_of rfl rfl rfl rfl
  unfold m_k20__law_only lc_k20__law_only_1
  exact SSs.ex (sss_cons (ss_set (i := 2) sc__law_only.nd rfl (by first | exact Or.inl rfl | exact Or.inr rfl) (se_lst (sa_cons (se_isx (n := 1) K rfl C.x_ok (by rfl) C.b_isinstance (so_var (pv 0)) (pe_glob (v := .ref a.x_NoPile) (by rfl) C.x_NoPile.2 rfl) (.inl ⟨_, rfl, by decide, C.x_NoPile.1⟩)) (sa_cons (se_isx (n := 4) K rfl C.x_ok (by rfl) C.b_isinstance (so_var (pv 0)) (pe_glob (v := .ref a.x_NoNumber) (by rfl) C.x_NoNumber.2 rfl) (.inl ⟨_, rfl, by decide, C.x_NoNumber.1⟩)) (sa_cons (se_isx (n := 14) K rfl C.x_ok (by rfl) C.b_isinstance (so_var (pv 0)) (pe_glob (v := .ref a.x_NoPay) (by rfl) C.x_NoPay.2 rfl) (.inl ⟨_, rfl, by decide, C.x_NoPay.1⟩)) sa_nil))))) (sss_cons (ss_set (i := 2) sc__law_only.nd rfl (by first | exact Or.inl rfl | exact Or.inr rfl) (se_op (oK_add K rfl) ok_add (so_var (pv 2)) (SE.so (se_lst (sa_cons (se_isx (n := 13) K rfl C.x_ok (by rfl) C.b_isinstance (so_var (pv 0)) (pe_glob (v := .ref a.x_NoCoins) (by rfl) C.x_NoCoins.2 rfl) (.inl ⟨_, rfl, by decide, C.x_NoCoins.1⟩)) (sa_cons (se_isx (n := 15) K rfl C.x_ok (by rfl) C.b_isinstance (so_var (pv 0)) (pe_glob (v := .ref a.x_Unserved) (by rfl) C.x_Unserved.2 rfl) (.inl ⟨_, rfl, by decide, C.x_Unserved.1⟩)) sa_nil)))))) (sss_cons (ss_ret (se_cmp (oK_eq K rfl hr.units) ok_eq (nomark _) (so_var (pv 2)) (SE.so (se_lc (own := [("_law_one_here", 3)]) rfl sc__law_only.nd (si_seqK K rfl (se_lst (sa_cons se_str (sa_cons se_str (sa_cons se_str (sa_cons se_str (sa_cons se_str sa_nil))))))) (blkOk_by (own := [("_law_one_here", 3)]) (N := N__law_only) (sc := defScope t__law_only) (by decide +kernel)) (fun _ _ _ _ _ => (sg_name (pg_name (i := 3) sc__law_only.nd rfl (by first | exact Or.inl rfl | exact Or.inr rfl)))) (by decide) (fun _ _ _ _ _ => sts_nil) (fun _ _ _ _ _ => (se_cmp (oK_eq K rfl hr.units) ok_eq (nomark _) (so_var (pv 1)) (so_var (pv 3)))))))) sss_nil))) (by decide)
theorem ok__law_told (C : Fx K mg a) : FnOk P w K mg base (L2.CX P w) 2 a.f__law_told a.d__law_told ["_law_found", "_law_caught", "_law_due", "_law_rest"] (spOf K mg 4 s_k20__law_told) := by
  refine fn_okX (k := 1) C.F__law_told sc__law_told (by decide) (fun cdv A outer s H E hr => ?_)
  have po : PassesOwn (model P w) (cxOf (L2.CX P w) P w K mg base N__law_told "_law_told" (defScope t__law_told) a.f__law_told cdv A outer s H E).A (cxOf (L2.CX P w) P w K mg base N__law_told "_law_told" (defScope t__law_told) a.f__law_told cdv A outer s H E).env (cxOf (L2.CX P w) P w K mg base N__law_told "_law_told" (defScope t__law_told) a.f__law_told cdv A outer s H E).xe := passes_of rfl
  have tk : Takes (cxOf (L2.CX P w) P w K mg base N__law_told "_law_told" (defScope t__law_told) a.f__law_told cdv A outer s H E) (fun c dd _ H' => E c dd H') := takes_of rfl rfl rfl rfl
  unfold m_k20__law_told
  exact SSs.ex (sss_cons (ss_if (st_cmp (oK_eq K rfl hr.units) ok_eq (nomark _) (so_var (pv 3)) (SE.so se_int)) (sss_cons (ss_ret (se_and (se_cmp op_isN ok_is (nomark _) (so_var (pv 1)) (SE.so se_non)) (se_one (se_cmp (oK_eq K rfl hr.units) ok_eq (nomark _) (so_var (pv 0)) (so_var (pv 2)))))) sss_nil) sss_nil) (sss_cons (ss_ret (se_and (se_cmp op_isN ok_is (nomark _) (so_var (pv 0)) (SE.so se_non)) (se_and (se_callC (ok__law_only C) rfl rfl rfl rfl rfl (hr.mono (by first | decide | omega)) (by rfl) C.g__law_only C.k__law_only C.B__law_only rfl tk (so_cons (so_var (pv 1)) (so_cons (SE.so se_str) sos_nil)) (lm_cons (lm_cons lm_nil))) (se_and (se_cmp (oK_eq K rfl hr.units) ok_eq (nomark _) (SE.so (se_fld (cs := [14]) K rfl C.x_ok (so_var (pv 1)) (by decide))) (so_var (pv 3))) (se_one (se_not (se_isiK K rfl (by rfl) C.b_isinstance (SE.so (se_fld (cs := [14]) K rfl C.x_ok (so_var (pv 1)) (by decide))) (pe_bltn (v := .ty "bool") (by rfl) C.b_bool (by decide +kernel) rfl) (by decide +kernel)))))))) sss_nil)) (by decide)
theorem ok__law_good (C : Fx K mg a) : FnG P w K mg base (L2.CX P w) 7 a.f__law_good a.d__law_good ["_law_some", "_law_sizes"] (spOf K mg 2 s_k20__law_good) := by
  refine fn_okXG (k := 6) C.F__law_good sc__law_good (by decide) (fun cdv A outer s H E hr gd => ?_)
  have po : PassesOwn (model P w) (cxOf (L2.CX P w) P w K mg base N__law_good "_law_good" (defScope t__law_good) a.f__law_good cdv A outer s H E).A (cxOf (L2.CX P w) P w K mg base N__law_good "_law_good" (defScope t__law_good) a.f__law_good cdv A outer s H E).env (cxOf (L2.CX P w) P w K mg base N__law_good "_law_good" (defScope t__law_good) a.f__law_good cdv A outer s H E).xe := passes_of rfl
  have tk : Takes (cxOf (L2.CX P w) P w K mg base N__law_good "_law_good" (defScope t__law_good) a.f__law_good cdv A outer s H E) (fun c dd _ H' => E c dd H') := takes_of rfl rfl rfl rfl
  unfold m_k20__law_good hr_k20__law_good_1 fr_k20__law_good_1 lp_k20__law_good_1
  exact SSs.ex (sss_cons (ss_set (i := 2) sc__law_good.nd rfl (by first | exact Or.inl rfl | exact Or.inr rfl) (se_callTy (cK_str K rfl gd hr.units) ok_str (by rfl) C.b_str (by decide +kernel) (so_cons (SE.so (se_lst (sa_cons (se_var (pv 0)) (sa_cons (se_var (pv 1)) sa_nil)))) sos_nil))) (sss_cons (ss_for [3, 5, 6, 7, 8, 9] po rfl (si_seqK K rfl (se_var (pv 1))) (sg_name (pg_name (i := 3) sc__law_good.nd rfl (by first | exact Or.inl rfl | exact Or.inr rfl))) (sss_cons (ss_asg (fun he hg => ps_asg he hg) (se_callC (ok__law_one C) rfl rfl rfl rfl rfl (hr.mono (by first | decide | omega)) (by rfl) C.g__law_one C.k__law_one C.B__law_one rfl tk (so_cons (so_var (pv 0)) (so_cons (so_var (pv 3)) sos_nil)) (lm_cons (lm_cons lm_nil))) (sg_tupK K rfl rfl (sgs_cons (sg_name (pg_name (i := 8) sc__law_good.nd rfl (by first | exact Or.inl rfl | exact Or.inr rfl))) (sgs_cons (sg_name (pg_name (i := 9) sc__law_good.nd rfl (by first | exact Or.inl rfl | exact Or.inr rfl))) (sgs_cons (sg_name (pg_name (i := 5) sc__law_good.nd rfl (by first | exact Or.inl rfl | exact Or.inr rfl))) sgs_nil))))) (sss_cons (ss_asg (fun he hg => ps_asg he hg) (se_callC (ok__law_asked C) rfl rfl rfl rfl rfl (hr.mono (by first | decide | omega)) (by rfl) C.g__law_asked C.k__law_asked C.B__law_asked rfl tk (so_cons (SE.so se_int) (so_cons (so_var (pv 0)) (so_cons (so_var (pv 3)) sos_nil))) (lm_cons (lm_cons (lm_cons lm_nil)))) (sg_tupK K rfl rfl (sgs_cons (sg_name (pg_name (i := 6) sc__law_good.nd rfl (by first | exact Or.inl rfl | exact Or.inr rfl))) (sgs_cons (sg_name (pg_name (i := 7) sc__law_good.nd rfl (by first | exact Or.inl rfl | exact Or.inr rfl))) sgs_nil)))) (sss_cons (ss_if (SW.st (sw_or (st_not (st_val (se_callC (ok__law_told C) rfl rfl rfl rfl rfl (hr.mono (by first | decide | omega)) (by rfl) C.g__law_told C.k__law_told C.B__law_told rfl tk (so_cons (so_var (pv 6)) (so_cons (so_var (pv 7)) (so_cons (so_var (pv 8)) (so_cons (so_var (pv 5)) sos_nil)))) (lm_cons (lm_cons (lm_cons (lm_cons lm_nil))))))) (sw_or1 (SW.st (sw_and (st_cmp (oK_eq K rfl hr.units) ok_eq (nomark _) (so_var (pv 5)) (SE.so se_int)) (sw_and1 (st_cmp (oK_ne K rfl hr.units) ok_ne (nomark _) (SE.so (SV.se (sv_KS0 [.at 1, .at 0] (ok_pay C) rfl rfl rfl rfl rfl (hr.mono (by first | decide | omega)) (by rfl) C.g_pay C.k_pay C.K_pay_0 rfl rfl tk (sk_cons (se_var (pv 3)) (sk_cons (se_var (pv 0)) sk_nil))))) (so_var (pv 8))))))))) (sss_cons (ss_ret se_bl) sss_nil) sss_nil) sss_nil)))) (sss_cons (ss_asg (fun he hg => ps_asg he hg) (se_callC (ok__law_row C) rfl rfl rfl rfl rfl (hr.mono (by first | decide | omega)) (by rfl) C.g__law_row C.k__law_row C.B__law_row rfl tk (so_cons (so_var (pv 0)) (so_cons (so_var (pv 1)) sos_nil)) (lm_cons (lm_cons lm_nil))) (sg_tupK K rfl rfl (sgs_cons (sg_name (pg_name (i := 4) sc__law_good.nd rfl (by first | exact Or.inl rfl | exact Or.inr rfl))) (sgs_cons (sg_name (pg_name (i := 5) sc__law_good.nd rfl (by first | exact Or.inl rfl | exact Or.inr rfl))) sgs_nil)))) (sss_ask (i := 6) (j := 7) (fun h g => ps_asg h g) (svx_call (ok__law_askedX C) rfl rfl rfl rfl rfl (hr.mono (by first | decide | omega)) (by rfl) C.g__law_asked C.k__law_asked C.B__law_asked rfl tk (so_cons (SE.so se_int) (so_cons (so_var (pv 0)) (so_cons (so_var (pv 1)) sos_nil))) (lm_cons (lm_cons (lm_cons lm_nil)))) (pg_tup rfl (pgs_cons (pg_name (i := 6) sc__law_good.nd rfl (by first | exact Or.inl rfl | exact Or.inr rfl)) (pgs_cons (pg_name (i := 7) sc__law_good.nd rfl (by first | exact Or.inl rfl | exact Or.inr rfl)) pgs_nil))) (yss_cons (ys_lend (i := 6) (ss_if (SW.st (sw_or (st_not (st_val (se_callC (ok__law_told C) rfl rfl rfl rfl rfl (hr.mono (by first | decide | omega)) (by rfl) C.g__law_told C.k__law_told C.B__law_told rfl tk (so_cons (so_var (pv 6)) (so_cons (so_var (pv 7)) (so_cons (so_var (pv 4)) (so_cons (so_var (pv 5)) sos_nil)))) (lm_cons (lm_cons (lm_cons (lm_cons lm_nil))))))) (sw_or1 (st_cmp op_ne ok_neT (nomark _) (SE.so (se_callTy (cK_str K rfl gd hr.units) ok_str (by rfl) C.b_str (by decide +kernel) (so_cons (SE.so (se_lst (sa_cons (se_var (pv 0)) (sa_cons (se_var (pv 1)) sa_nil)))) sos_nil))) (so_var (pv 2)))))) (sss_cons (ss_ret se_bl) sss_nil) sss_nil)) (yss_cons (ys_if (yt_lend (i := 6) (st_cmp op_notN ok_isnt (nomark _) (so_var (pv 6)) (SE.so se_non))) (yss_cons (ys_app0 (i := 6) (ps_expr (pe_bm PySem.F.plainAttrs_list PySem.F.slot_list_append PySem.F.type_list_append mt_append (pe_ix ix_seq (pv 6) pe_int (fun _ _ => rfl)) (pa_cons pe_non pa_nil)))) (yss_cons (SS.y (ps := []) (ss_ret (se_cmp (oK_eq K rfl hr.units) ok_eq (nomark _) (SE.so (se_callC (ok_paid C) rfl rfl rfl rfl rfl (hr.mono (by first | decide | omega)) (by rfl) C.g_paid C.k_paid C.B_paid rfl tk (so_cons (so_var (pv 0)) (so_cons (so_var (pv 1)) sos_nil)) (lm_cons (lm_cons lm_nil)))) (so_var (pv 4)))) (by decide)) yss_nil)) yss_nil) (yss_cons (SS.y (ps := []) (ss_ret se_bl) (by decide)) yss_nil))))))) (by decide)
theorem ok__law_refused_good (C : Fx K mg a) : FnOk P w K mg base (L2.CX P w) 7 a.f__law_refused_good a.d__law_refused_good ["_law_some"] (spOf K mg 1 s_k20__law_refused_good) := by
  refine fn_okX (k := 6) C.F__law_refused_good sc__law_refused_good (by decide) (fun cdv A outer s H E hr => ?_)
  have po : PassesOwn (model P w) (cxOf (L2.CX P w) P w K mg base N__law_refused_good "_law_refused_good" (defScope t__law_refused_good) a.f__law_refused_good cdv A outer s H E).A (cxOf (L2.CX P w) P w K mg base N__law_refused_good "_law_refused_good" (defScope t__law_refused_good) a.f__law_refused_good cdv A outer s H E).env (cxOf (L2.CX P w) P w K mg base N__law_refused_good "_law_refused_good" (defScope t__law_refused_good) a.f__law_refused_good cdv A outer s H E).xe := passes_of rfl
  have tk : Takes (cxOf (L2.CX P w) P w K mg base N__law_refused_good "_law_refused_good" (defScope t__law_refused_good) a.f__law_refused_good cdv A outer s H E) (fun c dd _ H' => E c dd H') := takes_of rfl rfl rfl rfl
  unfold m_k20__law_refused_good fr_k20__law_refused_good_4 lp_k20__law_refused_good_4 lc_k20__law_refused_good_1 fr_k20__law_refused_good_3 lp_k20__law_refused_good_3 fr_k20__law_refused_good_2 lp_k20__law_refused_good_2 fr_k20__law_refused_good_1 lp_k20__law_refused_good_1
  exact SSs.ex (sss_cons (ss_for [1, 2] po rfl (si_seqK K rfl (se_lst (sa_cons se_non (sa_cons se_bl (sa_cons se_bl (sa_cons (se_op op_sub ok_sub (SE.so se_int) (SE.so se_int)) (sa_cons se_str (sa_cons (se_tup (sa_cons se_int sa_nil)) (sa_cons (se_lst (sa_cons se_int sa_nil)) sa_nil))))))))) (sg_name (pg_name (i := 1) sc__law_refused_good.nd rfl (by first | exact Or.inl rfl | exact Or.inr rfl))) (sss_cons (ss_if (st_not (st_val (se_callC (ok__law_only C) rfl rfl rfl rfl rfl (hr.mono (by first | decide | omega)) (by rfl) C.g__law_only C.k__law_only C.B__law_only rfl tk (so_cons (SE.so (se_ixK K rfl (fun _ _ => rfl) (SE.so (se_callC (ok__law_asked C) rfl rfl rfl rfl rfl (hr.mono (by first | decide | omega)) (by rfl) C.g__law_asked C.k__law_asked C.B__law_asked rfl tk (so_cons (SE.so se_int) (so_cons (so_var (pv 0)) (so_cons (so_var (pv 1)) sos_nil))) (lm_cons (lm_cons (lm_cons lm_nil))))) (SE.so se_int))) (so_cons (SE.so se_str) sos_nil)) (lm_cons (lm_cons lm_nil))))) (sss_cons (ss_ret se_bl) sss_nil) sss_nil) (sss_cons (ss_for [2] po rfl (si_seqK K rfl (se_lst (sa_cons (se_lst (sa_cons se_int (sa_cons (se_var (pv 1)) sa_nil))) (sa_cons (se_lst (sa_cons (se_var (pv 1)) (sa_cons se_int sa_nil))) (sa_cons (se_lst (sa_cons se_int (sa_cons (se_var (pv 1)) (sa_cons se_int sa_nil)))) (sa_cons (se_lst (sa_cons (se_op op_pow ok_pow (SE.so se_int) (SE.so se_int)) (sa_cons (se_var (pv 1)) sa_nil))) (sa_cons (se_lst (sa_cons (se_var (pv 1)) (sa_cons (se_op op_pow ok_pow (SE.so se_int) (SE.so se_int)) sa_nil))) (sa_cons (se_lst (sa_cons (se_op op_pow ok_pow (SE.so se_int) (SE.so se_int)) (sa_cons se_int (sa_cons (se_var (pv 1)) (sa_cons se_int sa_nil))))) sa_nil)))))))) (sg_name (pg_name (i := 2) sc__law_refused_good.nd rfl (by first | exact Or.inl rfl | exact Or.inr rfl))) (sss_cons (ss_if (st_not (st_val (se_callC (ok__law_only C) rfl rfl rfl rfl rfl (hr.mono (by first | decide | omega)) (by rfl) C.g__law_only C.k__law_only C.B__law_only rfl tk (so_cons (SE.so (se_ixK K rfl (fun _ _ => rfl) (SE.so (se_callC (ok__law_asked C) rfl rfl rfl rfl rfl (hr.mono (by first | decide | omega)) (by rfl) C.g__law_asked C.k__law_asked C.B__law_asked rfl tk (so_cons (SE.so se_int) (so_cons (so_var (pv 0)) (so_cons (so_var (pv 2)) sos_nil))) (lm_cons (lm_cons (lm_cons lm_nil))))) (SE.so se_int))) (so_cons (SE.so se_str) sos_nil)) (lm_cons (lm_cons lm_nil))))) (sss_cons (ss_ret se_bl) sss_nil) sss_nil) sss_nil)) sss_nil))) (sss_cons (ss_for [1] po rfl (si_seqK K rfl (se_lst (sa_cons se_non (sa_cons se_int (sa_cons se_str (sa_cons (se_tup sa_nil) (sa_cons (se_tup (sa_cons se_int (sa_cons se_int sa_nil))) sa_nil))))))) (sg_name (pg_name (i := 1) sc__law_refused_good.nd rfl (by first | exact Or.inl rfl | exact Or.inr rfl))) (sss_cons (ss_if (st_not (st_val (se_callC (ok__law_only C) rfl rfl rfl rfl rfl (hr.mono (by first | decide | omega)) (by rfl) C.g__law_only C.k__law_only C.B__law_only rfl tk (so_cons (SE.so (se_ixK K rfl (fun _ _ => rfl) (SE.so (se_callC (ok__law_asked C) rfl rfl rfl rfl rfl (hr.mono (by first | decide | omega)) (by rfl) C.g__law_asked C.k__law_asked C.B__law_asked rfl tk (so_cons (SE.so se_int) (so_cons (so_var (pv 0)) (so_cons (so_var (pv 1)) sos_nil))) (lm_cons (lm_cons (lm_cons lm_nil))))) (SE.so se_int))) (so_cons (SE.so se_str) sos_nil)) (lm_cons (lm_cons lm_nil))))) (sss_cons (ss_ret se_bl) sss_nil) sss_nil) sss_nil)) (sss_cons (ss_for [1] po rfl (si_seqK K rfl (se_lst (sa_cons se_non (sa_cons (se_callTy (cK_list K rfl) ok_list (by rfl) C.b_list (by decide +kernel) (so_cons (so_var (pv 0)) sos_nil)) (sa_cons (se_tup (sa_cons (se_tup (sa_cons se_int (sa_cons se_int sa_nil))) sa_nil)) (sa_cons (se_tup (sa_cons (se_tup (sa_cons se_int (sa_cons se_int sa_nil))) sa_nil)) (sa_cons (se_tup (sa_cons (se_tup (sa_cons se_int (sa_cons se_int sa_nil))) (sa_cons (se_tup (sa_cons se_int (sa_cons se_int sa_nil))) sa_nil))) (sa_cons se_int (sa_cons se_str (sa_cons (se_tup (sa_cons (se_tup (sa_cons se_int sa_nil)) sa_nil)) sa_nil)))))))))) (sg_name (pg_name (i := 1) sc__law_refused_good.nd rfl (by first | exact Or.inl rfl | exact Or.inr rfl))) (sss_cons (ss_if (st_cmp (oK_ne K rfl hr.units) ok_ne (nomark _) (SE.so (se_lc (own := [("_law_which", 3)]) rfl sc__law_refused_good.nd (si_seqK K rfl (se_lst (sa_cons se_int (sa_cons se_int sa_nil)))) (blkOk_by (own := [("_law_which", 3)]) (N := N__law_refused_good) (sc := defScope t__law_refused_good) (by decide +kernel)) (fun _ _ _ _ _ => (sg_name (pg_name (i := 3) sc__law_refused_good.nd rfl (by first | exact Or.inl rfl | exact Or.inr rfl)))) (by decide) (fun _ _ _ _ _ => sts_nil) (fun _ _ _ _ _ => (se_callC (ok__law_only C) rfl rfl rfl rfl rfl (hr.mono (by first | decide | omega)) (by rfl) C.g__law_only C.k__law_only C.B__law_only rfl takes0 (so_cons (SE.so (se_ixK K rfl (fun _ _ => rfl) (SE.so (se_callC (ok__law_asked C) rfl rfl rfl rfl rfl (hr.mono (by first | decide | omega)) (by rfl) C.g__law_asked C.k__law_asked C.B__law_asked rfl takes0 (so_cons (so_var (pv 3)) (so_cons (so_var (pv 1)) (so_cons (SE.so se_non) sos_nil))) (lm_cons (lm_cons (lm_cons lm_nil))))) (SE.so se_int))) (so_cons (SE.so se_str) sos_nil)) (lm_cons (lm_cons lm_nil)))))) (SE.so (se_lst (sa_cons se_bl (sa_cons se_bl sa_nil))))) (sss_cons (ss_ret se_bl) sss_nil) sss_nil) sss_nil)) (sss_cons (ss_ret se_bl) sss_nil)))) (by decide)
theorem ok_law (C : Fx K mg a) : FnG P w K mg base CX0 8 a.f_law a.d_law ["_law_script"] (fun vs H Q E => spOf K mg 1 s_k20_law vs H Q E0) := by
  refine fn_ok0G (k := 7) C.F_law sc_law (by decide) (fun cdv A outer s H E hr gd => ?_)
  have po : PassesOwn (model P w) (cxOf CX0 P w K mg base N_law "law" (defScope t_law) a.f_law cdv A outer s H E).nox.A (cxOf CX0 P w K mg base N_law "law" (defScope t_law) a.f_law cdv A outer s H E).nox.env (cxOf CX0 P w K mg base N_law "law" (defScope t_law) a.f_law cdv A outer s H E).nox.xe := PassesOwn.never
  have tk : Takes (cxOf CX0 P w K mg base N_law "law" (defScope t_law) a.f_law cdv A outer s H E).nox W0 := takes0
  unfold m_k20_law fr_k20_law_2 lp_k20_law_2 fr_k20_law_1 lp_k20_law_1 lc_k20_law_3 lc_k20_law_2 lc_k20_law_1
  exact SSs.ex (sss_cons (ss_for [1, 2, 3, 4, 5, 6, 7, 8] po rfl (si_range1 (fun h => pi_range1 (by rfl) C.b_range h) (so_cons (SE.so (se_callB (cK_max K rfl rfl) ok_max (by rfl) C.b_max (by decide +kernel) (so_cons (SE.so (se_callB (cK_min K rfl rfl) ok_min (by rfl) C.b_min (by decide +kernel) (so_cons (SE.so (se_lenScr (pe_callB call_len (by rfl) C.b_len PySem.boot_len (pa_cons (pv 0) pa_nil)))) (so_cons (SE.so se_int) sos_nil)))) (so_cons (SE.so se_int) sos_nil)))) sos_nil)) (sg_name (pg_name (i := 1) sc_law.nd rfl (by first | exact Or.inl rfl | exact Or.inr rfl))) (sss_cons (ss_own (fun h => ps_set (i := 2) sc_law.nd rfl (by first | exact Or.inl rfl | exact Or.inr rfl) h) (sf_lst (sa_cons (se_callC (ok__law_cell C) rfl rfl rfl rfl rfl (hr.mono (by first | decide | omega)) (by rfl) C.g__law_cell C.k__law_cell C.B__law_cell rfl tk (so_cons (so_var (pv 0)) (so_cons (so_var (pv 1)) sos_nil)) (lm_cons (lm_cons lm_nil))) sa_nil))) (sss_cons (ss_for [3, 4, 5, 6, 7, 8] po rfl (si_range1 (fun h => pi_range1 (by rfl) C.b_range h) (so_cons (SE.so se_int) sos_nil)) (sg_name (pg_name (i := 3) sc_law.nd rfl (by first | exact Or.inl rfl | exact Or.inr rfl))) (sss_cons (ss_set (i := 4) sc_law.nd rfl (by first | exact Or.inl rfl | exact Or.inr rfl) (se_callC (ok__law_coins C) rfl rfl rfl rfl rfl (hr.mono (by first | decide | omega)) (by rfl) C.g__law_coins C.k__law_coins C.B__law_coins rfl tk (so_cons (so_var (pv 2)) (so_cons (SE.so se_int) (so_cons (SE.so (se_ixK K rfl (fun _ _ => rfl) (SE.so (se_lst (sa_cons se_int (sa_cons se_int (sa_cons (se_op op_pow ok_pow (SE.so se_int) (SE.so se_int)) sa_nil))))) (SE.so (se_callC (ok__law_take C) rfl rfl rfl rfl rfl (hr.mono (by first | decide | omega)) (by rfl) C.g__law_take C.k__law_take C.B__law_take rfl tk (so_cons (so_var (pv 2)) (so_cons (SE.so se_int) sos_nil)) (lm_cons (lm_cons lm_nil)))))) (so_cons (SE.so (se_ixK K rfl (fun _ _ => rfl) (SE.so (se_lst (sa_cons se_int (sa_cons se_int (sa_cons (se_op op_pow ok_pow (SE.so se_int) (SE.so se_int)) sa_nil))))) (SE.so (se_callC (ok__law_take C) rfl rfl rfl rfl rfl (hr.mono (by first | decide | omega)) (by rfl) C.g__law_take C.k__law_take C.B__law_take rfl tk (so_cons (so_var (pv 2)) (so_cons (SE.so se_int) sos_nil)) (lm_cons (lm_cons lm_nil)))))) sos_nil)))) (lm_cons (lm_cons (lm_cons (lm_cons lm_nil)))))) (sss_cons (ss_set (i := 5) sc_law.nd rfl (by first | exact Or.inl rfl | exact Or.inr rfl) (se_callB (cK_sum K rfl rfl) ok_sum (by rfl) C.b_sum (by decide +kernel) (so_cons (SE.so (se_lc (own := [("_law_coin", 10), ("_law_many", 11)]) rfl sc_law.nd (si_seqK K rfl (se_var (pv 4))) (blkOk_by (own := [("_law_coin", 10), ("_law_many", 11)]) (N := N_law) (sc := defScope t_law) (by decide +kernel)) (fun _ _ _ _ _ => (sg_tupK K rfl rfl (sgs_cons (sg_name (pg_name (i := 10) sc_law.nd rfl (by first | exact Or.inl rfl | exact Or.inr rfl))) (sgs_cons (sg_name (pg_name (i := 11) sc_law.nd rfl (by first | exact Or.inl rfl | exact Or.inr rfl))) sgs_nil)))) (by decide) (fun _ _ _ _ _ => sts_nil) (fun _ _ _ _ _ => (se_op (oK_mul K rfl) ok_mul (so_var (pv 10)) (so_var (pv 11)))))) sos_nil))) (sss_cons (ss_set (i := 6) sc_law.nd rfl (by first | exact Or.inl rfl | exact Or.inr rfl) (se_callB (cK_sum K rfl rfl) ok_sum (by rfl) C.b_sum (by decide +kernel) (so_cons (SE.so (se_lc (own := [("_law_coin", 10), ("_law_many", 11)]) rfl sc_law.nd (si_seqK K rfl (se_var (pv 4))) (blkOk_by (own := [("_law_coin", 10), ("_law_many", 11)]) (N := N_law) (sc := defScope t_law) (by decide +kernel)) (fun _ _ _ _ _ => (sg_tupK K rfl rfl (sgs_cons (sg_name (pg_name (i := 10) sc_law.nd rfl (by first | exact Or.inl rfl | exact Or.inr rfl))) (sgs_cons (sg_name (pg_name (i := 11) sc_law.nd rfl (by first | exact Or.inl rfl | exact Or.inr rfl))) sgs_nil)))) (by decide) (fun _ _ _ _ _ => sts_nil) (fun _ _ _ _ _ => (se_op (oK_mul K rfl) ok_mul (so_var (pv 10)) (SE.so (se_callC (ok__law_take C) rfl rfl rfl rfl rfl (hr.mono (by first | decide | omega)) (by rfl) C.g__law_take C.k__law_take C.B__law_take rfl takes0 (so_cons (so_var (pv 2)) (so_cons (SE.so (se_op (oK_add K rfl) ok_add (so_var (pv 11)) (SE.so se_int))) sos_nil)) (lm_cons (lm_cons lm_nil)))))))) sos_nil))) (sss_cons (ss_set (i := 7) sc_law.nd rfl (by first | exact Or.inl rfl | exact Or.inr rfl) (se_lst (sa_cons (se_var (pv 6)) (sa_cons (se_callC (ok__law_take C) rfl rfl rfl rfl rfl (hr.mono (by first | decide | omega)) (by rfl) C.g__law_take C.k__law_take C.B__law_take rfl tk (so_cons (so_var (pv 2)) (so_cons (SE.so (se_op (oK_add K rfl) ok_add (so_var (pv 5)) (SE.so se_int))) sos_nil)) (lm_cons (lm_cons lm_nil))) (sa_cons (se_var (pv 5)) (sa_cons se_int (sa_cons (se_op (oK_add K rfl) ok_add (so_var (pv 5)) (SE.so se_int)) sa_nil))))))) (sss_cons (ss_setLc (i := 8) (own := [("_law_turn_two", 9)]) rfl sc_law.nd rfl rfl (sw_true rfl rfl rfl (by decide +kernel)) (si_range1 (fun h => pi_range1 (by rfl) C.b_range h) (so_cons (SE.so (se_op (oK_add K rfl) ok_add (SE.so se_int) (SE.so (se_callC (ok__law_take C) rfl rfl rfl rfl rfl (hr.mono (by first | decide | omega)) (by rfl) C.g__law_take C.k__law_take C.B__law_take rfl tk (so_cons (so_var (pv 2)) (so_cons (SE.so se_int) sos_nil)) (lm_cons (lm_cons lm_nil)))))) sos_nil)) (blkOk_by (own := [("_law_turn_two", 9)]) (N := N_law) (sc := defScope t_law) (by decide +kernel)) (fun _ _ _ _ _ => (sg_name (pg_name (i := 9) sc_law.nd rfl (by first | exact Or.inl rfl | exact Or.inr rfl)))) (by decide) (fun _ _ _ _ _ => sts_nil) (fun _ _ _ _ _ => (se_callC (ok__law_take C) rfl rfl rfl rfl rfl (hr.mono (by first | decide | omega)) (by rfl) C.g__law_take C.k__law_take C.B__law_take rfl takes0 (so_cons (so_var (pv 2)) (so_cons (SE.so (se_callB (cK_max K rfl rfl) ok_max (by rfl) C.b_max (by decide +kernel) (so_cons (SE.so se_int) (so_cons (SE.so (se_op op_fdivW ok_fdiv (so_var (pv 5)) (SE.so se_int))) sos_nil)))) sos_nil)) (lm_cons (lm_cons lm_nil))))) (sss_cons (ss_if (SW.st (sw_or (st_not (st_val (se_callG (ok__law_good C) rfl rfl rfl rfl rfl (hr.mono (by first | decide | omega)) gd (by rfl) C.g__law_good C.k__law_good C.B__law_good rfl tk (so_cons (so_var (pv 4)) (so_cons (so_var (pv 7)) sos_nil)) (lm_cons (lm_cons lm_nil))))) (sw_or (st_not (st_val (se_callG (ok__law_good C) rfl rfl rfl rfl rfl (hr.mono (by first | decide | omega)) gd (by rfl) C.g__law_good C.k__law_good C.B__law_good rfl tk (so_cons (so_var (pv 4)) (so_cons (so_var (pv 8)) sos_nil)) (lm_cons (lm_cons lm_nil))))) (sw_or1 (st_not (st_val (se_callC (ok__law_refused_good C) rfl rfl rfl rfl rfl (hr.mono (by first | decide | omega)) (by rfl) C.g__law_refused_good C.k__law_refused_good C.B__law_refused_good rfl tk (so_cons (so_var (pv 4)) sos_nil) (lm_cons lm_nil)))))))) (sss_cons (ss_ret se_bl) sss_nil) sss_nil) sss_nil))))))) sss_nil))) (sss_cons (ss_ret (se_and (se_cmp (oK_eq K rfl hr.units) ok_eq (nomark _) (SE.so (se_callC (ok_paid C) rfl rfl rfl rfl rfl (hr.mono (by first | decide | omega)) (by rfl) C.g_paid C.k_paid C.B_paid rfl tk (so_cons (SE.so (se_tup sa_nil)) (so_cons (SE.so (se_lst sa_nil)) sos_nil)) (lm_cons (lm_cons lm_nil)))) (SE.so (se_tup (sa_cons (se_lst sa_nil) (sa_cons (se_tup sa_nil) sa_nil))))) (se_and (se_cmp (oK_eq K rfl hr.units) ok_eq (nomark _) (SE.so (se_callC (ok_pay C) rfl rfl rfl rfl rfl (hr.mono (by first | decide | omega)) (by rfl) C.g_pay C.k_pay C.B_pay rfl tk (so_cons (SE.so (se_tup sa_nil)) (so_cons (SE.so se_int) sos_nil)) (lm_cons (lm_cons lm_nil)))) (SE.so (se_tup sa_nil))) (se_one (se_callC (ok__law_told C) rfl rfl rfl rfl rfl (hr.mono (by first | decide | omega)) (by rfl) C.g__law_told C.k__law_told C.B__law_told rfl tk (so_cons (SE.so se_non) (so_cons (SE.so (se_ixK K rfl (fun _ _ => rfl) (SE.so (se_callC (ok__law_asked C) rfl rfl rfl rfl rfl (hr.mono (by first | decide | omega)) (by rfl) C.g__law_asked C.k__law_asked C.B__law_asked rfl tk (so_cons (SE.so se_int) (so_cons (SE.so (se_tup sa_nil)) (so_cons (SE.so se_int) sos_nil))) (lm_cons (lm_cons (lm_cons lm_nil))))) (SE.so se_int))) (so_cons (SE.so se_non) (so_cons (SE.so se_int) sos_nil)))) (lm_cons (lm_cons (lm_cons (lm_cons lm_nil))))))))) sss_nil)) (by decide)
end
end Lw
namespace Bt
open PySem L2
section
variable {α β : Type} (E : En)
theorem a_bnd (m : M α) (f : α → M β) : bnd m f E = (match m E with | .ok a E' => f a E' | .ex x E' => .ex x E' | .bad => .bad) := rfl
theorem a_ret (a : α) : Bt.ret a E = .ok a E := rfl
theorem a_stuck : (stuck : M α) E = .bad := rfl
theorem a_liftS (a : α) : lift (some a) E = .ok a E := rfl
theorem a_liftN : lift (none : Option α) E = .bad := rfl
theorem a_mOp (f : D → D → Option D) (ma mb : M Ag) : mOp f ma mb E = bnd ma (fun a => bnd mb fun b => fun E => match rsv E a, rsv E b with | some x, some y => lift (f x y) E | _, _ => .bad) E := rfl
theorem a_mOpF (f : D → D → Option (List D)) (ma mb : M Ag) : mOpF f ma mb E = bnd ma (fun a => bnd mb fun b => fun E => match rsv E a, rsv E b with | some x, some y => lift (f x y) E | _, _ => .bad) E := rfl
theorem a_mChain (f g : D → D → Option D) (ma mb mc : M Ag) : mChain f g ma mb mc E = bnd ma (fun a => bnd mb fun b => fun E => match rsv E a, rsv E b with
  | some x, some y => match f x y with
    | some (.bool true) => (bnd mc fun c => fun E => match rsv E b, rsv E c with
      | some y, some z => lift (g y z) E
      | _, _ => .bad) E
    | some (.bool false) => .ok (.bool false) E
    | _ => .bad
  | _, _ => .bad) E := rfl
theorem a_mD (m : M D) : mD m E = bnd m (fun d => Bt.ret (.d d)) E := rfl
theorem a_mR (i : Nat) : mR i E = (match E[i]? with | some (.dat _) => .ok (.r i) E | some (.ow _) => .ok (.r i) E | some (.scr _) => .ok (.r i) E | _ => .bad) := rfl
theorem a_mV (i : Nat) : mV i E = (match E[i]? with | some (.dat d) => .ok d E | _ => .bad) := rfl
theorem a_mFrz (i : Nat) : mFrz i E = (match E[i]? with | some ((.ow (.l ds))) => .ok (.list ds) (E.set i (.dat (.list ds))) | some (.dat d) => .ok d E | _ => .bad) := rfl
theorem a_rsvD (d : D) : rsv E (.d d) = some d := rfl
theorem a_rsvR (i : Nat) : rsv E (.r i) = (match E[i]? with | some (.dat d) => some d | some ((.ow (.l ds))) => some (.list ds) | _ => none) := rfl
theorem a_rsvs0 : rsvs E [] = some [] := rfl
theorem a_rsvs1 (a : Ag) (as : List Ag) : rsvs E (a :: as) = (match rsv E a, rsvs E as with | some d, some ds => some (d :: ds) | _, _ => none) := rfl
theorem a_mCons (m : M Ag) (ms : M (List Ag)) : mCons m ms E = bnd m (fun a => bnd ms fun as => Bt.ret (a :: as)) E := rfl
theorem a_mConsD (m : M D) (ms : M (List D)) : mConsD m ms E = bnd m (fun a => bnd ms fun as => Bt.ret (a :: as)) E := rfl
theorem a_mTup (ms : M (List D)) : mTup ms E = bnd ms (fun ds => fun E => if ds.length ≤ LIM then .ok (.tuple ds) E else .bad) E := rfl
theorem a_mLst (ms : M (List D)) : mLst ms E = bnd ms (fun ds => fun E => if ds.length ≤ LIM then .ok (.list ds) E else .bad) E := rfl
theorem a_mLstF (ms : M (List D)) : mLstF ms E = bnd ms (fun ds => fun E => if ds.length ≤ LIM then .ok ds E else .bad) E := rfl
theorem a_mIf (mt : M Bool) (x y : M α) : mIf mt x y E = bnd mt (fun b => if b then x else y) E := rfl
theorem a_mIfS (mt : M Bool) (x y : M Fl) : mIfS mt x y E = bnd mt (fun b => if b then x else y) E := rfl
theorem a_ite (c : Prop) [Decidable c] (x y : M α) : (if c then x else y) E = if c then x E else y E := by split <;> rfl
theorem a_mAnd (x y : M Bool) : mAnd x y E = bnd x (fun b => if b then y else Bt.ret false) E := rfl
theorem a_mOr (x y : M Bool) : mOr x y E = bnd x (fun b => if b then Bt.ret true else y) E := rfl
theorem a_mNot (x : M Bool) : mNot x E = bnd x (fun b => Bt.ret (!b)) E := rfl
theorem a_mAndV (x y : M D) : mAndV x y E = bnd x (fun d => match d with | .bool true => y | .bool false => Bt.ret (.bool false) | _ => stuck) E := rfl
theorem a_mOrV (x y : M D) : mOrV x y E = bnd x (fun d => match d with | .bool true => Bt.ret (.bool true) | .bool false => y | _ => stuck) E := rfl
theorem a_mNotV (x : M D) : mNotV x E = bnd x (fun d => match d with | .bool b => Bt.ret (.bool (!b)) | _ => stuck) E := rfl
theorem a_asB (b : Bool) : asB (.bool b) E = .ok b E := rfl
theorem a_mNeg (m : M Ag) : mNeg m E = bnd m (fun a => fun E => match rsv E a with | some (.int i) => .ok (.int (-i)) E | _ => .bad) E := rfl
theorem a_mB (f : List D → Option D) (ms : M (List Ag)) : mB f ms E = bnd ms (fun as => fun E => match rsvs E as with | some ds => lift (f ds) E | none => .bad) E := rfl
theorem a_mBF (f : List D → Option (List D)) (ms : M (List Ag)) : mBF f ms E = bnd ms (fun as => fun E => match rsvs E as with | some ds => lift (f ds) E | none => .bad) E := rfl
theorem a_mIsi (T : String) (m : M Ag) : mIsi T m E = bnd m (fun a => fun E => match rsv E a with | some d => if notX d then .ok (.bool (isiD T d)) E else .bad | none => .bad) E := rfl
theorem a_mCallO (Fm : M Sl) (dds : List D) (ms : M (List Ag)) : mCallO Fm dds ms E = bnd ms (fun ags => fun E => if apartA E ags then match argSl E ags with
  | none => .bad
  | some as => match Fm (as ++ dds.map .dat) with
    | .ok d as' => match putB E ags (as'.take ags.length) with
      | some E' => .ok d E'
      | none => .bad
    | .ex x as' => match putB E ags (as'.take ags.length) with
      | some E' => .ex x E'
      | none => .bad
    | .bad => .bad
  else .bad) E := rfl
theorem a_mCall (Fm : M Sl) (dds : List D) (ms : M (List Ag)) : mCall Fm dds ms E = bnd (mCallO Fm dds ms) thaw E := rfl
theorem a_mCallB (Fm : M Sl) (ms : M (List Ag)) : mCallB Fm ms E = bnd ms (fun ags => fun E => match borSl E ags with
  | none => .bad
  | some as => match Fm as with
    | .ok (.dat d) _ => if flatD d then .ok d E else .bad
    | .ex x _ => if flatX x then .ex x E else .bad
    | _ => .bad) E := rfl
theorem a_thawD (d : D) : thaw (.dat d) E = .ok d E := rfl
theorem a_thawL (ds : List D) : thaw (.ow (.l ds)) E = .ok (.list ds) E := rfl
theorem a_mCallKO (Fm : M Sl) (pk : List Pk) (n1 n2 : Nat) (ms1 ms2 : M (List D)) : mCallKO Fm pk n1 n2 ms1 ms2 E = bnd ms1 (fun ds1 => bnd ms2 fun ds2 => fun E => if ds1.length = n1 ∧ ds2.length = n2 then match Fm ((pk.map (pkD (ds1 ++ ds2))).map .dat) with
  | .ok d _ => .ok d E
  | .ex x _ => .ex x E
  | .bad => .bad
  else .bad) E := rfl
theorem a_mCallK (Fm : M Sl) (pk : List Pk) (n1 n2 : Nat) (ms1 ms2 : M (List D)) : mCallK Fm pk n1 n2 ms1 ms2 E = bnd (mCallKO Fm pk n1 n2 ms1 ms2) thaw E := rfl
theorem a_mSeq (a b : M Fl) : mSeq a b E = (match a E with | .ok .nx E' => b E' | r => r) := rfl
theorem a_mNil : mNil E = .ok .nx E := rfl
theorem a_mRet (m : M D) : mRet m E = bnd m (fun d => Bt.ret (.rt (.dat d))) E := rfl
theorem a_mRetS (m : M Sl) : mRetS m E = bnd m (fun d => Bt.ret (.rt d)) E := rfl
theorem a_mDat (m : M D) : mDat m E = bnd m (fun d => Bt.ret (.dat d)) E := rfl
theorem a_mObj (m : M Ob) : mObj m E = bnd m (fun d => Bt.ret (.ow d)) E := rfl
theorem a_mLstO (m : M (List D)) : mLstO m E = bnd m (fun d => Bt.ret (.l d)) E := rfl
theorem a_mSetS (i : Nat) (m : M Sl) : mSetS i m E = bnd m (fun z => fun E => if i < E.length then .ok .nx (E.set i z) else .bad) E := rfl
theorem a_mGive (i : Nat) : mGive i E = (match E[i]? with | some (.ow ob) => .ok (.ow ob) (E.set i .un) | some (.dat d) => .ok (.dat d) E | _ => .bad) := rfl
theorem a_mAsL (m : M D) : mAsL m E = bnd m asL E := rfl
theorem a_asL (ds : List D) : asL (.list ds) E = .ok ds E := rfl
theorem a_mExpr (m : M D) : mExpr m E = bnd m (fun _ => Bt.ret .nx) E := rfl
theorem a_mSet (g : MG) (m : M D) : mSet g m E = bnd m (fun d => fun E => match g d E with | some E' => .ok .nx E' | none => .bad) E := rfl
theorem a_gN (i : Nat) (d : D) : gN i d E = if i < E.length then some (E.set i (.dat d)) else none := rfl
theorem a_gTup (n : Nat) (ms : List D → En → Option En) (ds : List D) : gTupM n ms (.tuple ds) E = if ds.length = n then ms ds E else none := rfl
theorem a_gCons (m : MG) (ms : List D → En → Option En) (d : D) (ds : List D) : gConsM m ms (d :: ds) E = (m d E).bind (ms ds) := rfl
theorem a_gNil : gNilM [] E = some E := rfl
theorem a_mItL (ds : List D) : (lift (itemsOf (.list ds)) : M _) E = .ok ds E := rfl
theorem a_mItT (ds : List D) : (lift (itemsOf (.tuple ds)) : M _) E = .ok ds E := rfl
theorem a_mIt (m : M D) : mIt m E = bnd m (fun d => lift (itemsOf d)) E := rfl
theorem a_mPart0 : mPart none E = .ok none E := rfl
theorem a_mPart1 (m : M D) : mPart (some m) E = bnd m (fun d => match d with | .int i => Bt.ret (some i) | _ => stuck) E := rfl
theorem a_mSl (ma : M Ag) (ml mh : M (Option Int)) : mSl ma ml mh E = bnd ma (fun a => bnd ml fun lo => bnd mh fun hi => fun E => match rsv E a with | some d => lift (slD lo hi d) E | none => .bad) E := rfl
theorem a_mOwn (i : Nat) (m : M (List D)) : mOwn i m E = bnd m (fun ds => fun E => if i < E.length then .ok .nx (E.set i ((.ow (.l ds)))) else .bad) E := rfl
theorem a_mApp (i : Nat) (m : M D) : mApp i m E = (match E[i]? with
  | some ((.ow (.l _))) => (bnd m fun d => fun E => match E[i]? with
    | some ((.ow (.l ds))) => if ds.length < LIM then .ok .nx (E.set i ((.ow (.l (ds ++ [d]))))) else .bad
    | _ => .bad) E
  | _ => .bad) := rfl
theorem a_mPut (i : Nat) (mk : M Ag) (m : M D) : mPut i mk m E = bnd m (fun d => fun E => match E[i]? with
  | some ((.ow (.l _))) => (bnd mk fun a => fun E => match E[i]?, rsv E a with
    | some ((.ow (.l ds))), some (.int k) => match ixN ds.length k with
      | some j => .ok .nx (E.set i ((.ow (.l (ds.set j d)))))
      | none => .bad
    | _, _ => .bad) E
  | _ => .bad) E := rfl
theorem a_mAug (f : Int → Int → Int) (i : Nat) (m : M D) : mAug f i m E = (match E[i]? with
  | some (.dat (.int x)) => (bnd m fun d => fun E => match d with
    | .int y => if i < E.length then .ok .nx (E.set i (.dat (.int (f x y)))) else .bad
    | _ => .bad) E
  | _ => .bad) := rfl
theorem a_mRng1 (ms : M (List Ag)) : mRng1 ms E = bnd ms (fun as => fun E => match rsvs E as with | some [.int j] => if rgOk j then .ok (rangeD 0 j) E else .bad | _ => .bad) E := rfl
theorem a_mRng2 (ms : M (List Ag)) : mRng2 ms E = bnd ms (fun as => fun E => match rsvs E as with | some [.int i, .int j] => if rgOk i && rgOk j then .ok (rangeD i j) E else .bad | _ => .bad) E := rfl
theorem a_mZip (ms : M (List D)) : mZip ms E = bnd ms (fun ds => match ds with | [.list xs, .list ys] => Bt.ret (zipD xs ys) | [.tuple xs, .tuple ys] => Bt.ret (zipD xs ys) | _ => stuck) E := rfl
theorem a_mEnum (ms : M (List D)) : mEnum ms E = bnd ms (fun ds => match ds with | [.list xs] => Bt.ret (enumD xs) | _ => stuck) E := rfl
theorem a_mFor (ws : List Nat) (mi : M (List D)) (g : MG) (mb : M Fl) : mFor ws mi g mb E = bnd mi (fun its => forGo ws g mb its) E := rfl
theorem a_mRev (m : M Ag) : mRev m E = bnd m (fun a => fun E => match rsv E a with | some d => lift (revD d) E | none => .bad) E := rfl
theorem a_mDfl (f : D → D → Option D) (m : M Ag) (mz : M D) : mDfl f m mz E = bnd m (fun a => bnd mz fun z => fun E => match rsv E a with | some d => lift (f d z) E | none => .bad) E := rfl
theorem a_mRng3 (ms : M (List Ag)) : mRng3 ms E = bnd ms (fun as => fun E => match rsvs E as with | some [.int i, .int j, .int k] => if rgOk i && rgOk j && decide (k = -1) then .ok (downD i j) E else .bad | _ => .bad) E := rfl
theorem a_mPutAug (f : Int → Int → Int) (i : Nat) (mk : M Ag) (m : M D) : mPutAug f i mk m E = (match E[i]? with
  | some ((.ow (.l _))) => (bnd mk fun a => fun E => match E[i]?, rsv E a with
    | some ((.ow (.l ds))), some (.int k) => match atI ds k with
      | some (.int x) => (bnd m fun d => fun E => match d, E[i]? with
        | .int y, some ((.ow (.l ds))) => match ixN ds.length k with
          | some j => .ok .nx (E.set i ((.ow (.l (ds.set j (.int (f x y)))))))
          | none => .bad
        | _, _ => .bad) E
      | _ => .bad
    | _, _ => .bad) E
  | _ => .bad) := rfl
theorem a_mPop (i : Nat) (mk : M Ag) : mPop i mk E = (match E[i]? with
  | some ((.ow (.l _))) => (bnd mk fun a => fun E => match E[i]?, rsv E a with
    | some ((.ow (.l ds))), some (.int k) => match ixN ds.length k with
      | some j => match ds[j]? with
        | some d => if ds.length ≤ LIM then .ok d (E.set i ((.ow (.l (ds.eraseIdx j))))) else .bad
        | none => .bad
      | none => .bad
    | _, _ => .bad) E
  | _ => .bad) := rfl
theorem a_mFn (asg : List Nat) (nl : Nat) (m : M Fl) (as : En) : mFn asg nl m as = if okAsg asg as then match m (as ++ List.replicate nl .un) with
  | .ok f E' => match f, parBack as E' with
    | .rt d, some as' => .ok d as'
    | .nx, some as' => .ok (.dat .none) as'
    | _, _ => .bad
  | .ex x E' => match parBack as E' with
    | some as' => .ex x as'
    | none => .bad
  | .bad => .bad
  else .bad := rfl
theorem a_mLenScr (i : Nat) : mLenScr i E = (match E[i]? with | some (.scr ns) => .ok (.int (ns.length : Nat)) E | _ => .bad) := rfl
theorem a_mIxScr (i : Nat) (mk : M Ag) : mIxScr i mk E = (match E[i]? with
  | some (.scr ns) => (bnd mk fun a => fun E => match rsv E a with
    | some (.int k) => match atI ns k with
      | some n => .ok (.int n) E
      | none => .bad
    | _ => .bad) E
  | _ => .bad) := rfl
end
section
variable (E : En)
theorem a_mDGet (i : Nat) (mk : M Ag) : mDGet i mk E = (if isDic E i = true then (bnd mk fun a => fun E => match dkOf E i a with
    | some (es, k) => lift (valD es k) E
    | none => .bad) E else .bad) := rfl
theorem a_mDGet2 (i : Nat) (mk : M Ag) (mx : M D) : mDGet2 i mk mx E = (if isDic E i = true then (bnd mk fun a => bnd mx fun z => fun E => match dkOf E i a with
    | some (es, k) => .ok ((valD es k).getD z) E
    | none => .bad) E else .bad) := rfl
theorem a_mDIn (b : Bool) (i : Nat) (mk : M Ag) : mDIn b i mk E = bnd mk (fun a => fun E => match dkOf E i a with
    | some (es, k) => .ok (.bool ((valD es k).isSome == b)) E
    | none => .bad) E := rfl
theorem a_mDPut (i : Nat) (mk : M Ag) (m : M D) : mDPut i mk m E = bnd m (fun d => fun E => if isDic E i = true then (bnd mk fun a => fun E => match dkOf E i a with
    | some (es, k) => if es.length < LIM then .ok .nx (E.set i (.ow (.d (putD es k d)))) else .bad
    | none => .bad) E else .bad) E := rfl
theorem a_mDAug (f : Int → Int → Int) (i : Nat) (mk : M Ag) (m : M D) : mDAug f i mk m E = (if isDic E i = true then (bnd mk fun a => fun E => match dkOf E i a with
    | some (es, k) => match valD es k with
      | some (.int x) => (bnd m fun d => fun E => match d, E[i]? with
        | .int y, some (.ow (.d es2)) => if es2.length < LIM then .ok .nx (E.set i (.ow (.d (putD es2 k (.int (f x y)))))) else .bad
        | _, _ => .bad) E
      | _ => .bad
    | none => .bad) E else .bad) := rfl
theorem a_mOwnO (i : Nat) (m : M Ob) : mOwnO i m E = bnd m (fun ob => fun E => if i < E.length then .ok .nx (E.set i (.ow ob)) else .bad) E := rfl
theorem a_mDict (m : M Ag) : mDict m E = bnd m (fun a => fun E => match rsv E a with
  | some d => lift (dictF d) E
  | none => .bad) E := rfl
theorem a_mDNew : mDNew E = .ok (.d []) E := rfl
theorem a_mSortD (i : Nat) : mSortD i E = (match E[i]? with
  | some (.ow (.d es)) => match keysI es with
    | some ks => if ks.length < 1000 then .ok (.list ((sortI ks).map .int)) E else .bad
    | none => .bad
  | _ => .bad) := rfl
end
theorem notX_none : notX .none = true := rfl
theorem notX_bool (b : Bool) : notX (.bool b) = true := rfl
theorem notX_int (b : Int) : notX (.int b) = true := rfl
theorem notX_str (b : Str) : notX (.str b) = true := rfl
theorem notX_list (b : List D) : notX (.list b) = true := rfl
theorem notX_tuple (b : List D) : notX (.tuple b) = true := rfl
theorem isi_none (T : String) : isiD T .none = tyIs T "NoneType" := rfl
theorem isi_bool (T : String) (b : Bool) : isiD T (.bool b) = tyIs T "bool" := rfl
theorem isi_int (T : String) (b : Int) : isiD T (.int b) = tyIs T "int" := rfl
theorem isi_str (T : String) (b : Str) : isiD T (.str b) = tyIs T "str" := rfl
theorem isi_list (T : String) (b : List D) : isiD T (.list b) = tyIs T "list" := rfl
theorem isi_tuple (T : String) (b : List D) : isiD T (.tuple b) = tyIs T "tuple" := rfl
theorem backE_same {E E' : En} {vs : List Nat} (hw : wipeE E' vs = wipeE E vs) (hv : ∀ v ∈ vs, (∃ d, E[v]? = some (.dat d)) ∨ E[v]? = some .un) : backE E E' vs = E := by
  have hl : E'.length = E.length := by rw [← wipeE_length E' vs, hw, wipeE_length]
  have out : ∀ (A : En) (i : Nat) (us : List Nat), i ∉ us → (wipeE A us)[i]? = A[i]? := by
    intro A i us
    induction us with
    | nil => intro _; rfl
    | cons u us ih =>
      intro h
      have hne : u ≠ i := fun e => h (e ▸ List.mem_cons_self)
      show ((wipeE A us).set u .un)[i]? = _
      rw [List.getElem?_set_ne hne]
      exact ih fun z => h (List.mem_cons_of_mem _ z)
  refine List.ext_getElem? fun i => ?_
  by_cases h : i ∈ vs
  · rcases hv i h with ⟨d, e⟩ | e
    · rw [get_backE_in (by rw [hl]; exact (List.getElem?_eq_some_iff.mp e).1) h, e]
    · rw [get_backE_in (by rw [hl]; exact (List.getElem?_eq_some_iff.mp e).1) h, e]
  · rw [get_backE_out h, ← out E' i vs h, hw, out E i vs h]
noncomputable def elF (vs : List Nat) (g : MG) (mt : M Bool) (me : M D) (E : En) (d : D) : Option (Option D) := match g d E with
  | none => none
  | some E1 => match mt E1 with
    | .ok true E2 => match me E2 with
      | .ok y E3 => open Classical in if wipeE E3 vs = E then some (some y) else none
      | _ => none
    | .ok false E2 => open Classical in if wipeE E2 vs = E then some none else none
    | _ => none
theorem lcGo_el {α : Type} {vs : List Nat} {g : MG} {mt : M Bool} {me : M D} {E Ew : En} {en : α → D} {o : α → Option D} : ∀ (p : List α) (E1 : En) (acc : List D), wipeE E1 vs = Ew → (∀ q ∈ p, elF vs g mt me Ew (en q) = some (o q)) → acc.length + p.length ≤ LIM →
    ∃ E', wipeE E' vs = Ew ∧ lcGo vs g mt me E (p.map en) E1 acc = .ok (.list (acc ++ p.filterMap o)) (backE E E' vs)
  | [], E1, acc, h1, _, _ => ⟨E1, h1, by simp [lcGo]⟩
  | q :: p, E1, acc, h1, h, hl => by
    have hq := h q List.mem_cons_self
    have ih := fun E2 acc' e2 hl' => lcGo_el (E := E) p E2 acc' e2 (fun q hq => h q (List.mem_cons_of_mem _ hq)) hl'
    rw [List.length_cons] at hl
    rw [List.map_cons]
    unfold lcGo
    rw [h1]
    unfold elF at hq
    cases eg : g (en q) Ew with
    | none => rw [eg] at hq; cases hq
    | some E2 =>
      rw [eg] at hq
      dsimp only at hq ⊢
      cases et : mt E2 with
      | bad => rw [et] at hq; cases hq
      | ex _ _ => rw [et] at hq; cases hq
      | ok b E3 =>
        rw [et] at hq
        cases b with
        | false =>
          dsimp only at hq ⊢
          split at hq
          · rename_i hw
            have e := Option.some.inj hq
            rw [List.filterMap_cons_none e.symm]
            exact ih E3 acc hw (by omega)
          · cases hq
        | true =>
          dsimp only at hq ⊢
          cases em : me E3 with
          | bad => rw [em] at hq; cases hq
          | ex _ _ => rw [em] at hq; cases hq
          | ok y E4 =>
            rw [em] at hq
            dsimp only at hq ⊢
            split at hq
            · rename_i hw
              have e := Option.some.inj hq
              rw [if_pos (by omega), List.filterMap_cons_some e.symm]
              obtain ⟨E', q1, q2⟩ := ih E4 (acc ++ [y]) hw (by rw [List.length_append, List.length_singleton]; omega)
              exact ⟨E', q1, by rw [q2, List.append_assoc]; rfl⟩
            · cases hq
theorem lc_ok {α : Type} {mi : M (List D)} {vs : List Nat} {g : MG} {mt : M Bool} {me : M D} {E E0 : En} (p : List α) (en : α → D) (o : α → Option D) (hi : mi E0 = .ok (p.map en) E) (hv : ∀ v ∈ vs, (∃ d, E[v]? = some (.dat d)) ∨ E[v]? = some .un) (h : ∀ q ∈ p, elF vs g mt me (wipeE E vs) (en q) = some (o q)) (hl : p.length ≤ LIM) :
    mLc mi g mt me vs E0 = .ok (.list (p.filterMap o)) E := by
  unfold mLc bnd
  rw [hi]
  obtain ⟨E', h1, h2⟩ := lcGo_el (E := E) p E [] rfl h (by simpa using hl)
  show lcGo vs g mt me E (p.map en) E [] = _
  rw [h2, backE_same h1 hv, List.nil_append]
theorem fm_filter {α β : Type} (c : α → Bool) (y : α → β) : ∀ p : List α, (p.filterMap fun q => if c q = true then some (y q) else none) = (p.filter c).map y
  | [] => rfl
  | q :: p => by
    by_cases h : c q = true
    · rw [List.filterMap_cons_some (by rw [if_pos h]), List.filter_cons_of_pos h, List.map_cons, fm_filter c y p]
    · rw [List.filterMap_cons_none (by rw [if_neg h]), List.filter_cons_of_neg h, fm_filter c y p]
theorem lc_if {α : Type} {mi : M (List D)} {vs : List Nat} {g : MG} {mt : M Bool} {me : M D} {E E0 : En} (p : List α) (en : α → D) (c : α → Bool) (y : α → D) (hi : mi E0 = .ok (p.map en) E) (hv : ∀ v ∈ vs, (∃ d, E[v]? = some (.dat d)) ∨ E[v]? = some .un) (h : ∀ q ∈ p, elF vs g mt me (wipeE E vs) (en q) = some (if c q = true then some (y q) else none)) (hl : p.length ≤ LIM) :
    mLc mi g mt me vs E0 = .ok (.list ((p.filter c).map y)) E := by
  rw [lc_ok p en (fun q => if c q = true then some (y q) else none) hi hv h hl, fm_filter]
theorem lc_map {α : Type} {mi : M (List D)} {vs : List Nat} {g : MG} {mt : M Bool} {me : M D} {E E0 : En} (p : List α) (en : α → D) (y : α → D) (hi : mi E0 = .ok (p.map en) E) (hv : ∀ v ∈ vs, (∃ d, E[v]? = some (.dat d)) ∨ E[v]? = some .un) (h : ∀ q ∈ p, elF vs g mt me (wipeE E vs) (en q) = some (some (y q))) (hl : p.length ≤ LIM) :
    mLc mi g mt me vs E0 = .ok (.list (p.map y)) E := by
  rw [lc_ok p en (fun q => some (y q)) hi hv h hl]
  congr 2
  clear hi h hl
  induction p with
  | nil => rfl
  | cons q p ih => simp
theorem lcGo_inv {vs : List Nat} {g : MG} {mt : M Bool} {me : M D} {E : En} (I : List D → En → List D → Prop) : ∀ (its : List D) (E1 : En) (acc : List D), I its E1 acc → acc.length + its.length ≤ LIM →
    (∀ d ds E acc, I (d :: ds) E acc → ∃ E1, g d (wipeE E vs) = some E1 ∧ ((∃ E2 y E3, mt E1 = .ok true E2 ∧ me E2 = .ok y E3 ∧ I ds E3 (acc ++ [y])) ∨ ∃ E2, mt E1 = .ok false E2 ∧ I ds E2 acc)) →
    ∃ E' acc', I [] E' acc' ∧ lcGo vs g mt me E its E1 acc = .ok (.list acc') (backE E E' vs)
  | [], E1, acc, h, _, _ => ⟨E1, acc, h, rfl⟩
  | d :: ds, E1, acc, h, hl, hs => by
    rw [List.length_cons] at hl
    unfold lcGo
    obtain ⟨E2, e1, h2⟩ := hs d ds E1 acc h
    rw [e1]
    dsimp only
    rcases h2 with ⟨E3, y, E4, e2, e3, h3⟩ | ⟨E3, e2, h3⟩
    · rw [e2]
      dsimp only
      rw [e3]
      dsimp only
      rw [if_pos (by omega)]
      exact lcGo_inv I ds E4 (acc ++ [y]) h3 (by rw [List.length_append, List.length_singleton]; omega) hs
    · rw [e2]
      exact lcGo_inv I ds E3 acc h3 (by omega) hs
theorem lc_inv {mi : M (List D)} {vs : List Nat} {g : MG} {mt : M Bool} {me : M D} {E E0 : En} {its : List D} (I : List D → En → List D → Prop) (hi : mi E0 = .ok its E) (h0 : I its E []) (hl : its.length ≤ LIM)
    (hs : ∀ d ds E acc, I (d :: ds) E acc → ∃ E1, g d (wipeE E vs) = some E1 ∧ ((∃ E2 y E3, mt E1 = .ok true E2 ∧ me E2 = .ok y E3 ∧ I ds E3 (acc ++ [y])) ∨ ∃ E2, mt E1 = .ok false E2 ∧ I ds E2 acc)) :
    ∃ E' acc', I [] E' acc' ∧ mLc mi g mt me vs E0 = .ok (.list acc') (backE E E' vs) := by
  obtain ⟨E', acc', h1, h2⟩ := lcGo_inv (E := E) I its E [] h0 (by simpa using hl) hs
  refine ⟨E', acc', h1, ?_⟩
  unfold mLc bnd
  rw [hi]
  exact h2
theorem forGo_inv {ws : List Nat} {g : MG} {mb : M Fl} (I : List D → En → Prop) : ∀ (its : List D) (E : En), I its E → (∀ d ds E, I (d :: ds) E → ∃ E1 E2, g d E = some E1 ∧ (mb E1 = .ok .nx E2 ∨ mb E1 = .ok .ct E2) ∧ I ds (wipeE E2 ws)) → ∃ E', I [] E' ∧ forGo ws g mb its E = .ok .nx E'
  | [], E, h, _ => ⟨E, h, rfl⟩
  | d :: ds, E, h, hs => by
    obtain ⟨E1, E2, e1, e2, h2⟩ := hs d ds E h
    obtain ⟨E', h3, h4⟩ := forGo_inv I ds (wipeE E2 ws) h2 hs
    refine ⟨E', h3, ?_⟩
    unfold forGo
    rw [e1]
    dsimp only
    rcases e2 with e2 | e2 <;> rw [e2] <;> exact h4
theorem for_inv {ws : List Nat} {mi : M (List D)} {g : MG} {mb : M Fl} {E0 E : En} {its : List D} (I : List D → En → Prop) (hi : mi E0 = .ok its E) (h0 : I its E) (hs : ∀ d ds E, I (d :: ds) E → ∃ E1 E2, g d E = some E1 ∧ (mb E1 = .ok .nx E2 ∨ mb E1 = .ok .ct E2) ∧ I ds (wipeE E2 ws)) : ∃ E', I [] E' ∧ mFor ws mi g mb E0 = .ok .nx E' := by
  obtain ⟨E', h1, h2⟩ := forGo_inv I its E h0 hs
  exact ⟨E', h1, by unfold mFor bnd; rw [hi]; exact h2⟩
theorem for_same {α : Type} {ws : List Nat} {mi : M (List D)} {g : MG} {mb : M Fl} {E0 E : En} (p : List α) (en : α → D) (hi : mi E0 = .ok (p.map en) E) (h : ∀ q ∈ p, ∃ E1 E2, g (en q) E = some E1 ∧ (mb E1 = .ok .nx E2 ∨ mb E1 = .ok .ct E2) ∧ wipeE E2 ws = E) : mFor ws mi g mb E0 = .ok .nx E := by
  obtain ⟨E', ⟨h1, _⟩, h2⟩ := for_inv (ws := ws) (g := g) (mb := mb) (fun its E' => E' = E ∧ ∀ d ∈ its, ∃ q ∈ p, d = en q) hi ⟨rfl, fun d hd => by
    obtain ⟨q, hq, rfl⟩ := List.mem_map.mp hd
    exact ⟨q, hq, rfl⟩⟩ (fun d ds E' ⟨e, hd⟩ => by
    subst e
    obtain ⟨q, hq, rfl⟩ := hd d List.mem_cons_self
    obtain ⟨E1, E2, e1, e2, e3⟩ := h q hq
    exact ⟨E1, E2, e1, e2, e3, fun d' h' => hd d' (List.mem_cons_of_mem _ h')⟩)
  rw [h2, h1]
theorem rg_ok {i : Int} (h : -1000000 ≤ i) (h2 : i ≤ 1000000) : rgOk i = true := by
  exact rgOk_iff.mpr ⟨h, h2⟩
theorem rgOk_eq (i : Int) : rgOk i = (decide (-1000000 ≤ i) && decide (i ≤ 1000000)) := by
  rw [Bool.eq_iff_iff, rgOk_iff]
  simp
theorem rangeD_mem {lo hi : Int} {d : D} (h : d ∈ rangeD lo hi) : ∃ i, d = .int i ∧ lo ≤ i ∧ i < hi := by
  unfold rangeD at h
  obtain ⟨k, hk, rfl⟩ := List.mem_map.mp h
  have := List.mem_range.mp hk
  exact ⟨_, rfl, by omega, by omega⟩
theorem rangeD_length {lo hi : Int} : (rangeD lo hi).length = (hi - lo).toNat := by unfold rangeD; rw [List.length_map, List.length_range]
theorem okI_of {i : Int} (h : -(10 ^ 300) ≤ i) (h2 : i ≤ 10 ^ 300) : okI i = true := by
  unfold okI
  refine decide_eq_true ?_
  by_cases z : i.natAbs = 0
  · rw [z]; decide
  · refine (Nat.log2_lt z).mpr (Nat.lt_of_le_of_lt (show i.natAbs ≤ 10 ^ 300 by omega) ?_)
    calc 10 ^ 300 ≤ 16 ^ 300 := Nat.pow_le_pow_left (by decide) _
      _ = 2 ^ 1200 := by rw [show (16 : Nat) = 2 ^ 4 from rfl, ← Nat.pow_mul]
      _ < 2 ^ 9000 := Nat.pow_lt_pow_right (by decide) (by decide)
theorem forGo_fold {α S : Type} {ws : List Nat} {g : MG} {mb : M Fl} {en : α → D} (st : S → En) (step : S → α → S) (I : S → List α → Prop) : ∀ (p : List α) (s : S), I s p →
    (∀ q p s, I s (q :: p) → (∃ E1 E2, g (en q) (st s) = some E1 ∧ (mb E1 = .ok .nx E2 ∨ mb E1 = .ok .ct E2) ∧ wipeE E2 ws = st (step s q)) ∧ I (step s q) p) → forGo ws g mb (p.map en) (st s) = .ok .nx (st (p.foldl step s)) ∧ I (p.foldl step s) []
  | [], s, h, _ => ⟨rfl, h⟩
  | q :: p, s, h, hs => by
    obtain ⟨⟨E1, E2, e1, e2, e3⟩, h2⟩ := hs q p s h
    have ih := forGo_fold st step I p (step s q) h2 hs
    refine ⟨?_, ih.2⟩
    rw [List.map_cons]
    unfold forGo
    rw [e1]
    dsimp only
    rcases e2 with e2 | e2 <;> rw [e2] <;> (dsimp only; rw [e3]; exact ih.1)
theorem for_fold {α S : Type} {ws : List Nat} {mi : M (List D)} {g : MG} {mb : M Fl} {E0 : En} {s : S} (p : List α) (en : α → D) (st : S → En) (step : S → α → S) (I : S → List α → Prop) (hi : mi E0 = .ok (p.map en) (st s)) (h0 : I s p)
    (hs : ∀ q p s, I s (q :: p) → (∃ E1 E2, g (en q) (st s) = some E1 ∧ (mb E1 = .ok .nx E2 ∨ mb E1 = .ok .ct E2) ∧ wipeE E2 ws = st (step s q)) ∧ I (step s q) p) : mFor ws mi g mb E0 = .ok .nx (st (p.foldl step s)) ∧ I (p.foldl step s) [] := by
  have := forGo_fold (ws := ws) (g := g) (mb := mb) (en := en) st step I p s h0 hs
  exact ⟨by unfold mFor bnd; rw [hi]; exact this.1, this.2⟩
structure Shp (n : Nat) (d : D) : Prop where
  lay : d.canLay0 = true
  dep : d.depth ≤ n
theorem Shp.ok {n : Nat} {d : D} (h : Shp n d) (hn : n ≤ 64 := by decide) : SeqAt.shaped d = true := by
  unfold SeqAt.shaped
  rw [h.lay]
  have := h.dep
  simp
  omega
theorem canLayAll_of : ∀ {ds : List D}, (∀ d ∈ ds, d.canLay0 = true) → PyData.canLayAll0 ds = true
  | [], _ => rfl
  | d :: ds, h => by
    unfold PyData.canLayAll0
    rw [h d List.mem_cons_self, canLayAll_of fun e he => h e (List.mem_cons_of_mem _ he)]
    rfl
theorem depthAll_of {n : Nat} : ∀ {ds : List D}, (∀ d ∈ ds, d.depth ≤ n) → PyData.depthAll ds ≤ n
  | [], _ => by simp [PyData.depthAll]
  | d :: ds, h => by
    have h1 := h d List.mem_cons_self
    have h2 := depthAll_of (n := n) (ds := ds) fun e he => h e (List.mem_cons_of_mem _ he)
    simp only [PyData.depthAll]
    omega
theorem shp_list {n : Nat} {ds : List D} (h : ∀ d ∈ ds, Shp n d) : Shp (n + 1) (.list ds) := by
  refine ⟨canLayAll_of fun d hd => (h d hd).lay, ?_⟩
  have := depthAll_of (n := n) fun d hd => (h d hd).dep
  simp only [PyData.depth]
  omega
theorem shp_tup {n : Nat} {ds : List D} (h : ∀ d ∈ ds, Shp n d) : Shp (n + 1) (.tuple ds) := by
  refine ⟨canLayAll_of fun d hd => (h d hd).lay, ?_⟩
  have := depthAll_of (n := n) fun d hd => (h d hd).dep
  simp only [PyData.depth]
  omega
theorem shp_int (i : Int) : Shp 1 (.int i) := ⟨rfl, by simp [PyData.depth]⟩
theorem Shp.up {n m : Nat} {d : D} (h : Shp n d) (hm : n ≤ m) : Shp m d := ⟨h.lay, Nat.le_trans h.dep hm⟩
theorem eqD_of {n m : Nat} {d e : D} (hd : Shp n d) (he : Shp m e) (hn : n ≤ 64 := by decide) (hm : m ≤ 64 := by decide) : eqD d e = some (.bool (PyData.eqv d e)) := by
  unfold eqD
  rw [hd.ok hn, he.ok hm]
  rfl
theorem neD_of {n m : Nat} {d e : D} (hd : Shp n d) (he : Shp m e) (hn : n ≤ 64 := by decide) (hm : m ≤ 64 := by decide) : neD d e = some (.bool (!PyData.eqv d e)) := by
  unfold neD
  rw [hd.ok hn, he.ok hm]
  rfl
mutual
theorem eqv_refl : ∀ d : D, d.canLay0 = true → PyData.eqv d d = true
  | .none, _ => rfl
  | .bool _, _ => by simp [PyData.eqv]
  | .int _, _ => by simp [PyData.eqv]
  | .str _, _ => by simp [PyData.eqv]
  | .list ds, h => eqvAll_refl ds h
  | .tuple ds, h => eqvAll_refl ds h
  | .dict _, h => nomatch h
theorem eqvAll_refl : ∀ ds : List D, PyData.canLayAll0 ds = true → PyData.eqvAll ds ds = true
  | [], _ => rfl
  | d :: ds, h => by
    unfold PyData.canLayAll0 at h
    rw [Bool.and_eq_true] at h
    unfold PyData.eqvAll
    rw [eqv_refl d h.1, eqvAll_refl ds h.2]
    rfl
end
theorem eqD_self {n : Nat} {d : D} (hd : Shp n d) (hn : n ≤ 64 := by decide) : eqD d d = some (.bool true) := by rw [eqD_of hd hd hn hn, eqv_refl d hd.lay]
theorem neD_self {n : Nat} {d : D} (hd : Shp n d) (hn : n ≤ 64 := by decide) : neD d d = some (.bool false) := by rw [neD_of hd hd hn hn, eqv_refl d hd.lay]; rfl
theorem sumF_map {α : Type} (f : α → Int) (p : List α) : sumF [.list (p.map fun q => .int (f q))] = some (.int (p.map f).sum) := by
  show (intsOf (p.map fun q => .int (f q))).map _ = _
  rw [show (p.map fun q => PyData.int (f q)) = (p.map f).map .int by rw [List.map_map]; rfl, intsOf_map]
  rfl
theorem allF_map {α : Type} (f : α → Bool) (p : List α) : allF [.list (p.map fun q => .bool (f q))] = some (.bool (p.all f)) := by
  show (boolsOf (p.map fun q => .bool (f q))).map _ = _
  rw [show (p.map fun q => PyData.bool (f q)) = (p.map f).map .bool by rw [List.map_map]; rfl, boolsOf_map]
  simp [List.all_map]
theorem eqD_int (i j : Int) : eqD (.int i) (.int j) = some (.bool (decide (i = j))) := by
  simp [eqD, SeqAt.shaped, PyData.canLay0, PyData.depth, PyData.eqv]
  rfl
theorem neD_int (i j : Int) : neD (.int i) (.int j) = some (.bool (!decide (i = j))) := by
  simp [neD, SeqAt.shaped, PyData.canLay0, PyData.depth, PyData.eqv]
  rfl
end Bt
namespace Bt
open PySem L2
section
variable {E : En}
theorem a_mRaise0 (c : Nat) : mRaise0 c E = .ex ⟨c, none⟩ E := rfl
theorem a_mRaise1 (c : Nat) (m : M D) : mRaise1 c m E = bnd m (fun d => fun E => .ex ⟨c, some d⟩ E) E := rfl
theorem a_mTry (c i : Nat) (mb ms : M Fl) : mTry c i mb ms E = (match mb E with
  | .ok f E' => .ok f E'
  | .ex x E' => if isSub x.cls c then (if i < E'.length then (match ms (E'.set i (.dat (xOf x))) with
      | .ok f E2 => .ok f (E2.set i .un)
      | _ => .bad) else .bad) else .ex x E'
  | .bad => .bad) := rfl
theorem a_mIsx (n : Nat) (m : M Ag) : mIsx n m E = bnd m (fun a => fun E => match rsv E a with
  | some d => (match isCls n d with
    | some b => .ok (.bool b) E
    | none => .bad)
  | none => .bad) E := rfl
theorem a_mFld (cs : List Nat) (m : M Ag) : mFld cs m E = bnd m (fun a => fun E => match rsv E a with
  | some (.dict [(.int c, .none), (.none, d)]) => if c.toNat ∈ cs then .ok d E else .bad
  | _ => .bad) E := rfl
theorem a_mMeth (f : D → D → Option D) (ma mb : M Ag) : mMeth f ma mb E = bnd ma (fun a => fun E0 => match rsv E0 a with
  | some (.list _) => (bnd mb fun b => fun E => match rsv E a, rsv E b with
    | some (.list ds), some y => lift (f (.list ds) y) E
    | _, _ => .bad) E0
  | _ => .bad) E := rfl
theorem a_mExt (i : Nat) (m : M D) : mExt i m E = (match E[i]? with
  | some ((.ow (.l _))) => (bnd m fun d => fun E => match E[i]?, d with
    | some ((.ow (.l ds))), .list es => if ds.length + es.length ≤ LIM then .ok .nx (E.set i ((.ow (.l (ds ++ es))))) else .bad
    | _, _ => .bad) E
  | _ => .bad) := rfl
theorem a_mExtB (i : Nat) (m : M D) : mExtB i m E = (match E[i]? with
  | some ((.ow (.l _))) => (bnd m fun d => fun E => match E[i]?, d with
    | some ((.ow (.l ds))), .list es => if ds.length + es.length ≤ LIM then .ok .nx (E.set i ((.ow (.l (ds ++ es))))) else .bad
    | some ((.ow (.l ds))), .tuple es => if ds.length + es.length ≤ LIM then .ok .nx (E.set i ((.ow (.l (ds ++ es))))) else .bad
    | _, _ => .bad) E
  | _ => .bad) := rfl
theorem a_mNew0 (c : Nat) : mNew0 c E = .ok (.dict [(.int c, .none)]) E := rfl
theorem a_mNewN (c : Nat) : mNewN c E = .ok (.dict [(.int c, .none), (.none, .none)]) E := rfl
theorem a_mNew1 (c : Nat) (m : M D) : mNew1 c m E = bnd m (fun d => ret (.dict [(.int c, .none), (.none, d)])) E := rfl
theorem a_mIsxO (m : M Ag) : mIsxO m E = bnd m (fun a => fun E => match rsv E a with
  | some (.dict ((.int _, .none) :: _)) => .ok (.bool false) E
  | _ => .bad) E := rfl
theorem a_mIsVE : mIsVE E = .ok (.bool false) E := rfl
theorem a_mPar (i j : Nat) (ms : M (List D)) : mPar i j ms E = bnd ms (fun ds => fun E => match ds with
  | [d1, d2] => if i < E.length ∧ j < E.length then .ok .nx ((E.set i (.dat d1)).set j (.dat d2)) else .bad
  | _ => .bad) E := rfl
theorem isCls_x (n : Nat) (c : Int) (r : List (D × D)) : isCls n (.dict ((.int c, .none) :: r)) = some (isSub c.toNat n || n == 17) := rfl
theorem isCls_n (n : Nat) : isCls n .none = if n < 17 then some false else none := rfl
theorem xOf_0 (c : Nat) : xOf ⟨c, none⟩ = .dict [(.int c, .none)] := rfl
theorem xOf_1 (c : Nat) (d : D) : xOf ⟨c, some d⟩ = .dict [(.int c, .none), (.none, d)] := rfl
theorem isSub_0 (a : Nat) : isSub a 0 = true := by unfold isSub; simp
theorem lift_some {α : Type} (a : α) : Bt.lift (some a) E = .ok a E := rfl
end
theorem shp_str (x : Str) (h : (PyData.str x).canLay0 = true) : Shp 1 (.str x) := ⟨h, by simp [PyData.depth]⟩
theorem ll0 : ((0 : Nat) ≤ LIM) = True := eq_true (by decide)
theorem ll1 : ((1 : Nat) ≤ LIM) = True := eq_true (by decide)
theorem ll2 : ((2 : Nat) ≤ LIM) = True := eq_true (by decide)
theorem ll3 : ((3 : Nat) ≤ LIM) = True := eq_true (by decide)
theorem ll4 : ((4 : Nat) ≤ LIM) = True := eq_true (by decide)
theorem ll5 : ((5 : Nat) ≤ LIM) = True := eq_true (by decide)
theorem ll6 : ((6 : Nat) ≤ LIM) = True := eq_true (by decide)
theorem ll7 : ((7 : Nat) ≤ LIM) = True := eq_true (by decide)
theorem ll8 : ((8 : Nat) ≤ LIM) = True := eq_true (by decide)
theorem ll9 : ((9 : Nat) ≤ LIM) = True := eq_true (by decide)
theorem ll10 : ((10 : Nat) ≤ LIM) = True := eq_true (by decide)
theorem ll11 : ((11 : Nat) ≤ LIM) = True := eq_true (by decide)
theorem ll12 : ((12 : Nat) ≤ LIM) = True := eq_true (by decide)
theorem ll13 : ((13 : Nat) ≤ LIM) = True := eq_true (by decide)
theorem ll14 : ((14 : Nat) ≤ LIM) = True := eq_true (by decide)
theorem ll15 : ((15 : Nat) ≤ LIM) = True := eq_true (by decide)
theorem ll16 : ((16 : Nat) ≤ LIM) = True := eq_true (by decide)
section
variable {E : En}
theorem a_mRaiseN (c : Nat) : mRaiseN c E = .ex ⟨c, some .none⟩ E := rfl
theorem a_mTry0 (c : Nat) (mb ms : M Fl) : mTry0 c mb ms E = (match mb E with
  | .ok f E1 => .ok f E1
  | .ex z E1 => if isSub z.cls c = true then match ms E1 with
    | .ok f E2 => .ok f E2
    | _ => .bad
    else .ex z E1
  | .bad => .bad) := rfl
theorem a_mZipE (ms : M (List D)) : mZipE ms E = bnd ms (fun ds => match ds with
  | [.list xs, .list ys] => fun E => if xs.length = ys.length then .ok (zipD xs ys) E else .bad
  | _ => stuck) E := rfl
theorem a_mLrg2 (ma mb : M Ag) : mLrg2 ma mb E = bnd ma (fun x => bnd mb fun y => fun E => match rsv E x, rsv E y with
  | some (.int i), some (.int j) => if rgOk i && rgOk j then .ok (.list (rangeD i j)) E else .bad
  | _, _ => .bad) E := rfl
theorem a_mLrg1 (ma : M Ag) : mLrg1 ma E = bnd ma (fun x => fun E => match rsv E x with
  | some (.int j) => if rgOk j then .ok (.list (rangeD 0 j)) E else .bad
  | _ => .bad) E := rfl
end
end Bt
namespace Lw
open PySem L2 Bt
theorem strOkW (s : String) : PyData.strOk (Str.ofString s) = true := by
  unfold PyData.strOk
  rw [Str.ofString_eq_toList]
  simp only [List.size_toArray, List.length_map, List.all_toArray', List.all_toArray, List.all_map, List.all_eq_true, Function.comp]
  intro c _
  have := c.valid
  simp only [UInt32.isValidChar, Nat.isValidChar] at this
  exact decide_eq_true (by show c.val.toNat < 1114112; omega)
theorem beqS (a b : Str) : (a == b) = decide (a = b) := by
  rw [Bool.eq_iff_iff, beq_iff_eq, decide_eq_true_eq]
theorem eqS {a b : Str} (ha : PyData.strOk a = true) (hb : PyData.strOk b = true) : eqD (.str a) (.str b) = some (.bool (decide (a = b))) := by
  rw [eqD_of (shp_str _ (by simpa [PyData.canLay0] using ha)) (shp_str _ (by simpa [PyData.canLay0] using hb))]
  simp [PyData.eqv, beqS]
theorem inS2 {a x y : Str} : inD (.str a) (.tuple [.str x, .str y]) = some (.bool (decide (a = x) || decide (a = y))) := by
  have e1 : (x == a) = decide (a = x) := by rw [beqS, decide_eq_decide]; exact ⟨Eq.symm, Eq.symm⟩
  have e2 : (y == a) = decide (a = y) := by rw [beqS, decide_eq_decide]; exact ⟨Eq.symm, Eq.symm⟩
  unfold inD
  simp [flatD, PyData.eqv, e1, e2]
abbrev wNone : Str := Str.ofString "none"
abbrev wCall : Str := Str.ofString "call"
abbrev wAll : Str := Str.ofString "all"
abbrev wOne : Str := Str.ofString "one"
abbrev wWithin : Str := Str.ofString "within"
abbrev wCalls : Str := Str.ofString "calls"
theorem dw_none_none : decide (Str.ofString "none" = Str.ofString "none") = true := by decide +kernel
theorem dw_none_call : decide (Str.ofString "none" = Str.ofString "call") = false := by decide +kernel
theorem dw_none_all : decide (Str.ofString "none" = Str.ofString "all") = false := by decide +kernel
theorem dw_none_one : decide (Str.ofString "none" = Str.ofString "one") = false := by decide +kernel
theorem dw_none_within : decide (Str.ofString "none" = Str.ofString "within") = false := by decide +kernel
theorem dw_none_calls : decide (Str.ofString "none" = Str.ofString "calls") = false := by decide +kernel
theorem dw_call_none : decide (Str.ofString "call" = Str.ofString "none") = false := by decide +kernel
theorem dw_call_call : decide (Str.ofString "call" = Str.ofString "call") = true := by decide +kernel
theorem dw_call_all : decide (Str.ofString "call" = Str.ofString "all") = false := by decide +kernel
theorem dw_call_one : decide (Str.ofString "call" = Str.ofString "one") = false := by decide +kernel
theorem dw_call_within : decide (Str.ofString "call" = Str.ofString "within") = false := by decide +kernel
theorem dw_call_calls : decide (Str.ofString "call" = Str.ofString "calls") = false := by decide +kernel
theorem dw_all_none : decide (Str.ofString "all" = Str.ofString "none") = false := by decide +kernel
theorem dw_all_call : decide (Str.ofString "all" = Str.ofString "call") = false := by decide +kernel
theorem dw_all_all : decide (Str.ofString "all" = Str.ofString "all") = true := by decide +kernel
theorem dw_all_one : decide (Str.ofString "all" = Str.ofString "one") = false := by decide +kernel
theorem dw_all_within : decide (Str.ofString "all" = Str.ofString "within") = false := by decide +kernel
theorem dw_all_calls : decide (Str.ofString "all" = Str.ofString "calls") = false := by decide +kernel
theorem dw_one_none : decide (Str.ofString "one" = Str.ofString "none") = false := by decide +kernel
theorem dw_one_call : decide (Str.ofString "one" = Str.ofString "call") = false := by decide +kernel
theorem dw_one_all : decide (Str.ofString "one" = Str.ofString "all") = false := by decide +kernel
theorem dw_one_one : decide (Str.ofString "one" = Str.ofString "one") = true := by decide +kernel
theorem dw_one_within : decide (Str.ofString "one" = Str.ofString "within") = false := by decide +kernel
theorem dw_one_calls : decide (Str.ofString "one" = Str.ofString "calls") = false := by decide +kernel
theorem dw_within_none : decide (Str.ofString "within" = Str.ofString "none") = false := by decide +kernel
theorem dw_within_call : decide (Str.ofString "within" = Str.ofString "call") = false := by decide +kernel
theorem dw_within_all : decide (Str.ofString "within" = Str.ofString "all") = false := by decide +kernel
theorem dw_within_one : decide (Str.ofString "within" = Str.ofString "one") = false := by decide +kernel
theorem dw_within_within : decide (Str.ofString "within" = Str.ofString "within") = true := by decide +kernel
theorem dw_within_calls : decide (Str.ofString "within" = Str.ofString "calls") = false := by decide +kernel
theorem dw_calls_none : decide (Str.ofString "calls" = Str.ofString "none") = false := by decide +kernel
theorem dw_calls_call : decide (Str.ofString "calls" = Str.ofString "call") = false := by decide +kernel
theorem dw_calls_all : decide (Str.ofString "calls" = Str.ofString "all") = false := by decide +kernel
theorem dw_calls_one : decide (Str.ofString "calls" = Str.ofString "one") = false := by decide +kernel
theorem dw_calls_within : decide (Str.ofString "calls" = Str.ofString "within") = false := by decide +kernel
theorem dw_calls_calls : decide (Str.ofString "calls" = Str.ofString "calls") = true := by decide +kernel
theorem ew_none_none : eqD (.str (Str.ofString "none")) (.str (Str.ofString "none")) = some (.bool true) := by rw [eqS (strOkW _) (strOkW _), dw_none_none]
theorem ew_none_call : eqD (.str (Str.ofString "none")) (.str (Str.ofString "call")) = some (.bool false) := by rw [eqS (strOkW _) (strOkW _), dw_none_call]
theorem ew_none_all : eqD (.str (Str.ofString "none")) (.str (Str.ofString "all")) = some (.bool false) := by rw [eqS (strOkW _) (strOkW _), dw_none_all]
theorem ew_none_one : eqD (.str (Str.ofString "none")) (.str (Str.ofString "one")) = some (.bool false) := by rw [eqS (strOkW _) (strOkW _), dw_none_one]
theorem ew_none_within : eqD (.str (Str.ofString "none")) (.str (Str.ofString "within")) = some (.bool false) := by rw [eqS (strOkW _) (strOkW _), dw_none_within]
theorem ew_none_calls : eqD (.str (Str.ofString "none")) (.str (Str.ofString "calls")) = some (.bool false) := by rw [eqS (strOkW _) (strOkW _), dw_none_calls]
theorem ew_call_none : eqD (.str (Str.ofString "call")) (.str (Str.ofString "none")) = some (.bool false) := by rw [eqS (strOkW _) (strOkW _), dw_call_none]
theorem ew_call_call : eqD (.str (Str.ofString "call")) (.str (Str.ofString "call")) = some (.bool true) := by rw [eqS (strOkW _) (strOkW _), dw_call_call]
theorem ew_call_all : eqD (.str (Str.ofString "call")) (.str (Str.ofString "all")) = some (.bool false) := by rw [eqS (strOkW _) (strOkW _), dw_call_all]
theorem ew_call_one : eqD (.str (Str.ofString "call")) (.str (Str.ofString "one")) = some (.bool false) := by rw [eqS (strOkW _) (strOkW _), dw_call_one]
theorem ew_call_within : eqD (.str (Str.ofString "call")) (.str (Str.ofString "within")) = some (.bool false) := by rw [eqS (strOkW _) (strOkW _), dw_call_within]
theorem ew_call_calls : eqD (.str (Str.ofString "call")) (.str (Str.ofString "calls")) = some (.bool false) := by rw [eqS (strOkW _) (strOkW _), dw_call_calls]
theorem ew_all_none : eqD (.str (Str.ofString "all")) (.str (Str.ofString "none")) = some (.bool false) := by rw [eqS (strOkW _) (strOkW _), dw_all_none]
theorem ew_all_call : eqD (.str (Str.ofString "all")) (.str (Str.ofString "call")) = some (.bool false) := by rw [eqS (strOkW _) (strOkW _), dw_all_call]
theorem ew_all_all : eqD (.str (Str.ofString "all")) (.str (Str.ofString "all")) = some (.bool true) := by rw [eqS (strOkW _) (strOkW _), dw_all_all]
theorem ew_all_one : eqD (.str (Str.ofString "all")) (.str (Str.ofString "one")) = some (.bool false) := by rw [eqS (strOkW _) (strOkW _), dw_all_one]
theorem ew_all_within : eqD (.str (Str.ofString "all")) (.str (Str.ofString "within")) = some (.bool false) := by rw [eqS (strOkW _) (strOkW _), dw_all_within]
theorem ew_all_calls : eqD (.str (Str.ofString "all")) (.str (Str.ofString "calls")) = some (.bool false) := by rw [eqS (strOkW _) (strOkW _), dw_all_calls]
theorem ew_one_none : eqD (.str (Str.ofString "one")) (.str (Str.ofString "none")) = some (.bool false) := by rw [eqS (strOkW _) (strOkW _), dw_one_none]
theorem ew_one_call : eqD (.str (Str.ofString "one")) (.str (Str.ofString "call")) = some (.bool false) := by rw [eqS (strOkW _) (strOkW _), dw_one_call]
theorem ew_one_all : eqD (.str (Str.ofString "one")) (.str (Str.ofString "all")) = some (.bool false) := by rw [eqS (strOkW _) (strOkW _), dw_one_all]
theorem ew_one_one : eqD (.str (Str.ofString "one")) (.str (Str.ofString "one")) = some (.bool true) := by rw [eqS (strOkW _) (strOkW _), dw_one_one]
theorem ew_one_within : eqD (.str (Str.ofString "one")) (.str (Str.ofString "within")) = some (.bool false) := by rw [eqS (strOkW _) (strOkW _), dw_one_within]
theorem ew_one_calls : eqD (.str (Str.ofString "one")) (.str (Str.ofString "calls")) = some (.bool false) := by rw [eqS (strOkW _) (strOkW _), dw_one_calls]
theorem ew_within_none : eqD (.str (Str.ofString "within")) (.str (Str.ofString "none")) = some (.bool false) := by rw [eqS (strOkW _) (strOkW _), dw_within_none]
theorem ew_within_call : eqD (.str (Str.ofString "within")) (.str (Str.ofString "call")) = some (.bool false) := by rw [eqS (strOkW _) (strOkW _), dw_within_call]
theorem ew_within_all : eqD (.str (Str.ofString "within")) (.str (Str.ofString "all")) = some (.bool false) := by rw [eqS (strOkW _) (strOkW _), dw_within_all]
theorem ew_within_one : eqD (.str (Str.ofString "within")) (.str (Str.ofString "one")) = some (.bool false) := by rw [eqS (strOkW _) (strOkW _), dw_within_one]
theorem ew_within_within : eqD (.str (Str.ofString "within")) (.str (Str.ofString "within")) = some (.bool true) := by rw [eqS (strOkW _) (strOkW _), dw_within_within]
theorem ew_within_calls : eqD (.str (Str.ofString "within")) (.str (Str.ofString "calls")) = some (.bool false) := by rw [eqS (strOkW _) (strOkW _), dw_within_calls]
theorem ew_calls_none : eqD (.str (Str.ofString "calls")) (.str (Str.ofString "none")) = some (.bool false) := by rw [eqS (strOkW _) (strOkW _), dw_calls_none]
theorem ew_calls_call : eqD (.str (Str.ofString "calls")) (.str (Str.ofString "call")) = some (.bool false) := by rw [eqS (strOkW _) (strOkW _), dw_calls_call]
theorem ew_calls_all : eqD (.str (Str.ofString "calls")) (.str (Str.ofString "all")) = some (.bool false) := by rw [eqS (strOkW _) (strOkW _), dw_calls_all]
theorem ew_calls_one : eqD (.str (Str.ofString "calls")) (.str (Str.ofString "one")) = some (.bool false) := by rw [eqS (strOkW _) (strOkW _), dw_calls_one]
theorem ew_calls_within : eqD (.str (Str.ofString "calls")) (.str (Str.ofString "within")) = some (.bool false) := by rw [eqS (strOkW _) (strOkW _), dw_calls_within]
theorem ew_calls_calls : eqD (.str (Str.ofString "calls")) (.str (Str.ofString "calls")) = some (.bool true) := by rw [eqS (strOkW _) (strOkW _), dw_calls_calls]
theorem iw_none_all : inD (.str (Str.ofString "none")) (.tuple [.str (Str.ofString "all"), .str (Str.ofString "one")]) = some (.bool false) := by rw [inS2, dw_none_all, dw_none_one]; rfl
theorem iw_none_within : inD (.str (Str.ofString "none")) (.tuple [.str (Str.ofString "within"), .str (Str.ofString "calls")]) = some (.bool false) := by rw [inS2, dw_none_within, dw_none_calls]; rfl
theorem iw_call_all : inD (.str (Str.ofString "call")) (.tuple [.str (Str.ofString "all"), .str (Str.ofString "one")]) = some (.bool false) := by rw [inS2, dw_call_all, dw_call_one]; rfl
theorem iw_call_within : inD (.str (Str.ofString "call")) (.tuple [.str (Str.ofString "within"), .str (Str.ofString "calls")]) = some (.bool false) := by rw [inS2, dw_call_within, dw_call_calls]; rfl
theorem iw_all_all : inD (.str (Str.ofString "all")) (.tuple [.str (Str.ofString "all"), .str (Str.ofString "one")]) = some (.bool true) := by rw [inS2, dw_all_all, dw_all_one]; rfl
theorem iw_all_within : inD (.str (Str.ofString "all")) (.tuple [.str (Str.ofString "within"), .str (Str.ofString "calls")]) = some (.bool false) := by rw [inS2, dw_all_within, dw_all_calls]; rfl
theorem iw_one_all : inD (.str (Str.ofString "one")) (.tuple [.str (Str.ofString "all"), .str (Str.ofString "one")]) = some (.bool true) := by rw [inS2, dw_one_all, dw_one_one]; rfl
theorem iw_one_within : inD (.str (Str.ofString "one")) (.tuple [.str (Str.ofString "within"), .str (Str.ofString "calls")]) = some (.bool false) := by rw [inS2, dw_one_within, dw_one_calls]; rfl
theorem iw_within_all : inD (.str (Str.ofString "within")) (.tuple [.str (Str.ofString "all"), .str (Str.ofString "one")]) = some (.bool false) := by rw [inS2, dw_within_all, dw_within_one]; rfl
theorem iw_within_within : inD (.str (Str.ofString "within")) (.tuple [.str (Str.ofString "within"), .str (Str.ofString "calls")]) = some (.bool true) := by rw [inS2, dw_within_within, dw_within_calls]; rfl
theorem iw_calls_all : inD (.str (Str.ofString "calls")) (.tuple [.str (Str.ofString "all"), .str (Str.ofString "one")]) = some (.bool false) := by rw [inS2, dw_calls_all, dw_calls_one]; rfl
theorem iw_calls_within : inD (.str (Str.ofString "calls")) (.tuple [.str (Str.ofString "within"), .str (Str.ofString "calls")]) = some (.bool true) := by rw [inS2, dw_calls_within, dw_calls_calls]; rfl
def eww := (And.intro ew_none_none (And.intro ew_none_call (And.intro ew_none_all (And.intro ew_none_one (And.intro ew_none_within (And.intro ew_none_calls (And.intro ew_call_none (And.intro ew_call_call (And.intro ew_call_all (And.intro ew_call_one (And.intro ew_call_within (And.intro ew_call_calls (And.intro ew_all_none (And.intro ew_all_call (And.intro ew_all_all (And.intro ew_all_one (And.intro ew_all_within (And.intro ew_all_calls (And.intro ew_one_none (And.intro ew_one_call (And.intro ew_one_all (And.intro ew_one_one (And.intro ew_one_within (And.intro ew_one_calls (And.intro ew_within_none (And.intro ew_within_call (And.intro ew_within_all (And.intro ew_within_one (And.intro ew_within_within (And.intro ew_within_calls (And.intro ew_calls_none (And.intro ew_calls_call (And.intro ew_calls_all (And.intro ew_calls_one (And.intro ew_calls_within (And.intro ew_calls_calls (And.intro iw_none_all (And.intro iw_none_within (And.intro iw_call_all (And.intro iw_call_within (And.intro iw_all_all (And.intro iw_all_within (And.intro iw_one_all (And.intro iw_one_within (And.intro iw_within_all (And.intro iw_within_within (And.intro iw_calls_all iw_calls_within)))))))))))))))))))))))))))))))))))))))))))))))
end Lw
namespace Lw
open PySem L2 Bt
end Lw
local macro_rules
  | `(tactic| simp! [$a,*]) => do
    let b : Array (Lean.TSyntax [``Lean.Parser.Tactic.simpStar, ``Lean.Parser.Tactic.simpErase, ``Lean.Parser.Tactic.simpLemma]) ← ("Bt.a_bnd Bt.a_ret Bt.a_stuck Bt.a_liftS Bt.a_liftN Bt.a_mOp Bt.a_mOpF Bt.a_mChain Bt.a_mD Bt.a_mR Bt.a_mV Bt.a_mFrz Bt.a_rsvD Bt.a_rsvR Bt.a_rsvs0 Bt.a_rsvs1 Bt.a_mCons Bt.a_mConsD Bt.a_mTup Bt.a_mLst Bt.a_mLstF Bt.a_mIf Bt.a_mIfS Bt.a_ite Bt.a_mAnd Bt.a_mOr Bt.a_mNot Bt.a_mAndV Bt.a_mOrV Bt.a_mNotV Bt.a_asB Bt.a_mNeg Bt.a_mB Bt.a_mBF Bt.a_mIsi Bt.a_mCall Bt.a_mCallK Bt.a_mCallO Bt.a_mCallKO Bt.a_mCallB Bt.a_thawD Bt.a_thawL Bt.a_mRetS Bt.a_mDat Bt.a_mObj Bt.a_mLstO Bt.a_mSetS Bt.a_mGive Bt.a_mAsL Bt.a_asL Bt.a_mRev Bt.a_mDfl Bt.a_mRng3 Bt.a_mPutAug Bt.a_mPop Bt.a_mSeq Bt.a_mNil Bt.a_mRet Bt.a_mExpr Bt.a_mSet Bt.a_gN Bt.a_gTup Bt.a_gCons Bt.a_gNil Bt.a_mItL Bt.a_mItT Bt.a_mIt Bt.a_mPart0 Bt.a_mPart1 Bt.a_mSl Bt.a_mOwn Bt.a_mApp Bt.a_mPut Bt.a_mAug Bt.a_mRng1 Bt.a_mRng2 Bt.a_mZip Bt.a_mEnum Bt.a_mFor Bt.a_mFn Bt.a_mLenScr Bt.a_mIxScr Bt.a_mDGet Bt.a_mDGet2 Bt.a_mDIn Bt.a_mDPut Bt.a_mDAug Bt.a_mOwnO Bt.a_mDict Bt.a_mDNew Bt.a_mSortD Bt.a_mRaise0 Bt.a_mRaise1 Bt.a_mTry Bt.a_mIsx Bt.a_mFld Bt.a_mMeth Bt.a_mExt Bt.a_mExtB Bt.a_mNew0 Bt.a_mNewN Bt.a_mNew1 Bt.a_mIsxO Bt.a_mIsVE Bt.a_mPar Bt.a_mRaiseN Bt.a_mTry0 Bt.a_mZipE Bt.a_mLrg2 Bt.a_mLrg1 Bt.argSl Bt.apartA Bt.isOwn Bt.putB Bt.okAsg Bt.parBack Bt.slD Bt.addD Bt.subD Bt.mulD Bt.fdivD Bt.modD Bt.powD Bt.ltD Bt.leD Bt.gtD Bt.geD Bt.isD Bt.isntD Bt.isNone Bt.ixD Bt.lenF Bt.intF Bt.minF Bt.maxF Bt.tupleF Bt.listF Bt.notX_none Bt.notX_bool Bt.notX_int Bt.notX_str Bt.notX_list Bt.notX_tuple Bt.isi_none Bt.isi_bool Bt.isi_int Bt.isi_str Bt.isi_list Bt.isi_tuple Bt.tyIs Bt.pkD Bt.addL Bt.mulL Bt.listL Bt.revD Bt.borSl Bt.flatD Bt.isDic Bt.dkOf Bt.keyOf Bt.isCls_x Bt.isCls_n Bt.xOf_0 Bt.xOf_1 Bt.isSub_0 Bt.lift_some Bt.ll0 Bt.ll1 Bt.ll2 Bt.ll3 Bt.ll4 Bt.ll5 Bt.ll6 Bt.ll7 Bt.ll8 Bt.ll9 Bt.ll10 Bt.ll11 Bt.ll12 Bt.ll13 Bt.ll14 Bt.ll15 Bt.ll16".splitOn " ").toArray.mapM fun s => do
      let x ← `(Lean.Parser.Tactic.simpLemma| $(Lean.mkIdent s.toName):term)
      pure ⟨x.raw⟩
    `(tactic| simp [$a,*, $b,*])
namespace Lw
open PySem L2 Bt
theorem okS {i : Int} (h : -(10 ^ 30) ≤ i) (h2 : i ≤ 10 ^ 30) : okI i = true := okI_of (by omega) (by omega)
theorem take_ok (n s : Int) (h : 0 < s) (h2 : okI s = true) : s__law_take [(.ow (.l [.int n])), .dat (.int s)] = .ok (.dat (.int (n % s))) [(.ow (.l [.int (n / s)])), .dat (.int s)] := by
  simp! [s__law_take, m__law_take, atI, ixN, h, h2]
theorem mixed_ok (c k : Int) (h1 : 0 ≤ k) (h2 : k ≤ 10 ^ 6) : ∃ r, 0 ≤ r ∧ r < 2147483579 ∧ s__law_mixed [.dat (.int c), .dat (.int k)] = .ok (.dat (.int r)) [.dat (.int c), .dat (.int k)] := by
  have a0 : 0 ≤ c % 2147483647 := Int.emod_nonneg _ (by omega)
  have a1 : c % 2147483647 < 2147483647 := Int.emod_lt_of_pos _ (by omega)
  have o1 : okI (c % 2147483647) = true := okS (by omega) (by omega)
  have o2 : okI k = true := okS (by omega) (by omega)
  have o3 : okI 48271 = true := okS (by omega) (by omega)
  have o4 : okI 69621 = true := okS (by omega) (by omega)
  generalize e1 : (c % 2147483647 * 48271 + k * 69621 + 1048583) % 2147483629 = x
  have x0 : 0 ≤ x := by rw [← e1]; exact Int.emod_nonneg _ (by omega)
  have x1 : x < 2147483629 := by rw [← e1]; exact Int.emod_lt_of_pos _ (by omega)
  have o5 : okI x = true := okS (by omega) (by omega)
  generalize e2 : x * x % 2147483587 = y
  have y0 : 0 ≤ y := by rw [← e2]; exact Int.emod_nonneg _ (by omega)
  have y1 : y < 2147483587 := by rw [← e2]; exact Int.emod_lt_of_pos _ (by omega)
  have o6 : okI y = true := okS (by omega) (by omega)
  have o7 : okI (y + 2) = true := okS (by omega) (by omega)
  refine ⟨y * (y + 2) % 2147483579, Int.emod_nonneg _ (by omega), Int.emod_lt_of_pos _ (by omega), ?_⟩
  simp! [s__law_mixed, m__law_mixed, o1, o2, o3, o4, e1, o5, e2, o6, o7]
theorem B_pow (m : Nat) (h : m ≤ 24) : (2147483579 : Int) ^ m ≤ 10 ^ 300 := by
  have h1 : (2147483579 : Nat) ^ m ≤ 2147483579 ^ 24 := Nat.pow_le_pow_right (by decide) h
  have h2 : (2147483579 : Nat) ^ 24 ≤ 10 ^ 300 := by decide +kernel
  have h3 := Nat.le_trans h1 h2
  have h4 : ((2147483579 ^ m : Nat) : Int) ≤ ((10 ^ 300 : Nat) : Int) := Int.ofNat_le.mpr h3
  rw [Int.natCast_pow, Int.natCast_pow] at h4
  exact h4
def cellI (ns : List Int) (k c : Int) (ds : List D) (E : En) : Prop := ∃ x, E = [.scr ns, .dat (.int k), .dat (.int c), .dat (.int x), .un] ∧ 0 ≤ x ∧ x < 2147483579 ^ (24 - ds.length) ∧ ds.length ≤ 24 ∧ ∀ d ∈ ds, ∃ i, d = .int i ∧ 0 ≤ i ∧ i < 24
theorem cell_turn {ns : List Int} {k c : Int} (hk : 0 ≤ k) (hk2 : k ≤ 100) (d : D) (ds : List D) (E : En) (h : cellI ns k c (d :: ds) E) : ∃ E1 E2, gN 4 d E = some E1 ∧ (lp__law_cell_1 E1 = .ok .nx E2 ∨ lp__law_cell_1 E1 = .ok .ct E2) ∧ cellI ns k c ds (wipeE E2 [4]) := by
  obtain ⟨x, rfl, x0, x1, hl, hd⟩ := h
  obtain ⟨i, rfl, i0, i1⟩ := hd d List.mem_cons_self
  rw [List.length_cons] at x1 hl
  have hii : 0 ≤ i * i ∧ i * i ≤ 24 * 24 := ⟨Int.mul_nonneg i0 i0, Int.mul_le_mul (by omega) (by omega) i0 (by omega)⟩
  obtain ⟨r, r0, r1, hm⟩ := mixed_ok c (7 * k + 100 * i + i * i) (by omega) (by omega)
  have px := B_pow (24 - (ds.length + 1)) (by omega)
  have o1 : okI x = true := okI_of (by omega) (by omega)
  have o2 : okI 2147483579 = true := okS (by omega) (by omega)
  have o3 : okI 7 = true := okS (by omega) (by omega)
  have o4 : okI 100 = true := okS (by omega) (by omega)
  have o5 : okI k = true := okS (by omega) (by omega)
  have o6 : okI i = true := okS (by omega) (by omega)
  refine ⟨[.scr ns, .dat (.int k), .dat (.int c), .dat (.int x), .dat (.int i)], [.scr ns, .dat (.int k), .dat (.int c), .dat (.int (x * 2147483579 + r)), .dat (.int i)], rfl, .inl ?_, ?_⟩
  · simp! [lp__law_cell_1, hm, o1, o2, o3, o4, o5, o6]
  · refine ⟨_, rfl, by have := Int.mul_nonneg x0 (show (0 : Int) ≤ 2147483579 by omega); omega, ?_, by omega, fun d hd' => hd d (List.mem_cons_of_mem _ hd')⟩
    rw [show 24 - ds.length = 24 - (ds.length + 1) + 1 by omega, Int.pow_succ]
    have : (x + 1) * 2147483579 ≤ 2147483579 ^ (24 - (ds.length + 1)) * 2147483579 := Int.mul_le_mul_of_nonneg_right (by omega) (by omega)
    omega
theorem cell_loop (ns : List Int) (k c : Int) (hk : 0 ≤ k) (hk2 : k ≤ 100) : ∃ x, fr__law_cell_1 [.scr ns, .dat (.int k), .dat (.int c), .dat (.int 0), .un] = .ok .nx [.scr ns, .dat (.int k), .dat (.int c), .dat (.int x), .un] := by
  obtain ⟨E', ⟨x, rfl, _⟩, hf⟩ := for_inv (ws := [4]) (mi := mRng1 (mCons (mD (Bt.ret (.int 24))) (Bt.ret []))) (g := gN 4) (mb := lp__law_cell_1) (E0 := [.scr ns, .dat (.int k), .dat (.int c), .dat (.int 0), .un]) (cellI ns k c) (its := rangeD 0 24) (E := [.scr ns, .dat (.int k), .dat (.int c), .dat (.int 0), .un]) (by simp! [rgOk_eq]) ⟨0, rfl, Int.le_refl _, by rw [rangeD_length]; decide, by rw [rangeD_length]; decide, fun d hd => by
    obtain ⟨i, rfl, h1, h2⟩ := rangeD_mem hd
    exact ⟨i, rfl, h1, h2⟩⟩ (fun d ds E h => cell_turn hk hk2 d ds E h)
  exact ⟨x, hf⟩
theorem cell_ok (ns : List Int) (k : Int) (hk : 0 ≤ k) (hk2 : k ≤ 100) : ∃ n, s__law_cell [.scr ns, .dat (.int k)] = .ok (.dat (.int n)) [.scr ns, .dat (.int k)] := by
  have o : okI ((10 : Int) ^ 60) = true := okI_of (by decide) (by decide +kernel)
  have o2 : okI ((10 : Int) ^ 60 * 10 ^ 60) = true := okI_of (by decide) (by decide +kernel)
  have o3 : okI ((10 : Int) ^ 60 * 10 ^ 60 * 10 ^ 60) = true := okI_of (by decide) (by decide +kernel)
  simp at o o2 o3
  have key : ∀ c : Int, (∃ n, (if (1000000000000000000 : Int) ≤ c then (c - 1000000000000000000) % (10 ^ 60 * 10 ^ 60 * 10 ^ 60 * 10 ^ 60) = n else ∃ x, fr__law_cell_1 [.scr ns, .dat (.int k), .dat (.int c), .dat (.int 0), .un] = .ok .nx [.scr ns, .dat (.int k), .dat (.int c), .dat (.int x), .un] ∧ x = n)) := fun c => by
    by_cases z : (1000000000000000000 : Int) ≤ c
    · exact ⟨_, by rw [if_pos z]⟩
    · obtain ⟨x, hx⟩ := cell_loop ns k c hk hk2
      exact ⟨x, by rw [if_neg z]; exact ⟨x, hx, rfl⟩⟩
  by_cases z : k < (ns.length : Int)
  · obtain ⟨j, rfl⟩ := Int.eq_ofNat_of_zero_le hk
    have hj : j < ns.length := by omega
    have ha : atI ns ((j : Nat) : Int) = some ns[j] := atI_nat (List.getElem?_eq_getElem hj)
    obtain ⟨n, hn⟩ := key ns[j]
    refine ⟨n, ?_⟩
    by_cases z2 : (1000000000000000000 : Int) ≤ ns[j]
    · rw [if_pos z2] at hn
      rw [← hn]
      simp! [s__law_cell, m__law_cell, hj, ha, z2, o, o2, o3]
    · rw [if_neg z2] at hn
      obtain ⟨x, hx, rfl⟩ := hn
      simp! [s__law_cell, m__law_cell, hj, ha, z2, o, o2, o3, hx]
  · obtain ⟨n, hn⟩ := key 0
    refine ⟨n, ?_⟩
    rw [if_neg (by omega)] at hn
    obtain ⟨x, hx, rfl⟩ := hn
    simp! [s__law_cell, m__law_cell, z, o, o2, o3, hx]
end Lw
namespace Lw
open PySem L2 Bt
abbrev Pile := List (Int × Int)
def encL (q : Int × Int) : D := .tuple [.int q.1, .int q.2]
def enc (p : Pile) : D := .tuple (p.map encL)
structure Gd (p : Pile) : Prop where
  w1 : ∀ q ∈ p, 1 ≤ q.1
  w2 : ∀ q ∈ p, q.1 ≤ 10 ^ 13
  m1 : ∀ q ∈ p, 1 ≤ q.2
  m2 : ∀ q ∈ p, q.2 ≤ 10 ^ 13
  up : p.Pairwise fun a b => a.1 < b.1
  len : p.length ≤ 1000
def S (p : Pile) : Int := (p.map fun q => q.1 * q.2).sum
def L (p : Pile) (c : Int) : Int := ((p.filter fun q => decide (q.1 < c)).map fun q => q.1 * q.2).sum
theorem gd_lim {p : Pile} (h : Gd p) : p.length ≤ LIM := Nat.le_trans h.len (by decide)
theorem at0 {α : Type} (a : α) (l : List α) : atI (a :: l) 0 = some a := by simp [atI, ixN]
theorem at1 {α : Type} (a b : α) (l : List α) : atI (a :: b :: l) 1 = some b := by
  unfold atI ixN
  rw [if_pos (by omega), if_pos (by simp only [List.length_cons]; omega)]
  rfl
theorem is_from_int (i l : Int) : s_is_from [.dat (.int i), .dat (.int l)] = .ok (.dat (.bool (decide (l ≤ i)))) [.dat (.int i), .dat (.int l)] := by
  simp! [s_is_from, m_is_from]
theorem look_num (i l : Int) (h : l ≤ i) : s_look_at_number [.dat (.int i), .dat (.int l)] = .ok (.dat .none) [.dat (.int i), .dat (.int l)] := by
  simp! [s_look_at_number, m_look_at_number, is_from_int, h]
theorem is_lot_ok (q : Int × Int) : s_is_lot [.dat (encL q)] = .ok (.dat (.bool (decide (1 ≤ q.1) && decide (1 ≤ q.2)))) [.dat (encL q)] := by
  by_cases h : 1 ≤ q.1 <;> simp! [s_is_lot, m_is_lot, encL, is_from_int, atI, ixN, eqD_int, h]
theorem zipD_map {α β : Type} (f : α → D) (g : β → D) : ∀ (xs : List α) (ys : List β), zipD (xs.map f) (ys.map g) = (xs.zip ys).map fun q => .tuple [f q.1, g q.2]
  | [], _ => by simp [zipD]
  | _ :: _, [] => by simp [zipD]
  | x :: xs, y :: ys => by
    have := zipD_map f g xs ys
    unfold zipD at this ⊢
    simp [this]
theorem cut1 (xs : List D) : cutD xs (some 1) none = xs.drop 1 := by
  unfold cutD
  rw [show HT.sIx xs.length 0 (some 1) = min 1 xs.length from HT.sIx_nat xs.length 0 1, HT.sIx_none]
  cases xs with
  | nil => rfl
  | cons x r =>
    rw [show min 1 (x :: r).length = 1 by rw [List.length_cons]; omega]
    show (List.take ((x :: r).length - 1) r) = r
    rw [List.length_cons, Nat.add_sub_cancel]
    exact List.take_length
theorem up_zip {p : Pile} (h : p.Pairwise fun a b => a.1 < b.1) : ∀ q ∈ p.zip (p.drop 1), q.1.1 < q.2.1 := by
  induction p with
  | nil => intro q hq; simp at hq
  | cons a r ih =>
    intro q hq
    cases r with
    | nil => simp at hq
    | cons b r =>
      have hp := List.pairwise_cons.mp h
      rw [List.drop_one, List.tail_cons] at hq
      rcases List.mem_cons.mp (show q ∈ (a, b) :: (b :: r).zip r from hq) with rfl | hq
      · exact hp.1 b List.mem_cons_self
      · exact ih hp.2 q (by rw [List.drop_one, List.tail_cons]; exact hq)
theorem isi_enc (p : Pile) : isiD "tuple" (enc p) = true := rfl
theorem is_pile_ok {p : Pile} (h : Gd p) : s_is_pile [.dat (enc p)] = .ok (.dat (.bool true)) [.dat (enc p)] := by
  have e1 : lc_is_pile_1 [.dat (enc p), .un, .un, .un] = .ok (.list (p.map fun _ => .bool true)) [.dat (enc p), .un, .un, .un] := by
    unfold lc_is_pile_1
    exact lc_map p encL (fun _ => .bool true) (by simp! [enc]) (by simp) (fun q hq => by simp! [elF, wipeE, is_lot_ok, h.w1 q hq, h.m1 q hq]) (gd_lim h)
  have e2 : lc_is_pile_2 [.dat (enc p), .un, .un, .un] = .ok (.list ((p.zip (p.drop 1)).map fun _ => .bool true)) [.dat (enc p), .un, .un, .un] := by
    unfold lc_is_pile_2
    refine lc_map (p.zip (p.drop 1)) (fun q => .tuple [encL q.1, encL q.2]) (fun _ => .bool true) (by simp! [enc, cut1, ← List.map_tail, zipD_map]) (by simp) (fun q hq => by simp! [elF, wipeE, encL, atI, ixN, up_zip h.up q hq]) ?_
    rw [List.length_zip]
    have := gd_lim h
    omega
  simp! [s_is_pile, m_is_pile, e1, e2, allF_map, isi_enc, show notX (enc p) = true from rfl]
theorem look_pile {p : Pile} (h : Gd p) : s_look_at_pile [.dat (enc p)] = .ok (.dat .none) [.dat (enc p)] := by
  simp! [s_look_at_pile, m_look_at_pile, is_pile_ok h]
end Lw
namespace Lw
open PySem L2 Bt
def isFl (l : Int) : D → Bool
  | .int i => decide (l ≤ i)
  | _ => false
theorem is_from_gen (l : Int) (d : D) (h : notX d = true) : s_is_from [.dat d, .dat (.int l)] = .ok (.dat (.bool (isFl l d))) [.dat d, .dat (.int l)] := by
  cases d with
  | dict _ => exact absurd h Bool.false_ne_true
  | int i => rw [is_from_int]; rfl
  | none => simp! [s_is_from, m_is_from, isFl]
  | bool b => simp! [s_is_from, m_is_from, isFl]
  | str b => simp! [s_is_from, m_is_from, isFl]
  | list b => simp! [s_is_from, m_is_from, isFl]
  | tuple b => simp! [s_is_from, m_is_from, isFl]
theorem look_num_bad (l : Int) (d : D) (h : notX d = true) (hf : isFl l d = false) : s_look_at_number [.dat d, .dat (.int l)] = .ex ⟨4, none⟩ [.dat d, .dat (.int l)] := by
  simp! [s_look_at_number, m_look_at_number, is_from_gen l d h, hf]
theorem nx_lay {d : D} (h : d.canLay0 = true) : notX d = true := by
  cases d with
  | dict _ => simp [PyData.canLay0] at h
  | _ => rfl
theorem lay_mem {ds : List D} (h : PyData.canLayAll0 ds = true) {d : D} (hd : d ∈ ds) : d.canLay0 = true := by
  induction ds with
  | nil => cases hd
  | cons x ds ih =>
    simp only [PyData.canLayAll0, Bool.and_eq_true] at h
    rcases List.mem_cons.mp hd with rfl | hd
    · exact h.1
    · exact ih h.2 hd
def isLotB : D → Bool
  | .tuple [a, b] => isFl 1 a && isFl 1 b
  | _ => false
theorem is_lot_gen (d : D) (h : d.canLay0 = true) : s_is_lot [.dat d] = .ok (.dat (.bool (isLotB d))) [.dat d] := by
  cases d with
  | dict _ => simp [PyData.canLay0] at h
  | none => simp! [s_is_lot, m_is_lot, isLotB]
  | bool b => simp! [s_is_lot, m_is_lot, isLotB]
  | str b => simp! [s_is_lot, m_is_lot, isLotB]
  | list b => simp! [s_is_lot, m_is_lot, isLotB]
  | int b => simp! [s_is_lot, m_is_lot, isLotB]
  | tuple ds =>
    have h' : PyData.canLayAll0 ds = true := by simpa [PyData.canLay0] using h
    match ds, h' with
    | [], _ => simp! [s_is_lot, m_is_lot, isLotB, eqD_int]
    | [a], _ => simp! [s_is_lot, m_is_lot, isLotB, eqD_int]
    | [a, b], h' =>
      have ha := is_from_gen 1 a (nx_lay (lay_mem h' (by simp)))
      have hb := is_from_gen 1 b (nx_lay (lay_mem h' (by simp)))
      cases e1 : isFl 1 a with
      | false => rw [e1] at ha; simp! [s_is_lot, m_is_lot, isLotB, eqD_int, at0, at1, ha, e1]
      | true => rw [e1] at ha; simp! [s_is_lot, m_is_lot, isLotB, eqD_int, at0, at1, ha, hb, e1]
    | a :: b :: c :: r, _ =>
      have e : ¬ ((r.length : Int) + 1 + 1 + 1 = 2) := by omega
      simp! [s_is_lot, m_is_lot, isLotB, eqD_int, e]
def toLot : D → Int × Int
  | .tuple [.int a, .int b] => (a, b)
  | _ => (0, 0)
theorem lot_enc {d : D} (h : isLotB d = true) : d = encL (toLot d) ∧ 1 ≤ (toLot d).1 ∧ 1 ≤ (toLot d).2 := by
  unfold isLotB at h
  split at h
  · rename_i a b
    rw [Bool.and_eq_true] at h
    cases a with
    | int i =>
      cases b with
      | int j => exact ⟨rfl, of_decide_eq_true h.1, of_decide_eq_true h.2⟩
      | _ => exact absurd h.2 Bool.false_ne_true
    | _ => exact absurd h.1 Bool.false_ne_true
  · cases h
def isPileB : D → Bool
  | .tuple ds => ds.all isLotB && ((ds.map toLot).zip ((ds.map toLot).drop 1)).all fun q => decide (q.1.1 < q.2.1)
  | _ => false
theorem is_pile_gen (d : D) (h : d.canLay0 = true) (hl : ∀ ds, d = .tuple ds → ds.length ≤ 1000) : s_is_pile [.dat d] = .ok (.dat (.bool (isPileB d))) [.dat d] := by
  cases d with
  | dict _ => simp [PyData.canLay0] at h
  | none => simp! [s_is_pile, m_is_pile, isPileB]
  | bool b => simp! [s_is_pile, m_is_pile, isPileB]
  | str b => simp! [s_is_pile, m_is_pile, isPileB]
  | list b => simp! [s_is_pile, m_is_pile, isPileB]
  | int b => simp! [s_is_pile, m_is_pile, isPileB]
  | tuple ds =>
    have h' : PyData.canLayAll0 ds = true := by simpa [PyData.canLay0] using h
    have hlen : ds.length ≤ LIM := Nat.le_trans (hl ds rfl) (by decide)
    have e1 : lc_is_pile_1 [.dat (.tuple ds), .un, .un, .un] = .ok (.list (ds.map fun d => .bool (isLotB d))) [.dat (.tuple ds), .un, .un, .un] := by
      unfold lc_is_pile_1
      exact lc_map ds id (fun d => .bool (isLotB d)) (by simp! [eq_self]) (by simp) (fun q hq => by simp! [elF, wipeE, is_lot_gen q (lay_mem h' hq)]) hlen
    cases ea : ds.all isLotB with
    | false =>
      simp only [isPileB, ea, Bool.false_and]
      simp! [s_is_pile, m_is_pile, e1, allF_map, ea]
    | true =>
      have hd : ds = (ds.map toLot).map encL := by
        rw [List.map_map]
        conv => lhs; rw [← List.map_id ds]
        refine List.map_congr_left fun d hd => ?_
        exact (lot_enc (List.all_eq_true.mp ea d hd)).1
      simp only [isPileB, ea, Bool.true_and]
      generalize hp : ds.map toLot = p at hd ⊢
      have hpl : p.length ≤ LIM := by rw [← hp, List.length_map]; exact hlen
      have e2 : lc_is_pile_2 [.dat (.tuple ds), .un, .un, .un] = .ok (.list ((p.zip (p.drop 1)).map fun q => .bool (decide (q.1.1 < q.2.1)))) [.dat (.tuple ds), .un, .un, .un] := by
        unfold lc_is_pile_2
        refine lc_map (p.zip (p.drop 1)) (fun q => .tuple [encL q.1, encL q.2]) _ (by rw [hd]; simp! [cut1, ← List.map_tail, zipD_map]) (by simp) (fun q hq => by simp! [elF, wipeE, encL, atI, ixN]) ?_
        rw [List.length_zip]
        omega
      simp! [s_is_pile, m_is_pile, e1, e2, allF_map, ea]
theorem look_pile_bad (d : D) (h : d.canLay0 = true) (hl : ∀ ds, d = .tuple ds → ds.length ≤ 1000) (hb : isPileB d = false) : s_look_at_pile [.dat d] = .ex ⟨1, none⟩ [.dat d] := by
  simp! [s_look_at_pile, m_look_at_pile, is_pile_gen d h hl, hb]
end Lw
namespace Lw
open PySem L2 Bt
mutual
def okD : D → Bool
  | .str x => PyData.strOk x && decide (x.length ≤ 1000)
  | .list ds => decide (ds.length ≤ 1000) && okDs ds
  | .tuple ds => decide (ds.length ≤ 1000) && okDs ds
  | .dict _ => false
  | _ => true
def okDs : List D → Bool
  | [] => true
  | d :: ds => okD d && okDs ds
end
def lets : Str := Str.ofString "abcdefghijklmnopqrstuvwxyz"
def nameS (x : Str) : Bool := decide (1 ≤ x.length) && decide (x.length ≤ 8) && x.cps.toList.all fun c => decide (c ∈ lets.cps.toList)
def nameB : D → Bool
  | .str x => nameS x
  | _ => false
theorem inSign (c : Nat) (z : Str) : inD (.str ⟨#[c]⟩) (.str z) = some (.bool (decide (c ∈ z.cps.toList))) := rfl
theorem is_name_gen (d : D) (h : okD d = true) : s_is_name [.dat d] = .ok (.dat (.bool (nameB d))) [.dat d] := by
  cases d with
  | dict _ => simp [okD] at h
  | none => simp! [s_is_name, m_is_name, nameB]
  | bool b => simp! [s_is_name, m_is_name, nameB]
  | int b => simp! [s_is_name, m_is_name, nameB]
  | list b => simp! [s_is_name, m_is_name, nameB]
  | tuple b => simp! [s_is_name, m_is_name, nameB]
  | str x =>
    simp only [okD, Bool.and_eq_true, decide_eq_true_eq] at h
    have hl : x.length ≤ LIM := Nat.le_trans h.2 (by decide)
    have e1 : lc_is_name_1 [.dat (.str x), .un] = .ok (.list (x.cps.toList.map fun c => .bool (decide (c ∈ lets.cps.toList)))) [.dat (.str x), .un] := by
      unfold lc_is_name_1
      refine lc_map x.cps.toList (fun c => .str ⟨#[c]⟩) _ (by simp! [itemsOf, signsD]) (by simp) (fun q hq => by simp! [elF, wipeE, inSign, lets]) ?_
      have : x.cps.toList.length = x.length := by simp [Str.length]
      rw [this]
      exact Nat.le_trans h.2 (by decide)
    unfold nameB nameS
    by_cases h1 : 1 ≤ x.length
    · by_cases h2 : x.length ≤ 8
      · have g1 : (1 : Int) ≤ (x.length : Nat) := by omega
        have g2 : ((x.length : Nat) : Int) ≤ 8 := by omega
        simp! [s_is_name, m_is_name, hl, e1, allF_map, h1, h2, g1, g2]
      · have g1 : (1 : Int) ≤ (x.length : Nat) := by omega
        have g2 : ¬ ((x.length : Nat) : Int) ≤ 8 := by omega
        simp! [s_is_name, m_is_name, hl, h1, h2, g1, g2]
    · have g1 : ¬ (1 : Int) ≤ (x.length : Nat) := by omega
      simp! [s_is_name, m_is_name, hl, h1, g1]
theorem at2' {α : Type} (a b c : α) (l : List α) : atI (a :: b :: c :: l) 2 = some c := by
  unfold atI ixN
  rw [if_pos (by omega), if_pos (by simp only [List.length_cons]; omega)]
  rfl
end Lw
namespace Bt
open PySem L2
section
variable {E : En}
end
theorem wipeE_out {E : En} {i : Nat} : ∀ {vs : List Nat}, i ∉ vs → (wipeE E vs)[i]? = E[i]?
  | [], _ => rfl
  | v :: vs, h => by
    have e : v ≠ i := fun e => h (e ▸ List.mem_cons_self)
    show ((wipeE E vs).set v .un)[i]? = _
    rw [List.getElem?_set_ne e]
    exact wipeE_out fun z => h (List.mem_cons_of_mem _ z)
theorem wipeE_in {E : En} {i : Nat} : ∀ {vs : List Nat}, i ∈ vs → i < E.length → (wipeE E vs)[i]? = some .un
  | [], h, _ => by cases h
  | v :: vs, h, hl => by
    show ((wipeE E vs).set v .un)[i]? = _
    by_cases e : v = i
    · subst e
      rw [List.getElem?_set_self (by rw [wipeE_length]; exact hl)]
    · rw [List.getElem?_set_ne e]
      cases h with
      | head => exact absurd rfl e
      | tail _ h => exact wipeE_in h hl
theorem wipeE_sub {E E' : En} {vs vs1 : List Nat} (h : wipeE E' vs1 = wipeE E vs1) (hv : ∀ i ∈ vs1, i ∈ vs) : wipeE E' vs = wipeE E vs := by
  have hl : E'.length = E.length := by rw [← wipeE_length E' vs1, h, wipeE_length]
  refine List.ext_getElem? fun i => ?_
  by_cases hi : i ∈ vs
  · by_cases hl2 : i < E.length
    · rw [wipeE_in hi hl2, wipeE_in hi (by rw [hl]; exact hl2)]
    · rw [List.getElem?_eq_none (by rw [wipeE_length]; omega), List.getElem?_eq_none (by rw [wipeE_length]; omega)]
  · have h1 : i ∉ vs1 := fun z => hi (hv i z)
    rw [wipeE_out hi, wipeE_out hi, ← wipeE_out (E := E') h1, h, wipeE_out h1]
theorem lc2In_el {β : Type} {vs1 : List Nat} {g1 : MG} {mt1 : M Bool} {me : M D} {Ew : En} {en1 : β → D} {y : β → D} : ∀ (ys : List β) (E1 : En) (acc : List D), wipeE E1 vs1 = Ew → (∀ b ∈ ys, elF vs1 g1 mt1 me Ew (en1 b) = some (some (y b))) → acc.length + ys.length ≤ LIM →
    ∃ E', wipeE E' vs1 = Ew ∧ lc2In vs1 g1 mt1 me (ys.map en1) E1 acc = .ok (acc ++ ys.map y) E'
  | [], E1, acc, h1, _, _ => ⟨E1, h1, by simp [lc2In]⟩
  | q :: p, E1, acc, h1, h, hl => by
    have hq := h q List.mem_cons_self
    have ih := fun E2 acc' e2 hl' => lc2In_el p E2 acc' e2 (fun q hq => h q (List.mem_cons_of_mem _ hq)) hl'
    rw [List.length_cons] at hl
    rw [List.map_cons]
    unfold lc2In
    rw [h1]
    unfold elF at hq
    cases eg : g1 (en1 q) Ew with
    | none => rw [eg] at hq; cases hq
    | some E2 =>
      rw [eg] at hq
      dsimp only at hq ⊢
      cases et : mt1 E2 with
      | bad => rw [et] at hq; cases hq
      | ex _ _ => rw [et] at hq; cases hq
      | ok b E3 =>
        rw [et] at hq
        cases b with
        | false =>
          dsimp only at hq
          split at hq <;> cases hq
        | true =>
          dsimp only at hq ⊢
          cases em : me E3 with
          | bad => rw [em] at hq; cases hq
          | ex _ _ => rw [em] at hq; cases hq
          | ok z E4 =>
            rw [em] at hq
            dsimp only at hq ⊢
            split at hq
            · rename_i hw
              have e : z = y q := Option.some.inj (Option.some.inj hq)
              rw [if_pos (by omega), e]
              obtain ⟨E', q1, q2⟩ := ih E4 (acc ++ [y q]) hw (by rw [List.length_append, List.length_singleton]; omega)
              exact ⟨E', q1, by rw [q2, List.append_assoc]; rfl⟩
            · cases hq
theorem lc2Go_el {α β : Type} {vs vs1 : List Nat} {g g1 : MG} {mt mt1 : M Bool} {mi1 : M (List D)} {me : M D} {E Ew : En} {en : α → D} {q : α → List β} {en1 : β → D} {y : β → D} (hv : ∀ i ∈ vs1, i ∈ vs) : ∀ (p : List α) (E1 : En) (acc : List D), wipeE E1 vs = Ew →
    (∀ a ∈ p, ∃ E2, g (en a) Ew = some E2 ∧ mt E2 = .ok true E2 ∧ mi1 E2 = .ok ((q a).map en1) E2 ∧ wipeE E2 vs = Ew ∧ ∀ b ∈ q a, elF vs1 g1 mt1 me (wipeE E2 vs1) (en1 b) = some (some (y b))) → acc.length + (p.flatMap q).length ≤ LIM →
    ∃ E', wipeE E' vs = Ew ∧ lc2Go vs vs1 g g1 mt mt1 mi1 me E (p.map en) E1 acc = .ok (.list (acc ++ (p.flatMap q).map y)) (backE E E' vs)
  | [], E1, acc, h1, _, _ => ⟨E1, h1, by simp [lc2Go]⟩
  | a :: p, E1, acc, h1, h, hl => by
    obtain ⟨E2, e1, e2, e3, e4, e5⟩ := h a List.mem_cons_self
    rw [List.flatMap_cons, List.length_append] at hl
    obtain ⟨E3, w3, e6⟩ := lc2In_el (q a) E2 acc rfl e5 (by omega)
    have w4 : wipeE E3 vs = Ew := (wipeE_sub w3 hv).trans e4
    obtain ⟨E', q1, q2⟩ := lc2Go_el (E := E) hv p E3 (acc ++ (q a).map y) w4 (fun a ha => h a (List.mem_cons_of_mem _ ha)) (by rw [List.length_append, List.length_map]; omega)
    refine ⟨E', q1, ?_⟩
    rw [List.map_cons]
    unfold lc2Go
    rw [h1, e1]
    dsimp only
    rw [e2]
    dsimp only
    rw [e3]
    dsimp only
    rw [e6]
    dsimp only
    rw [q2, List.flatMap_cons, List.map_append, List.append_assoc]
theorem lc2_map {α β : Type} {mi mi1 : M (List D)} {vs vs1 : List Nat} {g g1 : MG} {mt mt1 : M Bool} {me : M D} {E E0 : En} (p : List α) (en : α → D) (q : α → List β) (en1 : β → D) (y : β → D) (hi : mi E0 = .ok (p.map en) E) (hv : ∀ v ∈ vs, (∃ d, E[v]? = some (.dat d)) ∨ E[v]? = some .un) (hs : ∀ i ∈ vs1, i ∈ vs)
    (h : ∀ a ∈ p, ∃ E2, g (en a) (wipeE E vs) = some E2 ∧ mt E2 = .ok true E2 ∧ mi1 E2 = .ok ((q a).map en1) E2 ∧ wipeE E2 vs = wipeE E vs ∧ ∀ b ∈ q a, elF vs1 g1 mt1 me (wipeE E2 vs1) (en1 b) = some (some (y b))) (hl : (p.flatMap q).length ≤ LIM) :
    mLc2 mi g mt mi1 g1 mt1 me vs vs1 E0 = .ok (.list ((p.flatMap q).map y)) E := by
  unfold mLc2 bnd
  rw [hi]
  obtain ⟨E', h1, h2⟩ := lc2Go_el (E := E) hs p E [] rfl h (by simpa using hl)
  show lc2Go vs vs1 g g1 mt mt1 mi1 me E (p.map en) E [] = _
  rw [h2, backE_same h1 hv, List.nil_append]
theorem skGo_el {α : Type} {vs : List Nat} {g : MG} {mt : M Bool} {me : M D} {E Ew : En} {en : α → D} {y : α → D} {ky : α → Key} : ∀ (p : List α) (E1 : En) (acc : List Key), wipeE E1 vs = Ew → (∀ q ∈ p, elF vs g mt me Ew (en q) = some (some (y q)) ∧ keyOf (y q) = some (ky q)) → acc.length + p.length ≤ 2000 →
    ∃ E', wipeE E' vs = Ew ∧ skGo vs g mt me E (p.map en) E1 acc = .ok (.int (cntK ((p.map ky).reverse ++ acc))) (backE E E' vs)
  | [], E1, acc, h1, _, _ => ⟨E1, h1, by simp [skGo]⟩
  | q :: p, E1, acc, h1, h, hl => by
    obtain ⟨hq, hk⟩ := h q List.mem_cons_self
    have ih := fun E2 acc' e2 hl' => skGo_el (E := E) (ky := ky) p E2 acc' e2 (fun q hq => h q (List.mem_cons_of_mem _ hq)) hl'
    rw [List.length_cons] at hl
    rw [List.map_cons]
    unfold skGo
    rw [h1]
    unfold elF at hq
    cases eg : g (en q) Ew with
    | none => rw [eg] at hq; cases hq
    | some E2 =>
      rw [eg] at hq
      dsimp only at hq ⊢
      cases et : mt E2 with
      | bad => rw [et] at hq; cases hq
      | ex _ _ => rw [et] at hq; cases hq
      | ok b E3 =>
        rw [et] at hq
        cases b with
        | false =>
          dsimp only at hq
          split at hq <;> cases hq
        | true =>
          dsimp only at hq ⊢
          cases em : me E3 with
          | bad => rw [em] at hq; cases hq
          | ex _ _ => rw [em] at hq; cases hq
          | ok z E4 =>
            rw [em] at hq
            dsimp only at hq ⊢
            split at hq
            · rename_i hw
              have e : z = y q := Option.some.inj (Option.some.inj hq)
              rw [e, hk]
              dsimp only
              rw [if_pos (by omega)]
              obtain ⟨E', q1, q2⟩ := ih E4 (ky q :: acc) hw (by rw [List.length_cons]; omega)
              exact ⟨E', q1, by rw [q2, List.map_cons, List.reverse_cons, List.append_assoc]; rfl⟩
            · cases hq
theorem lenK_map {α : Type} {mi : M (List D)} {vs : List Nat} {g : MG} {mt : M Bool} {me : M D} {E E0 : En} (p : List α) (en : α → D) (y : α → D) (ky : α → Key) (hi : mi E0 = .ok (p.map en) E) (hv : ∀ v ∈ vs, (∃ d, E[v]? = some (.dat d)) ∨ E[v]? = some .un) (h : ∀ q ∈ p, elF vs g mt me (wipeE E vs) (en q) = some (some (y q)) ∧ keyOf (y q) = some (ky q)) (hl : p.length ≤ 2000) :
    mLenK mi g mt me vs E0 = .ok (.int (cntK (p.map ky).reverse)) E := by
  unfold mLenK bnd
  rw [hi]
  obtain ⟨E', h1, h2⟩ := skGo_el (E := E) (ky := ky) p E [] rfl h (by simpa using hl)
  show skGo vs g mt me E (p.map en) E [] = _
  rw [h2, backE_same h1 hv, List.append_nil]
theorem cntK_eq : ∀ l : List Key, cntK l = l.length ↔ l.Nodup
  | [] => by simp [cntK]
  | k :: r => by
    have ih := cntK_eq r
    have le := cntK_le r
    unfold cntK
    rw [List.nodup_cons, List.length_cons]
    by_cases h : memK k r = true
    · rw [if_pos h]
      have hm := memK_iff.mp h
      constructor
      · intro e; omega
      · intro e; exact absurd hm e.1
    · rw [if_neg h]
      have hm : k ∉ r := fun z => h (memK_iff.mpr z)
      constructor
      · intro e; exact ⟨hm, ih.mp (by omega)⟩
      · intro e; rw [ih.mpr e.2]
end Bt
namespace Lw
open PySem L2 Bt
inductive Rt where
  | none
  | call (nm : Str) (most times : Int)
  | all (rs : List Rt)
  | one (rs : List Rt)
  | within (n : Int) (r : Rt)
  | calls (n : Int) (r : Rt)
mutual
theorem Rt.ind {P : Rt → Prop} (h0 : P .none) (h1 : ∀ x m t, P (.call x m t)) (h2 : ∀ rs, (∀ r ∈ rs, P r) → P (.all rs)) (h3 : ∀ rs, (∀ r ∈ rs, P r) → P (.one rs)) (h4 : ∀ n r, P r → P (.within n r)) (h5 : ∀ n r, P r → P (.calls n r)) : ∀ r, P r
  | .none => h0
  | .call x m t => h1 x m t
  | .all rs => h2 rs (Rt.inds h0 h1 h2 h3 h4 h5 rs)
  | .one rs => h3 rs (Rt.inds h0 h1 h2 h3 h4 h5 rs)
  | .within n r => h4 n r (Rt.ind h0 h1 h2 h3 h4 h5 r)
  | .calls n r => h5 n r (Rt.ind h0 h1 h2 h3 h4 h5 r)
theorem Rt.inds {P : Rt → Prop} (h0 : P .none) (h1 : ∀ x m t, P (.call x m t)) (h2 : ∀ rs, (∀ r ∈ rs, P r) → P (.all rs)) (h3 : ∀ rs, (∀ r ∈ rs, P r) → P (.one rs)) (h4 : ∀ n r, P r → P (.within n r)) (h5 : ∀ n r, P r → P (.calls n r)) : ∀ rs : List Rt, ∀ r ∈ rs, P r
  | [], _, h => nomatch h
  | q :: qs, r, h => by
    rcases List.mem_cons.mp h with e | h
    · rw [e]; exact Rt.ind h0 h1 h2 h3 h4 h5 q
    · exact Rt.inds h0 h1 h2 h3 h4 h5 qs r h
end
mutual
def encR : Rt → D
  | .none => .tuple [.str wNone]
  | .call x m t => .tuple [.str wCall, .str x, .int m, .int t]
  | .all rs => .tuple [.str wAll, .tuple (encRs rs)]
  | .one rs => .tuple [.str wOne, .tuple (encRs rs)]
  | .within n r => .tuple [.str wWithin, .int n, encR r]
  | .calls n r => .tuple [.str wCalls, .int n, encR r]
def encRs : List Rt → List D
  | [] => []
  | r :: rs => encR r :: encRs rs
end
theorem encRs_map : ∀ rs : List Rt, encRs rs = rs.map encR
  | [] => rfl
  | r :: rs => by rw [encRs, encRs_map rs, List.map_cons]
mutual
def dep : Rt → Nat
  | .none => 1
  | .call _ _ _ => 1
  | .all rs => 1 + deps rs
  | .one rs => 1 + deps rs
  | .within _ r => 1 + dep r
  | .calls _ r => 1 + dep r
def deps : List Rt → Nat
  | [] => 0
  | r :: rs => max (dep r) (deps rs)
end
theorem dep_mem {rs : List Rt} {r : Rt} (h : r ∈ rs) : dep r ≤ deps rs := by
  induction rs with
  | nil => cases h
  | cons q qs ih =>
    rw [deps]
    rcases List.mem_cons.mp h with rfl | h
    · exact Nat.le_max_left _ _
    · exact Nat.le_trans (ih h) (Nat.le_max_right _ _)
mutual
def wfR : Rt → Prop
  | .none => True
  | .call x m t => nameS x = true ∧ PyData.strOk x = true ∧ 1 ≤ m ∧ 1 ≤ t
  | .all rs => rs.length ≤ 1000 ∧ wfRs rs
  | .one rs => rs.length ≤ 1000 ∧ wfRs rs
  | .within n r => 1 ≤ n ∧ wfR r
  | .calls n r => 1 ≤ n ∧ wfR r
def wfRs : List Rt → Prop
  | [] => True
  | r :: rs => wfR r ∧ wfRs rs
end
theorem wf_mem {rs : List Rt} (h : wfRs rs) {r : Rt} (hr : r ∈ rs) : wfR r := by
  induction rs with
  | nil => cases hr
  | cons q qs ih =>
    rw [wfRs] at h
    rcases List.mem_cons.mp hr with rfl | hr
    · exact h.1
    · exact ih h.2 hr
theorem wfRs_of {rs : List Rt} (h : ∀ r ∈ rs, wfR r) : wfRs rs := by
  induction rs with
  | nil => trivial
  | cons q qs ih => exact ⟨h q List.mem_cons_self, ih fun r hr => h r (List.mem_cons_of_mem _ hr)⟩
theorem name_len {x : Str} (h : nameS x = true) : x.length ≤ 1000 := by
  unfold nameS at h
  simp only [Bool.and_eq_true, decide_eq_true_eq] at h
  omega
theorem ok_none : PyData.strOk wNone = true ∧ wNone.length ≤ 1000 := ⟨strOkW _, by decide +kernel⟩
theorem ok_call : PyData.strOk wCall = true ∧ wCall.length ≤ 1000 := ⟨strOkW _, by decide +kernel⟩
theorem ok_all : PyData.strOk wAll = true ∧ wAll.length ≤ 1000 := ⟨strOkW _, by decide +kernel⟩
theorem ok_one : PyData.strOk wOne = true ∧ wOne.length ≤ 1000 := ⟨strOkW _, by decide +kernel⟩
theorem ok_within : PyData.strOk wWithin = true ∧ wWithin.length ≤ 1000 := ⟨strOkW _, by decide +kernel⟩
theorem ok_calls : PyData.strOk wCalls = true ∧ wCalls.length ≤ 1000 := ⟨strOkW _, by decide +kernel⟩
end Lw
namespace Lw
open PySem L2 Bt
theorem fe_ws {k m : Nat} {w : Str} {n : Int} {q : D} (c1 : eqD (.str w) (.str (Str.ofString "none")) = some (.bool false)) (c2 : eqD (.str w) (.str (Str.ofString "call")) = some (.bool false)) (c3 : inD (.str w) (.tuple [.str (Str.ofString "within"), .str (Str.ofString "calls")]) = some (.bool true)) (hn : isFl 1 (.int n) = true) (e3 : s_is_form m [.dat q, .dat (.int (k : Nat))] = .ok (.dat (.bool true)) [.dat q, .dat (.int (k : Nat))]) : s_is_form (m + 1) [.dat (.tuple [.str w, .int n, q]), .dat (.int ((k : Int) + 1))] = .ok (.dat (.bool true)) [.dat (.tuple [.str w, .int n, q]), .dat (.int ((k : Int) + 1))] := by
  rw [r_is_form]
  have nl : ¬ ((k : Int) + 1 < 1) := by omega
  have ks : ((k : Int) + 1 - 1) = (k : Int) := by omega
  have e2 := is_from_gen 1 (.int n) rfl
  rw [hn] at e2
  have h16 : 2 ≤ 16000 := by decide
  simp! [m_is_form, eqD_int, at0, at1, nl, gStarM, gN, h16, c1, c2, c3, e2, e3, ks]
theorem fe_as {k m : Nat} {w : Str} {rs : List D} (c1 : eqD (.str w) (.str (Str.ofString "none")) = some (.bool false)) (c2 : eqD (.str w) (.str (Str.ofString "call")) = some (.bool false)) (c3 : inD (.str w) (.tuple [.str (Str.ofString "within"), .str (Str.ofString "calls")]) = some (.bool false)) (c5 : ninD (.str w) (.tuple [.str (Str.ofString "all"), .str (Str.ofString "one")]) = some (.bool false)) (hl : rs.length ≤ LIM) (ih : ∀ q ∈ rs, s_is_form m [.dat q, .dat (.int (k : Nat))] = .ok (.dat (.bool true)) [.dat q, .dat (.int (k : Nat))]) : s_is_form (m + 1) [.dat (.tuple [.str w, .tuple rs]), .dat (.int ((k : Int) + 1))] = .ok (.dat (.bool true)) [.dat (.tuple [.str w, .tuple rs]), .dat (.int ((k : Int) + 1))] := by
  rw [r_is_form]
  have nl : ¬ ((k : Int) + 1 < 1) := by omega
  have ks : ((k : Int) + 1 - 1) = (k : Int) := by omega
  have h16 : 1 ≤ 16000 := by decide
  have e1 : lc_is_form_1 (s_is_form m) [.dat (.tuple [.str w, .tuple rs]), .dat (.int ((k : Int) + 1)), .dat (.str w), .dat (.list [.tuple rs]), .un] = .ok (.list (rs.map fun d => .bool true)) [.dat (.tuple [.str w, .tuple rs]), .dat (.int ((k : Int) + 1)), .dat (.str w), .dat (.list [.tuple rs]), .un] := by
    unfold lc_is_form_1
    exact lc_map rs id _ (by simp! [at0, itemsOf]) (by simp) (fun q hq => by simp! [elF, wipeE, ks, ih q hq]) hl
  have e2 : allF [.list (rs.map fun _ => PyData.bool true)] = some (.bool true) := by rw [allF_map]; simp
  simp! [m_is_form, eqD_int, neD_int, at0, nl, gStarM, gN, h16, c1, c2, c3, c5, e1, e2]
theorem cE {x y : Str} (hx : PyData.strOk x = true) (hy : PyData.strOk y = true) (h : decide (x = y) = false) : eqD (.str x) (.str y) = some (.bool false) := by rw [eqS hx hy, h]
theorem is_form_enc (r : Rt) : ∀ k n, wfR r → dep r ≤ k → k < n → s_is_form n [.dat (encR r), .dat (.int (k : Nat))] = .ok (.dat (.bool true)) [.dat (encR r), .dat (.int (k : Nat))] := by
  have i3 : ∀ w : Str, inD (.str w) (.tuple [.str wWithin, .str wCalls]) = some (.bool (decide (w = wWithin) || decide (w = wCalls))) := fun w => inS2
  have i5 : ∀ w : Str, ninD (.str w) (.tuple [.str wAll, .str wOne]) = some (.bool (!(decide (w = wAll) || decide (w = wOne)))) := fun w => by
    have := @inS2 w wAll wOne
    unfold inD at this
    unfold ninD
    simp only [flatD, List.all_cons, List.all_nil, Bool.and_true, Bool.and_self, if_true, Option.some.injEq, PyData.bool.injEq] at this ⊢
    rw [this]
  have go : ∀ {r : Rt}, (∀ k m : Nat, wfR r → dep r ≤ k + 1 → k < m → s_is_form (m + 1) [.dat (encR r), .dat (.int ((k : Int) + 1))] = .ok (.dat (.bool true)) [.dat (encR r), .dat (.int ((k : Int) + 1))]) → 1 ≤ dep r → ∀ k n, wfR r → dep r ≤ k → k < n → s_is_form n [.dat (encR r), .dat (.int (k : Nat))] = .ok (.dat (.bool true)) [.dat (encR r), .dat (.int (k : Nat))] := by
    intro r h hd k n hw hk hn
    obtain ⟨k, rfl⟩ : ∃ j, k = j + 1 := ⟨k - 1, by omega⟩
    obtain ⟨m, rfl⟩ : ∃ m, n = m + 1 := ⟨n - 1, by omega⟩
    exact h k m hw hk (by omega)
  induction r using Rt.ind with
  | h0 =>
    refine go (fun k m _ _ _ => ?_) (by simp [dep])
    rw [r_is_form, encR]
    have nl : ¬ ((k : Int) + 1 < 1) := by omega
    have c1 : eqD (.str wNone) (.str (Str.ofString "none")) = some (.bool true) := by rw [show Str.ofString "none" = wNone from rfl, eqS (strOkW _) (strOkW _)]; simp
    have h16 : 0 ≤ 16000 := by decide
    simp! [m_is_form, eqD_int, at0, nl, gStarM, gN, h16, c1]
  | h1 x mm t =>
    refine go (fun k m h _ _ => ?_) (by simp [dep])
    simp only [wfR] at h
    rw [r_is_form, encR]
    have nl : ¬ ((k : Int) + 1 < 1) := by omega
    have c1 : eqD (.str wCall) (.str (Str.ofString "none")) = some (.bool false) := cE (strOkW _) (strOkW _) dw_call_none
    have c2 : eqD (.str wCall) (.str (Str.ofString "call")) = some (.bool true) := by rw [show Str.ofString "call" = wCall from rfl, eqS (strOkW _) (strOkW _)]; simp
    have h16 : 3 ≤ 16000 := by decide
    have e1 := is_name_gen (.str x) (by simp [okD, h.2.1, name_len h.1])
    have e2 := is_from_gen 1 (.int mm) rfl
    have e3 := is_from_gen 1 (.int t) rfl
    rw [show nameB (.str x) = true from h.1] at e1
    rw [show isFl 1 (.int mm) = true by simp [isFl, h.2.2.1]] at e2
    rw [show isFl 1 (.int t) = true by simp [isFl, h.2.2.2]] at e3
    simp! [m_is_form, eqD_int, at0, at1, at2', nl, gStarM, gN, h16, c1, c2, e1, e2, e3]
  | h2 rs ih =>
    refine go (fun k m h hk hm => ?_) (by simp [dep])
    simp only [wfR] at h
    simp only [dep] at hk
    rw [encR]
    refine fe_as (cE (strOkW _) (strOkW _) dw_all_none) (cE (strOkW _) (strOkW _) dw_all_call) ((i3 _).trans (by rw [dw_all_within, dw_all_calls]; rfl)) ((i5 _).trans (by simp)) (by rw [encRs_map, List.length_map]; exact Nat.le_trans h.1 (by decide)) fun d hd => ?_
    rw [encRs_map] at hd
    obtain ⟨q, hq, rfl⟩ := List.mem_map.mp hd
    exact ih q hq k m (wf_mem h.2 hq) (by have := dep_mem hq; omega) hm
  | h3 rs ih =>
    refine go (fun k m h hk hm => ?_) (by simp [dep])
    simp only [wfR] at h
    simp only [dep] at hk
    rw [encR]
    refine fe_as (cE (strOkW _) (strOkW _) dw_one_none) (cE (strOkW _) (strOkW _) dw_one_call) ((i3 _).trans (by rw [dw_one_within, dw_one_calls]; rfl)) ((i5 _).trans (by simp)) (by rw [encRs_map, List.length_map]; exact Nat.le_trans h.1 (by decide)) fun d hd => ?_
    rw [encRs_map] at hd
    obtain ⟨q, hq, rfl⟩ := List.mem_map.mp hd
    exact ih q hq k m (wf_mem h.2 hq) (by have := dep_mem hq; omega) hm
  | h4 n r ih =>
    refine go (fun k m h hk hm => ?_) (by simp [dep])
    simp only [wfR] at h
    simp only [dep] at hk
    rw [encR]
    exact fe_ws (cE (strOkW _) (strOkW _) dw_within_none) (cE (strOkW _) (strOkW _) dw_within_call) ((i3 _).trans (by simp)) (by simp [isFl, h.1]) (ih k m h.2 (by omega) hm)
  | h5 n r ih =>
    refine go (fun k m h hk hm => ?_) (by simp [dep])
    simp only [wfR] at h
    simp only [dep] at hk
    rw [encR]
    exact fe_ws (cE (strOkW _) (strOkW _) dw_calls_none) (cE (strOkW _) (strOkW _) dw_calls_call) ((i3 _).trans (by simp)) (by simp [isFl, h.1]) (ih k m h.2 (by omega) hm)
end Lw
namespace Lw
open PySem L2 Bt
mutual
def callsR : Rt → List (Str × Int × Int)
  | .none => []
  | .call x m t => [(x, m, t)]
  | .all rs => callsRs rs
  | .one rs => callsRs rs
  | .within _ r => callsR r
  | .calls _ r => callsR r
def callsRs : List Rt → List (Str × Int × Int)
  | [] => []
  | r :: rs => callsR r ++ callsRs rs
end
theorem callsRs_flat : ∀ rs : List Rt, callsRs rs = rs.flatMap callsR
  | [] => rfl
  | r :: rs => by rw [callsRs, callsRs_flat rs, List.flatMap_cons]
def encC (c : Str × Int × Int) : D := .tuple [.str wCall, .str c.1, .int c.2.1, .int c.2.2]
def partsR : Rt → List Rt
  | .all rs => rs
  | .one rs => rs
  | .within _ r => [r]
  | .calls _ r => [r]
  | _ => []
theorem at3' {α : Type} (a b c d : α) (l : List α) : atI (a :: b :: c :: d :: l) 3 = some d := by
  unfold atI ixN
  rw [if_pos (by omega), if_pos (by simp only [List.length_cons]; omega)]
  rfl
theorem parts_ok (r : Rt) : s_parts_in [.dat (encR r)] = .ok (.dat (.tuple ((partsR r).map encR))) [.dat (encR r)] := by
  cases r <;> simp! [s_parts_in, m_parts_in, encR, partsR, at0, at1, at2', encRs_map, eww]
theorem callsR_parts (r : Rt) (h : ∀ x m t, r ≠ .call x m t) : callsR r = (partsR r).flatMap callsR := by
  cases r with
  | call x m t => exact absurd rfl (h x m t)
  | _ => simp [callsR, partsR, callsRs_flat]
theorem dep_parts {r q : Rt} (h : q ∈ partsR r) : dep q < dep r := by
  cases r <;> simp [partsR] at h
  · have := dep_mem h; rw [dep]; omega
  · have := dep_mem h; rw [dep]; omega
  · subst h; rw [dep]; omega
  · subst h; rw [dep]; omega
theorem calls_len {r q : Rt} (h : q ∈ partsR r) : (callsR q).length ≤ (callsR r).length := by
  have : ∀ {rs : List Rt}, q ∈ rs → (callsR q).length ≤ (rs.flatMap callsR).length := by
    intro rs
    induction rs with
    | nil => intro h; cases h
    | cons a as ih =>
      intro h
      rw [List.flatMap_cons, List.length_append]
      rcases List.mem_cons.mp h with rfl | h
      · omega
      · have := ih h; omega
  rw [callsR_parts r (by rintro x m t rfl; simp [partsR] at h)]
  exact this h
theorem calls_ok : ∀ (n : Nat) (r : Rt), dep r ≤ n → (callsR r).length ≤ 1000 → s_calls_in n [.dat (encR r)] = .ok (.dat (.list ((callsR r).map encC))) [.dat (encR r)] := by
  intro n
  induction n with
  | zero => intro r h; cases r <;> simp [dep] at h
  | succ n ih =>
    intro r hd hl
    rw [r_calls_in]
    by_cases hc : ∃ x m t, r = .call x m t
    · obtain ⟨x, m, t, rfl⟩ := hc
      simp! [m_calls_in, encR, callsR, encC, at0, eww, LIM]
    · have hc' : ∀ x m t, r ≠ .call x m t := fun x m t e => hc ⟨x, m, t, e⟩
      have hw : ∃ w l, encR r = .tuple (.str w :: l) ∧ eqD (.str w) (.str (Str.ofString "call")) = some (.bool false) := by
        cases r with
        | call x m t => exact absurd rfl (hc' x m t)
        | none => exact ⟨_, _, by rw [encR], ew_none_call⟩
        | all rs => exact ⟨_, _, by rw [encR], ew_all_call⟩
        | one rs => exact ⟨_, _, by rw [encR], ew_one_call⟩
        | within k q => exact ⟨_, _, by rw [encR], ew_within_call⟩
        | calls k q => exact ⟨_, _, by rw [encR], ew_calls_call⟩
      obtain ⟨w, l, e1, e2⟩ := hw
      have e3 : lc_calls_in_1 (s_calls_in n) [.dat (encR r), .un, .un] = .ok (.list ((callsR r).map encC)) [.dat (encR r), .un, .un] := by
        unfold lc_calls_in_1
        rw [callsR_parts r hc']
        refine lc2_map (partsR r) encR callsR encC encC (by simp! [parts_ok, itemsOf]) (by simp) (by simp) (fun a ha => ?_) (by rw [← callsR_parts r hc']; exact Nat.le_trans hl (by decide))
        have ia := ih a (by have := dep_parts ha; omega) (Nat.le_trans (calls_len ha) hl)
        refine ⟨[.dat (encR r), .dat (encR a), .un], by simp [gN, wipeE], rfl, by simp! [ia, itemsOf], by simp [wipeE], fun b _ => by simp! [elF, wipeE, gN]⟩
      simp only [e1] at e3 ⊢
      simp! [m_calls_in, at0, e2, e3]
def namesR (r : Rt) : List Str := (callsR r).map (·.1)
theorem names_ok (r : Rt) (hd : dep r ≤ 30) (hl : (callsR r).length ≤ 1000) : s_names_in [.dat (encR r)] = .ok ((.ow (.l ((namesR r).map .str)))) [.dat (encR r)] := by
  have e : lc_names_in_1 [.dat (encR r), .un, .un, .un, .un] = .ok (.list ((callsR r).map fun c => .str c.1)) [.dat (encR r), .un, .un, .un, .un] := by
    unfold lc_names_in_1
    exact lc_map (callsR r) encC _ (by simp! [calls_ok 30 r hd hl, itemsOf]) (by simp) (fun q _ => by simp! [elF, wipeE, encC, gN, gTupM, gConsM, gNilM]) (Nat.le_trans hl (by decide))
  simp! [s_names_in, m_names_in, e, namesR, List.map_map, Function.comp_def]
theorem nodup_rev {α : Type} (l : List α) : l.reverse.Nodup ↔ l.Nodup := by
  unfold List.Nodup
  rw [List.pairwise_reverse]
  exact ⟨fun h => h.imp fun h => h.symm, fun h => h.imp fun h => h.symm⟩
theorem nodup_inr (l : List Str) : (l.map (Sum.inr : Str → Key)).Nodup ↔ l.Nodup := by
  unfold List.Nodup
  rw [List.pairwise_map]
  exact ⟨fun h => h.imp fun h e => h (by rw [e]), fun h => h.imp fun h e => h (Sum.inr.inj e)⟩
theorem is_right_ok (r : Rt) (hw : wfR r) (hd : dep r ≤ 6) (hl : (callsR r).length ≤ 1000) : s_is_right [.dat (encR r)] = .ok (.dat (.bool (decide (namesR r).Nodup))) [.dat (encR r)] := by
  have e1' : s_is_form 30 [.dat (encR r), .dat (.int 6)] = .ok (.dat (.bool true)) [.dat (encR r), .dat (.int 6)] := is_form_enc r 6 30 hw hd (by omega)
  have hlen : (namesR r).length ≤ 1000 := by unfold namesR; rw [List.length_map]; exact hl
  have e2 : lc_is_right_1 [.dat (encR r), .dat (.list ((namesR r).map .str)), .un] = .ok (.int (cntK ((namesR r).map Sum.inr).reverse)) [.dat (encR r), .dat (.list ((namesR r).map .str)), .un] := by
    unfold lc_is_right_1
    exact lenK_map (namesR r) .str .str Sum.inr (by simp! [itemsOf]) (by simp) (fun q _ => ⟨by simp! [elF, wipeE, gN], rfl⟩) (by omega)
  have e3 : decide ((cntK ((namesR r).map Sum.inr).reverse : Int) = ((namesR r).length : Int)) = decide (namesR r).Nodup := by
    rw [decide_eq_decide]
    have := cntK_eq ((namesR r).map (Sum.inr : Str → Key)).reverse
    rw [List.length_reverse, List.length_map, nodup_rev, nodup_inr] at this
    constructor
    · intro e
      exact this.mp (by omega)
    · intro h
      have := this.mpr h
      omega
  simp! [s_is_right, m_is_right, e1', names_ok r (by omega) hl, e2, eqD_int, e3]
theorem look_right (r : Rt) (hw : wfR r) (hd : dep r ≤ 6) (hl : (callsR r).length ≤ 1000) (hn : (namesR r).Nodup) : s_look_at_right [.dat (encR r)] = .ok (.dat .none) [.dat (encR r)] := by
  simp! [s_look_at_right, m_look_at_right, is_right_ok r hw hd hl, hn]
end Lw
namespace Lw
open PySem L2 Bt
noncomputable def m_cut_at : M Fl := (mSeq (mRet (mIf (bnd (mOp isD (mR 1) (mD (ret .none))) asB) (mV 0) (mB minF (mCons (mR 0) (mCons (mD (mOp subD (mR 1) (mD (ret (.int 1))))) (ret [])))))) mNil)
noncomputable def s_cut_at : M Sl := mFn [] 0 m_cut_at
noncomputable def lc_longest_of_1 (ih : M Sl) : M D := (mLc (mIt (mOp ixD (mR 3) (mD (ret (.int 0))))) (gN 4) (ret true) (mCall ih [] (mCons (mR 4) (ret []))) [4])
noncomputable def m_longest_of (ih : M Sl) : M Fl := (mSeq (mSet (gStarM (gN 2) 3) (mV 0)) (mSeq (mIfS (bnd (mOp eqD (mR 2) (mD (ret (.str (Str.ofString "none"))))) asB) (mSeq (mRet (ret (.int 0))) mNil) mNil) (mSeq (mIfS (bnd (mOp eqD (mR 2) (mD (ret (.str (Str.ofString "call"))))) asB) (mSeq (mRet (mOp ixD (mR 3) (mD (ret (.int 2))))) mNil) mNil) (mSeq (mIfS (bnd (mOp inD (mR 2) (mD (mTup (mConsD (ret (.str (Str.ofString "within"))) (mConsD (ret (.str (Str.ofString "calls"))) (ret [])))))) asB) (mSeq (mRet (mB minF (mCons (mD (mOp ixD (mR 3) (mD (ret (.int 0))))) (mCons (mD (mCall ih [] (mCons (mD (mOp ixD (mR 3) (mD (ret (.int 1))))) (ret [])))) (ret []))))) mNil) mNil) (mSeq (mSet (gN 1) (lc_longest_of_1 ih)) (mSeq (mRet (mIf (bnd (mOp eqD (mR 2) (mD (ret (.str (Str.ofString "all"))))) asB) (mB sumF (mCons (mR 1) (ret []))) (mDfl maxDf (mR 1) (ret (.int 0))))) mNil))))))
noncomputable def s_longest_of : Nat → M Sl
  | 0 => stuck
  | n + 1 => mFn [1, 2, 3] 4 (m_longest_of (s_longest_of n))
theorem r_longest_of (n : Nat) : s_longest_of (n + 1) = mFn [1, 2, 3] 4 (m_longest_of (s_longest_of n)) := rfl
noncomputable def lc_shared_out_1 : M D := (mLc (mRng1 (mCons (mD (mOp addD (mR 3) (mD (ret (.int 1))))) (ret []))) (gN 4) (ret true) (mOp addD (mD (mOp ixD (mR 0) (mR 4))) (mD (mOp ixD (mR 1) (mD (mOp subD (mR 3) (mR 4)))))) [4])
noncomputable def lc_shared_out_2 : M D := (mLc (mRng1 (mCons (mD (mOp addD (mR 2) (mD (ret (.int 1))))) (ret []))) (gN 3) (ret true) (mB maxF (mCons (mD lc_shared_out_1) (ret []))) [3])
noncomputable def m_shared_out : M Fl := (mSeq (mRetS (mObj (mLstO (mAsL lc_shared_out_2)))) mNil)
noncomputable def s_shared_out : M Sl := mFn [] 2 m_shared_out
noncomputable def lc_row_of_1 (ih : M Sl) : M D := (mLc (mRng1 (mCons (mD (mOp addD (mR 2) (mD (ret (.int 1))))) (ret []))) (gN 8) (ret true) (mOp mulD (mD (mB minF (mCons (mD (mOp ixD (mR 7) (mD (ret (.int 2))))) (mCons (mR 8) (ret []))))) (mD (mCall s_cut_at [] (mCons (mD (mOp ixD (mR 7) (mD (ret (.int 1))))) (mCons (mR 1) (ret [])))))) [8])
noncomputable def lc_row_of_2 (ih : M Sl) : M D := (mLc (mIt (mCall ih [] (mCons (mD (mOp ixD (mR 7) (mD (ret (.int 1))))) (mCons (mR 1) (mCons (mR 2) (ret [])))))) (gN 3) (ret true) (mB minF (mCons (mD (mOp ixD (mR 7) (mD (ret (.int 0))))) (mCons (mR 3) (ret [])))) [3])
noncomputable def lc_row_of_3 (ih : M Sl) : M D := (mLc (mRng1 (mCons (mD (mOp addD (mR 2) (mD (ret (.int 1))))) (ret []))) (gN 8) (ret true) (mOp ixD (mR 3) (mD (mB minF (mCons (mR 8) (mCons (mD (mOp ixD (mR 7) (mD (ret (.int 0))))) (ret [])))))) [8])
noncomputable def lc_row_of_4 (ih : M Sl) : M D := (mLc (mZipE (mConsD (mV 3) (mConsD (mV 6) (ret [])))) (gN 9) (ret true) (mB maxTF (mCons (mR 9) (ret []))) [9])
noncomputable def lp_row_of_1 (ih : M Sl) : M Fl := (mSeq (mSet (gN 6) (mCall ih [] (mCons (mR 4) (mCons (mR 1) (mCons (mR 2) (ret [])))))) (mSeq (mIfS (bnd (mOp eqD (mR 5) (mD (ret (.str (Str.ofString "one"))))) asB) (mSeq (mSet (gN 3) (lc_row_of_4 ih)) mNil) (mSeq (mSet (gN 3) (mCall s_shared_out [] (mCons (mR 3) (mCons (mR 6) (mCons (mR 2) (ret [])))))) mNil)) mNil))
noncomputable def fr_row_of_1 (ih : M Sl) : M Fl := (mFor [4, 6] (mIt (mOp ixD (mR 7) (mD (ret (.int 0))))) (gN 4) (lp_row_of_1 ih))
noncomputable def m_row_of (ih : M Sl) : M Fl := (mSeq (mSet (gStarM (gN 5) 7) (mV 0)) (mSeq (mIfS (bnd (mOp eqD (mR 5) (mD (ret (.str (Str.ofString "none"))))) asB) (mSeq (mRet (mOp mulD (mD (mLst (mConsD (ret (.int 0)) (ret [])))) (mD (mOp addD (mR 2) (mD (ret (.int 1))))))) mNil) mNil) (mSeq (mIfS (bnd (mOp eqD (mR 5) (mD (ret (.str (Str.ofString "call"))))) asB) (mSeq (mRetS (mObj (mLstO (mAsL (lc_row_of_1 ih))))) mNil) mNil) (mSeq (mIfS (bnd (mOp eqD (mR 5) (mD (ret (.str (Str.ofString "within"))))) asB) (mSeq (mRetS (mObj (mLstO (mAsL (lc_row_of_2 ih))))) mNil) mNil) (mSeq (mIfS (bnd (mOp eqD (mR 5) (mD (ret (.str (Str.ofString "calls"))))) asB) (mSeq (mSet (gN 3) (mCall ih [] (mCons (mD (mOp ixD (mR 7) (mD (ret (.int 1))))) (mCons (mR 1) (mCons (mD (mB minF (mCons (mR 2) (mCons (mD (mOp ixD (mR 7) (mD (ret (.int 0))))) (ret []))))) (ret [])))))) (mSeq (mRetS (mObj (mLstO (mAsL (lc_row_of_3 ih))))) mNil)) mNil) (mSeq (mSet (gN 3) (mOp mulD (mD (mLst (mConsD (ret (.int 0)) (ret [])))) (mD (mOp addD (mR 2) (mD (ret (.int 1))))))) (mSeq (fr_row_of_1 ih) (mSeq (mRet (mV 3)) mNil))))))))
noncomputable def s_row_of : Nat → M Sl
  | 0 => stuck
  | n + 1 => mFn [3, 4, 5, 6, 7] 7 (m_row_of (s_row_of n))
theorem r_row_of (n : Nat) : s_row_of (n + 1) = mFn [3, 4, 5, 6, 7] 7 (m_row_of (s_row_of n)) := rfl
noncomputable def lc_most_of_1 (ih : M Sl) : M D := (mLc (mIt (mOp ixD (mR 4) (mD (ret (.int 0))))) (gN 5) (ret true) (mCall ih [] (mCons (mR 5) (mCons (mR 1) (ret [])))) [5])
noncomputable def m_most_of (ih : M Sl) : M Fl := (mSeq (mSet (gStarM (gN 3) 4) (mV 0)) (mSeq (mIfS (bnd (mOp eqD (mR 3) (mD (ret (.str (Str.ofString "none"))))) asB) (mSeq (mRet (ret (.int 0))) mNil) mNil) (mSeq (mIfS (bnd (mOp eqD (mR 3) (mD (ret (.str (Str.ofString "call"))))) asB) (mSeq (mRet (mOp mulD (mD (mOp ixD (mR 4) (mD (ret (.int 2))))) (mD (mCall s_cut_at [] (mCons (mD (mOp ixD (mR 4) (mD (ret (.int 1))))) (mCons (mR 1) (ret []))))))) mNil) mNil) (mSeq (mIfS (bnd (mOp eqD (mR 3) (mD (ret (.str (Str.ofString "within"))))) asB) (mSeq (mRet (mB minF (mCons (mD (mOp ixD (mR 4) (mD (ret (.int 0))))) (mCons (mD (mCall ih [] (mCons (mD (mOp ixD (mR 4) (mD (ret (.int 1))))) (mCons (mR 1) (ret []))))) (ret []))))) mNil) mNil) (mSeq (mIfS (bnd (mOp eqD (mR 3) (mD (ret (.str (Str.ofString "calls"))))) asB) (mSeq (mRet (mOp ixD (mD (mCall (s_row_of 30) [] (mCons (mD (mOp ixD (mR 4) (mD (ret (.int 1))))) (mCons (mR 1) (mCons (mD (mB minF (mCons (mD (mOp ixD (mR 4) (mD (ret (.int 0))))) (mCons (mD (mCall (s_longest_of 30) [] (mCons (mD (mOp ixD (mR 4) (mD (ret (.int 1))))) (ret [])))) (ret []))))) (ret [])))))) (mD (mNeg (mD (ret (.int 1))))))) mNil) mNil) (mSeq (mSet (gN 2) (lc_most_of_1 ih)) (mSeq (mRet (mIf (bnd (mOp eqD (mR 3) (mD (ret (.str (Str.ofString "all"))))) asB) (mB sumF (mCons (mR 2) (ret []))) (mDfl maxDf (mR 2) (ret (.int 0))))) mNil)))))))
noncomputable def s_most_of : Nat → M Sl
  | 0 => stuck
  | n + 1 => mFn [2, 3, 4] 4 (m_most_of (s_most_of n))
theorem r_most_of (n : Nat) : s_most_of (n + 1) = mFn [2, 3, 4] 4 (m_most_of (s_most_of n)) := rfl
end Lw
namespace Lw
open PySem L2 Bt
def cutI (m : Int) : Option Int → Int
  | none => m
  | some b => min m (b - 1)
def encB : Option Int → D
  | none => .none
  | some b => .int b
mutual
def lenR : Rt → Int
  | .none => 0
  | .call _ _ t => t
  | .all rs => lenSum rs
  | .one rs => lenMax rs
  | .within n r => min n (lenR r)
  | .calls n r => min n (lenR r)
def lenSum : List Rt → Int
  | [] => 0
  | r :: rs => lenR r + lenSum rs
def lenMax : List Rt → Int
  | [] => 0
  | r :: rs => max (lenR r) (lenMax rs)
end
theorem lenSum_eq : ∀ rs : List Rt, lenSum rs = (rs.map lenR).sum
  | [] => rfl
  | r :: rs => by rw [lenSum, lenSum_eq rs, List.map_cons, List.sum_cons]
def max0 : List Int → Int
  | [] => 0
  | x :: xs => max x (max0 xs)
theorem lenMax_eq : ∀ rs : List Rt, lenMax rs = max0 (rs.map lenR)
  | [] => rfl
  | r :: rs => by rw [lenMax, lenMax_eq rs, List.map_cons, max0]
theorem max0_nn : ∀ {l : List Int}, 0 ≤ max0 l
  | [] => Int.le_refl _
  | x :: xs => by rw [max0]; exact Int.le_trans (max0_nn (l := xs)) (Int.le_max_right _ _)
theorem maxL_max0 : ∀ {l : List Int}, (∀ x ∈ l, 0 ≤ x) → l ≠ [] → maxL l = max0 l
  | [], _, h => absurd rfl h
  | [x], h, _ => by
    have := h x List.mem_cons_self
    show x = max x 0
    omega
  | x :: y :: r, h, _ => by
    show max x (maxL (y :: r)) = max x (max0 (y :: r))
    rw [maxL_max0 (fun z hz => h z (List.mem_cons_of_mem _ hz)) (List.cons_ne_nil _ _)]
theorem maxD_0 {l : List Int} (h : ∀ x ∈ l, 0 ≤ x) : maxDf (.list (l.map .int)) (.int 0) = some (.int (max0 l)) := by
  unfold maxDf
  simp only [intsOf_map]
  cases l with
  | nil => rfl
  | cons x xs =>
    show some (PyData.int (maxL (x :: xs))) = _
    rw [maxL_max0 h (List.cons_ne_nil _ _)]
theorem max0_le {l : List Int} {m : Int} (h : ∀ x ∈ l, x ≤ m) (hm : 0 ≤ m) : max0 l ≤ m := by
  induction l with
  | nil => exact hm
  | cons x xs ih =>
    rw [max0]
    have := h x List.mem_cons_self
    have := ih fun y hy => h y (List.mem_cons_of_mem _ hy)
    omega
theorem sum_nn {l : List Int} (h : ∀ x ∈ l, 0 ≤ x) : 0 ≤ l.sum := by
  induction l with
  | nil => simp
  | cons x xs ih =>
    rw [List.sum_cons]
    have := h x List.mem_cons_self
    have := ih fun y hy => h y (List.mem_cons_of_mem _ hy)
    omega
theorem len_nn (r : Rt) : wfR r → 0 ≤ lenR r := by
  induction r using Rt.ind with
  | h0 => intro _; simp [lenR]
  | h1 x m t => intro h; simp only [wfR] at h; simp only [lenR]; omega
  | h2 rs ih => intro h; simp only [wfR] at h; rw [lenR, lenSum_eq]; exact sum_nn fun x hx => by obtain ⟨r, hr, rfl⟩ := List.mem_map.mp hx; exact ih r hr (wf_mem h.2 hr)
  | h3 rs ih => intro h; rw [lenR, lenMax_eq]; exact max0_nn
  | h4 n r ih => intro h; simp only [wfR] at h; have := ih h.2; simp only [lenR]; omega
  | h5 n r ih => intro h; simp only [wfR] at h; have := ih h.2; simp only [lenR]; omega
theorem wf_len {rs : List Rt} (h : rs.length ≤ 1000) : rs.length ≤ LIM := Nat.le_trans h (by decide)
theorem longest_ok : ∀ (n : Nat) (r : Rt), dep r ≤ n → wfR r → s_longest_of n [.dat (encR r)] = .ok (.dat (.int (lenR r))) [.dat (encR r)] := by
  intro n
  induction n with
  | zero => intro r h; cases r <;> simp [dep] at h
  | succ n ih =>
    intro r hd hw
    rw [r_longest_of]
    cases r with
    | none => simp! [m_longest_of, encR, lenR, gStarM, gN, eww]
    | call x m t => simp! [m_longest_of, encR, lenR, gStarM, gN, at2', eww]
    | within k q =>
      simp only [dep] at hd
      simp only [wfR] at hw
      simp! [m_longest_of, encR, lenR, gStarM, gN, at0, at1, ih q (by omega) hw.2, eww]
    | calls k q =>
      simp only [dep] at hd
      simp only [wfR] at hw
      simp! [m_longest_of, encR, lenR, gStarM, gN, at0, at1, ih q (by omega) hw.2, eww]
    | all rs =>
      simp only [dep] at hd
      simp only [wfR] at hw
      have e : lc_longest_of_1 (s_longest_of n) [.dat (.tuple [.str wAll, .tuple (rs.map encR)]), .un, .dat (.str wAll), .dat (.list [.tuple (rs.map encR)]), .un] = .ok (.list (rs.map fun r => .int (lenR r))) [.dat (.tuple [.str wAll, .tuple (rs.map encR)]), .un, .dat (.str wAll), .dat (.list [.tuple (rs.map encR)]), .un] := by
        unfold lc_longest_of_1
        exact lc_map rs encR _ (by simp! [at0, itemsOf]) (by simp) (fun q hq => by simp! [elF, wipeE, gN, ih q (by have := dep_mem hq; omega) (wf_mem hw.2 hq)]) (wf_len hw.1)
      simp! [m_longest_of, encR, lenR, gStarM, gN, at0, e, encRs_map, sumF_map, lenSum_eq, eww]
    | one rs =>
      simp only [dep] at hd
      simp only [wfR] at hw
      have e : lc_longest_of_1 (s_longest_of n) [.dat (.tuple [.str wOne, .tuple (rs.map encR)]), .un, .dat (.str wOne), .dat (.list [.tuple (rs.map encR)]), .un] = .ok (.list (rs.map fun r => .int (lenR r))) [.dat (.tuple [.str wOne, .tuple (rs.map encR)]), .un, .dat (.str wOne), .dat (.list [.tuple (rs.map encR)]), .un] := by
        unfold lc_longest_of_1
        exact lc_map rs encR _ (by simp! [at0, itemsOf]) (by simp) (fun q hq => by simp! [elF, wipeE, gN, ih q (by have := dep_mem hq; omega) (wf_mem hw.2 hq)]) (wf_len hw.1)
      have e2 : maxDf (.list (rs.map fun r => .int (lenR r))) (.int 0) = some (.int (lenMax rs)) := by
        rw [lenMax_eq, ← maxD_0 (fun x hx => by obtain ⟨r, hr, rfl⟩ := List.mem_map.mp hx; exact len_nn r (wf_mem hw.2 hr)), List.map_map]
        rfl
      simp! [m_longest_of, encR, lenR, gStarM, gN, at0, e, e2, encRs_map, eww]
end Lw
namespace Lw
open PySem L2 Bt
def conv (f g : Nat → Int) : Nat → Int := fun j => maxL ((List.range (j + 1)).map fun i => f i + g (j - i))
def pmax (f g : Nat → Int) : Nat → Int := fun j => max (f j) (g j)
mutual
def rowF (b : Option Int) : Rt → Nat → Int
  | .none => fun _ => 0
  | .call _ m t => fun j => min t j * cutI m b
  | .all rs => rowAll b rs fun _ => 0
  | .one rs => rowOne b rs fun _ => 0
  | .within n r => fun j => min n (rowF b r j)
  | .calls n r => fun j => rowF b r (min j n.toNat)
def rowAll (b : Option Int) : List Rt → (Nat → Int) → Nat → Int
  | [], f => f
  | r :: rs, f => rowAll b rs (conv f (rowF b r))
def rowOne (b : Option Int) : List Rt → (Nat → Int) → Nat → Int
  | [], f => f
  | r :: rs, f => rowOne b rs (pmax f (rowF b r))
end
theorem rowAll_eq (b : Option Int) : ∀ (rs : List Rt) (f : Nat → Int), rowAll b rs f = rs.foldl (fun f r => conv f (rowF b r)) f
  | [], f => by rw [rowAll]; rfl
  | r :: rs, f => by rw [rowAll, rowAll_eq b rs, List.foldl_cons]
theorem rowOne_eq (b : Option Int) : ∀ (rs : List Rt) (f : Nat → Int), rowOne b rs f = rs.foldl (fun f r => pmax f (rowF b r)) f
  | [], f => by rw [rowOne]; rfl
  | r :: rs, f => by rw [rowOne, rowOne_eq b rs, List.foldl_cons]
def rowL (f : Nat → Int) (c : Nat) : List D := (List.range (c + 1)).map fun j => .int (f j)
def BdR (r : Rt) : Prop := ∀ q ∈ callsR r, q.2.1 ≤ 10 ^ 100 ∧ q.2.2 ≤ 10 ^ 100
def BdB : Option Int → Prop
  | none => True
  | some b => -(10 ^ 100) ≤ b ∧ b ≤ 10 ^ 100
theorem bd_all {rs : List Rt} (h : BdR (.all rs)) {r : Rt} (hr : r ∈ rs) : BdR r := fun q hq => h q (by rw [callsR, callsRs_flat]; exact List.mem_flatMap.mpr ⟨r, hr, hq⟩)
theorem bd_one {rs : List Rt} (h : BdR (.one rs)) {r : Rt} (hr : r ∈ rs) : BdR r := fun q hq => h q (by rw [callsR, callsRs_flat]; exact List.mem_flatMap.mpr ⟨r, hr, hq⟩)
theorem rangeN (c : Nat) : rangeD 0 ((c : Int) + 1) = (List.range (c + 1)).map fun (j : Nat) => .int (j : Int) := by
  unfold rangeD
  rw [show ((c : Int) + 1 - 0).toNat = c + 1 by omega]
  simp
theorem rgN (c : Nat) (h : c ≤ 100000) : rgOk ((c : Int) + 1) = true := rgOk_iff.mpr ⟨by omega, by omega⟩
theorem cut_ok (m : Int) (b : Option Int) : s_cut_at [.dat (.int m), .dat (encB b)] = .ok (.dat (.int (cutI m b))) [.dat (.int m), .dat (encB b)] := by
  cases b <;> simp! [s_cut_at, m_cut_at, encB, cutI]
theorem atN {l : List D} {i : Nat} (h : i < l.length) : atI l (i : Int) = l[i]? := by
  unfold atI ixN
  rw [if_pos (by omega), if_pos (by omega)]
  rfl
theorem row_at {f : Nat → Int} {c i : Nat} (h : i ≤ c) : atI (rowL f c) (i : Int) = some (.int (f i)) := by
  unfold rowL
  rw [atN (by simp; omega), List.getElem?_map, List.getElem?_range (by omega)]
  rfl
theorem row_len (f : Nat → Int) (c : Nat) : (rowL f c).length = c + 1 := by unfold rowL; simp
theorem maxF_map {α : Type} (f : α → Int) (p : List α) (h : p ≠ []) : maxF [.list (p.map fun q => .int (f q))] = some (.int (maxL (p.map f))) := by
  have e : intsOf (p.map fun q => PyData.int (f q)) = some (p.map f) := by
    rw [show (p.map fun q => PyData.int (f q)) = (p.map f).map .int by rw [List.map_map]; rfl, intsOf_map]
  cases p with
  | nil => exact absurd rfl h
  | cons a as =>
    show (match intsOf ((a :: as).map fun q => PyData.int (f q)) with | some (n :: ns) => some (PyData.int (maxL (n :: ns))) | _ => none) = _
    rw [e]
    rfl
theorem shared_ok (f g : Nat → Int) (c : Nat) (hc : c ≤ 10000) : s_shared_out [.dat (.list (rowL f c)), .dat (.list (rowL g c)), .dat (.int (c : Nat))] = .ok ((.ow (.l (rowL (conv f g) c)))) [.dat (.list (rowL f c)), .dat (.list (rowL g c)), .dat (.int (c : Nat))] := by
  have e1 : ∀ j, j ≤ c → lc_shared_out_1 [.dat (.list (rowL f c)), .dat (.list (rowL g c)), .dat (.int (c : Nat)), .dat (.int (j : Nat)), .un] = .ok (.list ((List.range (j + 1)).map fun i => .int (f i + g (j - i)))) [.dat (.list (rowL f c)), .dat (.list (rowL g c)), .dat (.int (c : Nat)), .dat (.int (j : Nat)), .un] := by
    intro j hj
    unfold lc_shared_out_1
    refine lc_map (List.range (j + 1)) (fun i => .int (i : Nat)) _ (by simp! [rgN j (by omega), rangeN]) (by simp) (fun i hi => ?_) (by rw [List.length_range]; exact Nat.le_trans (by omega : j + 1 ≤ 100000) (Nat.le_refl _))
    have hi' : i ≤ j := by have := List.mem_range.mp hi; omega
    have e2 : ((j : Int) - (i : Int)) = ((j - i : Nat) : Int) := by omega
    simp! [elF, wipeE, gN, row_at (f := f) (show i ≤ c by omega), e2, row_at (f := g) (show j - i ≤ c by omega)]
  have e : lc_shared_out_2 [.dat (.list (rowL f c)), .dat (.list (rowL g c)), .dat (.int (c : Nat)), .un, .un] = .ok (.list (rowL (conv f g) c)) [.dat (.list (rowL f c)), .dat (.list (rowL g c)), .dat (.int (c : Nat)), .un, .un] := by
    unfold lc_shared_out_2 rowL
    refine lc_map (List.range (c + 1)) (fun i => .int (i : Nat)) _ (by simp! [rgN c (by omega), rangeN]) (by simp) (fun j hj => ?_) (by rw [List.length_range]; exact Nat.le_trans (by omega : c + 1 ≤ 100000) (Nat.le_refl _))
    have hj' : j ≤ c := by have := List.mem_range.mp hj; omega
    have e2 := e1 j hj'
    have e3 : maxF [.list ((List.range (j + 1)).map fun i => .int (f i + g (j - i)))] = some (.int (conv f g j)) := maxF_map (fun i => f i + g (j - i)) _ (by simp)
    unfold rowL at e2
    simp [elF, wipeE, gN, Bt.a_bnd, Bt.a_ret, Bt.a_stuck, Bt.a_liftS, Bt.a_liftN, Bt.a_mOp, Bt.a_mOpF, Bt.a_mChain, Bt.a_mD, Bt.a_mR, Bt.a_mV, Bt.a_mFrz, Bt.a_rsvD, Bt.a_rsvR, Bt.a_rsvs0, Bt.a_rsvs1, Bt.a_mCons, Bt.a_mConsD, Bt.a_mTup, Bt.a_mLst, Bt.a_mLstF, Bt.a_mIf, Bt.a_mIfS, Bt.a_ite, Bt.a_mAnd, Bt.a_mOr, Bt.a_mNot, Bt.a_mAndV, Bt.a_mOrV, Bt.a_mNotV, Bt.a_asB, Bt.a_mNeg, Bt.a_mB, Bt.a_mBF, Bt.a_mIsi, Bt.a_mCall, Bt.a_mCallK, Bt.a_mCallO, Bt.a_mCallKO, Bt.a_mCallB, Bt.a_thawD, Bt.a_thawL, Bt.a_mRetS, Bt.a_mDat, Bt.a_mObj, Bt.a_mLstO, Bt.a_mSetS, Bt.a_mGive, Bt.a_mAsL, Bt.a_asL, Bt.a_mRev, Bt.a_mDfl, Bt.a_mRng3, Bt.a_mPutAug, Bt.a_mPop, Bt.a_mSeq, Bt.a_mNil, Bt.a_mRet, Bt.a_mExpr, Bt.a_mSet, Bt.a_gN, Bt.a_gTup, Bt.a_gCons, Bt.a_gNil, Bt.a_mItL, Bt.a_mItT, Bt.a_mIt, Bt.a_mPart0, Bt.a_mPart1, Bt.a_mSl, Bt.a_mOwn, Bt.a_mApp, Bt.a_mPut, Bt.a_mAug, Bt.a_mRng1, Bt.a_mRng2, Bt.a_mZip, Bt.a_mEnum, Bt.a_mFor, Bt.a_mFn, Bt.a_mLenScr, Bt.a_mIxScr, Bt.a_mDGet, Bt.a_mDGet2, Bt.a_mDIn, Bt.a_mDPut, Bt.a_mDAug, Bt.a_mOwnO, Bt.a_mDict, Bt.a_mDNew, Bt.a_mSortD, Bt.a_mRaise0, Bt.a_mRaise1, Bt.a_mTry, Bt.a_mIsx, Bt.a_mFld, Bt.a_mMeth, Bt.a_mExt, Bt.a_mExtB, Bt.a_mNew0, Bt.a_mNewN, Bt.a_mNew1, Bt.a_mIsxO, Bt.a_mIsVE, Bt.a_mPar, Bt.a_mRaiseN, Bt.a_mTry0, Bt.a_mZipE, Bt.a_mLrg2, Bt.a_mLrg1, Bt.argSl, Bt.apartA, Bt.isOwn, Bt.putB, Bt.okAsg, Bt.parBack, Bt.slD, Bt.addD, Bt.subD, Bt.mulD, Bt.fdivD, Bt.modD, Bt.powD, Bt.ltD, Bt.leD, Bt.gtD, Bt.geD, Bt.isD, Bt.isntD, Bt.isNone, Bt.ixD, Bt.lenF, Bt.intF, Bt.minF, Bt.tupleF, Bt.listF, Bt.notX_none, Bt.notX_bool, Bt.notX_int, Bt.notX_str, Bt.notX_list, Bt.notX_tuple, Bt.isi_none, Bt.isi_bool, Bt.isi_int, Bt.isi_str, Bt.isi_list, Bt.isi_tuple, Bt.tyIs, Bt.pkD, Bt.addL, Bt.mulL, Bt.listL, Bt.revD, Bt.borSl, Bt.flatD, Bt.isDic, Bt.dkOf, Bt.keyOf, Bt.isCls_x, Bt.isCls_n, Bt.xOf_0, Bt.xOf_1, Bt.isSub_0, Bt.lift_some, Bt.ll0, Bt.ll1, Bt.ll2, Bt.ll3, Bt.ll4, Bt.ll5, Bt.ll6, Bt.ll7, Bt.ll8, Bt.ll9, Bt.ll10, Bt.ll11, Bt.ll12, Bt.ll13, Bt.ll14, Bt.ll15, Bt.ll16, e2, e3]
  simp! [s_shared_out, m_shared_out, e]
end Lw
namespace Lw
open PySem L2 Bt
theorem rep1 (c : Nat) : List.replicate (c + 1) (PyData.int 0) = rowL (fun _ => 0) c := by
  unfold rowL
  rw [List.map_const', List.length_range]
theorem rpk (c : Nat) (h : c ≤ 10000) : repOk 1 ((c : Int) + 1) = true := repOk_iff.mpr ⟨by omega, by omega, by omega⟩
theorem cut_bd {m : Int} {b : Option Int} (h1 : 1 ≤ m) (h2 : m ≤ 10 ^ 100) (hb : BdB b) : okI (cutI m b) = true := by
  cases b with
  | none => exact okI_of (by simp only [cutI]; omega) (by simp only [cutI]; omega)
  | some b => simp only [BdB] at hb; exact okI_of (by simp only [cutI]; omega) (by simp only [cutI]; omega)
def IsRow (sl : Sl) (ds : List D) : Prop := ∀ E : En, thaw sl E = .ok (.list ds) E
theorem zip_row (f g : Nat → Int) (c : Nat) : zipD (rowL f c) (rowL g c) = (List.range (c + 1)).map fun j => .tuple [.int (f j), .int (g j)] := by
  unfold zipD rowL
  rw [List.zipWith_map, List.zipWith_self]
theorem maxT2 (a b : Int) : maxTF [.tuple [.int a, .int b]] = some (.int (max a b)) := rfl
theorem row_ok : ∀ (n : Nat) (r : Rt) (b : Option Int) (c : Nat), dep r ≤ n → wfR r → BdR r → BdB b → c ≤ 10000 → ∃ sl, s_row_of n [.dat (encR r), .dat (encB b), .dat (.int (c : Nat))] = .ok sl [.dat (encR r), .dat (encB b), .dat (.int (c : Nat))] ∧ IsRow sl (rowL (rowF b r) c) := by
  intro n
  induction n with
  | zero => intro r b c h; cases r <;> simp [dep] at h
  | succ n ih =>
    intro r b c hd hw hB hb hc
    rw [r_row_of]
    have hL : c + 1 ≤ LIM := Nat.le_trans (by omega : c + 1 ≤ 100000) (Nat.le_refl _)
    cases r with
    | none =>
      refine ⟨.dat (.list (rowL (fun _ => 0) c)), ?_, fun _ => by rw [rowF]; rfl⟩
      simp! [m_row_of, encR, gStarM, gN, rpk c hc, rep1, LIM, eww]
    | call x m t =>
      simp only [wfR] at hw
      have hq := hB (x, m, t) (by simp [callsR])
      have o2 := cut_bd hw.2.2.1 hq.1 hb
      have e : lc_row_of_1 (s_row_of n) [.dat (encR (.call x m t)), .dat (encB b), .dat (.int (c : Nat)), .un, .un, .dat (.str wCall), .un, .dat (.list [.str x, .int m, .int t]), .un, .un] = .ok (.list (rowL (rowF b (.call x m t)) c)) [.dat (encR (.call x m t)), .dat (encB b), .dat (.int (c : Nat)), .un, .un, .dat (.str wCall), .un, .dat (.list [.str x, .int m, .int t]), .un, .un] := by
        unfold lc_row_of_1 rowL
        refine lc_map (List.range (c + 1)) (fun i => .int (i : Nat)) _ (by simp! [rgN c (by omega), rangeN]) (by simp) (fun j hj => ?_) (by rw [List.length_range]; exact hL)
        have hj' : j ≤ c := by have := List.mem_range.mp hj; omega
        have o1 : okI (min t (j : Int)) = true := okI_of (by omega) (by omega)
        simp! [elF, wipeE, gN, at1, at2', cut_ok, o1, o2, rowF]
      refine ⟨(.ow (.l (rowL (rowF b (.call x m t)) c))), ?_, fun _ => rfl⟩
      rw [encR] at e ⊢
      simp! [m_row_of, gStarM, gN, e, eww]
    | within k q =>
      simp only [wfR] at hw
      simp only [dep] at hd
      obtain ⟨sl, e1, e2⟩ := ih q b c (by omega) hw.2 (fun z hz => hB z (by rw [callsR]; exact hz)) hb hc
      have e : lc_row_of_2 (s_row_of n) [.dat (encR (.within k q)), .dat (encB b), .dat (.int (c : Nat)), .un, .un, .dat (.str wWithin), .un, .dat (.list [.int k, encR q]), .un, .un] = .ok (.list (rowL (rowF b (.within k q)) c)) [.dat (encR (.within k q)), .dat (encB b), .dat (.int (c : Nat)), .un, .un, .dat (.str wWithin), .un, .dat (.list [.int k, encR q]), .un, .un] := by
        unfold lc_row_of_2
        have hi : mIt (mCall (s_row_of n) [] (mCons (mD (mOp ixD (mR 7) (mD (Bt.ret (.int 1))))) (mCons (mR 1) (mCons (mR 2) (Bt.ret []))))) [.dat (encR (.within k q)), .dat (encB b), .dat (.int (c : Nat)), .un, .un, .dat (.str wWithin), .un, .dat (.list [.int k, encR q]), .un, .un] = .ok (rowL (rowF b q) c) [.dat (encR (.within k q)), .dat (encB b), .dat (.int (c : Nat)), .un, .un, .dat (.str wWithin), .un, .dat (.list [.int k, encR q]), .un, .un] := by
          simp! [at1, e1, e2 _, itemsOf]
        unfold rowL at hi ⊢
        refine lc_map (List.range (c + 1)) (fun i => .int (rowF b q i)) _ hi (by simp) (fun j hj => ?_) (by rw [List.length_range]; exact hL)
        simp! [elF, wipeE, gN, at0, rowF]
      refine ⟨(.ow (.l (rowL (rowF b (.within k q)) c))), ?_, fun _ => rfl⟩
      rw [encR] at e ⊢
      simp! [m_row_of, gStarM, gN, e, eww]
    | calls k q =>
      simp only [wfR] at hw
      simp only [dep] at hd
      obtain ⟨sl, e1, e2⟩ := ih q b (min c k.toNat) (by omega) hw.2 (fun z hz => hB z (by rw [callsR]; exact hz)) hb (by omega)
      have ec : min (c : Int) k = ((min c k.toNat : Nat) : Int) := by omega
      have e : lc_row_of_3 (s_row_of n) [.dat (encR (.calls k q)), .dat (encB b), .dat (.int (c : Nat)), .dat (.list (rowL (rowF b q) (min c k.toNat))), .un, .dat (.str wCalls), .un, .dat (.list [.int k, encR q]), .un, .un] = .ok (.list (rowL (rowF b (.calls k q)) c)) [.dat (encR (.calls k q)), .dat (encB b), .dat (.int (c : Nat)), .dat (.list (rowL (rowF b q) (min c k.toNat))), .un, .dat (.str wCalls), .un, .dat (.list [.int k, encR q]), .un, .un] := by
        unfold lc_row_of_3
        have hi : mRng1 (mCons (mD (mOp addD (mR 2) (mD (Bt.ret (.int 1))))) (Bt.ret [])) [.dat (encR (.calls k q)), .dat (encB b), .dat (.int (c : Nat)), .dat (.list (rowL (rowF b q) (min c k.toNat))), .un, .dat (.str wCalls), .un, .dat (.list [.int k, encR q]), .un, .un] = .ok ((List.range (c + 1)).map fun (i : Nat) => .int (i : Int)) [.dat (encR (.calls k q)), .dat (encB b), .dat (.int (c : Nat)), .dat (.list (rowL (rowF b q) (min c k.toNat))), .un, .dat (.str wCalls), .un, .dat (.list [.int k, encR q]), .un, .un] := by
          simp! [rgN c (by omega), rangeN]
        rw [show rowL (rowF b (.calls k q)) c = (List.range (c + 1)).map fun j => .int (rowF b (.calls k q) j) from rfl]
        refine lc_map (List.range (c + 1)) (fun i => .int (i : Nat)) _ hi (by simp) (fun j hj => ?_) (by rw [List.length_range]; exact hL)
        have hj' : j ≤ c := by have := List.mem_range.mp hj; omega
        have ej : min (j : Int) k = ((min j k.toNat : Nat) : Int) := by omega
        simp! [elF, wipeE, gN, at0, ej, row_at (f := rowF b q) (show min j k.toNat ≤ min c k.toNat by omega), rowF]
      refine ⟨(.ow (.l (rowL (rowF b (.calls k q)) c))), ?_, fun _ => rfl⟩
      rw [encR] at e ⊢
      simp! [m_row_of, gStarM, gN, at0, at1, ec, e1, e2 _, e, eww]
    | all rs =>
      simp only [wfR] at hw
      simp only [dep] at hd
      let st : (Nat → Int) → En := fun f => [.dat (.tuple [.str wAll, .tuple (rs.map encR)]), .dat (encB b), .dat (.int (c : Nat)), .dat (.list (rowL f c)), .un, .dat (.str wAll), .un, .dat (.list [.tuple (rs.map encR)]), .un, .un]
      have e : fr_row_of_1 (s_row_of n) (st fun _ => 0) = .ok .nx (st (rs.foldl (fun f r => conv f (rowF b r)) fun _ => 0)) := by
        unfold fr_row_of_1
        refine (for_fold rs encR st (fun f r => conv f (rowF b r)) (fun _ p => ∀ q ∈ p, q ∈ rs) (by simp! [st, at0, itemsOf]) (fun q hq => hq) (fun q p f hI => ⟨?_, fun z hz => hI z (List.mem_cons_of_mem _ hz)⟩)).1
        have hq := hI q List.mem_cons_self
        obtain ⟨sl, e1, e2⟩ := ih q b c (by have := dep_mem hq; omega) (wf_mem hw.2 hq) (bd_all hB hq) hb hc
        refine ⟨[.dat (.tuple [.str wAll, .tuple (rs.map encR)]), .dat (encB b), .dat (.int (c : Nat)), .dat (.list (rowL f c)), .dat (encR q), .dat (.str wAll), .un, .dat (.list [.tuple (rs.map encR)]), .un, .un], [.dat (.tuple [.str wAll, .tuple (rs.map encR)]), .dat (encB b), .dat (.int (c : Nat)), .dat (.list (rowL (conv f (rowF b q)) c)), .dat (encR q), .dat (.str wAll), .dat (.list (rowL (rowF b q) c)), .dat (.list [.tuple (rs.map encR)]), .un, .un], by simp [st, gN], .inl ?_, by simp [st, wipeE]⟩
        simp! [lp_row_of_1, gN, e1, e2 _, shared_ok f (rowF b q) c hc, eww]
      refine ⟨.dat (.list (rowL (rowF b (.all rs)) c)), ?_, fun _ => rfl⟩
      rw [rowF, rowAll_eq, encR, encRs_map]
      simp only [st] at e
      simp! [m_row_of, gStarM, gN, rpk c hc, rep1, e, LIM, eww]
    | one rs =>
      simp only [wfR] at hw
      simp only [dep] at hd
      let st : (Nat → Int) → En := fun f => [.dat (.tuple [.str wOne, .tuple (rs.map encR)]), .dat (encB b), .dat (.int (c : Nat)), .dat (.list (rowL f c)), .un, .dat (.str wOne), .un, .dat (.list [.tuple (rs.map encR)]), .un, .un]
      have e : fr_row_of_1 (s_row_of n) (st fun _ => 0) = .ok .nx (st (rs.foldl (fun f r => pmax f (rowF b r)) fun _ => 0)) := by
        unfold fr_row_of_1
        refine (for_fold rs encR st (fun f r => pmax f (rowF b r)) (fun _ p => ∀ q ∈ p, q ∈ rs) (by simp! [st, at0, itemsOf]) (fun q hq => hq) (fun q p f hI => ⟨?_, fun z hz => hI z (List.mem_cons_of_mem _ hz)⟩)).1
        have hq := hI q List.mem_cons_self
        obtain ⟨sl, e1, e2⟩ := ih q b c (by have := dep_mem hq; omega) (wf_mem hw.2 hq) (bd_one hB hq) hb hc
        have e3 : lc_row_of_4 (s_row_of n) [.dat (.tuple [.str wOne, .tuple (rs.map encR)]), .dat (encB b), .dat (.int (c : Nat)), .dat (.list (rowL f c)), .dat (encR q), .dat (.str wOne), .dat (.list (rowL (rowF b q) c)), .dat (.list [.tuple (rs.map encR)]), .un, .un] = .ok (.list (rowL (pmax f (rowF b q)) c)) [.dat (.tuple [.str wOne, .tuple (rs.map encR)]), .dat (encB b), .dat (.int (c : Nat)), .dat (.list (rowL f c)), .dat (encR q), .dat (.str wOne), .dat (.list (rowL (rowF b q) c)), .dat (.list [.tuple (rs.map encR)]), .un, .un] := by
          unfold lc_row_of_4
          rw [show rowL (pmax f (rowF b q)) c = (List.range (c + 1)).map fun j => .int (pmax f (rowF b q) j) from rfl]
          refine lc_map (List.range (c + 1)) (fun j => .tuple [.int (f j), .int (rowF b q j)]) _ (by simp! [row_len, zip_row]) (by simp) (fun j hj => ?_) (by rw [List.length_range]; exact hL)
          simp! [elF, wipeE, gN, maxT2, pmax]
        refine ⟨[.dat (.tuple [.str wOne, .tuple (rs.map encR)]), .dat (encB b), .dat (.int (c : Nat)), .dat (.list (rowL f c)), .dat (encR q), .dat (.str wOne), .un, .dat (.list [.tuple (rs.map encR)]), .un, .un], [.dat (.tuple [.str wOne, .tuple (rs.map encR)]), .dat (encB b), .dat (.int (c : Nat)), .dat (.list (rowL (pmax f (rowF b q)) c)), .dat (encR q), .dat (.str wOne), .dat (.list (rowL (rowF b q) c)), .dat (.list [.tuple (rs.map encR)]), .un, .un], by simp [st, gN], .inl ?_, by simp [st, wipeE]⟩
        simp! [lp_row_of_1, gN, e1, e2 _, e3, eww]
      refine ⟨.dat (.list (rowL (rowF b (.one rs)) c)), ?_, fun _ => rfl⟩
      rw [rowF, rowOne_eq, encR, encRs_map]
      simp only [st] at e
      simp! [m_row_of, gStarM, gN, rpk c hc, rep1, e, LIM, eww]
end Lw
namespace Lw
open PySem L2 Bt
mutual
def topR (b : Option Int) : Rt → Int
  | .none => 0
  | .call _ m t => t * cutI m b
  | .all rs => topSum b rs
  | .one rs => topMax b rs
  | .within n r => min n (topR b r)
  | .calls n r => rowF b r (min n (lenR r)).toNat
def topSum (b : Option Int) : List Rt → Int
  | [] => 0
  | r :: rs => topR b r + topSum b rs
def topMax (b : Option Int) : List Rt → Int
  | [] => 0
  | r :: rs => max (topR b r) (topMax b rs)
end
theorem topSum_eq (b : Option Int) : ∀ rs : List Rt, topSum b rs = (rs.map (topR b)).sum
  | [] => rfl
  | r :: rs => by rw [topSum, topSum_eq b rs, List.map_cons, List.sum_cons]
theorem topMax_eq (b : Option Int) : ∀ rs : List Rt, topMax b rs = max0 (rs.map (topR b))
  | [] => rfl
  | r :: rs => by rw [topMax, topMax_eq b rs, List.map_cons, max0]
def OkB : Option Int → Prop
  | none => True
  | some b => 1 ≤ b ∧ b ≤ 10 ^ 100
theorem OkB.bd {b : Option Int} (h : OkB b) : BdB b := by
  cases b with
  | none => trivial
  | some b => simp only [OkB] at h; exact ⟨by omega, by omega⟩
theorem cut_nn {m : Int} {b : Option Int} (h : 1 ≤ m) (hb : OkB b) : 0 ≤ cutI m b := by
  cases b with
  | none => simp only [cutI]; omega
  | some b => simp only [OkB] at hb; simp only [cutI]; omega
theorem conv_nn {f g : Nat → Int} (hf : ∀ j, 0 ≤ f j) (hg : ∀ j, 0 ≤ g j) (j : Nat) : 0 ≤ conv f g j := by
  unfold conv
  have h : f 0 + g (j - 0) ∈ (List.range (j + 1)).map fun i => f i + g (j - i) := List.mem_map.mpr ⟨0, List.mem_range.mpr (by omega), rfl⟩
  have := maxL_ge h
  have := hf 0
  have := hg (j - 0)
  omega
theorem row_nn (b : Option Int) (hb : OkB b) (r : Rt) : wfR r → ∀ j, 0 ≤ rowF b r j := by
  induction r using Rt.ind with
  | h0 => intro _ j; simp [rowF]
  | h1 x m t =>
    intro h j
    simp only [wfR] at h
    simp only [rowF]
    exact Int.mul_nonneg (by omega) (cut_nn h.2.2.1 hb)
  | h2 rs ih =>
    intro h
    simp only [wfR] at h
    rw [rowF, rowAll_eq]
    have : ∀ (qs : List Rt) (f : Nat → Int), (∀ q ∈ qs, q ∈ rs) → (∀ j, 0 ≤ f j) → ∀ j, 0 ≤ qs.foldl (fun f r => conv f (rowF b r)) f j := by
      intro qs
      induction qs with
      | nil => intro f _ hf; exact hf
      | cons q qs ihq =>
        intro f hs hf
        exact ihq _ (fun z hz => hs z (List.mem_cons_of_mem _ hz)) (conv_nn hf (ih q (hs q List.mem_cons_self) (wf_mem h.2 (hs q List.mem_cons_self))))
    exact this rs _ (fun _ hq => hq) (fun _ => Int.le_refl _)
  | h3 rs ih =>
    intro h
    simp only [wfR] at h
    rw [rowF, rowOne_eq]
    have : ∀ (qs : List Rt) (f : Nat → Int), (∀ j, 0 ≤ f j) → ∀ j, 0 ≤ qs.foldl (fun f r => pmax f (rowF b r)) f j := by
      intro qs
      induction qs with
      | nil => intro f hf; exact hf
      | cons q qs ihq =>
        intro f hf
        refine ihq _ fun j => ?_
        have := hf j
        show 0 ≤ max (f j) (rowF b q j)
        omega
    exact this rs _ (fun _ => Int.le_refl _)
  | h4 n r ih =>
    intro h j
    simp only [wfR] at h
    have := ih h.2 j
    simp only [rowF]
    omega
  | h5 n r ih =>
    intro h j
    simp only [wfR] at h
    simp only [rowF]
    exact ih h.2 _
theorem top_nn (b : Option Int) (hb : OkB b) (r : Rt) : wfR r → 0 ≤ topR b r := by
  induction r using Rt.ind with
  | h0 => intro _; simp [topR]
  | h1 x m t => intro h; simp only [wfR] at h; rw [topR]; exact Int.mul_nonneg (by omega) (cut_nn h.2.2.1 hb)
  | h2 rs ih => intro h; simp only [wfR] at h; rw [topR, topSum_eq]; exact sum_nn fun x hx => by obtain ⟨r, hr, rfl⟩ := List.mem_map.mp hx; exact ih r hr (wf_mem h.2 hr)
  | h3 rs ih => intro h; rw [topR, topMax_eq]; exact max0_nn
  | h4 n r ih => intro h; simp only [wfR] at h; have := ih h.2; simp only [topR]; omega
  | h5 n r ih => intro h; simp only [wfR] at h; rw [topR]; exact row_nn b hb r h.2 _
theorem row_last (f : Nat → Int) (c : Nat) : atI (rowL f c) (-1) = some (.int (f c)) := by
  unfold atI ixN
  rw [if_neg (by omega), row_len, if_pos (by omega)]
  show (rowL f c)[(-1 + ((c + 1 : Nat) : Int)).toNat]? = _
  rw [show (-1 + ((c + 1 : Nat) : Int)).toNat = c by omega]
  unfold rowL
  rw [List.getElem?_map, List.getElem?_range (by omega)]
  rfl
def totC (l : List (Str × Int × Int)) : Int := (l.map (·.2.2)).sum
theorem totC_app (a b : List (Str × Int × Int)) : totC (a ++ b) = totC a + totC b := by simp [totC]
theorem tot_nn {l : List (Str × Int × Int)} (h : ∀ q ∈ l, 1 ≤ q.2.2) : 0 ≤ totC l := sum_nn fun x hx => by
  obtain ⟨q, hq, rfl⟩ := List.mem_map.mp hx
  have := h q hq
  omega
theorem wf_calls (r : Rt) : wfR r → ∀ q ∈ callsR r, nameS q.1 = true ∧ PyData.strOk q.1 = true ∧ 1 ≤ q.2.1 ∧ 1 ≤ q.2.2 := by
  induction r using Rt.ind with
  | h0 => intro _ q hq; simp [callsR] at hq
  | h1 x m t => intro h q hq; simp only [wfR] at h; simp only [callsR, List.mem_singleton] at hq; subst hq; exact h
  | h2 rs ih => intro h q hq; simp only [wfR] at h; rw [callsR, callsRs_flat] at hq; obtain ⟨r, hr, hq⟩ := List.mem_flatMap.mp hq; exact ih r hr (wf_mem h.2 hr) q hq
  | h3 rs ih => intro h q hq; simp only [wfR] at h; rw [callsR, callsRs_flat] at hq; obtain ⟨r, hr, hq⟩ := List.mem_flatMap.mp hq; exact ih r hr (wf_mem h.2 hr) q hq
  | h4 n r ih => intro h; simp only [wfR] at h; rw [callsR]; exact ih h.2
  | h5 n r ih => intro h; simp only [wfR] at h; rw [callsR]; exact ih h.2
theorem tot_flat {rs : List Rt} : totC (rs.flatMap callsR) = (rs.map fun r => totC (callsR r)).sum := by
  induction rs with
  | nil => rfl
  | cons r rs ih => rw [List.flatMap_cons, totC_app, ih, List.map_cons, List.sum_cons]
theorem tot_part {rs : List Rt} {r : Rt} (hw : wfRs rs) (hr : r ∈ rs) : totC (callsR r) ≤ totC (rs.flatMap callsR) := by
  induction rs with
  | nil => cases hr
  | cons q qs ih =>
    rw [wfRs] at hw
    rw [List.flatMap_cons, totC_app]
    have h1 := tot_nn fun z hz => (wf_calls q hw.1 z hz).2.2.2
    have h2 : 0 ≤ totC (qs.flatMap callsR) := tot_nn fun z hz => by
      obtain ⟨a, ha, hz⟩ := List.mem_flatMap.mp hz
      exact (wf_calls a (wf_mem hw.2 ha) z hz).2.2.2
    rcases List.mem_cons.mp hr with rfl | hr
    · omega
    · have := ih hw.2 hr; omega
theorem len_tot (r : Rt) : wfR r → lenR r ≤ totC (callsR r) := by
  induction r using Rt.ind with
  | h0 => intro _; simp [lenR, callsR, totC]
  | h1 x m t => intro _; simp [lenR, callsR, totC]
  | h2 rs ih =>
    intro h
    simp only [wfR] at h
    rw [lenR, lenSum_eq, callsR, callsRs_flat, tot_flat]
    have : ∀ qs : List Rt, (∀ q ∈ qs, q ∈ rs) → (qs.map lenR).sum ≤ (qs.map fun r => totC (callsR r)).sum := by
      intro qs
      induction qs with
      | nil => intro _; simp
      | cons q qs ihq =>
        intro hs
        have h1 := ih q (hs q List.mem_cons_self) (wf_mem h.2 (hs q List.mem_cons_self))
        have h2 := ihq fun z hz => hs z (List.mem_cons_of_mem _ hz)
        simp only [List.map_cons, List.sum_cons]
        omega
    exact this rs fun _ h => h
  | h3 rs ih =>
    intro h
    simp only [wfR] at h
    rw [lenR, lenMax_eq, callsR, callsRs_flat]
    refine max0_le (fun x hx => ?_) (tot_nn fun z hz => ?_)
    · obtain ⟨r, hr, rfl⟩ := List.mem_map.mp hx
      exact Int.le_trans (ih r hr (wf_mem h.2 hr)) (tot_part h.2 hr)
    · obtain ⟨a, ha, hz⟩ := List.mem_flatMap.mp hz
      exact (wf_calls a (wf_mem h.2 ha) z hz).2.2.2
  | h4 n r ih => intro h; simp only [wfR] at h; have := ih h.2; simp only [lenR, callsR]; omega
  | h5 n r ih => intro h; simp only [wfR] at h; have := ih h.2; simp only [lenR, callsR]; omega
theorem most_ok : ∀ (n : Nat) (r : Rt) (b : Option Int), dep r ≤ n → n ≤ 30 → wfR r → BdR r → OkB b → totC (callsR r) ≤ 10000 → s_most_of n [.dat (encR r), .dat (encB b)] = .ok (.dat (.int (topR b r))) [.dat (encR r), .dat (encB b)] := by
  intro n
  induction n with
  | zero => intro r b h; cases r <;> simp [dep] at h
  | succ n ih =>
    intro r b hd hn hw hB hb ht
    rw [r_most_of]
    cases r with
    | none => simp! [m_most_of, encR, topR, gStarM, gN, eww]
    | call x m t =>
      simp only [wfR] at hw
      have hq := hB (x, m, t) (by simp [callsR])
      have o2 := cut_bd hw.2.2.1 hq.1 hb.bd
      have h2 : t ≤ 10 ^ 100 := hq.2
      have o1 : okI t = true := okI_of (by omega) (by omega)
      simp! [m_most_of, encR, topR, gStarM, gN, at1, at2', cut_ok, o1, o2, eww]
    | within k q =>
      simp only [dep] at hd
      simp only [wfR] at hw
      rw [callsR] at ht
      simp! [m_most_of, encR, topR, gStarM, gN, at0, at1, ih q b (by omega) (by omega) hw.2 (fun z hz => hB z (by rw [callsR]; exact hz)) hb ht, eww]
    | calls k q =>
      simp only [dep] at hd
      simp only [wfR] at hw
      rw [callsR] at ht
      have hl := len_tot q hw.2
      have hl0 := len_nn q hw.2
      obtain ⟨sl, e1, e2⟩ := row_ok 30 q b (min k (lenR q)).toNat (by omega) hw.2 (fun z hz => hB z (by rw [callsR]; exact hz)) hb.bd (by omega)
      have ec : (((min k (lenR q)).toNat : Nat) : Int) = min k (lenR q) := by omega
      rw [ec] at e1
      simp! [m_most_of, encR, topR, gStarM, gN, at0, at1, longest_ok 30 q (by omega) hw.2, e1, e2 _, row_last, eww]
    | all rs =>
      simp only [dep] at hd
      simp only [wfR] at hw
      rw [callsR, callsRs_flat] at ht
      have e : lc_most_of_1 (s_most_of n) [.dat (.tuple [.str wAll, .tuple (rs.map encR)]), .dat (encB b), .un, .dat (.str wAll), .dat (.list [.tuple (rs.map encR)]), .un] = .ok (.list (rs.map fun r => .int (topR b r))) [.dat (.tuple [.str wAll, .tuple (rs.map encR)]), .dat (encB b), .un, .dat (.str wAll), .dat (.list [.tuple (rs.map encR)]), .un] := by
        unfold lc_most_of_1
        exact lc_map rs encR _ (by simp! [at0, itemsOf]) (by simp) (fun q hq => by simp! [elF, wipeE, gN, ih q b (by have := dep_mem hq; omega) (by omega) (wf_mem hw.2 hq) (bd_all hB hq) hb (Int.le_trans (tot_part hw.2 hq) ht)]) (wf_len hw.1)
      simp! [m_most_of, encR, topR, gStarM, gN, at0, e, encRs_map, sumF_map, topSum_eq, eww]
    | one rs =>
      simp only [dep] at hd
      simp only [wfR] at hw
      rw [callsR, callsRs_flat] at ht
      have e : lc_most_of_1 (s_most_of n) [.dat (.tuple [.str wOne, .tuple (rs.map encR)]), .dat (encB b), .un, .dat (.str wOne), .dat (.list [.tuple (rs.map encR)]), .un] = .ok (.list (rs.map fun r => .int (topR b r))) [.dat (.tuple [.str wOne, .tuple (rs.map encR)]), .dat (encB b), .un, .dat (.str wOne), .dat (.list [.tuple (rs.map encR)]), .un] := by
        unfold lc_most_of_1
        exact lc_map rs encR _ (by simp! [at0, itemsOf]) (by simp) (fun q hq => by simp! [elF, wipeE, gN, ih q b (by have := dep_mem hq; omega) (by omega) (wf_mem hw.2 hq) (bd_one hB hq) hb (Int.le_trans (tot_part hw.2 hq) ht)]) (wf_len hw.1)
      have e2 : maxDf (.list (rs.map fun r => .int (topR b r))) (.int 0) = some (.int (topMax b rs)) := by
        rw [topMax_eq, ← maxD_0 (fun x hx => by obtain ⟨r, hr, rfl⟩ := List.mem_map.mp hx; exact top_nn b hb r (wf_mem hw.2 hr)), List.map_map]
        rfl
      simp! [m_most_of, encR, topR, gStarM, gN, at0, e, e2, encRs_map, eww]
mutual
def highR : Rt → Int
  | .none => 0
  | .call _ m _ => m
  | .all rs => highM rs
  | .one rs => highM rs
  | .within _ r => highR r
  | .calls _ r => highR r
def highM : List Rt → Int
  | [] => 0
  | r :: rs => max (highR r) (highM rs)
end
end Lw
namespace Lw
open PySem L2 Bt
structure GdR (r : Rt) : Prop where
  wf : wfR r
  dp : dep r ≤ 6
  cl : (callsR r).length ≤ 1000
  nd : (namesR r).Nodup
  bd : BdR r
  tt : totC (callsR r) ≤ 10000
theorem GdR.look {r : Rt} (h : GdR r) : s_look_at_right [.dat (encR r)] = .ok (.dat .none) [.dat (encR r)] := look_right r h.wf h.dp h.cl h.nd
theorem GdR.most {r : Rt} (h : GdR r) (b : Option Int) (hb : OkB b) : s_most_of 30 [.dat (encR r), .dat (encB b)] = .ok (.dat (.int (topR b r))) [.dat (encR r), .dat (encB b)] := most_ok 30 r b (by have := h.dp; omega) (by omega) h.wf h.bd hb h.tt
theorem wf_part {r q : Rt} (hw : wfR r) (h : q ∈ partsR r) : wfR q := by
  cases r <;> simp [partsR] at h <;> simp only [wfR] at hw
  · exact wf_mem hw.2 h
  · exact wf_mem hw.2 h
  · subst h; exact hw.2
  · subst h; exact hw.2
theorem parts_len {r : Rt} (hw : wfR r) : (partsR r).length ≤ 1000 := by
  cases r <;> simp [partsR] <;> simp only [wfR] at hw
  · exact hw.1
  · exact hw.1
end Lw
namespace Lw
open PySem L2 Bt
def hi2 (r q : Rt) : Nat := (max (highR r) (highR q)).toNat
end Lw
namespace Lw
open PySem L2 Bt
end Lw
namespace Lw
open PySem L2 Bt
end Lw
namespace Lw
open PySem L2 Bt
end Lw
namespace Lw
open PySem L2 Bt
theorem sortI_perm (ns : List Int) : (sortI ns).Perm ns := List.mergeSort_perm ns _
theorem shp_encL (q : Int × Int) : Shp 2 (encL q) := shp_tup fun d hd => by
  rcases List.mem_cons.mp hd with rfl | hd
  · exact shp_int _
  · rw [List.mem_singleton.mp hd]; exact shp_int _
theorem shp_enc (p : Pile) : Shp 3 (enc p) := shp_tup fun d hd => by
  obtain ⟨q, _, rfl⟩ := List.mem_map.mp hd
  exact shp_encL q
theorem shp_encs (p : Pile) : Shp 3 (.list (p.map encL)) := shp_list fun d hd => by
  obtain ⟨q, _, rfl⟩ := List.mem_map.mp hd
  exact shp_encL q
end Lw
namespace Lw
open PySem L2 Bt
def NmOk (sp : List Str) : Prop := ∀ x ∈ sp, nameS x = true ∧ PyData.strOk x = true
end Lw
namespace Lw
open PySem L2 Bt
structure Sz where
  z : Int
  w : Int
  t : Int
  c : Int
def Sz.up (s : Sz) : Sz := ⟨s.z + 1, s.w + 1, s.t + 1, s.c + 1⟩
mutual
def CrR (s : Sz) : Rt → Prop
  | .none => True
  | .call x m t => nameS x = true ∧ PyData.strOk x = true ∧ 1 ≤ m ∧ m ≤ s.z ∧ 1 ≤ t ∧ t ≤ s.t
  | .all rs => rs.length ≤ 3 ∧ CrRs s rs
  | .one rs => rs.length ≤ 3 ∧ CrRs s rs
  | .within n r => 1 ≤ n ∧ n ≤ s.w ∧ CrR s r
  | .calls n r => 1 ≤ n ∧ n ≤ s.c ∧ CrR s r
def CrRs (s : Sz) : List Rt → Prop
  | [] => True
  | r :: rs => CrR s r ∧ CrRs s rs
end
theorem crs_iff {s : Sz} {rs : List Rt} : CrRs s rs ↔ ∀ r ∈ rs, CrR s r := by
  induction rs with
  | nil => simp [CrRs]
  | cons q qs ih => rw [CrRs, ih]; simp
def Sz.le (s u : Sz) : Prop := s.z ≤ u.z ∧ s.w ≤ u.w ∧ s.t ≤ u.t ∧ s.c ≤ u.c
theorem Sz.le_up (s : Sz) : s.le s.up := by unfold Sz.le Sz.up; dsimp only; refine ⟨?_, ?_, ?_, ?_⟩ <;> omega
theorem CrR.mono {s u : Sz} (h : s.le u) (r : Rt) : CrR s r → CrR u r := by
  obtain ⟨h1, h2, h3, h4⟩ := h
  induction r using Rt.ind with
  | h0 => intro _; trivial
  | h1 x m t => intro h; simp only [CrR] at h ⊢; refine ⟨h.1, h.2.1, h.2.2.1, ?_, h.2.2.2.2.1, ?_⟩ <;> omega
  | h2 rs ih => intro h; simp only [CrR, crs_iff] at h ⊢; exact ⟨h.1, fun r hr => ih r hr (h.2 r hr)⟩
  | h3 rs ih => intro h; simp only [CrR, crs_iff] at h ⊢; exact ⟨h.1, fun r hr => ih r hr (h.2 r hr)⟩
  | h4 n r ih => intro h; simp only [CrR] at h ⊢; exact ⟨h.1, by omega, ih h.2.2⟩
  | h5 n r ih => intro h; simp only [CrR] at h ⊢; exact ⟨h.1, by omega, ih h.2.2⟩
theorem CrR.wf {s : Sz} (r : Rt) : CrR s r → wfR r := by
  induction r using Rt.ind with
  | h0 => intro _; trivial
  | h1 x m t => intro h; simp only [CrR, wfR] at h ⊢; exact ⟨h.1, h.2.1, h.2.2.1, h.2.2.2.2.1⟩
  | h2 rs ih => intro h; simp only [CrR, wfR, crs_iff] at h ⊢; exact ⟨by omega, wfRs_of fun r hr => ih r hr (h.2 r hr)⟩
  | h3 rs ih => intro h; simp only [CrR, wfR, crs_iff] at h ⊢; exact ⟨by omega, wfRs_of fun r hr => ih r hr (h.2 r hr)⟩
  | h4 n r ih => intro h; simp only [CrR, wfR] at h ⊢; exact ⟨h.1, ih h.2.2⟩
  | h5 n r ih => intro h; simp only [CrR, wfR] at h ⊢; exact ⟨h.1, ih h.2.2⟩
theorem CrR.calls {s : Sz} (r : Rt) : CrR s r → ∀ q ∈ callsR r, 1 ≤ q.2.1 ∧ q.2.1 ≤ s.z ∧ 1 ≤ q.2.2 ∧ q.2.2 ≤ s.t := by
  induction r using Rt.ind with
  | h0 => intro _ q hq; simp [callsR] at hq
  | h1 x m t => intro h q hq; simp only [CrR] at h; simp only [callsR, List.mem_singleton] at hq; subst hq; exact h.2.2
  | h2 rs ih =>
    intro h q hq
    simp only [CrR, crs_iff] at h
    rw [callsR, callsRs_flat] at hq
    obtain ⟨r, hr, hq⟩ := List.mem_flatMap.mp hq
    exact ih r hr (h.2 r hr) q hq
  | h3 rs ih =>
    intro h q hq
    simp only [CrR, crs_iff] at h
    rw [callsR, callsRs_flat] at hq
    obtain ⟨r, hr, hq⟩ := List.mem_flatMap.mp hq
    exact ih r hr (h.2 r hr) q hq
  | h4 n r ih => intro h q hq; simp only [CrR] at h; exact ih h.2.2 q (by simpa [callsR] using hq)
  | h5 n r ih => intro h q hq; simp only [CrR] at h; exact ih h.2.2 q (by simpa [callsR] using hq)
theorem totC_le {l : List (Str × Int × Int)} {b : Int} (h : ∀ q ∈ l, q.2.2 ≤ b) : totC l ≤ l.length * b := by
  induction l with
  | nil => simp [totC]
  | cons q qs ih =>
    have h1 := h q List.mem_cons_self
    have h2 := ih fun r hr => h r (List.mem_cons_of_mem _ hr)
    have e : totC (q :: qs) = q.2.2 + totC qs := by simp [totC]
    rw [e, List.length_cons, Int.natCast_add, Int.add_mul]
    omega
theorem names_len (r : Rt) : (namesR r).length = (callsR r).length := by rw [namesR, List.length_map]
theorem CrR.gd {s : Sz} {r : Rt} (h : CrR s r) (hz : s.z ≤ 100) (ht : s.t ≤ 100) (hd : dep r ≤ 6) (hn : (namesR r).Nodup) (hl : (namesR r).length ≤ 10) : GdR r := by
  rw [names_len] at hl
  have hc := h.calls
  refine ⟨h.wf, hd, by omega, hn, fun q hq => ?_, ?_⟩
  · have := hc q hq
    have e : (100 : Int) ≤ 10 ^ 100 := by decide
    omega
  · have h1 := totC_le (b := 100) fun q hq => by have := hc q hq; omega
    have h2 : ((callsR r).length : Int) * 100 ≤ 10 * 100 := Int.mul_le_mul_of_nonneg_right (by omega) (by omega)
    omega
end Lw
namespace Lw
open PySem L2 Bt
section
variable {c a : Int}
end
end Lw
namespace Lw
open PySem L2 Bt
end Lw
namespace Lw
open PySem L2 Bt
def B2 : Option Int → Prop
  | none => True
  | some b => 2 ≤ b ∧ b ≤ 10 ^ 100
theorem B2.ok {b : Option Int} (h : B2 b) : OkB b := by
  cases b with
  | none => trivial
  | some b => simp only [B2] at h; simp only [OkB]; omega
end Lw
namespace Lw
open PySem L2 Bt
def notN : Rt → Bool
  | .none => false
  | _ => true
def frW (n : Int) (r : Rt) : Rt := if notN r then .within n r else .none
def frC (n : Int) (r : Rt) : Rt := if notN r then .calls n r else .none
theorem callsA (qs : List Rt) : callsR (.all qs) = qs.flatMap callsR := by rw [callsR, callsRs_flat]
theorem callsO (qs : List Rt) : callsR (.one qs) = qs.flatMap callsR := by rw [callsR, callsRs_flat]
theorem wfs_iff {qs : List Rt} : wfRs qs ↔ ∀ q ∈ qs, wfR q := by
  induction qs with
  | nil => simp [wfRs]
  | cons q qs ih => rw [wfRs, ih]; simp
theorem calls_part {rs : List Rt} {r : Rt} (hr : r ∈ rs) : (callsR r).length ≤ (rs.flatMap callsR).length := by
  induction rs with
  | nil => cases hr
  | cons q qs ih =>
    rw [List.flatMap_cons, List.length_append]
    rcases List.mem_cons.mp hr with rfl | hr
    · omega
    · have := ih hr; omega
end Lw
namespace Lw
open PySem L2 Bt
section
variable {b : Option Int}
end
end Lw
namespace Lw
open PySem L2 Bt
theorem shpW (x : Str) (h : PyData.strOk x = true) : Shp 1 (.str x) := shp_str x (by simpa [PyData.canLay0] using h)
theorem shp_R (r : Rt) : wfR r → Shp (2 * dep r) (encR r) := by
  have w1 : ∀ {n : Nat} (x : Str), PyData.strOk x = true → 1 ≤ n → Shp n (.str x) := fun x h hn => (shpW x h).up hn
  have i1 : ∀ {n : Nat} (x : Int), 1 ≤ n → Shp n (.int x) := fun x hn => (shp_int x).up hn
  induction r using Rt.ind with
  | h0 =>
    intro _
    refine (shp_tup (n := 1) fun d hd => ?_).up (by simp [dep])
    rw [List.mem_singleton.mp hd]
    exact shpW _ ok_none.1
  | h1 x m t =>
    intro h
    simp only [wfR] at h
    refine (shp_tup (n := 1) fun d hd => ?_).up (by simp [dep])
    simp only [List.mem_cons, List.not_mem_nil, or_false] at hd
    rcases hd with rfl | rfl | rfl | rfl
    · exact shpW _ ok_call.1
    · exact shpW _ h.2.1
    · exact shp_int _
    · exact shp_int _
  | h2 rs ih => 
    intro h
    simp only [wfR] at h
    have hd : dep (.all rs) = deps rs + 1 := by rw [dep]; omega
    rw [hd, encR, encRs_map]
    refine (shp_tup (n := 2 * deps rs + 1) fun d hd => ?_).up (by omega)
    simp only [List.mem_cons, List.not_mem_nil, or_false] at hd
    rcases hd with rfl | rfl
    · exact w1 _ ok_all.1 (by omega)
    · refine shp_tup fun d hd => ?_
      obtain ⟨r, hr, rfl⟩ := List.mem_map.mp hd
      have := dep_mem hr
      exact (ih r hr (wf_mem h.2 hr)).up (by omega)
  | h3 rs ih => 
    intro h
    simp only [wfR] at h
    have hd : dep (.one rs) = deps rs + 1 := by rw [dep]; omega
    rw [hd, encR, encRs_map]
    refine (shp_tup (n := 2 * deps rs + 1) fun d hd => ?_).up (by omega)
    simp only [List.mem_cons, List.not_mem_nil, or_false] at hd
    rcases hd with rfl | rfl
    · exact w1 _ ok_one.1 (by omega)
    · refine shp_tup fun d hd => ?_
      obtain ⟨r, hr, rfl⟩ := List.mem_map.mp hd
      have := dep_mem hr
      exact (ih r hr (wf_mem h.2 hr)).up (by omega)
  | h4 n r ih => 
    intro h
    simp only [wfR] at h
    have hd : dep (.within n r) = dep r + 1 := by rw [dep]; omega
    rw [hd, encR]
    refine (shp_tup (n := 2 * dep r + 1) fun d hd => ?_).up (by omega)
    simp only [List.mem_cons, List.not_mem_nil, or_false] at hd
    rcases hd with rfl | rfl | rfl
    · exact w1 _ ok_within.1 (by omega)
    · exact i1 _ (by omega)
    · exact (ih h.2).up (by omega)
  | h5 n r ih => 
    intro h
    simp only [wfR] at h
    have hd : dep (.calls n r) = dep r + 1 := by rw [dep]; omega
    rw [hd, encR]
    refine (shp_tup (n := 2 * dep r + 1) fun d hd => ?_).up (by omega)
    simp only [List.mem_cons, List.not_mem_nil, or_false] at hd
    rcases hd with rfl | rfl | rfl
    · exact w1 _ ok_calls.1 (by omega)
    · exact i1 _ (by omega)
    · exact (ih h.2).up (by omega)
theorem cut_lo (xs : List D) (k : Nat) (h : k ≤ xs.length) : cutD xs none (some (k : Int)) = xs.take k := by
  unfold cutD
  rw [HT.sIx_none, HT.sIx_nat, Nat.min_eq_left h, List.drop_zero, Nat.sub_zero]
theorem cut_hi (xs : List D) (k : Nat) (h : k ≤ xs.length) : cutD xs (some (k : Int)) none = xs.drop k := by
  unfold cutD
  rw [HT.sIx_none, HT.sIx_nat, Nat.min_eq_left h]
  exact List.take_of_length_le (by rw [List.length_drop]; exact Nat.le_refl _)
structure ChP (s : Sz) (r r' : Rt) : Prop where
  cr : CrR s.up r'
  dp : dep r' ≤ dep r
  nm : (namesR r').Sublist (namesR r)
theorem ChP.refl {s : Sz} {r : Rt} (h : CrR s r) : ChP s r r := ⟨h.mono s.le_up, Nat.le_refl _, List.Sublist.refl _⟩
end Lw
namespace Lw
open PySem L2 Bt
end Lw
namespace Lw
open PySem L2 Bt
theorem shp_no : Shp 3 (.tuple [PyData.str wNone]) := shp_R .none trivial |>.up (by decide)
theorem eqv_no (r : Rt) : PyData.eqv (encR r) (.tuple [.str wNone]) = !notN r := by
  cases r <;> simp [encR, PyData.eqv, PyData.eqvAll, notN]
theorem eq_no {r : Rt} (h : wfR r) (hd : dep r ≤ 30) : eqD (encR r) (.tuple [.str wNone]) = some (.bool (!notN r)) := by
  rw [eqD_of (shp_R r h) shp_no (by omega), eqv_no]
theorem frameW_ok {n : Int} {r : Rt} (hn : 1 ≤ n) (h : wfR r) (hd : dep r ≤ 30) : s_frame_of [.dat (.str wWithin), .dat (.int n), .dat (encR r)] = .ok (.dat (encR (frW n r))) [.dat (.str wWithin), .dat (.int n), .dat (encR r)] := by
  have e := eq_no h hd
  have l3 : 3 ≤ LIM := by decide
  have n0 : ¬ n = 0 := by omega
  unfold frW
  cases hh : notN r <;> rw [hh] at e <;> simp! [s_frame_of, m_frame_of, eqD_int, n0, e, encR, l3]
theorem frameC_ok {n : Int} {r : Rt} (hn : 1 ≤ n) (h : wfR r) (hd : dep r ≤ 30) : s_frame_of [.dat (.str wCalls), .dat (.int n), .dat (encR r)] = .ok (.dat (encR (frC n r))) [.dat (.str wCalls), .dat (.int n), .dat (encR r)] := by
  have e := eq_no h hd
  have l3 : 3 ≤ LIM := by decide
  have n0 : ¬ n = 0 := by omega
  unfold frC
  cases hh : notN r <;> rw [hh] at e <;> simp! [s_frame_of, m_frame_of, eqD_int, n0, e, encR, l3]
end Lw
namespace Lw
open PySem L2 Bt
noncomputable def lc_most_by_1 (ih : M Sl) : M D := (mLc (mIt (mCall s_parts_in [] (mCons (mR 0) (ret [])))) (gN 3) (ret true) (mCall ih [] (mCons (mR 3) (mCons (mR 1) (ret [])))) [3])
noncomputable def m_most_by (ih : M Sl) : M Fl := (mSeq (mIfS (bnd (mOp eqD (mD (mOp ixD (mR 0) (mD (ret (.int 0))))) (mD (ret (.str (Str.ofString "call"))))) asB) (mSeq (mRet (mIf (bnd (mOp eqD (mD (mOp ixD (mR 0) (mD (ret (.int 1))))) (mR 1)) asB) (mOp ixD (mR 0) (mD (ret (.int 2)))) (ret (.int 0)))) mNil) mNil) (mSeq (mSet (gN 2) (mDfl maxDf (mD (lc_most_by_1 ih)) (ret (.int 0)))) (mSeq (mRet (mIf (bnd (mOp eqD (mD (mOp ixD (mR 0) (mD (ret (.int 0))))) (mD (ret (.str (Str.ofString "within"))))) asB) (mB minF (mCons (mD (mOp ixD (mR 0) (mD (ret (.int 1))))) (mCons (mR 2) (ret [])))) (mV 2))) mNil)))
noncomputable def s_most_by : Nat → M Sl
  | 0 => stuck
  | n + 1 => mFn [2] 2 (m_most_by (s_most_by n))
theorem r_most_by (n : Nat) : s_most_by (n + 1) = mFn [2] 2 (m_most_by (s_most_by n)) := rfl
noncomputable def lc_gone_behind_1 (ih : M Sl) : M D := (mLc (mIt (mOp ixD (mR 0) (mD (ret (.int 1))))) (gN 4) (ret true) (mOp gtD (mD (mCall (s_most_by 30) [] (mCons (mR 4) (mCons (mR 1) (ret []))))) (mD (ret (.int 0)))) [4])
noncomputable def m_gone_behind (ih : M Sl) : M Fl := (mSeq (mIfS (bnd (mOp eqD (mD (mOp ixD (mR 0) (mD (ret (.int 0))))) (mD (ret (.str (Str.ofString "call"))))) asB) (mSeq (mRet (mIf (bnd (mOp gtD (mD (mOp ixD (mR 0) (mD (ret (.int 3))))) (mD (ret (.int 1)))) asB) (mTup (mConsD (ret (.str (Str.ofString "call"))) (mConsD (mV 1) (mConsD (mOp ixD (mR 0) (mD (ret (.int 2)))) (mConsD (mOp subD (mD (mOp ixD (mR 0) (mD (ret (.int 3))))) (mD (ret (.int 1)))) (ret [])))))) (ret (.tuple [.str (Str.ofString "none")])))) mNil) mNil) (mSeq (mIfS (bnd (mOp eqD (mD (mOp ixD (mR 0) (mD (ret (.int 0))))) (mD (ret (.str (Str.ofString "within"))))) asB) (mSeq (mRetS (mCallO s_frame_of [] (mCons (mD (ret (.str (Str.ofString "within")))) (mCons (mD (mOp subD (mD (mOp ixD (mR 0) (mD (ret (.int 1))))) (mR 2))) (mCons (mD (mCall ih [] (mCons (mD (mOp ixD (mR 0) (mD (ret (.int 2))))) (mCons (mR 1) (mCons (mR 2) (ret [])))))) (ret [])))))) mNil) mNil) (mSeq (mIfS (bnd (mOp eqD (mD (mOp ixD (mR 0) (mD (ret (.int 0))))) (mD (ret (.str (Str.ofString "calls"))))) asB) (mSeq (mRetS (mCallO s_frame_of [] (mCons (mD (ret (.str (Str.ofString "calls")))) (mCons (mD (mOp subD (mD (mOp ixD (mR 0) (mD (ret (.int 1))))) (mD (ret (.int 1))))) (mCons (mD (mCall ih [] (mCons (mD (mOp ixD (mR 0) (mD (ret (.int 2))))) (mCons (mR 1) (mCons (mR 2) (ret [])))))) (ret [])))))) mNil) mNil) (mSeq (mSet (gN 3) (mMeth idxD (mD (lc_gone_behind_1 ih)) (mD (ret (.bool true))))) (mSeq (mIfS (bnd (mOp eqD (mD (mOp ixD (mR 0) (mD (ret (.int 0))))) (mD (ret (.str (Str.ofString "one"))))) asB) (mSeq (mRetS (mCallO ih [] (mCons (mD (mOp ixD (mD (mOp ixD (mR 0) (mD (ret (.int 1))))) (mR 3))) (mCons (mR 1) (mCons (mR 2) (ret [])))))) mNil) mNil) (mSeq (mRet (mTup (mConsD (ret (.str (Str.ofString "all"))) (mConsD (mOp addD (mD (mOp addD (mD (mSl (mD (mOp ixD (mR 0) (mD (ret (.int 1))))) (mPart none) (mPart (some (mV 3))))) (mD (mTup (mConsD (mCall ih [] (mCons (mD (mOp ixD (mD (mOp ixD (mR 0) (mD (ret (.int 1))))) (mR 3))) (mCons (mR 1) (mCons (mR 2) (ret []))))) (ret [])))))) (mD (mSl (mD (mOp ixD (mR 0) (mD (ret (.int 1))))) (mPart (some (mOp addD (mR 3) (mD (ret (.int 1)))))) (mPart none)))) (ret []))))) mNil))))))
noncomputable def s_gone_behind : Nat → M Sl
  | 0 => stuck
  | n + 1 => mFn [3] 2 (m_gone_behind (s_gone_behind n))
theorem r_gone_behind (n : Nat) : s_gone_behind (n + 1) = mFn [3] 2 (m_gone_behind (s_gone_behind n)) := rfl
end Lw
namespace Lw
open PySem L2 Bt
mutual
def mayR (x : Str) : Rt → Int
  | .none => 0
  | .call y m _ => if y = x then m else 0
  | .all rs => mayM x rs
  | .one rs => mayM x rs
  | .within n r => min n (mayR x r)
  | .calls _ r => mayR x r
def mayM (x : Str) : List Rt → Int
  | [] => 0
  | r :: rs => max (mayR x r) (mayM x rs)
end
theorem mayM_eq (x : Str) : ∀ rs : List Rt, mayM x rs = max0 (rs.map (mayR x))
  | [] => rfl
  | r :: rs => by rw [mayM, mayM_eq x rs, List.map_cons, max0]
theorem may_nn (x : Str) (r : Rt) : wfR r → 0 ≤ mayR x r := by
  induction r using Rt.ind with
  | h0 => intro _; simp [mayR]
  | h1 y m t => intro h; simp only [wfR] at h; rw [mayR]; split <;> omega
  | h2 rs ih => intro h; rw [mayR, mayM_eq]; exact max0_nn
  | h3 rs ih => intro h; rw [mayR, mayM_eq]; exact max0_nn
  | h4 n r ih => intro h; simp only [wfR] at h; have := ih h.2; rw [mayR]; omega
  | h5 n r ih => intro h; simp only [wfR] at h; rw [mayR]; exact ih h.2
theorem shp_strX {x : Str} (h : PyData.strOk x = true) : Shp 1 (.str x) := ⟨h, by simp [PyData.depth]⟩
theorem eqD_strX {x y : Str} (hx : PyData.strOk x = true) (hy : PyData.strOk y = true) : eqD (.str y) (.str x) = some (.bool (decide (y = x))) := by
  rw [eqD_of (shp_strX hy) (shp_strX hx)]
  simp [PyData.eqv]
  by_cases c : y = x
  · simp [c]
  · simp [c]
theorem most_by_ok {x : Str} (hx : PyData.strOk x = true) : ∀ (n : Nat) (r : Rt), dep r ≤ n → wfR r → s_most_by n [.dat (encR r), .dat (.str x)] = .ok (.dat (.int (mayR x r))) [.dat (encR r), .dat (.str x)] := by
  intro n
  induction n with
  | zero => intro r h; cases r <;> simp [dep] at h
  | succ n ih =>
    intro r hd hw
    rw [r_most_by]
    have key : lc_most_by_1 (s_most_by n) [.dat (encR r), .dat (.str x), .un, .un] = .ok (.list (((partsR r).map (mayR x)).map .int)) [.dat (encR r), .dat (.str x), .un, .un] := by
      unfold lc_most_by_1
      rw [List.map_map]
      exact lc_map (partsR r) encR _ (by simp! [parts_ok, itemsOf]) (by simp) (fun q h => by simp! [elF, wipeE, gN, ih q (by have := dep_parts h; omega) (wf_part hw h)]) (wf_len (parts_len hw))
    have e2 := maxD_0 (l := (partsR r).map (mayR x)) fun z hz => by
      obtain ⟨q, h, rfl⟩ := List.mem_map.mp hz
      exact may_nn x q (wf_part hw h)
    generalize hM : max0 ((partsR r).map (mayR x)) = M at e2
    generalize ((partsR r).map (mayR x)).map PyData.int = LL at key e2
    cases r with
    | none =>
      simp [partsR, max0] at hM
      subst hM
      rw [encR] at key ⊢
      simp! [m_most_by, mayR, gN, at0, key, e2, eww]
    | call y m t =>
      simp only [wfR] at hw
      have ey := eqD_strX hx hw.2.1
      by_cases c : y = x
      · rw [decide_eq_true c] at ey
        subst c
        simp! [m_most_by, encR, mayR, gN, at0, at1, at2', ey, eww]
      · simp! [m_most_by, encR, mayR, gN, at0, at1, at2', ey, c, eww]
    | within k q =>
      simp only [wfR] at hw
      have hq := may_nn x q hw.2
      have hM' : M = mayR x q := by rw [← hM]; simp [partsR, max0]; omega
      subst hM'
      rw [encR] at key ⊢
      simp! [m_most_by, mayR, gN, at0, at1, key, e2, eww]
    | calls k q =>
      simp only [wfR] at hw
      have hq := may_nn x q hw.2
      have hM' : M = mayR x q := by rw [← hM]; simp [partsR, max0]; omega
      subst hM'
      rw [encR] at key ⊢
      simp! [m_most_by, mayR, gN, at0, at1, key, e2, eww]
    | all rs =>
      have hM' : M = mayM x rs := by rw [← hM, mayM_eq]; rfl
      subst hM'
      rw [encR] at key ⊢
      simp! [m_most_by, mayR, gN, at0, at1, key, e2, eww]
    | one rs =>
      have hM' : M = mayM x rs := by rw [← hM, mayM_eq]; rfl
      subst hM'
      rw [encR] at key ⊢
      simp! [m_most_by, mayR, gN, at0, at1, key, e2, eww]
end Lw
namespace Lw
open PySem L2 Bt
theorem names_parts (r : Rt) (h : ∀ y m t, r ≠ .call y m t) : namesR r = (partsR r).flatMap namesR := by
  cases r with
  | call y m t => exact absurd rfl (h y m t)
  | none => rfl
  | within n q => simp [partsR, namesR, callsR]
  | calls n q => simp [partsR, namesR, callsR]
  | all rs => rw [show partsR (.all rs) = rs from rfl]; unfold namesR; rw [callsA, List.map_flatMap]
  | one rs => rw [show partsR (.one rs) = rs from rfl]; unfold namesR; rw [callsO, List.map_flatMap]
theorem part_calls {r q : Rt} (hq : q ∈ partsR r) : (callsR q).length ≤ (callsR r).length := by
  cases r with
  | none => simp [partsR] at hq
  | call y m t => simp [partsR] at hq
  | within n z => rw [show partsR (.within n z) = [z] from rfl, List.mem_singleton] at hq; subst hq; rw [callsR]; exact Nat.le_refl _
  | calls n z => rw [show partsR (.calls n z) = [z] from rfl, List.mem_singleton] at hq; subst hq; rw [callsR]; exact Nat.le_refl _
  | all rs => rw [callsA]; exact calls_part hq
  | one rs => rw [callsO]; exact calls_part hq
end Lw
namespace Lw
open PySem L2 Bt
theorem namesA (rs : List Rt) : namesR (.all rs) = rs.flatMap namesR := names_parts (.all rs) fun _ _ _ => by simp
theorem namesO (rs : List Rt) : namesR (.one rs) = rs.flatMap namesR := names_parts (.one rs) fun _ _ _ => by simp
theorem namesW (n : Int) (r : Rt) : namesR (.within n r) = namesR r := by simp [namesR, callsR]
theorem namesCs (n : Int) (r : Rt) : namesR (.calls n r) = namesR r := by simp [namesR, callsR]
theorem may_out {x : Str} (r : Rt) : wfR r → x ∉ namesR r → mayR x r = 0 := by
  have hM : ∀ rs : List Rt, (∀ q ∈ rs, mayR x q = 0) → mayM x rs = 0 := by
    intro rs h
    induction rs with
    | nil => rfl
    | cons a l ih => rw [mayM, h a List.mem_cons_self, ih fun q hq => h q (List.mem_cons_of_mem _ hq)]; rfl
  induction r using Rt.ind with
  | h0 => intro _ _; rfl
  | h1 y m t => intro _ h; rw [mayR, if_neg]; intro e; exact h (by simp [namesR, callsR, e])
  | h2 rs ih =>
    intro hw h
    simp only [wfR] at hw
    rw [namesA] at h
    rw [mayR]
    exact hM rs fun q hq => ih q hq (wf_mem hw.2 hq) fun hx => h (List.mem_flatMap.mpr ⟨q, hq, hx⟩)
  | h3 rs ih =>
    intro hw h
    simp only [wfR] at hw
    rw [namesO] at h
    rw [mayR]
    exact hM rs fun q hq => ih q hq (wf_mem hw.2 hq) fun hx => h (List.mem_flatMap.mpr ⟨q, hq, hx⟩)
  | h4 n r ih => intro hw h; simp only [wfR] at hw; rw [namesW] at h; rw [mayR, ih hw.2 h]; omega
  | h5 n r ih => intro hw h; simp only [wfR] at hw; rw [namesCs] at h; rw [mayR, ih hw.2 h]
theorem may_part {x : Str} : ∀ {rs : List Rt}, (∀ q ∈ rs, wfR q) → (rs.flatMap namesR).Nodup → ∀ q ∈ rs, x ∈ namesR q → mayM x rs = mayR x q
  | [], _, _, q, h, _ => by simp at h
  | a :: l, hw, hn, q, hq, hx => by
    rw [List.flatMap_cons] at hn
    obtain ⟨n1, n2, n3⟩ := List.nodup_append.mp hn
    have hwl : ∀ q ∈ l, wfR q := fun q hq => hw q (List.mem_cons_of_mem _ hq)
    have nna := may_nn x a (hw a List.mem_cons_self)
    rw [mayM]
    rcases List.mem_cons.mp hq with rfl | hql
    · have h0 : mayM x l = 0 := by
        rw [mayM_eq]
        have : ∀ z ∈ l.map (mayR x), z = 0 := fun z hz => by
          obtain ⟨p, hp, rfl⟩ := List.mem_map.mp hz
          exact may_out p (hwl p hp) fun hxp => n3 x hx x (List.mem_flatMap.mpr ⟨p, hp, hxp⟩) rfl
        generalize l.map (mayR x) = zs at this
        induction zs with
        | nil => rfl
        | cons z zs ih => rw [max0, this z List.mem_cons_self, ih fun w hw => this w (List.mem_cons_of_mem _ hw)]; rfl
      rw [h0]; omega
    · have h0 : mayR x a = 0 := may_out a (hw a List.mem_cons_self) fun hxa => n3 x hxa x (List.mem_flatMap.mpr ⟨q, hql, hx⟩) rfl
      have ih := may_part hwl n2 q hql hx
      have nq := may_nn x q (hwl q hql)
      rw [h0, ih]; omega
theorem may_in {x : Str} {r : Rt} (hw : wfR r) (h : 0 < mayR x r) : x ∈ namesR r := Classical.byContradiction fun hn => by
  have := may_out r hw hn
  omega
end Lw
namespace Lw
open PySem L2 Bt
structure BhR (r : Rt) : Prop where
  wf : wfR r
  cl : (callsR r).length ≤ 1000
  nd : (namesR r).Nodup
theorem nd_part : ∀ {rs : List Rt}, (rs.flatMap namesR).Nodup → ∀ q ∈ rs, (namesR q).Nodup
  | [], _, q, h => by simp at h
  | a :: l, hn, q, hq => by
    rw [List.flatMap_cons] at hn
    obtain ⟨n1, n2, n3⟩ := List.nodup_append.mp hn
    rcases List.mem_cons.mp hq with rfl | hq
    · exact n1
    · exact nd_part n2 q hq
theorem BhR.part {r q : Rt} (h : BhR r) (hq : q ∈ partsR r) : BhR q := by
  refine ⟨wf_part h.wf hq, Nat.le_trans (part_calls hq) h.cl, ?_⟩
  cases r with
  | none => simp [partsR] at hq
  | call y m t => simp [partsR] at hq
  | within n z => rw [show partsR (.within n z) = [z] from rfl, List.mem_singleton] at hq; subst hq; have := h.nd; rw [namesW] at this; exact this
  | calls n z => rw [show partsR (.calls n z) = [z] from rfl, List.mem_singleton] at hq; subst hq; have := h.nd; rw [namesCs] at this; exact this
  | all rs => have := h.nd; rw [namesA] at this; exact nd_part this q hq
  | one rs => have := h.nd; rw [namesO] at this; exact nd_part this q hq
end Lw
namespace Lw
open PySem L2 Bt
theorem find_split {x : Str} : ∀ {rs : List Rt}, x ∈ rs.flatMap namesR → ∃ pre q post, rs = pre ++ q :: post ∧ (∀ p ∈ pre, x ∉ namesR p) ∧ x ∈ namesR q
  | [], h => by simp at h
  | a :: l, h => by
    by_cases c : x ∈ namesR a
    · exact ⟨[], a, l, rfl, fun p hp => by simp at hp, c⟩
    · rw [List.flatMap_cons, List.mem_append] at h
      obtain ⟨pre, q, post, rfl, h1, h2⟩ := find_split (h.resolve_left c)
      refine ⟨a :: pre, q, post, rfl, fun p hp => ?_, h2⟩
      rcases List.mem_cons.mp hp with rfl | hp
      · exact c
      · exact h1 p hp
mutual
def rawP (x : Str) (s : Int) : Rt → Rt
  | .none => .none
  | .call _ m t => if 1 < t then .call x m (t - 1) else .none
  | .one rs => rawPO x s rs
  | .all rs => .all (rawPA x s rs)
  | .within n r => if n - s = 0 then .none else frW (n - s) (rawP x s r)
  | .calls n r => if n - 1 = 0 then .none else frC (n - 1) (rawP x s r)
def rawPA (x : Str) (s : Int) : List Rt → List Rt
  | [] => []
  | r :: rs => if x ∈ namesR r then rawP x s r :: rs else r :: rawPA x s rs
def rawPO (x : Str) (s : Int) : List Rt → Rt
  | [] => .none
  | r :: rs => if x ∈ namesR r then rawP x s r else rawPO x s rs
end
theorem rawPA_split (x : Str) (s : Int) : ∀ (pre : List Rt) (q : Rt) (post : List Rt), (∀ p ∈ pre, x ∉ namesR p) → x ∈ namesR q → rawPA x s (pre ++ q :: post) = pre ++ rawP x s q :: post
  | [], q, post, _, hq => by rw [List.nil_append, rawPA, if_pos hq]; rfl
  | a :: pre, q, post, h, hq => by rw [List.cons_append, rawPA, if_neg (h a List.mem_cons_self), rawPA_split x s pre q post (fun p hp => h p (List.mem_cons_of_mem _ hp)) hq]; rfl
theorem rawPO_split (x : Str) (s : Int) : ∀ (pre : List Rt) (q : Rt) (post : List Rt), (∀ p ∈ pre, x ∉ namesR p) → x ∈ namesR q → rawPO x s (pre ++ q :: post) = rawP x s q
  | [], q, post, _, hq => by rw [List.nil_append, rawPO, if_pos hq]
  | a :: pre, q, post, h, hq => by rw [List.cons_append, rawPO, if_neg (h a List.mem_cons_self), rawPO_split x s pre q post (fun p hp => h p (List.mem_cons_of_mem _ hp)) hq]
end Lw
namespace Lw
open PySem L2 Bt
theorem wfs_of {rs : List Rt} (h : ∀ q ∈ rs, wfR q) : wfRs rs := wfs_iff.mpr h
theorem deps_iff {rs : List Rt} {k : Nat} (h : ∀ q ∈ rs, dep q ≤ k) : deps rs ≤ k := by
  induction rs with
  | nil => simp [deps]
  | cons a l ih =>
    have h1 := h a List.mem_cons_self
    have h2 := ih fun q hq => h q (List.mem_cons_of_mem _ hq)
    rw [deps]; omega
theorem rawP_wf {x : Str} (hx : nameS x = true ∧ PyData.strOk x = true) {s : Int} (hs : 1 ≤ s) : ∀ (r : Rt), BhR r → s ≤ mayR x r → wfR (rawP x s r) ∧ dep (rawP x s r) ≤ dep r := by
  intro r
  induction r using Rt.ind with
  | h0 => intro _ h; simp [mayR] at h; omega
  | h1 y m t =>
    intro hb _
    have hw := hb.wf
    simp only [wfR] at hw
    rw [rawP]
    split
    · exact ⟨by simp only [wfR]; exact ⟨hx.1, hx.2, hw.2.2.1, by omega⟩, by simp [dep]⟩
    · exact ⟨by simp [wfR], by simp [dep]⟩
  | h2 rs ih =>
    intro hb h
    have hxr := may_in hb.wf (x := x) (by omega)
    have hnd := hb.nd
    rw [namesA] at hxr hnd
    obtain ⟨pre, q, post, rfl, h1, hq⟩ := find_split hxr
    have hqm : q ∈ pre ++ q :: post := by simp
    have hw := hb.wf
    simp only [wfR] at hw
    rw [mayR, may_part (fun p hp => wf_mem hw.2 hp) hnd q hqm hq] at h
    obtain ⟨e1, e2⟩ := ih q hqm (hb.part (r := .all _) hqm) h
    rw [rawP, rawPA_split x s pre q post h1 hq]
    have hmem : ∀ z ∈ pre ++ rawP x s q :: post, wfR z ∧ dep z ≤ deps (pre ++ q :: post) := by
      intro z hz
      rcases List.mem_append.mp hz with hz | hz
      · have hz' : z ∈ pre ++ q :: post := List.mem_append_left _ hz
        exact ⟨wf_mem hw.2 hz', dep_mem hz'⟩
      · rcases List.mem_cons.mp hz with rfl | hz
        · exact ⟨e1, Nat.le_trans e2 (dep_mem hqm)⟩
        · have hz' : z ∈ pre ++ q :: post := List.mem_append_right _ (List.mem_cons_of_mem _ hz)
          exact ⟨wf_mem hw.2 hz', dep_mem hz'⟩
    constructor
    · simp only [wfR]
      refine ⟨?_, wfs_of fun z hz => (hmem z hz).1⟩
      have := hw.1
      simp only [List.length_append, List.length_cons] at this ⊢
      exact this
    · simp only [dep]
      have := deps_iff fun z hz => (hmem z hz).2
      omega
  | h3 rs ih =>
    intro hb h
    have hxr := may_in hb.wf (x := x) (by omega)
    have hnd := hb.nd
    rw [namesO] at hxr hnd
    obtain ⟨pre, q, post, rfl, h1, hq⟩ := find_split hxr
    have hqm : q ∈ pre ++ q :: post := by simp
    have hw := hb.wf
    simp only [wfR] at hw
    rw [mayR, may_part (fun p hp => wf_mem hw.2 hp) hnd q hqm hq] at h
    obtain ⟨e1, e2⟩ := ih q hqm (hb.part (r := .one _) hqm) h
    rw [rawP, rawPO_split x s pre q post h1 hq]
    refine ⟨e1, ?_⟩
    simp only [dep]
    have := dep_mem hqm
    omega
  | h4 n r ih =>
    intro hb h
    rw [mayR] at h
    obtain ⟨e1, e2⟩ := ih (hb.part (by simp [partsR])) (by omega)
    rw [rawP]
    split
    · exact ⟨by simp [wfR], by simp [dep]⟩
    · unfold frW
      split
      · exact ⟨by simp only [wfR]; exact ⟨by omega, e1⟩, by simp only [dep]; omega⟩
      · exact ⟨by simp [wfR], by simp [dep]⟩
  | h5 n r ih =>
    intro hb h
    rw [mayR] at h
    have hw := hb.wf
    simp only [wfR] at hw
    obtain ⟨e1, e2⟩ := ih (hb.part (by simp [partsR])) h
    rw [rawP]
    split
    · exact ⟨by simp [wfR], by simp [dep]⟩
    · unfold frC
      split
      · exact ⟨by simp only [wfR]; exact ⟨by omega, e1⟩, by simp only [dep]; omega⟩
      · exact ⟨by simp [wfR], by simp [dep]⟩
theorem frame0 (w : Str) (d : D) : s_frame_of [.dat (.str w), .dat (.int 0), .dat d] = .ok (.dat (encR .none)) [.dat (.str w), .dat (.int 0), .dat d] := by
  simp! [s_frame_of, m_frame_of, gN, eqD_int, encR, eww]
theorem idx_true {rs pre post : List Rt} {q : Rt} {x : Str} (e : rs = pre ++ q :: post) (h1 : ∀ p ∈ pre, mayR x p = 0) (h2 : 0 < mayR x q) : idxD (.list (rs.map fun p => .bool (decide (0 < mayR x p)))) (.bool true) = some (.int (pre.length : Nat)) := by
  have hf : (rs.map fun p => PyData.bool (decide (0 < mayR x p))).all flatD = true := by rw [List.all_eq_true]; intro d hd; obtain ⟨y, _, rfl⟩ := List.mem_map.mp hd; rfl
  have hi : (rs.map fun p => PyData.bool (decide (0 < mayR x p))).findIdx? (fun y => PyData.eqv y (.bool true)) = some pre.length := by
    clear hf
    subst e
    induction pre with
    | nil => simp [List.findIdx?_cons, h2, PyData.eqv]
    | cons a l ih =>
      have ha := h1 a List.mem_cons_self
      have ih' := ih fun p hp => h1 p (List.mem_cons_of_mem _ hp)
      rw [List.cons_append, List.map_cons, List.findIdx?_cons, ih']
      simp [ha, PyData.eqv]
  unfold idxD
  simp only [hf, hi]
  rfl
theorem gone_ok {x : Str} (hx : nameS x = true ∧ PyData.strOk x = true) {s : Int} (hs : 1 ≤ s) : ∀ (n : Nat) (r : Rt), dep r ≤ n → n ≤ 30 → BhR r → s ≤ mayR x r → s_gone_behind n [.dat (encR r), .dat (.str x), .dat (.int s)] = .ok (.dat (encR (rawP x s r))) [.dat (encR r), .dat (.str x), .dat (.int s)] := by
  intro n
  induction n with
  | zero => intro r h; cases r <;> simp [dep] at h
  | succ n ih =>
    intro r hd hn hb hm
    rw [r_gone_behind]
    have hw := hb.wf
    have l1 : 1 ≤ LIM := by decide
    have l2 : 2 ≤ LIM := by decide
    have l3 : 3 ≤ LIM := by decide
    have l4 : 4 ≤ LIM := by decide
    have hxr : x ∈ namesR r := may_in hw (by omega)
    cases r with
    | none => simp [mayR] at hm; omega
    | call y m t =>
      by_cases c : 1 < t
      · simp! [m_gone_behind, encR, rawP, gN, at0, at1, at2', at3', c, l4, eww]
      · simp! [m_gone_behind, encR, rawP, gN, at0, at1, at2', at3', c, l1, eww]
    | within k q =>
      rw [mayR] at hm
      simp only [dep] at hd
      have hbq := hb.part (q := q) (by simp [partsR])
      have e := ih q (by omega) (by omega) hbq (by omega)
      obtain ⟨w1, w2⟩ := rawP_wf hx hs q hbq (by omega)
      by_cases c : k - s = 0
      · have f := frame0 wWithin (encR (rawP x s q))
        rw [rawP, if_pos c]
        generalize encR (rawP x s q) = Z at *
        generalize hN : encR Rt.none = N at *
        simp! [m_gone_behind, encR, gN, at0, at1, at2', e, c, f, eww]
      · have f := frameW_ok (n := k - s) (by omega) w1 (by omega)
        rw [rawP, if_neg c]
        generalize encR (rawP x s q) = Z at *
        generalize encR (frW (k - s) (rawP x s q)) = N at *
        simp! [m_gone_behind, encR, gN, at0, at1, at2', e, f, eww]
    | calls k q =>
      rw [mayR] at hm
      simp only [dep] at hd
      simp only [wfR] at hw
      have hbq := hb.part (q := q) (by simp [partsR])
      have e := ih q (by omega) (by omega) hbq hm
      obtain ⟨w1, w2⟩ := rawP_wf hx hs q hbq hm
      by_cases c : k - 1 = 0
      · have f := frame0 wCalls (encR (rawP x s q))
        rw [rawP, if_pos c]
        generalize encR (rawP x s q) = Z at *
        generalize hN : encR Rt.none = N at *
        simp! [m_gone_behind, encR, gN, at0, at1, at2', e, c, f, eww]
      · have f := frameC_ok (n := k - 1) (by omega) w1 (by omega)
        rw [rawP, if_neg c]
        generalize encR (rawP x s q) = Z at *
        generalize encR (frC (k - 1) (rawP x s q)) = N at *
        simp! [m_gone_behind, encR, gN, at0, at1, at2', e, f, eww]
    | all rs =>
      simp only [dep] at hd
      simp only [wfR] at hw
      rw [mayR] at hm
      have hnd := hb.nd
      rw [namesA] at hnd hxr
      have hwq : ∀ p ∈ rs, wfR p := fun p hp => wf_mem hw.2 hp
      obtain ⟨pre, q, post, hrs, h1, hq⟩ := find_split hxr
      have hqm : q ∈ rs := by rw [hrs]; simp
      have hpre : ∀ p ∈ pre, mayR x p = 0 := fun p hp => may_out p (hwq p (by rw [hrs]; simp [hp])) (h1 p hp)
      rw [may_part hwq hnd q hqm hq] at hm
      have e := ih q (by have := dep_mem hqm; omega) (by omega) (hb.part (r := .all rs) hqm) hm
      have ei := idx_true hrs hpre (by omega)
      have el : lc_gone_behind_1 (s_gone_behind n) [.dat (.tuple [.str wAll, .tuple (rs.map encR)]), .dat (.str x), .dat (.int s), .un, .un] = .ok (.list (rs.map fun p => .bool (decide (0 < mayR x p)))) [.dat (.tuple [.str wAll, .tuple (rs.map encR)]), .dat (.str x), .dat (.int s), .un, .un] := by
        unfold lc_gone_behind_1
        exact lc_map rs encR _ (by simp! [at1, itemsOf]) (by simp) (fun p hp => by simp! [elF, wipeE, gN, most_by_ok hx.2 30 p (by have := dep_mem hp; omega) (hwq p hp)]) (wf_len hw.1)
      have hlen : rs.length = pre.length + (post.length + 1) := by rw [hrs]; simp
      have ha : atI (rs.map encR) (pre.length : Nat) = some (encR q) := by
        rw [hrs, List.map_append, List.map_cons]
        unfold atI ixN
        rw [if_pos (by omega), if_pos (by simp; try omega)]
        simp
      have c1 := cut_lo (rs.map encR) pre.length (by rw [List.length_map]; omega)
      have c2 := cut_hi (rs.map encR) (pre.length + 1) (by rw [List.length_map]; omega)
      have t1 : (rs.map encR).take pre.length = pre.map encR := by rw [hrs, List.map_append]; exact List.take_left' (by simp)
      have t2 : (rs.map encR).drop (pre.length + 1) = post.map encR := by rw [hrs, List.map_append, List.map_cons, ← List.drop_drop, List.drop_left' (by simp)]; rfl
      rw [t1] at c1
      rw [t2] at c2
      have hL : pre.length + 1 ≤ LIM := Nat.le_trans (by have := hw.1; omega : _ ≤ 1001) (by decide)
      have hL2 : pre.length + 1 + post.length ≤ LIM := Nat.le_trans (by have := hw.1; omega : _ ≤ 1001) (by decide)
      have er : rawP x s (.all rs) = .all (pre ++ rawP x s q :: post) := by rw [rawP, hrs, rawPA_split x s pre q post h1 hq]
      rw [er]
      simp only [encR, encRs_map, List.map_append, List.map_cons]
      rw [show ((pre.length + 1 : Nat) : Int) = (pre.length : Int) + 1 from rfl] at c2
      generalize rs.map encR = RS at *
      simp! [m_gone_behind, gN, at0, at1, el, ei, ha, e, c1, c2, hL, hL2, l1, l2, eww]
    | one rs =>
      simp only [dep] at hd
      simp only [wfR] at hw
      rw [mayR] at hm
      have hnd := hb.nd
      rw [namesO] at hnd hxr
      have hwq : ∀ p ∈ rs, wfR p := fun p hp => wf_mem hw.2 hp
      obtain ⟨pre, q, post, hrs, h1, hq⟩ := find_split hxr
      have hqm : q ∈ rs := by rw [hrs]; simp
      have hpre : ∀ p ∈ pre, mayR x p = 0 := fun p hp => may_out p (hwq p (by rw [hrs]; simp [hp])) (h1 p hp)
      rw [may_part hwq hnd q hqm hq] at hm
      have e := ih q (by have := dep_mem hqm; omega) (by omega) (hb.part (r := .one rs) hqm) hm
      have ei := idx_true hrs hpre (by omega)
      have el : lc_gone_behind_1 (s_gone_behind n) [.dat (.tuple [.str wOne, .tuple (rs.map encR)]), .dat (.str x), .dat (.int s), .un, .un] = .ok (.list (rs.map fun p => .bool (decide (0 < mayR x p)))) [.dat (.tuple [.str wOne, .tuple (rs.map encR)]), .dat (.str x), .dat (.int s), .un, .un] := by
        unfold lc_gone_behind_1
        exact lc_map rs encR _ (by simp! [at1, itemsOf]) (by simp) (fun p hp => by simp! [elF, wipeE, gN, most_by_ok hx.2 30 p (by have := dep_mem hp; omega) (hwq p hp)]) (wf_len hw.1)
      have ha : atI (rs.map encR) (pre.length : Nat) = some (encR q) := by
        rw [hrs, List.map_append, List.map_cons]
        unfold atI ixN
        rw [if_pos (by omega), if_pos (by simp; try omega)]
        simp
      have er : rawP x s (.one rs) = rawP x s q := by rw [rawP, hrs, rawPO_split x s pre q post h1 hq]
      rw [er]
      simp only [encR, encRs_map]
      generalize encR (rawP x s q) = Z at *
      generalize encR q = Q at *
      generalize rs.map encR = RS at *
      simp! [m_gone_behind, gN, at0, at1, el, ei, ha, e, eww]
end Lw
namespace Lw
open PySem L2 Bt
end Lw
namespace Lw
open PySem L2 Bt
end Lw
namespace Lw
open PySem L2 Bt
def un (p : Pile) (m : Int) : List Int := (p.filter fun q => decide (1 < q.1) && decide (L p q.1 < (m - 1) * (q.1 - 1))).map fun q => q.1
end Lw
namespace Lw
open PySem L2 Bt
end Lw
namespace Lw
open PySem L2 Bt
end Lw
namespace Lw
open PySem L2 Bt
end Lw
namespace Lw
open PySem L2 Bt
end Lw
namespace Lw
open PySem L2 Bt
end Lw
namespace Lw
open PySem L2 Bt
end Lw
namespace Lw
open PySem L2 Bt
end Lw
namespace Lw
open PySem L2 Bt
end Lw
namespace Lw
open PySem L2 Bt
end Lw
namespace Lw
open PySem L2 Bt
end Lw
namespace Lw
open PySem L2 Bt
end Lw
namespace Lw
open PySem L2 Bt
abbrev Cl := List (Str × Int × Int)
inductive Wk : Cl → Cl → Prop
  | nil : Wk [] []
  | skip {l l' : Cl} (a : Str × Int × Int) : Wk l l' → Wk l (a :: l')
  | take {l l' : Cl} (a b : Str × Int × Int) : Wk l l' → b.1 = a.1 → b.2.1 = a.2.1 → b.2.2 ≤ a.2.2 → Wk (b :: l) (a :: l')
theorem Wk.refl : ∀ l : Cl, Wk l l
  | [] => .nil
  | a :: l => .take a a (Wk.refl l) rfl rfl (Int.le_refl _)
theorem Wk.none : ∀ l : Cl, Wk [] l
  | [] => .nil
  | a :: l => .skip a (Wk.none l)
theorem Wk.len {a b : Cl} (h : Wk a b) : a.length ≤ b.length := by
  induction h with
  | nil => exact Nat.le_refl _
  | skip z _ ih => rw [List.length_cons]; omega
  | take z w _ e1 e2 e3 ih => rw [List.length_cons, List.length_cons]; omega
theorem Wk.names {a b : Cl} (h : Wk a b) : (a.map (·.1)).Sublist (b.map (·.1)) := by
  induction h with
  | nil => exact List.Sublist.refl _
  | skip z _ ih => rw [List.map_cons]; exact ih.cons _
  | take z w _ e1 e2 e3 ih => rw [List.map_cons, List.map_cons, e1]; exact ih.cons₂ _
theorem Wk.mem {a b : Cl} (h : Wk a b) : ∀ q ∈ a, ∃ p ∈ b, q.1 = p.1 ∧ q.2.1 = p.2.1 ∧ q.2.2 ≤ p.2.2 := by
  induction h with
  | nil => intro q hq; simp at hq
  | skip z _ ih => intro q hq; obtain ⟨p, h1, h2⟩ := ih q hq; exact ⟨p, List.mem_cons_of_mem _ h1, h2⟩
  | take z w _ e1 e2 e3 ih =>
    intro q hq
    rcases List.mem_cons.mp hq with rfl | hq
    · exact ⟨z, List.mem_cons_self, e1, e2, e3⟩
    · obtain ⟨p, h1, h2⟩ := ih q hq; exact ⟨p, List.mem_cons_of_mem _ h1, h2⟩
theorem Wk.tot {a b : Cl} (h : Wk a b) (h1 : ∀ q ∈ b, 1 ≤ q.2.2) : totC a ≤ totC b := by
  induction h with
  | nil => exact Int.le_refl _
  | skip z _ ih =>
    have h2 := h1 z List.mem_cons_self
    have h3 := ih fun q hq => h1 q (List.mem_cons_of_mem _ hq)
    unfold totC at *
    rw [List.map_cons, List.sum_cons]
    omega
  | take z w _ e1 e2 e3 ih =>
    have h3 := ih fun q hq => h1 q (List.mem_cons_of_mem _ hq)
    unfold totC at *
    rw [List.map_cons, List.sum_cons, List.map_cons, List.sum_cons]
    omega
end Lw
namespace Lw
open PySem L2 Bt
theorem calls_t (r : Rt) : wfR r → ∀ q ∈ callsR r, 1 ≤ q.2.2 := by
  induction r using Rt.ind with
  | h0 => intro _ q hq; simp [callsR] at hq
  | h1 y m t => intro h q hq; simp only [wfR] at h; simp only [callsR, List.mem_singleton] at hq; subst hq; exact h.2.2.2
  | h2 rs ih => intro h q hq; simp only [wfR] at h; rw [callsA] at hq; obtain ⟨z, hz, hq⟩ := List.mem_flatMap.mp hq; exact ih z hz (wf_mem h.2 hz) q hq
  | h3 rs ih => intro h q hq; simp only [wfR] at h; rw [callsO] at hq; obtain ⟨z, hz, hq⟩ := List.mem_flatMap.mp hq; exact ih z hz (wf_mem h.2 hz) q hq
  | h4 n r ih => intro h q hq; simp only [wfR] at h; rw [callsR] at hq; exact ih h.2 q hq
  | h5 n r ih => intro h q hq; simp only [wfR] at h; rw [callsR] at hq; exact ih h.2 q hq
theorem GdR.wk {r r' : Rt} (h : GdR r) (k : Wk (callsR r') (callsR r)) (hw : wfR r') (hd : dep r' ≤ dep r) : GdR r' :=
  ⟨hw, Nat.le_trans hd h.dp, Nat.le_trans k.len h.cl, h.nd.sublist k.names, fun q hq => by
    obtain ⟨p, hp, _, e2, e3⟩ := k.mem q hq
    have := h.bd p hp
    exact ⟨by omega, by omega⟩, Int.le_trans (k.tot (calls_t r h.wf)) h.tt⟩
end Lw
namespace Lw
open PySem L2 Bt
variable {b : Option Int}
end Lw
namespace Lw
open PySem L2 Bt
end Lw
namespace Lw
open PySem L2 Bt
variable {b : Option Int}
end Lw
namespace Lw
open PySem L2 Bt
def kv (q : Int × Int) : Key × D := (.inl q.1, .int q.2)
theorem pairs_enc : ∀ p : Pile, pairsOf (p.map encL) = some (p.map kv)
  | [] => rfl
  | q :: p => by
    rw [List.map_cons]
    unfold pairsOf
    rw [pairs_enc p]
    rfl
def has (c : Pile) (w : Int) : Bool := c.any fun q => decide (q.1 = w)
def cnt (c : Pile) (w : Int) : Int := ((c.find? fun q => decide (q.1 = w)).map (·.2)).getD 0
theorem val_kv (w : Int) : ∀ c : Pile, valD (c.map kv) (.inl w) = if has c w = true then some (.int (cnt c w)) else none
  | [] => rfl
  | q :: c => by
    have ih := val_kv w c
    unfold valD at ih ⊢
    by_cases z : q.1 = w
    · simp [kv, has, cnt, z]
    · rw [List.map_cons, List.find?_cons_of_neg (by simp [kv, z]), ih]
      unfold has cnt
      rw [List.any_cons, decide_eq_false z, Bool.false_or, List.find?_cons_of_neg (by simpa using z)]
theorem any_kv (w : Int) (c : Pile) : ((c.map kv).any fun e => decide (e.1 = Sum.inl w)) = has c w := by
  unfold has
  rw [List.any_map]
  congr 1
  funext q
  simp [kv]
theorem put_in {c : Pile} {w : Int} (n : Int) (h : has c w = true) : putD (c.map kv) (.inl w) (.int n) = (c.map fun q => if q.1 = w then (q.1, n) else q).map kv := by
  unfold putD
  rw [any_kv, if_pos h, List.map_map, List.map_map]
  refine List.map_congr_left fun q _ => ?_
  by_cases z : q.1 = w <;> simp [kv, z]
theorem put_new {c : Pile} {w : Int} (n : Int) (h : has c w = false) : putD (c.map kv) (.inl w) (.int n) = (c ++ [(w, n)]).map kv := by
  unfold putD
  rw [any_kv, if_neg (by rw [h]; exact Bool.false_ne_true), List.map_append]
  rfl
theorem has_iff {c : Pile} {w : Int} : has c w = true ↔ ∃ q ∈ c, q.1 = w := by
  unfold has
  rw [List.any_eq_true]
  simp
theorem has_false {c : Pile} {w : Int} (h : ∀ q ∈ c, q.1 ≠ w) : has c w = false := by
  cases e : has c w with
  | false => rfl
  | true => obtain ⟨q, hq, z⟩ := has_iff.mp e; exact absurd z (h q hq)
theorem merge_kv : ∀ (r done : Pile), (done ++ r).Pairwise (fun a b => a.1 ≠ b.1) → mergeD (done.map kv) (r.map kv) = (done ++ r).map kv
  | [], done, _ => by simp [mergeD]
  | q :: r, done, h => by
    have hn : has done q.1 = false := has_false fun x hx => (List.pairwise_append.mp h).2.2 x hx q List.mem_cons_self
    have ih := merge_kv r (done ++ [q]) (by rw [List.append_assoc]; exact h)
    unfold mergeD at ih ⊢
    rw [List.map_cons, List.foldl_cons, show putD (done.map kv) (kv q).1 (kv q).2 = (done ++ [(q.1, q.2)]).map kv from put_new q.2 hn]
    rw [List.append_assoc] at ih
    exact ih
theorem up_ne {p : Pile} (h : p.Pairwise fun a b => a.1 < b.1) : p.Pairwise fun a b => a.1 ≠ b.1 := h.imp fun h => by omega
theorem dict_enc {p : Pile} (h : Gd p) : dictF (enc p) = some (.d (p.map kv)) := by
  unfold enc dictF
  dsimp only
  rw [pairs_enc]
  have := merge_kv p [] (up_ne h.up)
  simp only [List.map_nil, List.nil_append] at this
  simp [this]
theorem keys_kv : ∀ c : Pile, keysI (c.map kv) = some (c.map (·.1))
  | [] => rfl
  | q :: c => by
    rw [List.map_cons]
    unfold keysI
    rw [keys_kv c]
    rfl
def fcG (c : Pile) : Pile := ((sortI (c.map (·.1))).filter fun w => decide (0 < cnt c w)).map fun w => (w, cnt c w)
theorem from_counts_ok (c : Pile) (hl : c.length < 1000) : s_from_counts [(.ow (.d (c.map kv)))] = .ok (.dat (enc (fcG c))) [(.ow (.d (c.map kv)))] := by
  have hs : ∀ w ∈ sortI (c.map (·.1)), has c w = true := fun w hw => by
    have := (sortI_perm _).mem_iff.mp hw
    obtain ⟨q, hq, rfl⟩ := List.mem_map.mp this
    exact has_iff.mpr ⟨q, hq, rfl⟩
  have e1 : lc_from_counts_1 [(.ow (.d (c.map kv))), .un] = .ok (.list (((sortI (c.map (·.1))).filter fun w => decide (0 < cnt c w)).map fun w => encL (w, cnt c w))) [(.ow (.d (c.map kv))), .un] := by
    have hLl : (sortI (c.map (·.1))).length ≤ LIM := by
      rw [(sortI_perm _).length_eq, List.length_map]
      have : LIM = 100000 := rfl
      omega
    unfold lc_from_counts_1
    refine lc_if (sortI (c.map (·.1))) PyData.int (fun w => decide (0 < cnt c w)) (fun w => encL (w, cnt c w)) ?_ ?_ ?_ hLl
    · simp! [keys_kv, hl]
    · simp
    · intro w hw
      by_cases z : 0 < cnt c w <;> simp! [elF, wipeE, encL, val_kv, hs w hw, z, show (2 : Nat) ≤ LIM by decide]
  simp! [s_from_counts, m_from_counts, e1, enc, fcG, List.map_map, Function.comp_def]
theorem sortI_self {ns : List Int} (h : ns.Pairwise (· ≤ ·)) : sortI ns = ns := (sortI_uniq (List.Perm.refl _) h).symm
theorem cnt_mem : ∀ {c : Pile}, c.Pairwise (fun a b => a.1 ≠ b.1) → ∀ q ∈ c, cnt c q.1 = q.2
  | [], _, q, h => by cases h
  | a :: c, hp, q, h => by
    have hp' := List.pairwise_cons.mp hp
    by_cases z : a.1 = q.1
    · rcases List.mem_cons.mp h with rfl | h
      · simp [cnt]
      · exact absurd z (hp'.1 q h)
    · rcases List.mem_cons.mp h with rfl | h
      · exact absurd rfl z
      · have := cnt_mem hp'.2 q h
        unfold cnt at this ⊢
        rw [List.find?_cons_of_neg (by simpa using z)]
        exact this
theorem fcG_up {c : Pile} (h : c.Pairwise fun a b => a.1 < b.1) : fcG c = c.filter fun q => decide (0 < q.2) := by
  unfold fcG
  rw [sortI_self (List.pairwise_map.mpr (h.imp fun h => by omega))]
  have hc := cnt_mem (up_ne h)
  have key : ∀ d : Pile, (∀ q ∈ d, q ∈ c) → (((d.map (·.1)).filter fun w => decide (0 < cnt c w)).map fun w => (w, cnt c w)) = d.filter fun q => decide (0 < q.2) := by
    intro d
    induction d with
    | nil => intro _; rfl
    | cons q d ih =>
      intro hd
      have e := hc q (hd q List.mem_cons_self)
      have ih := ih fun x hx => hd x (List.mem_cons_of_mem _ hx)
      rw [List.map_cons]
      by_cases z : 0 < q.2
      · rw [List.filter_cons_of_pos (by rw [e]; simpa using z), List.filter_cons_of_pos (by simpa using z), List.map_cons, ih, e]
      · rw [List.filter_cons_of_neg (by rw [e]; simpa using z), List.filter_cons_of_neg (by simpa using z), ih]
  exact key c fun q hq => hq
def tstep (c : Pile) (x : Int × Int) : Pile := c.map fun q => if q.1 = x.1 then (q.1, q.2 - x.2) else q
def takeP (p o : Pile) : Pile := (o.foldl tstep p).filter fun q => decide (0 < q.2)
structure TI (p c r : Pile) : Prop where
  keys : c.map (·.1) = p.map (·.1)
  sub : ∀ x ∈ r, ∃ q ∈ c, q.1 = x.1 ∧ x.2 ≤ q.2
  dist : r.Pairwise fun a b => a.1 ≠ b.1
theorem tstep_keys (c : Pile) (x : Int × Int) : (tstep c x).map (·.1) = c.map (·.1) := by
  unfold tstep
  rw [List.map_map]
  refine List.map_congr_left fun q _ => ?_
  by_cases z : q.1 = x.1 <;> simp [z]
theorem take_turn {p c r : Pile} {x : Int × Int} (hp : p.Pairwise fun a b => a.1 < b.1) (hl : p.length < 1000) (x0 x1 : Sl) (h : TI p c (x :: r)) : lp_take_by_1 [x0, x1, (.ow (.d (c.map kv))), .dat (.int x.1), .dat (.int x.2)] = .ok .nx [x0, x1, (.ow (.d ((tstep c x).map kv))), .dat (.int x.1), .dat (.int x.2)] ∧ TI p (tstep c x) r := by
  obtain ⟨q, hq, e1, e2⟩ := h.sub x List.mem_cons_self
  have hd := List.pairwise_cons.mp h.dist
  have hcd : c.Pairwise fun a b => a.1 ≠ b.1 := by
    have : (c.map (·.1)).Pairwise (· ≠ ·) := by rw [h.keys]; exact List.pairwise_map.mpr (up_ne hp)
    exact List.pairwise_map.mp this
  have hh : has c x.1 = true := has_iff.mpr ⟨q, hq, e1⟩
  have hc : cnt c x.1 = q.2 := by rw [← e1]; exact cnt_mem hcd q hq
  have hlen : c.length < LIM := by
    have := congrArg List.length h.keys
    simp only [List.length_map] at this
    have : LIM = 100000 := rfl
    omega
  have hput : putD (c.map kv) (.inl x.1) (.int (q.2 - x.2)) = (tstep c x).map kv := by
    rw [put_in _ hh]
    unfold tstep
    congr 1
    refine List.map_congr_left fun y hy => ?_
    by_cases z : y.1 = x.1
    · rw [if_pos z, if_pos z]
      have := cnt_mem hcd y hy
      rw [z, hc] at this
      rw [this]
    · rw [if_neg z, if_neg z]
  refine ⟨?_, by rw [tstep_keys]; exact h.keys, fun y hy => ?_, hd.2⟩
  · simp! [lp_take_by_1, val_kv, hh, hc, show ¬ q.2 < x.2 by omega, hlen, hput]
  · obtain ⟨z, hz, f1, f2⟩ := h.sub y (List.mem_cons_of_mem _ hy)
    refine ⟨z, ?_, f1, f2⟩
    unfold tstep
    exact List.mem_map.mpr ⟨z, hz, by rw [if_neg (by rw [f1]; exact fun w => hd.1 y hy w.symm)]⟩
theorem take_by_ok {p o : Pile} (h : Gd p) (ho : Gd o) (hl : p.length < 1000) (hs : ∀ x ∈ o, ∃ q ∈ p, q.1 = x.1 ∧ x.2 ≤ q.2) : s_take_by [.dat (enc p), .dat (enc o)] = .ok (.dat (enc (takeP p o))) [.dat (enc p), .dat (enc o)] := by
  have hf := for_fold (ws := [3, 4]) (mi := mIt (mV 1)) (g := gTupM 2 (gConsM (gN 3) (gConsM (gN 4) gNilM))) (mb := lp_take_by_1) (E0 := [.dat (enc p), .dat (enc o), (.ow (.d (p.map kv))), .un, .un]) o encL (fun c => [.dat (enc p), .dat (enc o), (.ow (.d (c.map kv))), .un, .un]) tstep (TI p) (s := p) (by simp! [enc]) ⟨rfl, hs, up_ne ho.up⟩ (fun x r c hI => by
    obtain ⟨e, hI2⟩ := take_turn h.up hl (.dat (enc p)) (.dat (enc o)) hI
    exact ⟨⟨_, _, rfl, .inl e, rfl⟩, hI2⟩)
  have e : fr_take_by_1 _ = _ := hf.1
  have hk := hf.2.keys
  have hup : (o.foldl tstep p).Pairwise fun a b => a.1 < b.1 := by
    have : ((o.foldl tstep p).map (·.1)).Pairwise (· < ·) := by rw [hk]; exact List.pairwise_map.mpr h.up
    exact List.pairwise_map.mp this
  have hlen : (o.foldl tstep p).length < 1000 := by
    have := congrArg List.length hk
    simp only [List.length_map] at this
    omega
  have ef := from_counts_ok (o.foldl tstep p) hlen
  rw [fcG_up hup] at ef
  simp! [s_take_by, m_take_by, dict_enc h, e, ef, takeP]
end Lw
namespace Lw
open PySem L2 Bt
theorem cnt_cons (q : Int × Int) (c : Pile) (w : Int) : cnt (q :: c) w = if q.1 = w then q.2 else cnt c w := by
  unfold cnt
  by_cases z : q.1 = w
  · rw [if_pos z, List.find?_cons_of_pos (by simpa using z)]; rfl
  · rw [if_neg z, List.find?_cons_of_neg (by simpa using z)]
theorem cnt_none : ∀ {c : Pile} {w : Int}, has c w = false → cnt c w = 0
  | [], _, _ => rfl
  | q :: c, w, h => by
    unfold has at h
    rw [List.any_cons, Bool.or_eq_false_iff] at h
    rw [cnt_cons, if_neg (by simpa using h.1)]
    exact cnt_none h.2
def T (f : Int → Int) (c : Pile) : Int := (c.map fun q => f q.1 * q.2).sum
theorem T_cons (f : Int → Int) (q : Int × Int) (c : Pile) : T f (q :: c) = f q.1 * q.2 + T f c := by simp [T]
end Lw
namespace Lw
open PySem L2 Bt
def gU : Pile → Int → Pile
  | [], _ => []
  | q :: l, a => (q.1, min q.2 (a / q.1)) :: gU l (a - min q.2 (a / q.1) * q.1)
def gR : Pile → Int → Int
  | [], a => a
  | q :: l, a => gR l (a - min q.2 (a / q.1) * q.1)
def Cn (l : Pile) : Prop := ∀ q ∈ l, 1 ≤ q.1 ∧ 1 ≤ q.2
theorem use_b {w m a : Int} (hw : 1 ≤ w) (hm : 1 ≤ m) (ha : 0 ≤ a) : 0 ≤ min m (a / w) ∧ min m (a / w) ≤ m ∧ 0 ≤ a - min m (a / w) * w ∧ a - min m (a / w) * w ≤ a := by
  have h0 : 0 ≤ a / w := Int.ediv_nonneg ha (by omega)
  have h1 : 0 ≤ min m (a / w) := by omega
  have h2 : min m (a / w) * w ≤ a / w * w := Int.mul_le_mul_of_nonneg_right (by omega) (by omega)
  have h3 : a / w * w ≤ a := Int.ediv_mul_le a (by omega)
  have h4 : 0 ≤ min m (a / w) * w := Int.mul_nonneg h1 (by omega)
  omega
theorem gR_b : ∀ {l : Pile}, Cn l → ∀ {a : Int}, 0 ≤ a → 0 ≤ gR l a ∧ gR l a ≤ a
  | [], _, a, h => ⟨h, Int.le_refl _⟩
  | q :: l, hc, a, h => by
    obtain ⟨c1, c2⟩ := hc q List.mem_cons_self
    obtain ⟨h1, h2, h3, h4⟩ := use_b c1 c2 h
    obtain ⟨h5, h6⟩ := gR_b (l := l) (fun x hx => hc x (List.mem_cons_of_mem _ hx)) h3
    rw [gR]
    omega
theorem gU_keys : ∀ (l : Pile) (a : Int), (gU l a).map (·.1) = l.map (·.1)
  | [], a => rfl
  | q :: l, a => by rw [gU, List.map_cons, gU_keys l, List.map_cons]
theorem gU_mem : ∀ {l : Pile}, Cn l → ∀ {a : Int}, 0 ≤ a → ∀ q ∈ gU l a, ∃ z ∈ l, z.1 = q.1 ∧ 0 ≤ q.2 ∧ q.2 ≤ z.2
  | [], _, a, _, q, h => nomatch h
  | z :: l, hc, a, ha, q, h => by
    obtain ⟨c1, c2⟩ := hc z List.mem_cons_self
    obtain ⟨h1, h2, h3, h4⟩ := use_b c1 c2 ha
    rw [gU] at h
    rcases List.mem_cons.mp h with rfl | h
    · exact ⟨z, List.mem_cons_self, rfl, h1, h2⟩
    · obtain ⟨y, hy, e⟩ := gU_mem (l := l) (fun x hx => hc x (List.mem_cons_of_mem _ hx)) h3 q h
      exact ⟨y, List.mem_cons_of_mem _ hy, e⟩
def payP (p : Pile) (a : Int) : Pile := ((gU p.reverse a).filter fun q => decide (0 < q.2)).reverse
theorem rev_cn {p : Pile} (h : Gd p) : Cn p.reverse := fun q hq => ⟨h.w1 q (List.mem_reverse.mp hq), h.m1 q (List.mem_reverse.mp hq)⟩
theorem payP_sub {p : Pile} (h : Gd p) {a : Int} (ha : 0 ≤ a) : ∀ x ∈ payP p a, ∃ q ∈ p, q.1 = x.1 ∧ 1 ≤ x.2 ∧ x.2 ≤ q.2 := by
  intro x hx
  unfold payP at hx
  rw [List.mem_reverse, List.mem_filter] at hx
  obtain ⟨z, hz, e1, _, e3⟩ := gU_mem (rev_cn h) ha x hx.1
  exact ⟨z, List.mem_reverse.mp hz, e1, by have := of_decide_eq_true hx.2; omega, e3⟩
theorem gU_desc {l : Pile} (h : l.Pairwise fun a b => b.1 < a.1) (a : Int) : (gU l a).Pairwise fun a b => b.1 < a.1 := by
  have : ((gU l a).map (·.1)).Pairwise fun a b => b < a := by
    rw [gU_keys]
    exact List.pairwise_map.mpr h
  exact List.pairwise_map.mp this
theorem rev_desc {p : Pile} (h : Gd p) : p.reverse.Pairwise fun a b => b.1 < a.1 := List.pairwise_reverse.mpr h.up
theorem payP_up {p : Pile} (h : Gd p) (a : Int) : (payP p a).Pairwise fun a b => a.1 < b.1 := by
  unfold payP
  exact List.pairwise_reverse.mpr ((gU_desc (rev_desc h) a).filter _)
theorem gU_len : ∀ (l : Pile) (a : Int), (gU l a).length = l.length
  | [], _ => rfl
  | q :: l, a => by rw [gU, List.length_cons, gU_len l, List.length_cons]
theorem payP_len {p : Pile} (a : Int) : (payP p a).length ≤ p.length := by
  unfold payP
  rw [List.length_reverse]
  have := List.length_filter_le (fun q : Int × Int => decide (0 < q.2)) (gU p.reverse a)
  rw [gU_len, List.length_reverse] at this
  exact this
theorem payP_gd {p : Pile} (h : Gd p) {a : Int} (ha : 0 ≤ a) : Gd (payP p a) := by
  have hs := payP_sub h ha
  refine ⟨fun x hx => ?_, fun x hx => ?_, fun x hx => ?_, fun x hx => ?_, payP_up h a, by have := payP_len (p := p) a; have := h.len; omega⟩
  · obtain ⟨q, hq, e, _, _⟩ := hs x hx; rw [← e]; exact h.w1 q hq
  · obtain ⟨q, hq, e, _, _⟩ := hs x hx; rw [← e]; exact h.w2 q hq
  · obtain ⟨q, hq, e, h1, _⟩ := hs x hx; exact h1
  · obtain ⟨q, hq, e, _, h2⟩ := hs x hx; have := h.m2 q hq; omega
theorem T_tstep (f : Int → Int) {c : Pile} (hd : c.Pairwise fun a b => a.1 ≠ b.1) {x : Int × Int} (hx : ∃ q ∈ c, q.1 = x.1) : T f (tstep c x) = T f c - f x.1 * x.2 := by
  induction c with
  | nil => obtain ⟨q, hq, _⟩ := hx; cases hq
  | cons q c ih =>
    have hp := List.pairwise_cons.mp hd
    have e : tstep (q :: c) x = (if q.1 = x.1 then (q.1, q.2 - x.2) else q) :: tstep c x := rfl
    rw [e, T_cons, T_cons]
    by_cases z : q.1 = x.1
    · have hn : tstep c x = c := by
        unfold tstep
        rw [List.map_congr_left (g := id) fun y hy => by rw [if_neg (fun w => hp.1 y hy (by rw [z, w]))]; rfl]
        simp
      rw [if_pos z, hn, z]
      dsimp only
      rw [Int.mul_sub]
      omega
    · rw [if_neg z, ih hp.2 (by
        obtain ⟨y, hy, e2⟩ := hx
        rcases List.mem_cons.mp hy with rfl | hy
        · exact absurd e2 z
        · exact ⟨y, hy, e2⟩)]
      omega
theorem fold_take (f : Int → Int) : ∀ (o c : Pile), c.Pairwise (fun a b => a.1 ≠ b.1) → o.Pairwise (fun a b => a.1 ≠ b.1) → (∀ q ∈ c, 0 ≤ q.2) → (∀ x ∈ o, ∃ q ∈ c, q.1 = x.1 ∧ x.2 ≤ q.2) →
    T f (o.foldl tstep c) = T f c - T f o ∧ (∀ q ∈ o.foldl tstep c, 0 ≤ q.2) ∧ ∀ q ∈ o.foldl tstep c, ∃ y ∈ c, y.1 = q.1 ∧ q.2 = y.2 - cnt o q.1
  | [], c, _, _, h0, _ => ⟨by simp [T], h0, fun q hq => ⟨q, hq, rfl, by simp [cnt]⟩⟩
  | x :: o, c, hc, ho, h0, hs => by
    have hp := List.pairwise_cons.mp ho
    obtain ⟨y, hy, e1, e2⟩ := hs x List.mem_cons_self
    have hc2 : (tstep c x).Pairwise fun a b => a.1 ≠ b.1 := by
      have : ((tstep c x).map (·.1)).Pairwise (· ≠ ·) := by rw [tstep_keys]; exact List.pairwise_map.mpr hc
      exact List.pairwise_map.mp this
    have hcx : ∀ q ∈ c, q.1 = x.1 → q = y := fun q hq e => by
      have := cnt_mem hc q hq
      have h2 := cnt_mem hc y hy
      rw [e] at this
      rw [e1] at h2
      exact Prod.ext (by rw [e, e1]) (by rw [← this, ← h2])
    have h02 : ∀ q ∈ tstep c x, 0 ≤ q.2 := fun q hq => by
      unfold tstep at hq
      obtain ⟨z, hz, rfl⟩ := List.mem_map.mp hq
      by_cases c1 : z.1 = x.1
      · rw [if_pos c1, hcx z hz c1]; dsimp only; omega
      · rw [if_neg c1]; exact h0 z hz
    have hs2 : ∀ w ∈ o, ∃ q ∈ tstep c x, q.1 = w.1 ∧ w.2 ≤ q.2 := fun w hw => by
      obtain ⟨q, hq, f1, f2⟩ := hs w (List.mem_cons_of_mem _ hw)
      refine ⟨q, ?_, f1, f2⟩
      unfold tstep
      exact List.mem_map.mpr ⟨q, hq, by rw [if_neg (by rw [f1]; exact fun e => hp.1 w hw e.symm)]⟩
    obtain ⟨g1, g2, g3⟩ := fold_take f o (tstep c x) hc2 hp.2 h02 hs2
    rw [List.foldl_cons]
    refine ⟨?_, g2, fun q hq => ?_⟩
    · rw [g1, T_tstep f hc ⟨y, hy, e1⟩, T_cons]; omega
    · obtain ⟨z, hz, f1, f2⟩ := g3 q hq
      unfold tstep at hz
      obtain ⟨v, hv, rfl⟩ := List.mem_map.mp hz
      by_cases c1 : v.1 = x.1
      · rw [if_pos c1] at f1 f2
        dsimp only at f1 f2
        refine ⟨v, hv, f1, ?_⟩
        have hn : cnt o q.1 = 0 := by
          unfold cnt
          rw [List.find?_eq_none.mpr fun w hw => by
            simp only [decide_eq_true_eq]
            intro e
            exact hp.1 w hw (by rw [e, ← f1, c1])]
          rfl
        have hx1 : cnt (x :: o) q.1 = x.2 := by
          unfold cnt
          rw [List.find?_cons_of_pos (by simp; rw [← f1, c1])]
          rfl
        rw [f2, hn, hx1]
        omega
      · rw [if_neg c1] at f1 f2
        refine ⟨v, hv, f1, ?_⟩
        have hx1 : cnt (x :: o) q.1 = cnt o q.1 := by
          unfold cnt
          rw [List.find?_cons_of_neg (by simp; intro e; exact c1 (by rw [f1, e]))]
        rw [f2, hx1]
theorem up_neC {p : Pile} (h : p.Pairwise fun a b => a.1 < b.1) : p.Pairwise fun a b => a.1 ≠ b.1 := h.imp fun h e => by omega
theorem takeP_len {p o : Pile} : (takeP p o).length ≤ p.length := by
  have key : ∀ (o c : Pile), (o.foldl tstep c).length = c.length := by
    intro o
    induction o with
    | nil => intro c; rfl
    | cons x o ih => intro c; rw [List.foldl_cons, ih]; unfold tstep; rw [List.length_map]
  unfold takeP
  exact Nat.le_trans (List.length_filter_le _ _) (Nat.le_of_eq (key o p))
theorem takeP_gdC {p o : Pile} (h : Gd p) (ho : o.Pairwise fun a b => a.1 < b.1) (hs : ∀ x ∈ o, ∃ q ∈ p, q.1 = x.1 ∧ x.2 ≤ q.2) (hn : ∀ x ∈ o, 0 ≤ x.2) : Gd (takeP p o) := by
  obtain ⟨_, _, g3⟩ := fold_take (fun w => w) o p (up_neC h.up) (up_neC ho) (fun q hq => by have := h.m1 q hq; omega) hs
  have hk : (o.foldl tstep p).map (·.1) = p.map (·.1) := by
    have key : ∀ (o c : Pile), (o.foldl tstep c).map (·.1) = c.map (·.1) := by
      intro o
      induction o with
      | nil => intro c; rfl
      | cons x o ih => intro c; rw [List.foldl_cons, ih, tstep_keys]
    exact key o p
  have hup : (o.foldl tstep p).Pairwise fun a b => a.1 < b.1 := by
    have : ((o.foldl tstep p).map (·.1)).Pairwise (· < ·) := by rw [hk]; exact List.pairwise_map.mpr h.up
    exact List.pairwise_map.mp this
  have hcn : ∀ w, 0 ≤ cnt o w := fun w => by
    unfold cnt
    cases e : o.find? fun q => decide (q.1 = w) with
    | none => simp
    | some q => simpa using hn q (List.mem_of_find?_eq_some e)
  have hm : ∀ q ∈ takeP p o, ∃ y ∈ p, y.1 = q.1 ∧ 0 < q.2 ∧ q.2 ≤ y.2 := fun q hq => by
    unfold takeP at hq
    rw [List.mem_filter] at hq
    obtain ⟨y, hy, e1, e2⟩ := g3 q hq.1
    have := hcn q.1
    exact ⟨y, hy, e1, of_decide_eq_true hq.2, by omega⟩
  refine ⟨fun q hq => ?_, fun q hq => ?_, fun q hq => ?_, fun q hq => ?_, hup.filter _, by have := takeP_len (p := p) (o := o); have := h.len; omega⟩
  · obtain ⟨y, hy, e, _, _⟩ := hm q hq; rw [← e]; exact h.w1 y hy
  · obtain ⟨y, hy, e, _, _⟩ := hm q hq; rw [← e]; exact h.w2 y hy
  · obtain ⟨y, hy, e, h1, _⟩ := hm q hq; omega
  · obtain ⟨y, hy, e, _, h1⟩ := hm q hq; have := h.m2 y hy; omega
end Lw
namespace Lw
open PySem L2 Bt
end Lw
namespace Lw
open PySem L2 Bt
end Lw
namespace Lw
open PySem L2 Bt
section
variable (b : Option Int) (c : Nat)
end
theorem pm0 {f : Nat → Int} (h : ∀ j, 0 ≤ f j) : pmax (fun _ => 0) f = f := by funext j; have := h j; simp only [pmax]; omega
end Lw
namespace Lw
open PySem L2 Bt
def pen (n : Int) : Nat := if n < 1000000000000 then 0 else 1000000000
theorem pen_lt {a : Int} (h : pen a < 1000000000) : a < 1000000000000 := by unfold pen at h; split at h <;> omega
mutual
def szR : Rt → Nat
  | .none => 1
  | .call _ m t => 1 + pen m + pen t
  | .all rs => 1 + szRs rs
  | .one rs => 1 + szRs rs
  | .within n r => 1 + pen n + szR r
  | .calls n r => 1 + pen n + szR r
def szRs : List Rt → Nat
  | [] => 0
  | r :: rs => szR r + szRs rs
end
theorem szs_mem {rs : List Rt} {r : Rt} (h : r ∈ rs) : szR r ≤ szRs rs := by
  induction rs with
  | nil => cases h
  | cons q qs ih =>
    rw [szRs]
    rcases List.mem_cons.mp h with rfl | h
    · omega
    · have := ih h; omega
structure Smd (w : Nat) (d : D) : Prop where
  wt : d.weight + 1 ≤ w
  sh : d.intsShort 20 = true
  so : d.showable = true
theorem Smd.up {w w' : Nat} {d : D} (h : Smd w d) (hw : w ≤ w') : Smd w' d := ⟨Nat.le_trans h.wt hw, h.sh, h.so⟩
theorem smd_intA (i : Int) (h : i.natAbs < 10 ^ 15) : Smd 51 (.int i) := by
  have hl : i.natAbs.log2 < 50 := by
    by_cases z : i.natAbs = 0
    · rw [z]; decide
    · exact (Nat.log2_lt z).mpr (Nat.lt_of_lt_of_le h (by decide))
  refine ⟨?_, ?_, ?_⟩
  · unfold PyData.weight
    split <;> omega
  · unfold PyData.intsShort
    have e := int_text_length_le10 (k := 15) (by decide) h
    have e2 : (PyData.shown (.int i)).length ≤ 16 := by
      show (Str.ofString (toString i)).length ≤ 16
      rw [ofString_length]; exact e
    exact decide_eq_true (by omega)
  · unfold PyData.showable
    exact decide_eq_true (by omega)
theorem smd_int (i : Int) (h0 : 0 ≤ i) (h : i < 1000000000000) : Smd 51 (.int i) := smd_intA i (by
  have : (10 : Nat) ^ 15 = 1000000000000000 := by decide
  omega)
theorem smd_str (x : Str) (h : x.length ≤ 8) : Smd 9 (.str x) := ⟨by unfold PyData.weight; exact Nat.succ_le_succ h, rfl, rfl⟩
theorem smd_tup {l : List (Nat × D)} (h : ∀ q ∈ l, Smd q.1 q.2) {w : Nat} (hw : (l.map (·.1)).sum + 1 ≤ w) : Smd w (.tuple (l.map (·.2))) := by
  have key : ∀ l : List (Nat × D), (∀ q ∈ l, Smd q.1 q.2) → PyData.weightAll (l.map (·.2)) ≤ (l.map (·.1)).sum ∧ PyData.intsShortAll 20 (l.map (·.2)) = true ∧ PyData.showableAll (l.map (·.2)) = true := by
    intro l
    induction l with
    | nil => intro _; exact ⟨Nat.le_refl _, rfl, rfl⟩
    | cons q l ih =>
      intro h
      have h1 := h q List.mem_cons_self
      obtain ⟨a, b, c⟩ := ih fun x hx => h x (List.mem_cons_of_mem _ hx)
      refine ⟨?_, ?_, ?_⟩
      · simp only [List.map_cons, PyData.weightAll, List.sum_cons]; have := h1.wt; omega
      · simp only [List.map_cons, PyData.intsShortAll, h1.sh, b, Bool.and_true]
      · simp only [List.map_cons, PyData.showableAll, h1.so, c, Bool.and_true]
  obtain ⟨a, b, c⟩ := key l h
  exact ⟨by simp only [PyData.weight]; omega, by simpa only [PyData.intsShort] using b, by simpa only [PyData.showable] using c⟩
theorem nameS_len {x : Str} (h : nameS x = true) : x.length ≤ 8 := by
  simp only [nameS, Bool.and_eq_true, decide_eq_true_eq] at h
  exact h.1.2
theorem sum_szs {c : Nat} (rs : List Rt) : ((rs.map fun r => (c * szR r, encR r)).map (·.1)).sum = c * szRs rs := by
  induction rs with
  | nil => simp [szRs]
  | cons q qs ih => rw [List.map_cons, List.map_cons, List.sum_cons, ih, szRs, Nat.mul_add]
theorem enc_smd (r : Rt) : wfR r → szR r < 1000000000 → Smd (130 * szR r) (encR r) := by
  induction r using Rt.ind with
  | h0 => intro _ _; exact smd_tup (l := [(9, .str wNone)]) (by simp only [List.mem_singleton]; rintro q rfl; exact smd_str _ (by decide +kernel)) (by simp [szR])
  | h1 x m t =>
    intro h hz
    simp only [wfR] at h
    simp only [szR] at hz ⊢
    refine smd_tup (l := [(9, .str wCall), (9, .str x), (51, .int m), (51, .int t)]) ?_ (by simp; omega)
    intro q hq
    simp only [List.mem_cons, List.not_mem_nil, or_false] at hq
    rcases hq with rfl | rfl | rfl | rfl
    · exact smd_str _ (by decide +kernel)
    · exact smd_str _ (nameS_len h.1)
    · exact smd_int _ (by omega) (pen_lt (by omega))
    · exact smd_int _ (by omega) (pen_lt (by omega))
  | h2 rs ih =>
    intro h hz
    simp only [wfR, wfs_iff] at h
    simp only [szR] at hz ⊢
    have hin : Smd (130 * szRs rs + 1) (.tuple (encRs rs)) := by
      have := smd_tup (l := rs.map fun r => (130 * szR r, encR r)) (fun q hq => by
        obtain ⟨p, hp, rfl⟩ := List.mem_map.mp hq
        exact ih p hp (h.2 p hp) (by have := szs_mem hp; omega)) (Nat.le_refl _)
      rw [sum_szs, List.map_map] at this
      rw [encRs_map]; exact this
    refine smd_tup (l := [(9, .str wAll), (130 * szRs rs + 1, .tuple (encRs rs))]) ?_ (by simp; omega)
    intro q hq
    simp only [List.mem_cons, List.not_mem_nil, or_false] at hq
    rcases hq with rfl | rfl
    · exact smd_str _ (by decide +kernel)
    · exact hin
  | h3 rs ih =>
    intro h hz
    simp only [wfR, wfs_iff] at h
    simp only [szR] at hz ⊢
    have hin : Smd (130 * szRs rs + 1) (.tuple (encRs rs)) := by
      have := smd_tup (l := rs.map fun r => (130 * szR r, encR r)) (fun q hq => by
        obtain ⟨p, hp, rfl⟩ := List.mem_map.mp hq
        exact ih p hp (h.2 p hp) (by have := szs_mem hp; omega)) (Nat.le_refl _)
      rw [sum_szs, List.map_map] at this
      rw [encRs_map]; exact this
    refine smd_tup (l := [(9, .str wOne), (130 * szRs rs + 1, .tuple (encRs rs))]) ?_ (by simp; omega)
    intro q hq
    simp only [List.mem_cons, List.not_mem_nil, or_false] at hq
    rcases hq with rfl | rfl
    · exact smd_str _ (by decide +kernel)
    · exact hin
  | h4 n r ih =>
    intro h hz
    simp only [wfR] at h
    simp only [szR] at hz ⊢
    refine smd_tup (l := [(9, .str wWithin), (51, .int n), (130 * szR r, encR r)]) ?_ (by simp; omega)
    intro q hq
    simp only [List.mem_cons, List.not_mem_nil, or_false] at hq
    rcases hq with rfl | rfl | rfl
    · exact smd_str _ (by decide +kernel)
    · exact smd_int _ (by omega) (pen_lt (by omega))
    · exact ih h.2 (by omega)
  | h5 n r ih =>
    intro h hz
    simp only [wfR] at h
    simp only [szR] at hz ⊢
    refine smd_tup (l := [(9, .str wCalls), (51, .int n), (130 * szR r, encR r)]) ?_ (by simp; omega)
    intro q hq
    simp only [List.mem_cons, List.not_mem_nil, or_false] at hq
    rcases hq with rfl | rfl | rfl
    · exact smd_str _ (by decide +kernel)
    · exact smd_int _ (by omega) (pen_lt (by omega))
    · exact ih h.2 (by omega)
theorem str_R {r : Rt} (h : wfR r) (hd : dep r ≤ 10) (hz : szR r ≤ 4000) : ∃ z, strF [encR r] = some (.str z) := by
  have hs := shp_R r h
  have hm := enc_smd r h (by omega)
  have h2 := PyData.shown_le 20 (by decide) (encR r) (PyData.leavesShort_of_canLay0 20 (encR r) hs.lay hm.sh)
  have hw := hm.wt
  have hdp := hs.dep
  have ok : StrOk (encR r) := by
    refine ⟨hs.lay, hm.so, by omega, ?_⟩
    rw [sizeLine_eq]
    omega
  obtain ⟨ds, e⟩ : ∃ ds, encR r = .tuple ds := by cases r <;> exact ⟨_, rfl⟩
  rw [e] at ok ⊢
  exact ⟨_, if_pos (@decide_eq_true _ (Classical.propDecidable _) ok)⟩
theorem smd_strOk {d : D} {w : Nat} (hl : d.canLay0 = true) (hd : d.depth ≤ 40) (h : Smd w d) (hw : w ≤ 700000) : StrOk d := by
  have h2 := PyData.shown_le 20 (by decide) d (PyData.leavesShort_of_canLay0 20 d hl h.sh)
  have hw := h.wt
  refine ⟨hl, h.so, hd, ?_⟩
  rw [sizeLine_eq]
  omega
end Lw
namespace Lw
open PySem L2 Bt
end Lw
namespace Lw
open PySem L2 Bt
structure Q5 (r : Rt) : Prop where
  g : GdR r
  z : szR r ≤ 4000
theorem Q5.str {r : Rt} (h : Q5 r) : ∃ z, strF [encR r] = some (.str z) := str_R h.g.wf (by have := h.g.dp; omega) h.z
end Lw
namespace Lw
open PySem L2 Bt
end Lw
namespace Bt
open PySem L2
section
variable {α β : Type} {E : En} {g : Gh}
end
end Bt
namespace Lw
open PySem L2 Bt
def BdN (N N' : Int) : Prop := 0 ≤ N → 0 ≤ N' ∧ N' ≤ N
theorem BdN.refl (N : Int) : BdN N N := fun h => ⟨h, Int.le_refl _⟩
theorem BdN.trans {a b c : Int} (h : BdN a b) (h2 : BdN b c) : BdN a c := fun n => by
  have h := h n
  have h2 := h2 h.1
  omega
theorem BdN.div {N d : Int} (h : 0 < d) : BdN N (N / d) := fun n => ⟨Int.ediv_nonneg n (by omega), Int.ediv_le_self _ n⟩
theorem BdN.dv {a b d : Int} (h : BdN a b) (hd : 0 < d) : BdN a (b / d) := h.trans (BdN.div hd)
def RightQ (s : Sz) (k : Int) (ws : List Str) (r : Rt) (ws' : List Str) : Prop := CrR s r ∧ (dep r : Int) ≤ max k 1 ∧ namesR r ++ ws' = ws
section
variable (N k z o : Int)
end
structure Dr (z o : Int) (r : Rt) : Prop where
  cr : CrR ⟨z, 2 * z, o, 4⟩ r
  dp : dep r ≤ 5
  nm : NmOk (namesR r)
  nd : (namesR r).Nodup
  nl : (namesR r).length ≤ 12
theorem Dr.of {z o k : Int} {ws ws' : List Str} {r : Rt} (h : RightQ ⟨z, 2 * z, o, 4⟩ k ws r ws') (hk : k ≤ 5) (hw : NmOk ws) (hn : ws.Nodup) (hl : ws.length ≤ 12) : Dr z o r := by
  obtain ⟨h1, h2, h3⟩ := h
  have e := congrArg List.length h3
  rw [List.length_append] at e
  subst h3
  exact ⟨h1, by omega, fun x hx => hw x (List.mem_append_left _ hx), (List.nodup_append.mp hn).1, by omega⟩
theorem CrR.bd {s : Sz} {r : Rt} (h : CrR s r) (hz : s.z ≤ 10 ^ 100) (ht : s.t ≤ 10 ^ 100) : BdR r := fun q hq => by have := CrR.calls r h q hq; omega
theorem Dr.gd {z o : Int} {r : Rt} (h : Dr z o r) (hz : z ≤ 10 ^ 10) (ho : o ≤ 100) : GdR r := by
  have h2 := h.nl
  rw [names_len] at h2
  have h3 := totC_le (b := 100) (l := callsR r) fun q hq => by have := (CrR.calls r h.cr q hq).2.2.2; dsimp only at this; omega
  have h4 : ((callsR r).length : Int) * 100 ≤ 12 * 100 := Int.mul_le_mul_of_nonneg_right (by omega) (by omega)
  exact ⟨h.cr.wf, by have := h.dp; omega, by omega, h.nd, h.cr.bd (Int.le_trans hz (by decide)) (Int.le_trans ho (by decide)), by omega⟩
end Lw
namespace Lw
open PySem L2 Bt
def pstp (s : Int × Pile) (q : Int × Int) : Int × Pile := (s.1 - min q.2 (s.1 / q.1) * q.1, if 0 < min q.2 (s.1 / q.1) then s.2 ++ [(q.1, min q.2 (s.1 / q.1))] else s.2)
theorem pstp_fold : ∀ (l : Pile) (a : Int) (acc : Pile), l.foldl pstp (a, acc) = (gR l a, acc ++ (gU l a).filter fun q => decide (0 < q.2))
  | [], a, acc => by simp [gR, gU]
  | q :: l, a, acc => by
    rw [List.foldl_cons]
    unfold pstp
    dsimp only
    rw [show (fun (s : Int × Pile) (q : Int × Int) => (s.1 - min q.2 (s.1 / q.1) * q.1, if 0 < min q.2 (s.1 / q.1) then s.2 ++ [(q.1, min q.2 (s.1 / q.1))] else s.2)) = pstp from rfl, pstp_fold l, gR, gU]
    by_cases c : 0 < min q.2 (a / q.1)
    · rw [if_pos c, List.filter_cons_of_pos (by simpa using c)]; simp
    · rw [if_neg c, List.filter_cons_of_neg (by simpa using c)]
def payS (p : Pile) (a : Int) (s : Int × Pile) : En := [.dat (enc p), .dat (.int a), .dat (.int s.1), (.ow (.l (s.2.map encL))), .un, .un, .un]
theorem pay_by_g {p : Pile} (h : Gd p) {a : Int} (h0 : 0 ≤ a) (h1 : a ≤ 10 ^ 20) (hz : gR p.reverse a = 0) : s_pay_by [.dat (enc p), .dat (.int a)] = .ok (.dat (enc (payP p a))) [.dat (enc p), .dat (.int a)] := by
  have l2 : 2 ≤ LIM := by decide
  have hlen := h.len
  have ef : fr_pay_by_1 (payS p a (a, [])) = .ok .nx (payS p a (p.reverse.foldl pstp (a, []))) := by
    unfold fr_pay_by_1
    refine (for_fold p.reverse encL (payS p a) pstp (fun s l => (∀ q ∈ l, q ∈ p) ∧ 0 ≤ s.1 ∧ s.1 ≤ 10 ^ 20 ∧ s.2.length + l.length ≤ 1000) (by simp! [payS, enc, itemsOf]) ⟨fun q hq => List.mem_reverse.mp hq, h0, h1, by simp; omega⟩ fun q l s hI => ?_).1
    obtain ⟨i1, i2, i3, i4⟩ := hI
    have hq := i1 q List.mem_cons_self
    have w1 := h.w1 q hq
    have w2 := h.w2 q hq
    have m1 := h.m1 q hq
    have m2 := h.m2 q hq
    obtain ⟨u1, u2, u3, u4⟩ := use_b w1 m1 i2
    rw [List.length_cons] at i4
    have o1 : okI s.1 = true := okS (by omega) (by omega)
    have o2 : okI q.1 = true := okS (by omega) (by omega)
    have o3 : okI (min q.2 (s.1 / q.1)) = true := okS (by omega) (by omega)
    have nz : 0 < q.1 := by omega
    have la : s.2.length < LIM := Nat.lt_of_lt_of_le (by omega : s.2.length < 1001) (by decide)
    refine ⟨⟨[.dat (enc p), .dat (.int a), .dat (.int s.1), (.ow (.l (s.2.map encL))), .dat (.int q.1), .dat (.int q.2), .un], [.dat (enc p), .dat (.int a), .dat (.int (s.1 - min q.2 (s.1 / q.1) * q.1)), (.ow (.l ((pstp s q).2.map encL))), .dat (.int q.1), .dat (.int q.2), .dat (.int (min q.2 (s.1 / q.1)))], by simp [payS, encL, gTupM, gConsM, gNilM, gN], .inl ?_, by simp [payS, wipeE, pstp]⟩, fun z hz => i1 z (List.mem_cons_of_mem _ hz), ?_, ?_, ?_⟩
    · unfold pstp
      dsimp only
      by_cases c : 0 < min q.2 (s.1 / q.1)
      · rw [if_pos c]
        simp! [lp_pay_by_1, gN, o1, o2, o3, nz, c, la, l2, encL]
      · rw [if_neg c]
        simp! [lp_pay_by_1, gN, o1, o2, o3, nz, c]
    · unfold pstp; dsimp only; omega
    · unfold pstp; dsimp only; omega
    · unfold pstp
      dsimp only
      split
      · rw [List.length_append, List.length_singleton]; omega
      · omega
  rw [pstp_fold, hz, List.nil_append] at ef
  simp only [payS, List.map_nil] at ef
  have ee : enc (payP p a) = .tuple (((gU p.reverse a).filter fun q => decide (0 < q.2)).map encL).reverse := by
    unfold enc payP
    rw [List.map_reverse]
  rw [ee]
  generalize enc p = P at *
  simp! [s_pay_by, m_pay_by, gN, ef]
theorem sub_g {p : Pile} (h : Gd p) {a : Int} (ha : 0 ≤ a) : ∀ x ∈ payP p a, ∃ q ∈ p, q.1 = x.1 ∧ x.2 ≤ q.2 := fun x hx => by
  obtain ⟨q, hq, e, _, e2⟩ := payP_sub h ha x hx
  exact ⟨q, hq, e, e2⟩
theorem take_by_g {p : Pile} (h : Gd p) (hl : p.length < 1000) {a : Int} (ha : 0 ≤ a) : s_take_by [.dat (enc p), .dat (enc (payP p a))] = .ok (.dat (enc (takeP p (payP p a)))) [.dat (enc p), .dat (enc (payP p a))] := take_by_ok h (payP_gd h ha) hl (sub_g h ha)
theorem left_gd {p : Pile} (h : Gd p) {a : Int} (ha : 0 ≤ a) : Gd (takeP p (payP p a)) := takeP_gdC h (payP_up h a) (sub_g h ha) fun x hx => by
  obtain ⟨_, _, _, e, _⟩ := payP_sub h ha x hx
  omega
def paidP : Pile → List Int → List Pile
  | _, [] => []
  | p, a :: as => payP p a :: paidP (takeP p (payP p a)) as
def leftP : Pile → List Int → Pile
  | p, [] => p
  | p, a :: as => leftP (takeP p (payP p a)) as
def canP : Pile → List Int → Prop
  | _, [] => True
  | p, a :: as => (0 ≤ a ∧ a ≤ 10 ^ 20 ∧ gR p.reverse a = 0) ∧ canP (takeP p (payP p a)) as
theorem paid_loop (P0 : D) (L : D) : ∀ (as : List Int) (p : Pile) (acc : List D), Gd p → p.length < 1000 → canP p as → acc.length + as.length ≤ 5000 →
    forGo [4] (gN 4) lp_paid_1 (as.map .int) [.dat P0, .dat L, (.ow (.l acc)), .dat (enc p), .un] = .ok .nx [.dat P0, .dat L, (.ow (.l (acc ++ (paidP p as).map enc))), .dat (enc (leftP p as)), .un]
  | [], p, acc, h, hl, hc, hn => by simp [forGo, paidP, leftP]
  | a :: as, p, acc, h, hl, hc, hn => by
    obtain ⟨⟨c1, c2, c3⟩, c4⟩ := hc
    rw [List.length_cons] at hn
    have e1 := pay_by_g h c1 c2 c3
    have e2 := take_by_g h hl c1
    have g := left_gd h c1
    have gl : (takeP p (payP p a)).length < 1000 := Nat.lt_of_le_of_lt takeP_len hl
    have ih := paid_loop P0 L as (takeP p (payP p a)) (acc ++ [enc (payP p a)]) g gl c4 (by rw [List.length_append, List.length_singleton]; omega)
    have la : acc.length < LIM := Nat.lt_of_lt_of_le (by omega : acc.length < 5001) (by decide)
    have ix : ixN (acc.length + 1) (-1) = some acc.length := by
      unfold ixN
      rw [if_neg (by omega), if_pos (by omega)]
      congr 1
      omega
    have e3 : lp_paid_1 [.dat P0, .dat L, (.ow (.l acc)), .dat (enc p), .dat (.int a)] = .ok .nx [.dat P0, .dat L, (.ow (.l (acc ++ [enc (payP p a)]))), .dat (enc (takeP p (payP p a))), .dat (.int a)] := by
      generalize enc (takeP p (payP p a)) = Q at *
      generalize enc (payP p a) = O at *
      generalize enc p = P at *
      simp! [lp_paid_1, gN, e1, e2, la, atI, ix]
    rw [List.map_cons]
    unfold forGo
    rw [show gN 4 (.int a) [.dat P0, .dat L, (.ow (.l acc)), .dat (enc p), .un] = some [.dat P0, .dat L, (.ow (.l acc)), .dat (enc p), .dat (.int a)] from rfl]
    dsimp only
    rw [e3]
    dsimp only
    rw [show wipeE [.dat P0, .dat L, (.ow (.l (acc ++ [enc (payP p a)]))), .dat (enc (takeP p (payP p a))), .dat (.int a)] [4] = [.dat P0, .dat L, (.ow (.l (acc ++ [enc (payP p a)]))), .dat (enc (takeP p (payP p a))), .un] from rfl, ih, paidP, leftP]
    simp
theorem paid_g {p : Pile} (h : Gd p) (hl : p.length < 1000) {as : List Int} (hc : canP p as) (hn : as.length ≤ 5000) (hp : ∀ a ∈ as, 0 ≤ a) : s_paid [.dat (enc p), .dat (.list (as.map .int))] = .ok (.dat (.tuple [.list ((paidP p as).map enc), enc (leftP p as)])) [.dat (enc p), .dat (.list (as.map .int))] := by
  have e1 := look_pile h
  have l2 : 2 ≤ LIM := by decide
  have hL : as.length ≤ LIM := Nat.le_trans hn (by decide)
  have e2 : lc_paid_1 [.dat (enc p), .dat (.list (as.map .int)), .un, .un, .un] = .ok (.list (as.map fun _ => .bool true)) [.dat (enc p), .dat (.list (as.map .int)), .un, .un, .un] := by
    unfold lc_paid_1
    exact lc_map as .int _ (by simp! [itemsOf]) (by simp) (fun a ha => by
      have := is_from_gen 0 (.int a) rfl
      rw [show isFl 0 (.int a) = true from decide_eq_true (hp a ha)] at this
      simp! [elF, wipeE, gN, this]) hL
  have e3 : allF [.list (as.map fun _ => .bool true)] = some (.bool true) := by
    rw [allF_map]
    simp
  have e4 : fr_paid_1 [.dat (enc p), .dat (.list (as.map .int)), (.ow (.l [])), .dat (enc p), .un] = .ok .nx [.dat (enc p), .dat (.list (as.map .int)), (.ow (.l ((paidP p as).map enc))), .dat (enc (leftP p as)), .un] := by
    unfold fr_paid_1 mFor bnd
    rw [show mIt (mV 1) [.dat (enc p), .dat (.list (as.map .int)), (.ow (.l [])), .dat (enc p), .un] = .ok (as.map .int) [.dat (enc p), .dat (.list (as.map .int)), (.ow (.l [])), .dat (enc p), .un] by simp! [itemsOf]]
    have := paid_loop (enc p) (.list (as.map .int)) as p [] h hl hc (by simpa using hn)
    rw [List.nil_append] at this
    exact this
  generalize enc (leftP p as) = Q at *
  generalize enc p = P at *
  simp! [s_paid, m_paid, gN, e1, e2, e3, e4, l2]
end Lw
namespace Lw
open PySem L2 Bt
def xP (r : Int) : Exc := ⟨14, some (.int r)⟩
theorem pay_by_x {p : Pile} (h : Gd p) {a : Int} (h0 : 0 ≤ a) (h1 : a ≤ 10 ^ 20) : s_pay_by [.dat (enc p), .dat (.int a)] = if gR p.reverse a = 0 then .ok (.dat (enc (payP p a))) [.dat (enc p), .dat (.int a)] else .ex (xP (gR p.reverse a)) [.dat (enc p), .dat (.int a)] := by
  by_cases hz : gR p.reverse a = 0
  · rw [if_pos hz]
    exact pay_by_g h h0 h1 hz
  · rw [if_neg hz]
    have hb := gR_b (rev_cn h) h0
    have l2 : 2 ≤ LIM := by decide
    have hlen := h.len
    have ef : fr_pay_by_1 (payS p a (a, [])) = .ok .nx (payS p a (p.reverse.foldl pstp (a, []))) := by
      unfold fr_pay_by_1
      refine (for_fold p.reverse encL (payS p a) pstp (fun s l => (∀ q ∈ l, q ∈ p) ∧ 0 ≤ s.1 ∧ s.1 ≤ 10 ^ 20 ∧ s.2.length + l.length ≤ 1000) (by simp! [payS, enc, itemsOf]) ⟨fun q hq => List.mem_reverse.mp hq, h0, h1, by simp; omega⟩ fun q l s hI => ?_).1
      obtain ⟨i1, i2, i3, i4⟩ := hI
      have hq := i1 q List.mem_cons_self
      have w1 := h.w1 q hq
      have w2 := h.w2 q hq
      have m1 := h.m1 q hq
      have m2 := h.m2 q hq
      obtain ⟨u1, u2, u3, u4⟩ := use_b w1 m1 i2
      rw [List.length_cons] at i4
      have o1 : okI s.1 = true := okS (by omega) (by omega)
      have o2 : okI q.1 = true := okS (by omega) (by omega)
      have o3 : okI (min q.2 (s.1 / q.1)) = true := okS (by omega) (by omega)
      have nz : 0 < q.1 := by omega
      have la : s.2.length < LIM := Nat.lt_of_lt_of_le (by omega : s.2.length < 1001) (by decide)
      refine ⟨⟨[.dat (enc p), .dat (.int a), .dat (.int s.1), (.ow (.l (s.2.map encL))), .dat (.int q.1), .dat (.int q.2), .un], [.dat (enc p), .dat (.int a), .dat (.int (s.1 - min q.2 (s.1 / q.1) * q.1)), (.ow (.l ((pstp s q).2.map encL))), .dat (.int q.1), .dat (.int q.2), .dat (.int (min q.2 (s.1 / q.1)))], by simp [payS, encL, gTupM, gConsM, gNilM, gN], .inl ?_, by simp [payS, wipeE, pstp]⟩, fun z hz => i1 z (List.mem_cons_of_mem _ hz), ?_, ?_, ?_⟩
      · unfold pstp
        dsimp only
        by_cases c : 0 < min q.2 (s.1 / q.1)
        · rw [if_pos c]
          simp! [lp_pay_by_1, gN, o1, o2, o3, nz, c, la, l2, encL]
        · rw [if_neg c]
          simp! [lp_pay_by_1, gN, o1, o2, o3, nz, c]
      · unfold pstp; dsimp only; omega
      · unfold pstp; dsimp only; omega
      · unfold pstp
        dsimp only
        split
        · rw [List.length_append, List.length_singleton]; omega
        · omega
    rw [pstp_fold, List.nil_append] at ef
    simp only [payS, List.map_nil] at ef
    have hpos : 0 < gR p.reverse a := by omega
    unfold xP
    generalize enc p = P at *
    simp! [s_pay_by, m_pay_by, gN, ef, hpos, Bt.a_mRaise1]
theorem pay_x {p : Pile} (h : Gd p) {a : Int} (h0 : 0 ≤ a) (h1 : a ≤ 10 ^ 20) : s_pay [.dat (enc p), .dat (.int a)] = if gR p.reverse a = 0 then .ok (.dat (enc (payP p a))) [.dat (enc p), .dat (.int a)] else .ex (xP (gR p.reverse a)) [.dat (enc p), .dat (.int a)] := by
  have e1 := look_pile h
  have e2 := look_num a 0 h0
  have e3 := pay_by_x h h0 h1
  by_cases c : gR p.reverse a = 0
  · rw [if_pos c] at e3 ⊢
    generalize enc p = P at *
    simp! [s_pay, m_pay, e1, e2, e3]
  · rw [if_neg c] at e3 ⊢
    generalize enc p = P at *
    simp! [s_pay, m_pay, e1, e2, e3]
def rowR : Pile → List Int → Option Int
  | _, [] => none
  | p, a :: as => if gR p.reverse a = 0 then rowR (takeP p (payP p a)) as else some (gR p.reverse a)
theorem row_can : ∀ {p : Pile} {as : List Int}, (∀ a ∈ as, 0 ≤ a ∧ a ≤ 10 ^ 20) → rowR p as = none → canP p as
  | p, [], _, _ => trivial
  | p, a :: as, h, e => by
    rw [rowR] at e
    split at e
    · rename_i c
      exact ⟨⟨(h a List.mem_cons_self).1, (h a List.mem_cons_self).2, c⟩, row_can (fun x hx => h x (List.mem_cons_of_mem _ hx)) e⟩
    · cases e
theorem paid_stop (P0 : D) (L : D) : ∀ (as : List Int) (p : Pile) (acc : List D) (r : Int), Gd p → p.length < 1000 → (∀ a ∈ as, 0 ≤ a ∧ a ≤ 10 ^ 20) → rowR p as = some r → acc.length + as.length ≤ 5000 →
    ∃ E', forGo [4] (gN 4) lp_paid_1 (as.map .int) [.dat P0, .dat L, (.ow (.l acc)), .dat (enc p), .un] = .ex (xP r) E' ∧ E'.take 2 = [.dat P0, .dat L]
  | [], p, acc, r, h, hl, hp, hr, hn => by cases hr
  | a :: as, p, acc, r, h, hl, hp, hr, hn => by
    obtain ⟨c1, c2⟩ := hp a List.mem_cons_self
    rw [List.length_cons] at hn
    have e1 := pay_by_x h c1 c2
    rw [rowR] at hr
    rw [List.map_cons]
    unfold forGo
    rw [show gN 4 (.int a) [.dat P0, .dat L, (.ow (.l acc)), .dat (enc p), .un] = some [.dat P0, .dat L, (.ow (.l acc)), .dat (enc p), .dat (.int a)] from rfl]
    dsimp only
    by_cases c : gR p.reverse a = 0
    · rw [if_pos c] at e1 hr
      have e2 := take_by_g h hl c1
      have gl : (takeP p (payP p a)).length < 1000 := Nat.lt_of_le_of_lt takeP_len hl
      obtain ⟨E', ih, hE⟩ := paid_stop P0 L as (takeP p (payP p a)) (acc ++ [enc (payP p a)]) r (left_gd h c1) gl (fun x hx => hp x (List.mem_cons_of_mem _ hx)) hr (by rw [List.length_append, List.length_singleton]; omega)
      have la : acc.length < LIM := Nat.lt_of_lt_of_le (by omega : acc.length < 5001) (by decide)
      have ix : ixN (acc.length + 1) (-1) = some acc.length := by
        unfold ixN
        rw [if_neg (by omega), if_pos (by omega)]
        congr 1
        omega
      have e3 : lp_paid_1 [.dat P0, .dat L, (.ow (.l acc)), .dat (enc p), .dat (.int a)] = .ok .nx [.dat P0, .dat L, (.ow (.l (acc ++ [enc (payP p a)]))), .dat (enc (takeP p (payP p a))), .dat (.int a)] := by
        generalize enc (takeP p (payP p a)) = Q at *
        generalize enc (payP p a) = O at *
        generalize enc p = P at *
        simp! [lp_paid_1, gN, e1, e2, la, atI, ix]
      rw [e3]
      dsimp only
      rw [show wipeE [.dat P0, .dat L, (.ow (.l (acc ++ [enc (payP p a)]))), .dat (enc (takeP p (payP p a))), .dat (.int a)] [4] = [.dat P0, .dat L, (.ow (.l (acc ++ [enc (payP p a)]))), .dat (enc (takeP p (payP p a))), .un] from rfl]
      exact ⟨E', ih, hE⟩
    · rw [if_neg c] at e1 hr
      cases hr
      have e3 : lp_paid_1 [.dat P0, .dat L, (.ow (.l acc)), .dat (enc p), .dat (.int a)] = .ex (xP (gR p.reverse a)) [.dat P0, .dat L, (.ow (.l acc)), .dat (enc p), .dat (.int a)] := by
        generalize enc p = P at *
        simp! [lp_paid_1, gN, e1]
      rw [e3]
      exact ⟨_, rfl, rfl⟩
theorem all_from {as : List Int} (hp : ∀ a ∈ as, 0 ≤ a) (hn : as.length ≤ 5000) (P : D) : lc_paid_1 [.dat P, .dat (.list (as.map .int)), .un, .un, .un] = .ok (.list (as.map fun _ => .bool true)) [.dat P, .dat (.list (as.map .int)), .un, .un, .un] ∧ allF [.list (as.map fun _ => .bool true)] = some (.bool true) := by
  refine ⟨?_, by rw [allF_map]; simp⟩
  unfold lc_paid_1
  exact lc_map as .int _ (by simp! [itemsOf]) (by simp) (fun a ha => by
    have := is_from_gen 0 (.int a) rfl
    rw [show isFl 0 (.int a) = true from decide_eq_true (hp a ha)] at this
    simp! [elF, wipeE, gN, this]) (Nat.le_trans hn (by decide))
theorem paid_x {p : Pile} (h : Gd p) (hl : p.length < 1000) {as : List Int} (hp : ∀ a ∈ as, 0 ≤ a ∧ a ≤ 10 ^ 20) (hn : as.length ≤ 5000) : s_paid [.dat (enc p), .dat (.list (as.map .int))] = match rowR p as with
    | none => .ok (.dat (.tuple [.list ((paidP p as).map enc), enc (leftP p as)])) [.dat (enc p), .dat (.list (as.map .int))]
    | some r => .ex (xP r) [.dat (enc p), .dat (.list (as.map .int))] := by
  cases e : rowR p as with
  | none => exact paid_g h hl (row_can hp e) hn fun a ha => (hp a ha).1
  | some r =>
    dsimp only
    have e1 := look_pile h
    obtain ⟨e2, e3⟩ := all_from (fun a ha => (hp a ha).1) hn (enc p)
    obtain ⟨E', e4, hE⟩ := paid_stop (enc p) (.list (as.map .int)) as p [] r h hl hp e (by simpa using hn)
    have e5 : fr_paid_1 [.dat (enc p), .dat (.list (as.map .int)), (.ow (.l [])), .dat (enc p), .un] = .ex (xP r) E' := by
      unfold fr_paid_1 mFor bnd
      rw [show mIt (mV 1) [.dat (enc p), .dat (.list (as.map .int)), (.ow (.l [])), .dat (enc p), .un] = .ok (as.map .int) [.dat (enc p), .dat (.list (as.map .int)), (.ow (.l [])), .dat (enc p), .un] by simp! [itemsOf]]
      exact e4
    generalize enc p = P at *
    match E', hE with
    | a :: b :: E', hE =>
      injection hE with h1 hE
      injection hE with h2 hE
      subst h1 h2
      simp! [s_paid, m_paid, gN, e1, e2, e3, e5]
end Lw
namespace Lw
open PySem L2 Bt
theorem same_fr : fr_k20_paidX_1 = fr_paid_1 := rfl
theorem same_lc : lc_k20_paidX_1 = lc_paid_1 := rfl
theorem paidX_x {p : Pile} (h : Gd p) (hl : p.length < 1000) {as : List Int} (hp : ∀ a ∈ as, 0 ≤ a ∧ a ≤ 10 ^ 20) (hn : as.length ≤ 5000) : s_k20_paidX [.dat (enc p), .dat (.list (as.map .int))] = match rowR p as with
    | none => .ok ((paidP p as).map enc, enc (leftP p as)) [.dat (enc p), .dat (.list (as.map .int))]
    | some r => .ex (xP r) [.dat (enc p), .dat (.list (as.map .int))] := by
  have e1 := look_pile h
  obtain ⟨e2, e3⟩ := all_from (fun a ha => (hp a ha).1) hn (enc p)
  have hm : mIt (mV 1) [.dat (enc p), .dat (.list (as.map .int)), (.ow (.l [])), .dat (enc p), .un] = .ok (as.map .int) [.dat (enc p), .dat (.list (as.map .int)), (.ow (.l [])), .dat (enc p), .un] := by simp! [itemsOf]
  rw [← same_lc] at e2
  cases e : rowR p as with
  | none =>
    have e4 : fr_k20_paidX_1 [.dat (enc p), .dat (.list (as.map .int)), (.ow (.l [])), .dat (enc p), .un] = .ok .nx [.dat (enc p), .dat (.list (as.map .int)), (.ow (.l ((paidP p as).map enc))), .dat (enc (leftP p as)), .un] := by
      rw [same_fr]
      unfold fr_paid_1 mFor bnd
      rw [hm]
      have := paid_loop (enc p) (.list (as.map .int)) as p [] h hl (row_can hp e) (by simpa using hn)
      rw [List.nil_append] at this
      exact this
    generalize enc (leftP p as) = Q at *
    generalize enc p = P at *
    simp! [s_k20_paidX, m_k20_paidX, mFnX, yB, yS, yL, inPs, slTL, mRetTL, okAsg, parBack, gN, e1, e2, e3, e4]
  | some r =>
    obtain ⟨E', e4, hE⟩ := paid_stop (enc p) (.list (as.map .int)) as p [] r h hl hp e (by simpa using hn)
    have e5 : fr_k20_paidX_1 [.dat (enc p), .dat (.list (as.map .int)), (.ow (.l [])), .dat (enc p), .un] = .ex (xP r) E' := by
      rw [same_fr]
      unfold fr_paid_1 mFor bnd
      rw [hm]
      exact e4
    generalize enc p = P at *
    match E', hE with
    | a :: b :: E', hE =>
      injection hE with h1 hE
      injection hE with h2 hE
      subst h1 h2
      simp! [s_k20_paidX, m_k20_paidX, mFnX, yB, yS, yL, inPs, slTL, okAsg, parBack, gN, e1, e2, e3, e5]
section
variable {P A d : D} {x : Exc} {ds : List D}
theorem asked0 (h : s_pay [.dat P, .dat A] = .ok (.dat d) [.dat P, .dat A]) : s_k20__law_asked [.dat (.int 0), .dat P, .dat A] = .ok (.dat (.tuple [d, .none])) [.dat (.int 0), .dat P, .dat A] := by
  have l2 : (2 : Nat) ≤ LIM := by decide
  simp! [s_k20__law_asked, m_k20__law_asked, tb_k20__law_asked_1, gN, gTupM, gConsM, gNilM, eqD_int, h, l2]
theorem asked0x (h : s_pay [.dat P, .dat A] = .ex x [.dat P, .dat A]) (hx : isSub x.cls 0 = true) : s_k20__law_asked [.dat (.int 0), .dat P, .dat A] = .ok (.dat (.tuple [.none, xOf x])) [.dat (.int 0), .dat P, .dat A] := by
  have l2 : (2 : Nat) ≤ LIM := by decide
  generalize hX : xOf x = X at *
  simp! [s_k20__law_asked, m_k20__law_asked, tb_k20__law_asked_1, gN, gTupM, gConsM, gNilM, eqD_int, h, hx, hX, l2]
theorem asked1x (h : s_paid [.dat P, .dat A] = .ex x [.dat P, .dat A]) (hx : isSub x.cls 0 = true) : s_k20__law_asked [.dat (.int 1), .dat P, .dat A] = .ok (.dat (.tuple [.none, xOf x])) [.dat (.int 1), .dat P, .dat A] := by
  have l2 : (2 : Nat) ≤ LIM := by decide
  generalize hX : xOf x = X at *
  simp! [s_k20__law_asked, m_k20__law_asked, tb_k20__law_asked_1, gN, gTupM, gConsM, gNilM, eqD_int, h, hx, hX, l2]
theorem askedX (h : s_k20_paidX [.dat P, .dat A] = .ok (ds, d) [.dat P, .dat A]) : s_k20__law_askedX [.dat (.int 1), .dat P, .dat A] = .ok (.tl ds d .none) [.dat (.int 1), .dat P, .dat A] := by
  have l2 : (2 : Nat) ≤ LIM := by decide
  simp! [s_k20__law_askedX, m_k20__law_askedX, tb_k20__law_askedX_1, mFnX, mCallX, ySetTL, yTry, ySeq, yR, yB, yS, yL, inPs, slTL, mRetA, okAsg, parBack, apartA, argSl, putB, isOwn, gN, gTupM, gConsM, gNilM, eqD_int, h, l2]
theorem askedXx (h : s_k20_paidX [.dat P, .dat A] = .ex x [.dat P, .dat A]) (hx : isSub x.cls 0 = true) : s_k20__law_askedX [.dat (.int 1), .dat P, .dat A] = .ok (.dt (.tuple [.none, xOf x])) [.dat (.int 1), .dat P, .dat A] := by
  have l2 : (2 : Nat) ≤ LIM := by decide
  generalize hX : xOf x = X at *
  simp! [s_k20__law_askedX, m_k20__law_askedX, tb_k20__law_askedX_1, mFnX, mCallX, ySetTL, yTry, ySeq, yR, yB, yS, yL, inPs, slTL, mRetA, okAsg, parBack, apartA, argSl, putB, isOwn, gN, gTupM, gConsM, gNilM, eqD_int, h, hx, hX, l2]
end
end Lw
namespace Lw
open PySem L2 Bt
def gstp (s : Int × Pile) (q : Int × Int) : Int × Pile := (s.1 - min q.2 (s.1 / q.1) * q.1, s.2 ++ [(q.1, min q.2 (s.1 / q.1))])
theorem gstp_fold : ∀ (l : Pile) (a : Int) (acc : Pile), l.foldl gstp (a, acc) = (gR l a, acc ++ gU l a)
  | [], a, acc => by simp [gR, gU]
  | q :: l, a, acc => by
    rw [List.foldl_cons]
    show l.foldl gstp (a - min q.2 (a / q.1) * q.1, acc ++ [(q.1, min q.2 (a / q.1))]) = _
    rw [gstp_fold, gR, gU]
    simp
theorem fold_left20 : ∀ (o : Pile), o.Pairwise (fun a b => a.1 ≠ b.1) → ∀ p : Pile, o.foldl tstep p = p.map fun q => (q.1, q.2 - cnt o q.1)
  | [], _, p => by simp [cnt]
  | x :: o, h, p => by
    obtain ⟨h1, h2⟩ := List.pairwise_cons.mp h
    have hx : cnt o x.1 = 0 := cnt_none (has_false fun y hy e => h1 y hy e.symm)
    rw [List.foldl_cons, fold_left20 o h2]
    unfold tstep
    rw [List.map_map]
    refine List.map_congr_left fun q _ => ?_
    rw [cnt_cons]
    by_cases c : q.1 = x.1
    · simp only [Function.comp_apply, c, if_true, hx, Int.sub_zero]
    · simp only [Function.comp_apply, if_neg c, if_neg (fun z => c (Eq.symm z) : ¬ x.1 = q.1)]
section
variable {p : Pile} {a : Int}
theorem gU_ne (h : Gd p) (a : Int) : (gU p.reverse a).Pairwise fun x y => x.1 ≠ y.1 := (gU_desc (rev_desc h) a).imp fun {x y} z e => by omega
theorem map_cnt {U : Pile} (h : U.Pairwise fun x y => x.1 ≠ y.1) : (U.map fun q => (q.1, cnt U q.1)) = U := by
  refine (List.map_congr_left fun q hq => ?_).trans (List.map_id _)
  rw [cnt_mem h q hq]
  rfl
theorem used_eq (h : Gd p) (a : Int) : (p.map fun q => (q.1, cnt (gU p.reverse a) q.1)) = (gU p.reverse a).reverse := by
  have e := congrArg List.reverse (gU_keys p.reverse a)
  rw [← List.map_reverse, ← List.map_reverse, List.reverse_reverse] at e
  have e2 : (p.map fun q => (q.1, cnt (gU p.reverse a) q.1)) = (p.map (·.1)).map fun w => (w, cnt (gU p.reverse a) w) := by rw [List.map_map]; rfl
  rw [e2, ← e, List.map_map]
  have := congrArg List.reverse (map_cnt (gU_ne h a))
  rw [← List.map_reverse] at this
  exact this
theorem pay_eq (h : Gd p) (a : Int) : ((p.filter fun q => decide (0 < cnt (gU p.reverse a) q.1)).map fun q => (q.1, cnt (gU p.reverse a) q.1)) = payP p a := by
  unfold payP
  rw [← List.filter_reverse, ← used_eq h a, List.filter_map]
  rfl
theorem cnt_pay (h : Gd p) (ha : 0 ≤ a) {q : Int × Int} (hq : q ∈ p) : cnt (payP p a) q.1 = cnt (gU p.reverse a) q.1 := by
  have hmem : (q.1, cnt (gU p.reverse a) q.1) ∈ gU p.reverse a := by
    have : (q.1, cnt (gU p.reverse a) q.1) ∈ (gU p.reverse a).reverse := by
      rw [← used_eq h a]
      exact List.mem_map.mpr ⟨q, hq, rfl⟩
    exact List.mem_reverse.mp this
  by_cases c : 0 < cnt (gU p.reverse a) q.1
  · have hm : (q.1, cnt (gU p.reverse a) q.1) ∈ payP p a := by
      unfold payP
      exact List.mem_reverse.mpr (List.mem_filter.mpr ⟨hmem, decide_eq_true c⟩)
    exact cnt_mem (up_ne (payP_up h a)) _ hm
  · obtain ⟨_, _, _, h0, _⟩ := gU_mem (rev_cn h) ha _ hmem
    have : cnt (gU p.reverse a) q.1 = 0 := by
      have h0 : 0 ≤ cnt (gU p.reverse a) q.1 := h0
      omega
    rw [this]
    refine cnt_none (has_false fun y hy e => ?_)
    unfold payP at hy
    obtain ⟨h1, h2⟩ := List.mem_filter.mp (List.mem_reverse.mp hy)
    have h2 := of_decide_eq_true h2
    have := cnt_mem (gU_ne h a) y h1
    rw [e] at this
    omega
theorem left_eq (h : Gd p) (ha : 0 ≤ a) : ((p.filter fun q => decide (cnt (gU p.reverse a) q.1 < q.2)).map fun q => (q.1, q.2 - cnt (gU p.reverse a) q.1)) = takeP p (payP p a) := by
  unfold takeP
  rw [fold_left20 _ (up_ne (payP_up h a)), List.filter_map]
  have e1 : ∀ q ∈ p, (q.1, q.2 - cnt (payP p a) q.1) = (q.1, q.2 - cnt (gU p.reverse a) q.1) := fun q hq => by rw [cnt_pay h ha hq]
  have e2 : (p.filter fun q => decide (cnt (gU p.reverse a) q.1 < q.2)) = p.filter ((fun q => decide (0 < q.2)) ∘ fun q : Int × Int => (q.1, q.2 - cnt (payP p a) q.1)) := by
    refine List.filter_congr fun q hq => ?_
    simp only [Function.comp_apply, cnt_pay h ha hq]
    rw [Bool.eq_iff_iff, decide_eq_true_eq, decide_eq_true_eq]
    omega
  rw [e2]
  exact (List.map_congr_left fun q hq => (e1 q (List.mem_filter.mp hq).1).symm)
theorem sort_keys (h : Gd p) (a : Int) : sortI ((gU p.reverse a).map (·.1)) = p.map (·.1) := by
  rw [gU_keys]
  refine (sortI_uniq ?_ ?_).symm
  · exact (List.Perm.map _ (List.reverse_perm p).symm)
  · exact List.pairwise_map.mpr (h.up.imp fun {x y} z => by omega)
theorem one20 (h : Gd p) (hl : p.length < 900) (ha : 0 ≤ a) (ha2 : a ≤ 10 ^ 20) : s_k20__law_one [.dat (enc p), .dat (.int a)] = .ok (.dat (.tuple [enc (payP p a), enc (takeP p (payP p a)), .int (gR p.reverse a)])) [.dat (enc p), .dat (.int a)] := by
  have hlim : p.length ≤ LIM := Nat.le_trans (Nat.le_of_lt hl) (by decide)
  have l2 : (2 : Nat) ≤ LIM := by decide
  have l3 : (3 : Nat) ≤ LIM := by decide
  let st : Int × Pile → En := fun s => [.dat (enc p), .dat (.int s.1), (.ow (.d (p.map kv))), (.ow (.d (s.2.map kv))), .un, .un, .un, .un, .un]
  have sp : sortI (p.map (·.1)) = p.map (·.1) := sortI_self (List.pairwise_map.mpr (h.up.imp fun {x y} z => by omega))
  have e0 : lc_k20__law_one_1 [.dat (enc p), .dat (.int a), .un, .un, .un, .un, .un, .un, .un] = .ok (.list (p.map encL)) [.dat (enc p), .dat (.int a), .un, .un, .un, .un, .un, .un, .un] := by
    unfold lc_k20__law_one_1
    exact lc_map p encL encL (by simp! [enc, itemsOf]) (by simp) (fun q hq => by simp! [elF, wipeE, encL, gN, gTupM, gConsM, gNilM, l2]) hlim
  have ed : dictF (.list (p.map encL)) = some (.d (p.map kv)) := by
    unfold dictF
    dsimp only
    rw [pairs_enc]
    have := merge_kv p [] (up_ne h.up)
    simp only [List.map_nil, List.nil_append] at this
    simp [this]
  have ef : fr_k20__law_one_1 (st (a, [])) = .ok .nx (st (p.reverse.foldl gstp (a, []))) := by
    unfold fr_k20__law_one_1
    refine (for_fold p.reverse (fun q => .int q.1) st gstp (fun s l => (∀ q ∈ l, q ∈ p) ∧ (l.Pairwise fun x y => x.1 ≠ y.1) ∧ 0 ≤ s.1 ∧ s.1 ≤ 10 ^ 20 ∧ s.2.length + l.length ≤ 1000 ∧ ∀ x ∈ s.2, ∀ q ∈ l, x.1 ≠ q.1) ?_ ⟨fun q hq => List.mem_reverse.mp hq, (rev_desc h).imp (fun {x y} z e => by omega), ha, ha2, by simp; omega, fun x hx => by cases hx⟩ fun q l s hI => ?_).1
    · have : (p.reverse.map fun q => PyData.int q.1) = ((sortI (p.map (·.1))).map PyData.int).reverse := by rw [sp, List.map_map, List.map_reverse]; rfl
      rw [this]
      have hl3 : p.length < 1000 := by omega
      simp! [st, itemsOf, keys_kv, hl3]
    · obtain ⟨i1, i5, i2, i3, i4, i6⟩ := hI
      have hq := i1 q List.mem_cons_self
      have w1 := h.w1 q hq
      have w2 := h.w2 q hq
      have m1 := h.m1 q hq
      have m2 := h.m2 q hq
      obtain ⟨u1, u2, u3, u4⟩ := use_b w1 m1 i2
      rw [List.length_cons] at i4
      have o1 : okI s.1 = true := okS (by omega) (by omega)
      have o2 : okI q.1 = true := okS (by omega) (by omega)
      have o3 : okI (min q.2 (s.1 / q.1)) = true := okS (by omega) (by omega)
      have o4 : okI (s.1 / q.1) = true := okS (by have := Int.ediv_nonneg i2 (show 0 ≤ q.1 by omega); omega) (by have := Int.ediv_le_self q.1 i2; omega)
      have o5 : okI q.2 = true := okS (by omega) (by omega)
      have nz : 0 < q.1 := by omega
      have la : s.2.length < LIM := Nat.lt_of_lt_of_le (by omega : s.2.length < 1001) (by decide)
      have hh : has p q.1 = true := has_iff.mpr ⟨q, hq, rfl⟩
      have hc : cnt p q.1 = q.2 := cnt_mem (up_ne h.up) q hq
      have hn : has s.2 q.1 = false := has_false fun x hx => i6 x hx q List.mem_cons_self
      have hp (n : Int) := put_new n hn
      refine ⟨⟨[.dat (enc p), .dat (.int s.1), (.ow (.d (p.map kv))), (.ow (.d (s.2.map kv))), .dat (.int q.1), .un, .un, .un, .un], [.dat (enc p), .dat (.int (s.1 - min q.2 (s.1 / q.1) * q.1)), (.ow (.d (p.map kv))), (.ow (.d ((s.2 ++ [(q.1, min q.2 (s.1 / q.1))]).map kv))), .dat (.int q.1), .un, .un, .dat (.int (min q.2 (s.1 / q.1))), .un], by simp [st, gN], .inl ?_, by simp [st, wipeE, gstp]⟩, fun z hz => i1 z (List.mem_cons_of_mem _ hz), (List.pairwise_cons.mp i5).2, ?_, ?_, ?_, ?_⟩
      · by_cases c : q.2 < s.1 / q.1
        · have em : min q.2 (s.1 / q.1) = q.2 := by omega
          rw [em] at o3 ⊢
          simp! [lp_k20__law_one_1, gN, o1, o2, o3, o4, o5, nz, la, l2, val_kv, hh, hc, hp, c]
        · have em : min q.2 (s.1 / q.1) = s.1 / q.1 := by omega
          rw [em] at o3 ⊢
          simp! [lp_k20__law_one_1, gN, o1, o2, o3, o4, o5, nz, la, l2, val_kv, hh, hc, hp, c]
      · show 0 ≤ s.1 - _; omega
      · show s.1 - _ ≤ _; omega
      · show (s.2 ++ _).length + _ ≤ _
        rw [List.length_append, List.length_singleton]; omega
      · intro x hx z hz
        rcases List.mem_append.mp hx with hx | hx
        · exact i6 x hx z (List.mem_cons_of_mem _ hz)
        · rw [List.mem_singleton.mp hx]
          exact (List.pairwise_cons.mp i5).1 z hz
  rw [gstp_fold, List.nil_append] at ef
  have hb := gR_b (rev_cn h) ha
  have hlen : (gU p.reverse a).length = p.length := by rw [gU_len, List.length_reverse]
  have hk : keysI ((gU p.reverse a).map kv) = some ((gU p.reverse a).map (·.1)) := keys_kv _
  have hhas : ∀ q ∈ p, has (gU p.reverse a) q.1 = true := fun q hq => by
    have : q.1 ∈ (gU p.reverse a).map (·.1) := by rw [gU_keys]; exact List.mem_map.mpr ⟨q, List.mem_reverse.mpr hq, rfl⟩
    obtain ⟨z, hz, e⟩ := List.mem_map.mp this
    exact has_iff.mpr ⟨z, hz, e⟩
  have sk := sort_keys h a
  have cb : ∀ q ∈ p, 0 ≤ cnt (gU p.reverse a) q.1 ∧ cnt (gU p.reverse a) q.1 ≤ q.2 := fun q hq => by
    have hm : (q.1, cnt (gU p.reverse a) q.1) ∈ (gU p.reverse a).reverse := by rw [← used_eq h a]; exact List.mem_map.mpr ⟨q, hq, rfl⟩
    obtain ⟨z, hz, e, h0, h1⟩ := gU_mem (rev_cn h) ha _ (List.mem_reverse.mp hm)
    have hz' := List.mem_reverse.mp hz
    have e3 := cnt_mem (up_ne h.up) z hz'
    have e4 := cnt_mem (up_ne h.up) q hq
    dsimp only at e h0 h1
    rw [e, e4] at e3
    omega
  have pe := congrArg (List.map encL) (pay_eq h a)
  have le := congrArg (List.map encL) (left_eq h ha)
  rw [List.map_map] at pe le
  have hlp : (p.map (·.1)).length ≤ LIM := by rw [List.length_map]; exact hlim
  generalize hG : gU p.reverse a = G at *
  have hGl : G.length < 1000 := by omega
  let st2 : Sl → Sl → En := fun x5 x6 => [.dat (enc p), .dat (.int (gR p.reverse a)), (.ow (.d (p.map kv))), (.ow (.d (G.map kv))), .un, x5, x6, .un, .un]
  have e2 : lc_k20__law_one_2 (st2 .un .un) = .ok (.list ((payP p a).map encL)) (st2 .un .un) := by
    unfold lc_k20__law_one_2
    rw [← pe]
    refine lc_if p (fun q => .int q.1) (fun q => decide (0 < cnt G q.1)) _ ?_ ?_ (fun q hq => ?_) hlim
    · have : (p.map fun q => PyData.int q.1) = (sortI (G.map (·.1))).map PyData.int := by rw [sk, List.map_map]; rfl
      rw [this]
      simp! [st2, itemsOf, hk, hGl]
    · simp [st2]
    · have hh := hhas q hq
      by_cases z : 0 < cnt G q.1 <;> simp! [st2, elF, wipeE, encL, gN, val_kv, hh, z, l2]
  have e3 : ∀ x5, lc_k20__law_one_3 (st2 (.dat x5) .un) = .ok (.list ((takeP p (payP p a)).map encL)) (st2 (.dat x5) .un) := fun x5 => by
    unfold lc_k20__law_one_3
    rw [← le]
    refine lc_if p (fun q => .int q.1) (fun q => decide (cnt G q.1 < q.2)) _ ?_ ?_ (fun q hq => ?_) hlim
    · have : (p.map fun q => PyData.int q.1) = (sortI (G.map (·.1))).map PyData.int := by rw [sk, List.map_map]; rfl
      rw [this]
      simp! [st2, itemsOf, hk, hGl]
    · simp [st2]
    · have hh := hhas q hq
      have hh2 : has p q.1 = true := has_iff.mpr ⟨q, hq, rfl⟩
      have hc : cnt p q.1 = q.2 := cnt_mem (up_ne h.up) q hq
      by_cases z : cnt G q.1 < q.2 <;> simp! [st2, elF, wipeE, encL, gN, val_kv, hh, hh2, hc, z, l2]
  simp only [st, st2, List.map_nil] at ef e2 e3
  have ep : ∀ l : Pile, enc l = .tuple (l.map encL) := fun l => rfl
  rw [ep (payP p a), ep (takeP p (payP p a))]
  generalize (payP p a).map encL = PP at *
  generalize (takeP p (payP p a)).map encL = LL at *
  generalize enc p = P at *
  simp! [s_k20__law_one, m_k20__law_one, gN, e0, ed, ef, e2, e3, l3]
end
end Lw
namespace Lw
open PySem L2 Bt
theorem row_turn {p : Pile} {a : Int} (h : Gd p) (hl : p.length < 900) (ha : 0 ≤ a) (ha2 : a ≤ 10 ^ 20) (L : D) (acc : List D) (hacc : acc.length < LIM) : lp_k20__law_row_1 [.dat (enc p), .dat L, (.ow (.l acc)), .dat (.int a), .un, .un] = .ok (if gR p.reverse a = 0 then .nx else .rt (.dat (.tuple [.none, .int (gR p.reverse a)]))) [.dat (enc (takeP p (payP p a))), .dat L, (.ow (.l (acc ++ [enc (payP p a)]))), .dat (.int a), .dat (enc (payP p a)), .dat (.int (gR p.reverse a))] := by
  have e := one20 h hl ha ha2
  have l2 : (2 : Nat) ≤ LIM := by decide
  have hb := gR_b (rev_cn h) ha
  generalize enc (takeP p (payP p a)) = Q at *
  generalize enc (payP p a) = O at *
  generalize enc p = P at *
  by_cases c : gR p.reverse a = 0
  · rw [if_pos c, c]
    rw [c] at e
    simp! [lp_k20__law_row_1, gN, gTupM, gConsM, gNilM, e, hacc, l2]
  · rw [if_neg c]
    have hp : 0 < gR p.reverse a := by omega
    simp! [lp_k20__law_row_1, gN, gTupM, gConsM, gNilM, e, hacc, hp, l2]
theorem row_go (L : D) : ∀ (as : List Int) (p : Pile) (acc : List D), Gd p → p.length < 900 → (∀ a ∈ as, 0 ≤ a ∧ a ≤ 10 ^ 20) → acc.length + as.length ≤ 5000 →
    (rowR p as = none → forGo [3, 4, 5] (gN 3) lp_k20__law_row_1 (as.map .int) [.dat (enc p), .dat L, (.ow (.l acc)), .un, .un, .un] = .ok .nx [.dat (enc (leftP p as)), .dat L, (.ow (.l (acc ++ (paidP p as).map enc))), .un, .un, .un]) ∧
    ∀ r, rowR p as = some r → ∃ E', forGo [3, 4, 5] (gN 3) lp_k20__law_row_1 (as.map .int) [.dat (enc p), .dat L, (.ow (.l acc)), .un, .un, .un] = .ok (.rt (.dat (.tuple [.none, .int r]))) E' ∧ ∃ x rest, E' = x :: .dat L :: rest
  | [], p, acc, h, hl, hp, hn => ⟨fun _ => by simp [forGo, paidP, leftP], fun r hr => by cases hr⟩
  | a :: as, p, acc, h, hl, hp, hn => by
    obtain ⟨c1, c2⟩ := hp a List.mem_cons_self
    rw [List.length_cons] at hn
    have la : acc.length < LIM := Nat.lt_of_lt_of_le (by omega : acc.length < 5001) (by decide)
    have e := row_turn h hl c1 c2 L acc la
    have gl : (takeP p (payP p a)).length < 900 := Nat.lt_of_le_of_lt takeP_len hl
    have ih := row_go L as (takeP p (payP p a)) (acc ++ [enc (payP p a)]) (left_gd h c1) gl (fun x hx => hp x (List.mem_cons_of_mem _ hx)) (by rw [List.length_append, List.length_singleton]; omega)
    rw [rowR, List.map_cons]
    unfold forGo
    rw [show gN 3 (.int a) [.dat (enc p), .dat L, (.ow (.l acc)), .un, .un, .un] = some [.dat (enc p), .dat L, (.ow (.l acc)), .dat (.int a), .un, .un] from rfl]
    dsimp only
    rw [e]
    by_cases c : gR p.reverse a = 0
    · rw [if_pos c, if_pos c]
      dsimp only
      rw [show wipeE [.dat (enc (takeP p (payP p a))), .dat L, (.ow (.l (acc ++ [enc (payP p a)]))), .dat (.int a), .dat (enc (payP p a)), .dat (.int (gR p.reverse a))] [3, 4, 5] = [.dat (enc (takeP p (payP p a))), .dat L, (.ow (.l (acc ++ [enc (payP p a)]))), .un, .un, .un] from rfl]
      refine ⟨fun hr => ?_, ih.2⟩
      rw [ih.1 hr, paidP, leftP]
      simp
    · rw [if_neg c, if_neg c]
      refine ⟨(fun z => by cases z), fun r hr => ?_⟩
      cases hr
      exact ⟨_, rfl, _, _, rfl⟩
def rowD20 (p : Pile) (as : List Int) : D := match rowR p as with
  | none => .tuple [.tuple [.list ((paidP p as).map enc), enc (leftP p as)], .int 0]
  | some r => .tuple [.none, .int r]
theorem row20 {p : Pile} (h : Gd p) (hl : p.length < 900) {as : List Int} (hp : ∀ a ∈ as, 0 ≤ a ∧ a ≤ 10 ^ 20) (hn : as.length ≤ 5000) : s_k20__law_row [.dat (enc p), .dat (.list (as.map .int))] = .ok (.dat (rowD20 p as)) [.dat (enc p), .dat (.list (as.map .int))] := by
  have l2 : (2 : Nat) ≤ LIM := by decide
  obtain ⟨k1, k2⟩ := row_go (.list (as.map .int)) as p [] h hl hp (by simpa using hn)
  have fr : ∀ f E', forGo [3, 4, 5] (gN 3) lp_k20__law_row_1 (as.map .int) [.dat (enc p), .dat (.list (as.map .int)), (.ow (.l [])), .un, .un, .un] = .ok f E' → fr_k20__law_row_1 [.dat (enc p), .dat (.list (as.map .int)), (.ow (.l [])), .un, .un, .un] = .ok f E' := fun f E' h => by
    unfold fr_k20__law_row_1 mFor bnd
    rw [show mIt (mV 1) [.dat (enc p), .dat (.list (as.map .int)), (.ow (.l [])), .un, .un, .un] = .ok (as.map .int) [.dat (enc p), .dat (.list (as.map .int)), (.ow (.l [])), .un, .un, .un] by simp! [itemsOf]]
    exact h
  unfold rowD20
  cases e : rowR p as with
  | none =>
    have k := fr _ _ (k1 e)
    rw [List.nil_append] at k
    generalize (paidP p as).map enc = PD at *
    generalize enc (leftP p as) = Q at *
    generalize as.map PyData.int = AS at *
    generalize enc p = P at *
    simp! [s_k20__law_row, m_k20__law_row, gN, k, l2]
  | some r =>
    obtain ⟨E', k, x, rest, rfl⟩ := k2 r e
    have k := fr _ _ k
    generalize as.map PyData.int = AS at *
    generalize enc p = P at *
    simp! [s_k20__law_row, m_k20__law_row, gN, k, l2]
def kinds20 : List Str := [Str.ofString "pile", Str.ofString "number", Str.ofString "rest", Str.ofString "coins", Str.ofString "served"]
theorem kinds20_ok : ∀ x ∈ kinds20, PyData.strOk x = true := by decide +kernel
theorem told20 (E : D) (k : Str) (hk : PyData.strOk k = true) (S : Sl) : lc_k20__law_only_1 [.dat E, .dat (.str k), S, .un] = .ok (.list (kinds20.map fun x => .bool (decide (k = x)))) [.dat E, .dat (.str k), S, .un] := by
  unfold lc_k20__law_only_1
  have l5 : 5 ≤ LIM := by decide
  exact lc_map kinds20 .str (fun x => .bool (decide (k = x))) (by simp! [kinds20, itemsOf, l5]) (by simp) (fun x hx => by
    have e := eqS hk (kinds20_ok x hx)
    simp! [elF, wipeE, gN, e]) (by decide)
theorem only20_pile : s_k20__law_only [.dat (.dict ((.int 1, .none) :: [])), .dat (.str (Str.ofString "pile"))] = .ok (.dat (.bool true)) [.dat (.dict ((.int 1, .none) :: [])), .dat (.str (Str.ofString "pile"))] := by
  have e (S : Sl) := told20 (.dict ((.int 1, .none) :: [])) (Str.ofString "pile") (by decide +kernel) S
  have ek : (kinds20.map fun x => PyData.bool (decide (Str.ofString "pile" = x))) = [.bool true, .bool false, .bool false, .bool false, .bool false] := by
    have : kinds20.map (fun x => decide (Str.ofString "pile" = x)) = [true, false, false, false, false] := by decide +kernel
    have h2 := congrArg (List.map PyData.bool) this
    rw [List.map_map] at h2
    exact h2
  rw [ek] at e
  have l3 : 3 ≤ LIM := by decide
  have l2 : 2 ≤ LIM := by decide
  have l5 : 5 ≤ LIM := by decide
  have eq : eqD (.list [.bool true, .bool false, .bool false, .bool false, .bool false]) (.list [.bool true, .bool false, .bool false, .bool false, .bool false]) = some (.bool true) := by rfl
  simp! [s_k20__law_only, m_k20__law_only, gN, e, eq, l2, l3, l5, isSub, Bt.a_mAndV]
theorem only20_number : s_k20__law_only [.dat (.dict ((.int 4, .none) :: [])), .dat (.str (Str.ofString "number"))] = .ok (.dat (.bool true)) [.dat (.dict ((.int 4, .none) :: [])), .dat (.str (Str.ofString "number"))] := by
  have e (S : Sl) := told20 (.dict ((.int 4, .none) :: [])) (Str.ofString "number") (by decide +kernel) S
  have ek : (kinds20.map fun x => PyData.bool (decide (Str.ofString "number" = x))) = [.bool false, .bool true, .bool false, .bool false, .bool false] := by
    have : kinds20.map (fun x => decide (Str.ofString "number" = x)) = [false, true, false, false, false] := by decide +kernel
    have h2 := congrArg (List.map PyData.bool) this
    rw [List.map_map] at h2
    exact h2
  rw [ek] at e
  have l3 : 3 ≤ LIM := by decide
  have l2 : 2 ≤ LIM := by decide
  have l5 : 5 ≤ LIM := by decide
  have eq : eqD (.list [.bool false, .bool true, .bool false, .bool false, .bool false]) (.list [.bool false, .bool true, .bool false, .bool false, .bool false]) = some (.bool true) := by rfl
  simp! [s_k20__law_only, m_k20__law_only, gN, e, eq, l2, l3, l5, isSub, Bt.a_mAndV]
theorem only20_rest (r : Int) : s_k20__law_only [.dat (.dict ((.int 14, .none) :: [(.none, .int r)])), .dat (.str (Str.ofString "rest"))] = .ok (.dat (.bool true)) [.dat (.dict ((.int 14, .none) :: [(.none, .int r)])), .dat (.str (Str.ofString "rest"))] := by
  have e (S : Sl) := told20 (.dict ((.int 14, .none) :: [(.none, .int r)])) (Str.ofString "rest") (by decide +kernel) S
  have ek : (kinds20.map fun x => PyData.bool (decide (Str.ofString "rest" = x))) = [.bool false, .bool false, .bool true, .bool false, .bool false] := by
    have : kinds20.map (fun x => decide (Str.ofString "rest" = x)) = [false, false, true, false, false] := by decide +kernel
    have h2 := congrArg (List.map PyData.bool) this
    rw [List.map_map] at h2
    exact h2
  rw [ek] at e
  have l3 : 3 ≤ LIM := by decide
  have l2 : 2 ≤ LIM := by decide
  have l5 : 5 ≤ LIM := by decide
  have eq : eqD (.list [.bool false, .bool false, .bool true, .bool false, .bool false]) (.list [.bool false, .bool false, .bool true, .bool false, .bool false]) = some (.bool true) := by rfl
  simp! [s_k20__law_only, m_k20__law_only, gN, e, eq, l2, l3, l5, isSub, Bt.a_mAndV]
theorem told_ok20 {d due : D} (h : eqD d due = some (.bool true)) : s_k20__law_told [.dat d, .dat .none, .dat due, .dat (.int 0)] = .ok (.dat (.bool true)) [.dat d, .dat .none, .dat due, .dat (.int 0)] := by
  simp! [s_k20__law_told, m_k20__law_told, Bt.a_mAndV, eqD_int, isD, h]
theorem told_no20 {due : D} {r : Int} (h : r ≠ 0) : s_k20__law_told [.dat .none, .dat (xOf (xP r)), .dat due, .dat (.int r)] = .ok (.dat (.bool true)) [.dat .none, .dat (xOf (xP r)), .dat due, .dat (.int r)] := by
  have e := only20_rest r
  have ex : xOf (xP r) = .dict ((.int 14, .none) :: [(.none, .int r)]) := rfl
  rw [ex]
  simp! [s_k20__law_told, m_k20__law_told, Bt.a_mAndV, Bt.a_mNotV, Bt.a_mFld, Bt.a_mIsi, eqD_int, isD, h, e, tyIs]
end Lw
namespace Lw
open PySem L2 Bt
structure PStr (p : Pile) : Prop where
  gd : Gd p
  l : p.length ≤ 80
theorem smd_pile {p : Pile} (h : PStr p) : Smd 9000 (enc p) := by
  have hq : ∀ q ∈ p, Smd 105 (encL q) := fun q hq => by
    have w1 := h.gd.w1 q hq
    have w2 := h.gd.w2 q hq
    have m1 := h.gd.m1 q hq
    have m2 := h.gd.m2 q hq
    have T : (10 : Nat) ^ 15 = 1000000000000000 := by decide
    have := smd_tup (l := [(51, PyData.int q.1), (51, .int q.2)]) (by
      intro z hz
      simp only [List.mem_cons, List.not_mem_nil, or_false] at hz
      rcases hz with rfl | rfl
      · exact smd_intA _ (by omega)
      · exact smd_intA _ (by omega)) (w := 105) (by simp)
    exact this
  have := smd_tup (l := p.map fun q => (105, encL q)) (fun z hz => by
    obtain ⟨q, hq', rfl⟩ := List.mem_map.mp hz
    exact hq q hq') (w := 9000) (by
      have e : ((p.map fun q => (105, encL q)).map (·.1)).sum = p.length * 105 := by
        rw [List.map_map]
        clear hq h
        induction p with
        | nil => rfl
        | cons q p ih => simp only [List.map_cons, List.sum_cons, ih, List.length_cons, Nat.succ_mul, Function.comp_apply]; omega
      rw [e]
      have := h.l
      omega)
  rw [List.map_map] at this
  exact this
end Lw
namespace Lw
open PySem L2 Bt
theorem smd_list20 {w : Nat} {ds : List D} (h : ∀ d ∈ ds, Smd w d) {v : Nat} (hv : ds.length * w + 1 ≤ v) : Smd v (.list ds) := by
  have key : ∀ ds : List D, (∀ d ∈ ds, Smd w d) → PyData.weightAll ds ≤ ds.length * w ∧ PyData.intsShortAll 20 ds = true ∧ PyData.showableAll ds = true := by
    intro ds
    induction ds with
    | nil => intro _; exact ⟨Nat.zero_le _, rfl, rfl⟩
    | cons d ds ih =>
      intro h
      have h1 := h d List.mem_cons_self
      obtain ⟨a, b, c⟩ := ih fun x hx => h x (List.mem_cons_of_mem _ hx)
      refine ⟨?_, ?_, ?_⟩
      · simp only [PyData.weightAll, List.length_cons, Nat.succ_mul]; have := h1.wt; omega
      · simp only [PyData.intsShortAll, h1.sh, b, Bool.and_true]
      · simp only [PyData.showableAll, h1.so, c, Bool.and_true]
  obtain ⟨a, b, c⟩ := key ds h
  exact ⟨by simp only [PyData.weight]; omega, by simpa only [PyData.intsShort] using b, by simpa only [PyData.showable] using c⟩
theorem shp_L (as : List Int) : Shp 2 (.list (as.map .int)) := shp_list fun d hd => by
  obtain ⟨i, _, rfl⟩ := List.mem_map.mp hd
  exact shp_int i
theorem str20 {p : Pile} {as : List Int} (hp : PStr p) (ha : ∀ a ∈ as, 0 ≤ a ∧ a ≤ 10 ^ 14) (hn : as.length ≤ 100) : ∃ z, strF [.list [enc p, .list (as.map .int)]] = some (.str z) := by
  have hs := shp_L as
  have hs2 := shp_enc p
  have hm2 := smd_pile hp
  have hm : Smd 5200 (.list (as.map .int)) := smd_list20 (w := 51) (fun d hd => by
    obtain ⟨i, hi, rfl⟩ := List.mem_map.mp hd
    have := ha i hi
    have T : (10 : Nat) ^ 15 = 1000000000000000 := by decide
    exact smd_intA _ (by omega)) (by rw [List.length_map]; omega)
  have ok : StrOk (.list [enc p, .list (as.map .int)]) := by
    refine smd_strOk (w := 20000) ?_ ?_ ?_ (by omega)
    · simp [PyData.canLay0, PyData.canLayAll0, hs2.lay]
      have := hs.lay
      simpa only [PyData.canLay0] using this
    · have h1 := hs.dep
      have h2 := hs2.dep
      have e : PyData.depth (.list [enc p, .list (as.map .int)]) ≤ 40 := by
        rw [show PyData.depth (.list [enc p, .list (as.map .int)]) = max (PyData.depth (enc p)) (max (PyData.depth (.list (as.map .int))) 0) + 1 by simp only [PyData.depth, PyData.depthAll]]
        omega
      exact e
    · exact smd_list20 (w := 9000) (fun d hd => by
        simp only [List.mem_cons, List.not_mem_nil, or_false] at hd
        rcases hd with rfl | rfl
        · exact hm2
        · exact hm.up (by omega)) (by simp)
  exact ⟨_, if_pos (@decide_eq_true _ (Classical.propDecidable _) ok)⟩
structure T20 (p : Pile) (as : List Int) : Prop where
  gp : PStr p
  am : ∀ a ∈ as, 0 ≤ a ∧ a ≤ 10 ^ 14
  n : as.length ≤ 100
theorem good_turn20 {p : Pile} (h : PStr p) {a : Int} (ha : 0 ≤ a) (ha2 : a ≤ 10 ^ 14) (L S : D) : ∃ s5 s6 s7 s8 s9, lp_k20__law_good_1 [.dat (enc p), .dat L, .dat S, .dat (.int a), .un, .un, .un, .un, .un, .un] = .ok .nx [.dat (enc p), .dat L, .dat S, .dat (.int a), .un, .dat s5, .dat s6, .dat s7, .dat s8, .dat s9] := by
  have hl := h.l
  have e := one20 h.gd (by omega) ha (by omega)
  have ep := pay_x h.gd ha (by omega : a ≤ 10 ^ 20)
  have l2 : (2 : Nat) ≤ LIM := by decide
  have l3 : (3 : Nat) ≤ LIM := by decide
  have sh := shp_enc (payP p a)
  by_cases c : gR p.reverse a = 0
  · rw [if_pos c] at ep
    rw [c] at e
    have ea := asked0 ep
    have eq := eqD_self sh (by omega)
    have en := neD_self sh (by omega)
    have et := told_ok20 eq
    generalize enc (takeP p (payP p a)) = Q at *
    generalize enc (payP p a) = O at *
    generalize enc p = P at *
    refine ⟨.int 0, O, .none, O, Q, ?_⟩
    simp! [lp_k20__law_good_1, gN, gTupM, gConsM, gNilM, eqD_int, e, ep, ea, en, et, l2, l3]
  · rw [if_neg c] at ep
    have ea := asked0x ep rfl
    have et := told_no20 (due := enc (payP p a)) c
    generalize xOf (xP (gR p.reverse a)) = XX at *
    generalize enc (takeP p (payP p a)) = Q at *
    generalize enc (payP p a) = O at *
    generalize enc p = P at *
    refine ⟨.int (gR p.reverse a), .none, XX, O, Q, ?_⟩
    simp! [lp_k20__law_good_1, gN, gTupM, gConsM, gNilM, eqD_int, e, ep, ea, et, c, l2, l3]
theorem good_loop20 {p : Pile} {as : List Int} (h : T20 p as) (S : D) : fr_k20__law_good_1 [.dat (enc p), .dat (.list (as.map .int)), .dat S, .un, .un, .un, .un, .un, .un, .un] = .ok .nx [.dat (enc p), .dat (.list (as.map .int)), .dat S, .un, .un, .un, .un, .un, .un, .un] := by
  obtain ⟨E', ⟨rfl, _⟩, hf⟩ := for_inv (ws := [3, 5, 6, 7, 8, 9]) (mi := mIt (mV 1)) (g := gN 3) (mb := lp_k20__law_good_1) (E0 := [.dat (enc p), .dat (.list (as.map .int)), .dat S, .un, .un, .un, .un, .un, .un, .un]) (E := [.dat (enc p), .dat (.list (as.map .int)), .dat S, .un, .un, .un, .un, .un, .un, .un]) (its := as.map .int) (fun ds E => E = [.dat (enc p), .dat (.list (as.map .int)), .dat S, .un, .un, .un, .un, .un, .un, .un] ∧ ∀ d ∈ ds, ∃ a : Int, d = .int a ∧ 0 ≤ a ∧ a ≤ 10 ^ 14) (by simp! [itemsOf]) ⟨rfl, fun d hd => by
    obtain ⟨a, ha, rfl⟩ := List.mem_map.mp hd
    exact ⟨a, rfl, h.am a ha⟩⟩ (fun d ds E hE => by
    obtain ⟨rfl, hd⟩ := hE
    obtain ⟨a, rfl, a0, a1⟩ := hd d List.mem_cons_self
    obtain ⟨s5, s6, s7, s8, s9, e⟩ := good_turn20 h.gp a0 a1 (.list (as.map .int)) S
    exact ⟨_, _, rfl, .inl e, rfl, fun d h' => hd d (List.mem_cons_of_mem _ h')⟩)
  exact hf
theorem row_pos : ∀ {p : Pile} {as : List Int} {r : Int}, Gd p → (∀ a ∈ as, 0 ≤ a) → rowR p as = some r → r ≠ 0
  | p, [], r, _, _, e => by cases e
  | p, a :: as, r, h, ha, e => by
    rw [rowR] at e
    split at e
    · exact row_pos (left_gd h (ha a List.mem_cons_self)) (fun x hx => ha x (List.mem_cons_of_mem _ hx)) e
    · rename_i c
      cases e
      exact c
theorem good20 {p : Pile} {as : List Int} (h : T20 p as) : s_k20__law_good [.dat (enc p), .dat (.list (as.map .int))] = .ok (.dat (.bool true)) [.dat (enc p), .dat (.list (as.map .int))] := by
  have hl := h.gp.l
  have hp : ∀ a ∈ as, 0 ≤ a ∧ a ≤ 10 ^ 20 := fun a ha => by have := h.am a ha; omega
  have hn := h.n
  obtain ⟨z, es⟩ := str20 h.gp h.am h.n
  have e1 := good_loop20 h (.str z)
  have e2 := row20 h.gp.gd (by omega) hp (by omega)
  have e3 := paid_x h.gp.gd (by omega) hp (by omega)
  have e4 := paidX_x h.gp.gd (by omega) hp (by omega)
  have l2 : (2 : Nat) ≤ LIM := by decide
  unfold rowD20 at e2
  cases er : rowR p as with
  | none =>
    rw [er] at e2 e3 e4
    dsimp only at e2 e3 e4
    have ea := askedX e4
    have sh : Shp 10 (.tuple [.list ((paidP p as).map enc), enc (leftP p as)]) := shp_tup (n := 9) fun d hd => by
      simp only [List.mem_cons, List.not_mem_nil, or_false] at hd
      rcases hd with rfl | rfl
      · exact (shp_list (n := 8) fun d hd => by
          obtain ⟨q, _, rfl⟩ := List.mem_map.mp hd
          exact (shp_enc q).up (by omega))
      · exact (shp_enc _).up (by omega)
    have eq := eqD_self sh (by omega)
    have et := told_ok20 eq
    have hlen : ((paidP p as).map enc).length < LIM := by
      have k : ∀ (as : List Int) (p : Pile), (paidP p as).length = as.length := fun as => by
        induction as with
        | nil => intro p; rfl
        | cons a as ih => intro p; rw [paidP, List.length_cons, List.length_cons, ih]
      rw [List.length_map, k]
      exact Nat.lt_of_le_of_lt hn (by decide)
    generalize (paidP p as).map enc = PD at *
    generalize enc (leftP p as) = Q at *
    generalize as.map PyData.int = AS at *
    generalize enc p = P at *
    simp! [s_k20__law_good, m_k20__law_good, hr_k20__law_good_1, mAsk, mCallX, outTL, ySeq, yB, yS, yL, yR, yIf, yLend, yLendT, mApp0, noOw, inPs, slTL, apartA, argSl, putB, isOwn, neT, gN, gTupM, gConsM, gNilM, es, e1, e2, e3, ea, eq, et, hlen, l2]
  | some r =>
    rw [er] at e2 e3 e4
    dsimp only at e2 e3 e4
    have ea := askedXx e4 rfl
    have et := told_no20 (due := .none) (row_pos h.gp.gd (fun a ha => (h.am a ha).1) er)
    generalize xOf (xP r) = XX at *
    generalize as.map PyData.int = AS at *
    generalize enc p = P at *
    simp! [s_k20__law_good, m_k20__law_good, hr_k20__law_good_1, mAsk, mCallX, outTL, ySeq, yB, yS, yL, yR, yIf, yLend, yLendT, mApp0, noOw, inPs, slTL, apartA, argSl, putB, isOwn, neT, gN, gTupM, gConsM, gNilM, es, e1, e2, e3, ea, et, l2]
end Lw
namespace Lw
open PySem L2 Bt
theorem pay_bad20 {p : Pile} (h : Gd p) {d : D} (hx : notX d = true) (hf : isFl 0 d = false) : s_pay [.dat (enc p), .dat d] = .ex ⟨4, none⟩ [.dat (enc p), .dat d] := by
  have e1 := look_pile h
  have e2 := look_num_bad 0 d hx hf
  generalize enc p = P at *
  simp! [s_pay, m_pay, e1, e2]
theorem paid_bad20 {p : Pile} (h : Gd p) {ds : List D} (hx : ∀ d ∈ ds, notX d = true) (hf : ∃ d ∈ ds, isFl 0 d = false) (hn : ds.length ≤ 100) : s_paid [.dat (enc p), .dat (.list ds)] = .ex ⟨4, none⟩ [.dat (enc p), .dat (.list ds)] := by
  have e1 := look_pile h
  have e2 : lc_paid_1 [.dat (enc p), .dat (.list ds), .un, .un, .un] = .ok (.list (ds.map fun d => .bool (isFl 0 d))) [.dat (enc p), .dat (.list ds), .un, .un, .un] := by
    unfold lc_paid_1
    exact lc_map ds id _ (by simp! [itemsOf]) (by simp) (fun d hd => by
      have := is_from_gen 0 d (hx d hd)
      simp! [elF, wipeE, gN, this]) (Nat.le_trans hn (by decide))
  have e3 : allF [.list (ds.map fun d => .bool (isFl 0 d))] = some (.bool false) := by
    rw [allF_map]
    congr 2
    rw [List.all_eq_false]
    obtain ⟨d, hd, e⟩ := hf
    exact ⟨d, hd, by rw [e]; exact Bool.false_ne_true⟩
  generalize (ds.map fun d => PyData.bool (isFl 0 d)) = B at *
  generalize enc p = P at *
  simp! [s_paid, m_paid, gN, Bt.a_mIsi, tyIs, e1, e2, e3]
theorem paid_odd20 {p : Pile} (h : Gd p) {d : D} (hd : d = .none ∨ d = .int 3 ∨ d = .str (Str.ofString "") ∨ d = .tuple [] ∨ d = .tuple [.int 1, .int 2]) : s_paid [.dat (enc p), .dat d] = .ex ⟨4, none⟩ [.dat (enc p), .dat d] := by
  have e1 := look_pile h
  generalize enc p = P at *
  rcases hd with rfl | rfl | rfl | rfl | rfl <;> simp! [s_paid, m_paid, gN, Bt.a_mIsi, tyIs, e1]
theorem pile_bad20 {d x : D} (h : s_look_at_pile [.dat d] = .ex ⟨1, none⟩ [.dat d]) : s_pay [.dat d, .dat x] = .ex ⟨1, none⟩ [.dat d, .dat x] ∧ s_paid [.dat d, .dat x] = .ex ⟨1, none⟩ [.dat d, .dat x] := by
  constructor
  · simp! [s_pay, m_pay, h]
  · simp! [s_paid, m_paid, h]
def odd20 : List D := [.none, .bool true, .bool false, .int (-1), .str (Str.ofString "1"), .tuple [.int 1], .list [.int 1]]
theorem odd20_ok : ∀ d ∈ odd20, notX d = true ∧ isFl 0 d = false := by
  intro d hd
  simp only [odd20, List.mem_cons, List.not_mem_nil, or_false] at hd
  rcases hd with rfl | rfl | rfl | rfl | rfl | rfl | rfl <;> exact ⟨rfl, rfl⟩
def rows20 (d : D) : List (List D) := [[.int 0, d], [d, .int 0], [.int 0, d, .int 0], [.int (10 ^ 12), d], [d, .int (10 ^ 12)], [.int (10 ^ 12), .int 0, d, .int 1]]
theorem rows20_ok {d : D} (h : notX d = true ∧ isFl 0 d = false) : ∀ ds ∈ rows20 d, (∀ x ∈ ds, notX x = true) ∧ (∃ x ∈ ds, isFl 0 x = false) ∧ ds.length ≤ 100 := by
  obtain ⟨h1, h2⟩ := h
  intro ds hds
  simp only [rows20, List.mem_cons, List.not_mem_nil, or_false] at hds
  have i (k : Int) : notX (.int k) = true := rfl
  rcases hds with rfl | rfl | rfl | rfl | rfl | rfl
  all_goals refine ⟨fun x hx => ?_, ⟨d, by simp, h2⟩, by simp⟩
  all_goals
    simp only [List.mem_cons, List.not_mem_nil, or_false] at hx
    rcases hx with rfl | rfl | rfl | rfl <;> first | assumption | rfl
section
variable {p : Pile}
theorem ref_rows20 (h : Gd p) {d : D} (hd : notX d = true ∧ isFl 0 d = false) : fr_k20__law_refused_good_1 [.dat (enc p), .dat d, .un, .un] = .ok .nx [.dat (enc p), .dat d, .un, .un] := by
  have o12 : powD (.int 10) (.int 12) = some (.int 1000000000000) := by rfl
  have l2 : (2 : Nat) ≤ LIM := by decide
  have l3 : (3 : Nat) ≤ LIM := by decide
  have l4 : (4 : Nat) ≤ LIM := by decide
  have l6 : (6 : Nat) ≤ LIM := by decide
  unfold fr_k20__law_refused_good_1
  refine for_same (rows20 d) PyData.list ?_ fun ds hds => ?_
  · generalize enc p = P at *
    simp! [rows20, itemsOf, o12, l2, l3, l4, l6]
  · obtain ⟨h1, h2, h3⟩ := rows20_ok hd ds hds
    have e := asked1x (paid_bad20 h h1 h2 h3) rfl
    have e2 := only20_number
    generalize enc p = P at *
    refine ⟨_, [.dat P, .dat d, .dat (.list ds), .un], rfl, .inl ?_, rfl⟩
    have ex : xOf ⟨4, none⟩ = .dict ((.int 4, .none) :: []) := rfl
    rw [ex] at e
    simp! [lp_k20__law_refused_good_1, gN, e, e2, at1]
theorem ref_odd20 (h : Gd p) : fr_k20__law_refused_good_2 [.dat (enc p), .un, .un, .un] = .ok .nx [.dat (enc p), .un, .un, .un] := by
  have l1 : (1 : Nat) ≤ LIM := by decide
  have l7 : (7 : Nat) ≤ LIM := by decide
  unfold fr_k20__law_refused_good_2
  refine for_same odd20 id ?_ fun d hd => ?_
  · generalize enc p = P at *
    simp! [odd20, itemsOf, l1, l7]
  · have ho := odd20_ok d hd
    have e0 := ref_rows20 h ho
    have e := asked0x (pay_bad20 h ho.1 ho.2) rfl
    have e2 := only20_number
    generalize enc p = P at *
    refine ⟨_, [.dat P, .dat d, .un, .un], rfl, .inl ?_, rfl⟩
    have ex : xOf ⟨4, none⟩ = .dict ((.int 4, .none) :: []) := rfl
    rw [ex] at e
    simp! [lp_k20__law_refused_good_2, gN, e, e2, e0, at1]
def nol20 : List D := [.none, .int 3, .str (Str.ofString ""), .tuple [], .tuple [.int 1, .int 2]]
theorem ref_nol20 (h : Gd p) : fr_k20__law_refused_good_3 [.dat (enc p), .un, .un, .un] = .ok .nx [.dat (enc p), .un, .un, .un] := by
  have l2 : (2 : Nat) ≤ LIM := by decide
  have l5 : (5 : Nat) ≤ LIM := by decide
  unfold fr_k20__law_refused_good_3
  refine for_same nol20 id ?_ fun d hd => ?_
  · generalize enc p = P at *
    simp! [nol20, itemsOf, l2, l5]
  · simp only [nol20, List.mem_cons, List.not_mem_nil, or_false] at hd
    have e := asked1x (paid_odd20 h hd) rfl
    have e2 := only20_number
    generalize enc p = P at *
    refine ⟨_, [.dat P, .dat d, .un, .un], rfl, .inl ?_, rfl⟩
    have ex : xOf ⟨4, none⟩ = .dict ((.int 4, .none) :: []) := rfl
    rw [ex] at e
    simp! [lp_k20__law_refused_good_3, gN, e, e2, at1]
def nop20 (p : Pile) : List D := [.none, .list (p.map encL), .tuple [.tuple [.int 0, .int 1]], .tuple [.tuple [.int 1, .int 0]], .tuple [.tuple [.int 2, .int 1], .tuple [.int 1, .int 1]], .int 3, .str (Str.ofString ""), .tuple [.tuple [.int 1]]]
theorem nop20_ok (p : Pile) : ∀ d ∈ nop20 p, s_look_at_pile [.dat d] = .ex ⟨1, none⟩ [.dat d] := by
  intro d hd
  simp only [nop20, List.mem_cons, List.not_mem_nil, or_false] at hd
  have hs := shp_encs p
  have s0 : (PyData.str (Str.ofString "")).canLay0 = true := by decide +kernel
  rcases hd with rfl | rfl | rfl | rfl | rfl | rfl | rfl | rfl
  · exact look_pile_bad _ rfl (fun ds h => by cases h) rfl
  · exact look_pile_bad _ hs.lay (fun ds h => by cases h) rfl
  · exact look_pile_bad _ (by simp [PyData.canLay0, PyData.canLayAll0]) (fun ds h => by cases h; simp) (by decide)
  · exact look_pile_bad _ (by simp [PyData.canLay0, PyData.canLayAll0]) (fun ds h => by cases h; simp) (by decide)
  · exact look_pile_bad _ (by simp [PyData.canLay0, PyData.canLayAll0]) (fun ds h => by cases h; simp) (by decide)
  · exact look_pile_bad _ rfl (fun ds h => by cases h) rfl
  · exact look_pile_bad _ s0 (fun ds h => by cases h) rfl
  · exact look_pile_bad _ (by simp [PyData.canLay0, PyData.canLayAll0]) (fun ds h => by cases h; simp) (by decide)
theorem ref_nop20 (h : Gd p) : fr_k20__law_refused_good_4 [.dat (enc p), .un, .un, .un] = .ok .nx [.dat (enc p), .un, .un, .un] := by
  have l1 : (1 : Nat) ≤ LIM := by decide
  have l2 : (2 : Nat) ≤ LIM := by decide
  have l8 : (8 : Nat) ≤ LIM := by decide
  unfold fr_k20__law_refused_good_4
  refine for_same (nop20 p) id ?_ fun d hd => ?_
  · simp only [nop20]
    unfold enc
    generalize p.map encL = PL at *
    simp! [itemsOf, l1, l2, l8]
  · have hb := nop20_ok p d hd
    obtain ⟨b1, b2⟩ := pile_bad20 (x := .none) hb
    have e0 := asked0x b1 rfl
    have e1 := asked1x b2 rfl
    have e2 := only20_pile
    have ex : xOf ⟨1, none⟩ = .dict ((.int 1, .none) :: []) := rfl
    rw [ex] at e0 e1
    have el : lc_k20__law_refused_good_1 [.dat (enc p), .dat d, .un, .un] = .ok (.list [.bool true, .bool true]) [.dat (enc p), .dat d, .un, .un] := by
      unfold lc_k20__law_refused_good_1
      exact lc_map [0, 1] (fun i : Int => .int i) (fun _ => .bool true) (by simp! [itemsOf, l2]) (by simp) (fun i hi => by
        simp only [List.mem_cons, List.not_mem_nil, or_false] at hi
        rcases hi with rfl | rfl
        · simp! [elF, wipeE, gN, e0, e2, at1]
        · simp! [elF, wipeE, gN, e1, e2, at1]) (by decide)
    have en : neD (.list [.bool true, .bool true]) (.list [.bool true, .bool true]) = some (.bool false) := by rfl
    generalize enc p = P at *
    refine ⟨_, [.dat P, .dat d, .un, .un], rfl, .inl ?_, rfl⟩
    simp! [lp_k20__law_refused_good_4, gN, el, en, l2]
theorem refused20 (h : Gd p) : s_k20__law_refused_good [.dat (enc p)] = .ok (.dat (.bool true)) [.dat (enc p)] := by
  have e2 := ref_odd20 h
  have e3 := ref_nol20 h
  have e4 := ref_nop20 h
  generalize enc p = P at *
  simp! [s_k20__law_refused_good, m_k20__law_refused_good, e2, e3, e4]
end
end Lw
namespace Lw
open PySem L2 Bt
theorem em2 (n : Int) {s : Int} (h : 0 < s) : 0 ≤ n % s ∧ n % s < s := ⟨Int.emod_nonneg _ (by omega), Int.emod_lt_of_pos _ h⟩
theorem tk2 (n s : Int) (h : 0 < s) (h2 : s ≤ 10 ^ 12) : s__law_take [(.ow (.l [.int n])), .dat (.int s)] = .ok (.dat (.int (n % s))) [(.ow (.l [.int (n / s)])), .dat (.int s)] := take_ok n s h (okS (by omega) (by omega))
def lcI (lots gap often : Int) (ds : List D) (E : En) : Prop := ∃ (n c : Int) (p : Pile), E = [(.ow (.l [.int n])), .dat (.int lots), .dat (.int gap), .dat (.int often), (.ow (.l (p.map encL))), .dat (.int c), .un] ∧ (p.Pairwise fun a b => a.1 < b.1) ∧ (∀ q ∈ p, 1 ≤ q.1 ∧ q.1 ≤ c ∧ 1 ≤ q.2 ∧ q.2 ≤ often) ∧ 0 ≤ c ∧ c + (ds.length : Int) * gap ≤ lots * gap ∧ (p.length : Int) + ds.length ≤ lots
theorem lc2_turn (lots gap often : Int) (hl : lots ≤ 100) (h1 : 1 ≤ gap) (h2 : gap ≤ 10 ^ 9) (h3 : 1 ≤ often) (h4 : often ≤ 10 ^ 6) (d : D) (ds : List D) (E : En) (h : lcI lots gap often (d :: ds) E) : ∃ E1 E2, gN 6 d E = some E1 ∧ (lp__law_coins_v2_1 E1 = .ok .nx E2 ∨ lp__law_coins_v2_1 E1 = .ok .ct E2) ∧ lcI lots gap often ds (wipeE E2 [6]) := by
  obtain ⟨n, c, p, rfl, hu, hq, hc, hb, hn⟩ := h
  have t1 := tk2 n gap (by omega) (by omega)
  have t2 := tk2 (n / gap) often (by omega) (by omega)
  have b1 := em2 n (show 0 < gap by omega)
  have b2 := em2 (n / gap) (show 0 < often by omega)
  rw [List.length_cons] at hb hn
  rw [Int.natCast_add, Int.add_mul] at hb
  refine ⟨_, [(.ow (.l [.int (n / gap / often)])), .dat (.int lots), .dat (.int gap), .dat (.int often), (.ow (.l ((p ++ [(c + 1 + n % gap, 1 + n / gap % often)]).map encL))), .dat (.int (c + 1 + n % gap)), .dat d], rfl, .inl ?_, _, _, _, rfl, ?_, ?_, by omega, ?_, ?_⟩
  · simp! [lp__law_coins_v2_1, t1, t2, encL, show p.length < LIM by have : LIM = 100000 := rfl; omega]
  · refine List.pairwise_append.mpr ⟨hu, by simp, fun a ha b hb => ?_⟩
    rw [List.mem_singleton.mp hb]
    have := hq a ha
    show a.1 < c + 1 + n % gap
    omega
  · intro q h'
    rcases List.mem_append.mp h' with h' | h'
    · have := hq q h'; omega
    · rw [List.mem_singleton.mp h']
      dsimp only
      omega
  · have : (((1 : Nat) : Int)) * gap = gap := by simp
    omega
  · rw [List.length_append, List.length_singleton]; omega
theorem coins2_ok (n lots gap often : Int) (hl0 : 0 ≤ lots) (hl : lots ≤ 100) (h1 : 1 ≤ gap) (h2 : gap ≤ 10 ^ 9) (h3 : 1 ≤ often) (h4 : often ≤ 10 ^ 6) : ∃ n' p, s__law_coins_v2 [(.ow (.l [.int n])), .dat (.int lots), .dat (.int gap), .dat (.int often)] = .ok (.dat (enc p)) [(.ow (.l [.int n'])), .dat (.int lots), .dat (.int gap), .dat (.int often)] ∧ (p.Pairwise fun a b => a.1 < b.1) ∧ (∀ q ∈ p, 1 ≤ q.1 ∧ q.1 ≤ lots * gap ∧ 1 ≤ q.2 ∧ q.2 ≤ often) ∧ (p.length : Int) ≤ lots := by
  have t1 := tk2 n (lots + 1) (by omega) (by omega)
  have b1 := em2 n (show 0 < lots + 1 by omega)
  obtain ⟨E', ⟨n', c, p, rfl, hu, hq, hc, hb, hn⟩, hf⟩ := for_inv (ws := [6]) (mi := mRng1 (mCons (mD (mCall s__law_take [] (mCons (mR 0) (mCons (mD (mOp addD (mR 1) (mD (Bt.ret (.int 1))))) (Bt.ret []))))) (Bt.ret []))) (g := gN 6) (mb := lp__law_coins_v2_1) (E0 := [(.ow (.l [.int n])), .dat (.int lots), .dat (.int gap), .dat (.int often), (.ow (.l [])), .dat (.int 0), .un]) (lcI lots gap often) (its := rangeD 0 (n % (lots + 1))) (E := [(.ow (.l [.int (n / (lots + 1))])), .dat (.int lots), .dat (.int gap), .dat (.int often), (.ow (.l [])), .dat (.int 0), .un]) (by simp! [t1, rg_ok (show -1000000 ≤ n % (lots + 1) by omega) (show n % (lots + 1) ≤ 1000000 by omega)]) ⟨_, 0, [], rfl, by simp, by simp, by omega, by
      rw [rangeD_length, Int.zero_add]
      exact Int.mul_le_mul_of_nonneg_right (by omega) (by omega), by rw [rangeD_length]; simp; omega⟩ (fun d ds E h => lc2_turn lots gap often hl h1 h2 h3 h4 d ds E h)
  have e : fr__law_coins_v2_1 _ = _ := hf
  simp only [List.length_nil] at hb hn
  refine ⟨n', p, ?_, hu, fun q h => ?_, by omega⟩
  · simp! [s__law_coins_v2, m__law_coins_v2, e, enc]
  · have := hq q h
    have hb' : c ≤ lots * gap := by simpa using hb
    omega
end Lw
namespace Lw
open PySem L2 Bt
abbrev W20 (ns : List Int) (t : D) (n : Int) (k P T s6 : Sl) (s7 s8 s9 s10 s11 : Sl) : En := [.scr ns, .dat t, (.ow (.l [.int n])), k, P, T, s6, s7, s8, s9, s10, s11]
section
variable {ns : List Int} {t kk : D} {p : Pile}
theorem total20 (hl : p.length ≤ 100) (hq : ∀ q ∈ p, 1 ≤ q.1 ∧ q.1 ≤ 10 ^ 9 ∧ 1 ≤ q.2 ∧ q.2 ≤ 100) (n : Int) : lc_k20_law_1 (W20 ns t n (.dat kk) (.dat (enc p)) .un .un .un .un .un .un .un) = .ok (.list (p.map fun q => .int (q.1 * q.2))) (W20 ns t n (.dat kk) (.dat (enc p)) .un .un .un .un .un .un .un) := by
  unfold lc_k20_law_1 W20
  refine lc_map p encL _ (by simp! [enc, itemsOf]) (by simp) (fun q hq' => ?_) (Nat.le_trans hl (by decide))
  obtain ⟨a, b, c, d⟩ := hq q hq'
  have o1 : okI q.1 = true := okS (by omega) (by omega)
  have o2 : okI q.2 = true := okS (by omega) (by omega)
  simp! [elF, wipeE, encL, gTupM, gConsM, gNilM, gN, o1, o2]
theorem some20 (hl : p.length ≤ 100) (hq : ∀ q ∈ p, 1 ≤ q.1 ∧ q.1 ≤ 10 ^ 9 ∧ 1 ≤ q.2 ∧ q.2 ≤ 100) (T : D) (n : Int) : ∃ (n' : Int) (xs : List Int), lc_k20_law_2 (W20 ns t n (.dat kk) (.dat (enc p)) (.dat T) .un .un .un .un .un .un) = .ok (.list (xs.map .int)) (W20 ns t n' (.dat kk) (.dat (enc p)) (.dat T) .un .un .un .un .un .un) ∧ 0 ≤ xs.sum ∧ xs.sum ≤ S p := by
  obtain ⟨E', acc', ⟨n', xs, rest, y, z, rfl, rfl, e1, h1, h2, h3⟩, hf⟩ := lc_inv (vs := [10, 11]) (mi := mIt (mV 4)) (g := gTupM 2 (gConsM (gN 10) (gConsM (gN 11) gNilM))) (mt := Bt.ret true) (me := mOp mulD (mR 10) (mD (mCall s__law_take [] (mCons (mR 2) (mCons (mD (mOp addD (mR 11) (mD (Bt.ret (.int 1))))) (Bt.ret []))))))
    (E0 := W20 ns t n (.dat kk) (.dat (enc p)) (.dat T) .un .un .un .un .un .un) (E := W20 ns t n (.dat kk) (.dat (enc p)) (.dat T) .un .un .un .un .un .un) (its := p.map encL) (fun ds E acc => ∃ (n' : Int) (xs : List Int) (rest : Pile) (y z : Sl), E = W20 ns t n' (.dat kk) (.dat (enc p)) (.dat T) .un .un .un .un y z ∧ acc = xs.map .int ∧ ds = rest.map encL ∧ (∀ q ∈ rest, q ∈ p) ∧ 0 ≤ xs.sum ∧ xs.sum + S rest ≤ S p)
    (by unfold W20; simp! [enc, itemsOf]) ⟨n, [], p, .un, .un, rfl, rfl, rfl, fun q h => h, by simp, by simp⟩ (by rw [List.length_map]; exact Nat.le_trans hl (by decide)) (fun d ds E acc h => by
      obtain ⟨n', xs, rest, y, z, rfl, rfl, e1, h1, h2, h3⟩ := h
      cases rest with
      | nil => cases e1
      | cons q rest =>
        rw [List.map_cons] at e1
        injection e1 with e2 e3
        subst e2 e3
        obtain ⟨a, b, c, d⟩ := hq q (h1 q List.mem_cons_self)
        have tk := tk2 n' (q.2 + 1) (by omega) (by omega)
        have bd := em2 n' (show 0 < q.2 + 1 by omega)
        have o1 : okI q.1 = true := okS (by omega) (by omega)
        have o2 : okI (n' % (q.2 + 1)) = true := okS (by omega) (by omega)
        have hm : 0 ≤ q.1 * (n' % (q.2 + 1)) ∧ q.1 * (n' % (q.2 + 1)) ≤ q.1 * q.2 := ⟨Int.mul_nonneg (by omega) (by omega), Int.mul_le_mul_of_nonneg_left (by omega) (by omega)⟩
        have eS : S (q :: rest) = q.1 * q.2 + S rest := by simp [S]
        refine ⟨W20 ns t n' (.dat kk) (.dat (enc p)) (.dat T) .un .un .un .un (.dat (.int q.1)) (.dat (.int q.2)), by simp [W20, wipeE, encL, gTupM, gConsM, gNilM, gN], .inl ⟨_, .int (q.1 * (n' % (q.2 + 1))), W20 ns t (n' / (q.2 + 1)) (.dat kk) (.dat (enc p)) (.dat T) .un .un .un .un (.dat (.int q.1)) (.dat (.int q.2)), rfl, ?_, n' / (q.2 + 1), xs ++ [q.1 * (n' % (q.2 + 1))], rest, _, _, rfl, by simp, rfl, fun x hx => h1 x (List.mem_cons_of_mem _ hx), ?_, ?_⟩⟩
        · generalize enc p = P at *
          unfold W20
          simp! [tk, o1, o2]
        · rw [List.sum_append]; simp; omega
        · rw [List.sum_append]; simp; omega)
  refine ⟨n', xs, ?_, h2, ?_⟩
  · have hf : lc_k20_law_2 _ = _ := hf
    rw [hf]
    simp [W20, backE]
  · cases rest with
    | nil => simpa [S] using h3
    | cons q rest => cases e1
theorem small20 (P T s6 s7 : D) {T0 : Int} (h0 : 0 ≤ T0) (h1 : T0 ≤ 10 ^ 12) (n : Int) : ∃ (n' : Int) (xs : List Int), lc_k20_law_3 (W20 ns t n (.dat kk) (.dat P) (.dat (.int T0)) (.dat s6) (.dat s7) .un .un .un .un) = .ok (.list (xs.map .int)) (W20 ns t n' (.dat kk) (.dat P) (.dat (.int T0)) (.dat s6) (.dat s7) .un .un .un .un) ∧ xs.length ≤ 100 ∧ ∀ x ∈ xs, 0 ≤ x ∧ x ≤ 10 ^ 14 := by
  have t8 := tk2 n 8 (by omega) (by omega)
  have b8 := em2 n (show (0 : Int) < 8 by omega)
  have q4 : 0 ≤ T0 / 4 ∧ T0 / 4 ≤ 10 ^ 12 := by omega
  have om : okI T0 = true := okS (by omega) (by omega)
  obtain ⟨E', acc', ⟨n', xs, y, rfl, rfl, h2, h3⟩, hf⟩ := lc_inv (vs := [9]) (mi := mRng1 (mCons (mD (mOp addD (mD (Bt.ret (.int 1))) (mD (mCall s__law_take [] (mCons (mR 2) (mCons (mD (Bt.ret (.int 8))) (Bt.ret []))))))) (Bt.ret []))) (g := gN 9) (mt := Bt.ret true) (me := mCall s__law_take [] (mCons (mR 2) (mCons (mD (mB maxF (mCons (mD (Bt.ret (.int 2))) (mCons (mD (mOp fdivD (mR 5) (mD (Bt.ret (.int 4))))) (Bt.ret []))))) (Bt.ret []))))
    (E0 := W20 ns t n (.dat kk) (.dat P) (.dat (.int T0)) (.dat s6) (.dat s7) .un .un .un .un) (E := W20 ns t (n / 8) (.dat kk) (.dat P) (.dat (.int T0)) (.dat s6) (.dat s7) .un .un .un .un) (its := rangeD 0 (1 + n % 8)) (fun ds E acc => ∃ (n' : Int) (xs : List Int) (y : Sl), E = W20 ns t n' (.dat kk) (.dat P) (.dat (.int T0)) (.dat s6) (.dat s7) .un y .un .un ∧ acc = xs.map .int ∧ xs.length + ds.length ≤ 8 ∧ ∀ x ∈ xs, 0 ≤ x ∧ x ≤ 10 ^ 14)
    (by unfold W20; simp! [t8, rg_ok (show -1000000 ≤ 1 + n % 8 by omega) (show 1 + n % 8 ≤ 1000000 by omega)]) ⟨n / 8, [], .un, rfl, rfl, by rw [rangeD_length]; simp; omega, by simp⟩ (by rw [rangeD_length]; exact Nat.le_trans (by omega : _ ≤ 8) (by decide)) (fun d ds E acc h => by
      obtain ⟨n', xs, y, rfl, rfl, h2, h3⟩ := h
      have tk := tk2 n' (max 2 (T0 / 4)) (by omega) (by omega)
      have bd := em2 n' (show 0 < max 2 (T0 / 4) by omega)
      rw [List.length_cons] at h2
      refine ⟨W20 ns t n' (.dat kk) (.dat P) (.dat (.int T0)) (.dat s6) (.dat s7) .un (.dat d) .un .un, by simp [W20, wipeE, gN], .inl ⟨_, .int (n' % max 2 (T0 / 4)), W20 ns t (n' / max 2 (T0 / 4)) (.dat kk) (.dat P) (.dat (.int T0)) (.dat s6) (.dat s7) .un (.dat d) .un .un, rfl, ?_, _, xs ++ [n' % max 2 (T0 / 4)], _, rfl, by simp, by rw [List.length_append, List.length_singleton]; omega, fun x hx => ?_⟩⟩
      · unfold W20
        simp! [om, show okI 4 = true from okS (by omega) (by omega), tk]
      · rcases List.mem_append.mp hx with hx | hx
        · exact h3 x hx
        · rw [List.mem_singleton.mp hx]; omega)
  refine ⟨n', xs, ?_, by simp at h2; omega, h3⟩
  have hf : lc_k20_law_3 _ = _ := hf
  rw [hf]
  simp [W20, backE]
end
end Lw
namespace Lw
open PySem L2 Bt
theorem at3_20 {a b c : Int} {n : Int} (h0 : 0 ≤ n) (h1 : n < 3) : ∃ z, (z = a ∨ z = b ∨ z = c) ∧ atI [PyData.int a, .int b, .int c] n = some (.int z) := by
  rcases (by omega : n = 0 ∨ n = 1 ∨ n = 2) with rfl | rfl | rfl
  · exact ⟨a, .inl rfl, rfl⟩
  · exact ⟨b, .inr (.inl rfl), rfl⟩
  · exact ⟨c, .inr (.inr rfl), rfl⟩
theorem S_b20 : ∀ {p : Pile}, (∀ q ∈ p, 1 ≤ q.1 ∧ q.1 ≤ 8 * 10 ^ 8 ∧ 1 ≤ q.2 ∧ q.2 ≤ 100) → 0 ≤ S p ∧ S p ≤ (p.length : Int) * (8 * 10 ^ 10)
  | [], _ => by simp [S]
  | q :: p, h => by
    obtain ⟨a, b, c, d⟩ := h q List.mem_cons_self
    obtain ⟨h1, h2⟩ := S_b20 (p := p) fun x hx => h x (List.mem_cons_of_mem _ hx)
    have e : S (q :: p) = q.1 * q.2 + S p := by simp [S]
    have m1 : 0 ≤ q.1 * q.2 := Int.mul_nonneg (by omega) (by omega)
    have m2 : q.1 * q.2 ≤ 8 * 10 ^ 8 * 100 := Int.mul_le_mul b d (by omega) (by omega)
    rw [List.length_cons]
    omega
theorem turn20 (ns : List Int) (t kk : D) (n : Int) : ∃ (n' : Int) (s4 s5 s6 s7 s8 : D), lp_k20_law_1 [.scr ns, .dat t, (.ow (.l [.int n])), .dat kk, .un, .un, .un, .un, .un, .un, .un, .un] = .ok .nx [.scr ns, .dat t, (.ow (.l [.int n'])), .dat kk, .dat s4, .dat s5, .dat s6, .dat s7, .dat s8, .un, .un, .un] := by
  have t3 := tk2 n 3 (by omega) (by omega)
  have b3 := em2 n (show (0 : Int) < 3 by omega)
  have t3' := tk2 (n / 3) 3 (by omega) (by omega)
  have b3' := em2 (n / 3) (show (0 : Int) < 3 by omega)
  obtain ⟨gap, hg, eg⟩ := at3_20 (a := 2) (b := 5) (c := 100000000) b3.1 b3.2
  obtain ⟨oft, ho, eo⟩ := at3_20 (a := 2) (b := 9) (c := 100) b3'.1 b3'.2
  have g1 : 1 ≤ gap ∧ gap ≤ 10 ^ 8 := by rcases hg with rfl | rfl | rfl <;> omega
  have g2 : 1 ≤ oft ∧ oft ≤ 100 := by rcases ho with rfl | rfl | rfl <;> omega
  obtain ⟨n1, p, ec, hu, hq, hlen⟩ := coins2_ok (n / 3 / 3) 8 gap oft (by omega) (by omega) g1.1 (by omega) g2.1 (by omega)
  have hq2 : ∀ q ∈ p, 1 ≤ q.1 ∧ q.1 ≤ 8 * 10 ^ 8 ∧ 1 ≤ q.2 ∧ q.2 ≤ 100 := fun q h => by have := hq q h; omega
  have hl : p.length ≤ 8 := by omega
  have gd : Gd p := ⟨fun q h => by have := hq2 q h; omega, fun q h => by have := hq2 q h; omega, fun q h => by have := hq2 q h; omega, fun q h => by have := hq2 q h; omega, hu, by omega⟩
  have ps : PStr p := ⟨gd, by omega⟩
  obtain ⟨s0, s1⟩ := S_b20 hq2
  have s2 : S p ≤ 10 ^ 12 := by
    have : (p.length : Int) * (8 * 10 ^ 10) ≤ 8 * (8 * 10 ^ 10) := Int.mul_le_mul_of_nonneg_right (by omega) (by omega)
    omega
  have e1 := total20 (ns := ns) (t := t) (kk := kk) (p := p) (by omega) (fun q h => by have := hq2 q h; omega) n1
  have e1s : sumF [.list (p.map fun q => .int (q.1 * q.2))] = some (.int (S p)) := by rw [sumF_map]; rfl
  obtain ⟨n2, xs, e2, x1, x2⟩ := some20 (ns := ns) (t := t) (kk := kk) (p := p) (by omega) (fun q h => by have := hq2 q h; omega) (.int (S p)) n1
  have e2s : sumF [.list (xs.map .int)] = some (.int xs.sum) := by
    have := sumF_map (fun i : Int => i) xs
    simpa using this
  have t4 := tk2 n2 (S p + 3) (by omega) (by omega)
  have b4 := em2 n2 (show 0 < S p + 3 by omega)
  have os : okI (S p) = true := okS (by omega) (by omega)
  generalize hn3 : n2 / (S p + 3) = n3 at *
  have hsz : ([xs.sum, n2 % (S p + 3), S p, 0, S p + 1].map PyData.int) = [.int xs.sum, .int (n2 % (S p + 3)), .int (S p), .int 0, .int (S p + 1)] := rfl
  obtain ⟨n4, ys, e3, y1, y2⟩ := small20 (ns := ns) (t := t) (kk := kk) (enc p) .none (.int xs.sum) (.list [.int xs.sum, .int (n2 % (S p + 3)), .int (S p), .int 0, .int (S p + 1)]) s0 s2 n3
  have h1 : T20 p [xs.sum, n2 % (S p + 3), S p, 0, S p + 1] := ⟨ps, fun a ha => by
    simp only [List.mem_cons, List.not_mem_nil, or_false] at ha
    rcases ha with rfl | rfl | rfl | rfl | rfl <;> omega, by simp⟩
  have h2 : T20 p ys := ⟨ps, y2, y1⟩
  have k1 := good20 h1
  have k2 := good20 h2
  have k3 := refused20 gd
  rw [hsz] at k1
  have o8 : powD (.int 10) (.int 8) = some (.int 100000000) := by rfl
  have o2 : powD (.int 10) (.int 2) = some (.int 100) := by rfl
  have l3 : (3 : Nat) ≤ LIM := by decide
  have l5 : (5 : Nat) ≤ LIM := by decide
  refine ⟨n4, enc p, .int (S p), .int xs.sum, .list [.int xs.sum, .int (n2 % (S p + 3)), .int (S p), .int 0, .int (S p + 1)], .list (ys.map .int), ?_⟩
  unfold W20 at e1 e2 e3
  generalize (p.map fun q => PyData.int (q.1 * q.2)) = PM at *
  generalize xs.map PyData.int = XM at *
  generalize ys.map PyData.int = YM at *
  generalize enc p = P at *
  simp! [lp_k20_law_1, gN, t3, t3', eg, eo, ec, e1, e1s, e2, e2s, t4, hn3, os, e3, k1, k2, k3, o8, o2, l3, l5]
theorem turn20L (ns : List Int) (t : D) (n : Int) : ∃ n', fr_k20_law_1 [.scr ns, .dat t, (.ow (.l [.int n])), .un, .un, .un, .un, .un, .un, .un, .un, .un] = .ok .nx [.scr ns, .dat t, (.ow (.l [.int n'])), .un, .un, .un, .un, .un, .un, .un, .un, .un] := by
  obtain ⟨E', ⟨n', rfl⟩, hf⟩ := for_inv (ws := [3, 4, 5, 6, 7, 8]) (mi := mRng1 (mCons (mD (Bt.ret (.int 2))) (Bt.ret []))) (g := gN 3) (mb := lp_k20_law_1) (E0 := [.scr ns, .dat t, (.ow (.l [.int n])), .un, .un, .un, .un, .un, .un, .un, .un, .un]) (E := [.scr ns, .dat t, (.ow (.l [.int n])), .un, .un, .un, .un, .un, .un, .un, .un, .un]) (its := rangeD 0 2) (fun ds E => ∃ n, E = [.scr ns, .dat t, (.ow (.l [.int n])), .un, .un, .un, .un, .un, .un, .un, .un, .un]) (by simp! [rg_ok (show (-1000000 : Int) ≤ 2 by omega) (show (2 : Int) ≤ 1000000 by omega)]) ⟨n, rfl⟩ (fun d ds E h => by
    obtain ⟨n, rfl⟩ := h
    obtain ⟨n', s4, s5, s6, s7, s8, e⟩ := turn20 ns t d n
    exact ⟨_, _, rfl, .inl e, n', rfl⟩)
  exact ⟨n', hf⟩
theorem law_true (ns : List Int) (h : ns.length ≤ 63) : ∃ E2, s_k20_law [.scr ns] = .ok (.dat (.bool true)) E2 := by
  obtain ⟨E', ⟨rfl, _⟩, hf⟩ := for_inv (ws := [1, 2, 3, 4, 5, 6, 7, 8]) (mi := mRng1 (mCons (mD (mB maxF (mCons (mD (mB minF (mCons (mD (mLenScr 0)) (mCons (mD (Bt.ret (.int 5))) (Bt.ret []))))) (mCons (mD (Bt.ret (.int 1))) (Bt.ret []))))) (Bt.ret []))) (g := gN 1) (mb := lp_k20_law_2) (E0 := [.scr ns, .un, .un, .un, .un, .un, .un, .un, .un, .un, .un, .un]) (fun ds E => E = [.scr ns, .un, .un, .un, .un, .un, .un, .un, .un, .un, .un, .un] ∧ ∀ d ∈ ds, ∃ i : Int, d = .int i ∧ 0 ≤ i ∧ i ≤ 100) (its := rangeD 0 (max (min (ns.length : Int) 5) 1)) (E := [.scr ns, .un, .un, .un, .un, .un, .un, .un, .un, .un, .un, .un]) (by simp! [rg_ok (show -1000000 ≤ max (min (ns.length : Int) 5) 1 by omega) (show max (min (ns.length : Int) 5) 1 ≤ 1000000 by omega)]) ⟨rfl, fun d hd => by
    obtain ⟨i, rfl, h1, h2⟩ := rangeD_mem hd
    exact ⟨i, rfl, h1, by omega⟩⟩ (fun d ds E h => by
    obtain ⟨rfl, hd⟩ := h
    obtain ⟨i, rfl, i0, i1⟩ := hd d List.mem_cons_self
    obtain ⟨n, hn⟩ := cell_ok ns i i0 i1
    obtain ⟨n', e⟩ := turn20L ns (.int i) n
    have l1 : 1 ≤ LIM := by decide
    exact ⟨_, [.scr ns, .dat (.int i), (.ow (.l [.int n'])), .un, .un, .un, .un, .un, .un, .un, .un, .un], rfl, .inl (by simp! [lp_k20_law_2, gN, hn, e, l1]), rfl, fun d h' => hd d (List.mem_cons_of_mem _ h')⟩)
  have e : fr_k20_law_2 _ = _ := hf
  have g0 : Gd [] := ⟨by simp, by simp, by simp, by simp, List.Pairwise.nil, by simp⟩
  have q1 := paid_x g0 (by simp) (as := []) (by simp) (by simp)
  have q1 : s_paid [.dat (.tuple []), .dat (.list [])] = .ok (.dat (.tuple [.list [], .tuple []])) [.dat (.tuple []), .dat (.list [])] := q1
  have q2 := pay_x g0 (a := 0) (by omega) (by omega)
  have q2 : s_pay [.dat (.tuple []), .dat (.int 0)] = .ok (.dat (.tuple [])) [.dat (.tuple []), .dat (.int 0)] := q2
  have q3 := pay_x g0 (a := 3) (by omega) (by omega)
  have q3 : s_pay [.dat (.tuple []), .dat (.int 3)] = .ex (xP 3) [.dat (.tuple []), .dat (.int 3)] := q3
  have q4 := asked0x q3 rfl
  have q5 := told_no20 (due := .none) (r := 3) (by omega)
  have q6 : eqD (.tuple [.list [], .tuple []]) (.tuple [.list [], .tuple []]) = some (.bool true) := by rfl
  have q7 : eqD (.tuple []) (.tuple []) = some (.bool true) := by rfl
  have l2 : 2 ≤ LIM := by decide
  generalize xOf (xP 3) = XX at *
  refine ⟨[.scr ns], ?_⟩
  simp! [s_k20_law, m_k20_law, Bt.a_mAndV, e, q1, q2, q4, q5, q6, q7, at1, l2]
end Lw
namespace Lw
open PySem L2 Bt
def spL (K : PySem.W.Frag) (cs : List (Addr × Addr)) : Sp := fun vs H Q _ => ∃ (a : Addr) (ns : List Int), vs = [.ref a] ∧ SqL K H a (ns.map V.int) ∧ ns.length ≤ 63 ∧ (∀ p ∈ cs, H p.2 = some (.tbl #[])) ∧ ∀ H', Q (.bl true) H'
theorem all_mk {l : PySem.W.OpenLaw} {w : World} {K : PySem.W.Frag} {h : Heap} {mg : Str → Option Value} {fa : Addr} (X : K.In h) (G : h.Ns mainGlobals mg) (hfa : mg "law" = some (.ref fa))
    {f0 : Addr} {od0 an0 : Option Addr} {sl0 : Array (Option Value)} {oc0 kV0 dc0 pm0 cd0 ct0 : Value} (a0 : PySem.W.nsIn K mainGlobals "is_from" = some (some (.ref f0))) (l0 : K.lookup f0 = some ⟨oc0, od0, .func (PySem.W.fnOf "is_from" "is_from" (defArgs t_is_from) (defBody t_is_from) (defScope t_is_from) .none kV0 dc0 pm0 an0 cd0 ct0), sl0⟩) (c0 : PySem.W.codeIn K cd0 "is_from" = true) (k0 : PySem.W.keepIn K (.ref f0) = true)
    {f1 : Addr} {od1 an1 : Option Addr} {sl1 : Array (Option Value)} {oc1 kV1 dc1 pm1 cd1 ct1 : Value} (a1 : PySem.W.nsIn K mainGlobals "look_at_number" = some (some (.ref f1))) (l1 : K.lookup f1 = some ⟨oc1, od1, .func (PySem.W.fnOf "look_at_number" "look_at_number" (defArgs t_look_at_number) (defBody t_look_at_number) (defScope t_look_at_number) .none kV1 dc1 pm1 an1 cd1 ct1), sl1⟩) (c1 : PySem.W.codeIn K cd1 "look_at_number" = true) (k1 : PySem.W.keepIn K (.ref f1) = true)
    {f2 : Addr} {od2 an2 : Option Addr} {sl2 : Array (Option Value)} {oc2 kV2 dc2 pm2 cd2 ct2 : Value} (a2 : PySem.W.nsIn K mainGlobals "is_lot" = some (some (.ref f2))) (l2 : K.lookup f2 = some ⟨oc2, od2, .func (PySem.W.fnOf "is_lot" "is_lot" (defArgs t_is_lot) (defBody t_is_lot) (defScope t_is_lot) .none kV2 dc2 pm2 an2 cd2 ct2), sl2⟩) (c2 : PySem.W.codeIn K cd2 "is_lot" = true) (k2 : PySem.W.keepIn K (.ref f2) = true)
    {f3 : Addr} {od3 an3 : Option Addr} {sl3 : Array (Option Value)} {oc3 kV3 dc3 pm3 cd3 ct3 : Value} (a3 : PySem.W.nsIn K mainGlobals "is_pile" = some (some (.ref f3))) (l3 : K.lookup f3 = some ⟨oc3, od3, .func (PySem.W.fnOf "is_pile" "is_pile" (defArgs t_is_pile) (defBody t_is_pile) (defScope t_is_pile) .none kV3 dc3 pm3 an3 cd3 ct3), sl3⟩) (c3 : PySem.W.codeIn K cd3 "is_pile" = true) (k3 : PySem.W.keepIn K (.ref f3) = true)
    {f4 : Addr} {od4 an4 : Option Addr} {sl4 : Array (Option Value)} {oc4 kV4 dc4 pm4 cd4 ct4 : Value} (a4 : PySem.W.nsIn K mainGlobals "look_at_pile" = some (some (.ref f4))) (l4 : K.lookup f4 = some ⟨oc4, od4, .func (PySem.W.fnOf "look_at_pile" "look_at_pile" (defArgs t_look_at_pile) (defBody t_look_at_pile) (defScope t_look_at_pile) .none kV4 dc4 pm4 an4 cd4 ct4), sl4⟩) (c4 : PySem.W.codeIn K cd4 "look_at_pile" = true) (k4 : PySem.W.keepIn K (.ref f4) = true)
    {f5 : Addr} {od5 an5 : Option Addr} {sl5 : Array (Option Value)} {oc5 kV5 dc5 pm5 cd5 ct5 : Value} (a5 : PySem.W.nsIn K mainGlobals "from_counts" = some (some (.ref f5))) (l5 : K.lookup f5 = some ⟨oc5, od5, .func (PySem.W.fnOf "from_counts" "from_counts" (defArgs t_from_counts) (defBody t_from_counts) (defScope t_from_counts) .none kV5 dc5 pm5 an5 cd5 ct5), sl5⟩) (c5 : PySem.W.codeIn K cd5 "from_counts" = true) (k5 : PySem.W.keepIn K (.ref f5) = true)
    {f6 : Addr} {od6 an6 : Option Addr} {sl6 : Array (Option Value)} {oc6 kV6 dc6 pm6 cd6 ct6 : Value} (a6 : PySem.W.nsIn K mainGlobals "take_by" = some (some (.ref f6))) (l6 : K.lookup f6 = some ⟨oc6, od6, .func (PySem.W.fnOf "take_by" "take_by" (defArgs t_take_by) (defBody t_take_by) (defScope t_take_by) .none kV6 dc6 pm6 an6 cd6 ct6), sl6⟩) (c6 : PySem.W.codeIn K cd6 "take_by" = true) (k6 : PySem.W.keepIn K (.ref f6) = true)
    {f7 : Addr} {od7 an7 : Option Addr} {sl7 : Array (Option Value)} {oc7 kV7 dc7 pm7 cd7 ct7 : Value} (a7 : PySem.W.nsIn K mainGlobals "pay_by" = some (some (.ref f7))) (l7 : K.lookup f7 = some ⟨oc7, od7, .func (PySem.W.fnOf "pay_by" "pay_by" (defArgs t_pay_by) (defBody t_pay_by) (defScope t_pay_by) .none kV7 dc7 pm7 an7 cd7 ct7), sl7⟩) (c7 : PySem.W.codeIn K cd7 "pay_by" = true) (k7 : PySem.W.keepIn K (.ref f7) = true)
    {f8 : Addr} {od8 an8 : Option Addr} {sl8 : Array (Option Value)} {oc8 kV8 dc8 pm8 cd8 ct8 : Value} (a8 : PySem.W.nsIn K mainGlobals "pay" = some (some (.ref f8))) (l8 : K.lookup f8 = some ⟨oc8, od8, .func (PySem.W.fnOf "pay" "pay" (defArgs t_pay) (defBody t_pay) (defScope t_pay) .none kV8 dc8 pm8 an8 cd8 ct8), sl8⟩) (c8 : PySem.W.codeIn K cd8 "pay" = true) (k8 : PySem.W.keepIn K (.ref f8) = true)
    {f9 : Addr} {od9 an9 : Option Addr} {sl9 : Array (Option Value)} {oc9 kV9 dc9 pm9 cd9 ct9 : Value} (a9 : PySem.W.nsIn K mainGlobals "paid" = some (some (.ref f9))) (l9 : K.lookup f9 = some ⟨oc9, od9, .func (PySem.W.fnOf "paid" "paid" (defArgs t_paid) (defBody t_paid) (defScope t_paid) .none kV9 dc9 pm9 an9 cd9 ct9), sl9⟩) (c9 : PySem.W.codeIn K cd9 "paid" = true) (k9 : PySem.W.keepIn K (.ref f9) = true)
    {f10 : Addr} {od10 an10 : Option Addr} {sl10 : Array (Option Value)} {oc10 kV10 dc10 pm10 cd10 ct10 : Value} (a10 : PySem.W.nsIn K mainGlobals "_law_mixed" = some (some (.ref f10))) (l10 : K.lookup f10 = some ⟨oc10, od10, .func (PySem.W.fnOf "_law_mixed" "_law_mixed" (defArgs t__law_mixed) (defBody t__law_mixed) (defScope t__law_mixed) .none kV10 dc10 pm10 an10 cd10 ct10), sl10⟩) (c10 : PySem.W.codeIn K cd10 "_law_mixed" = true) (k10 : PySem.W.keepIn K (.ref f10) = true)
    {f11 : Addr} {od11 an11 : Option Addr} {sl11 : Array (Option Value)} {oc11 kV11 dc11 pm11 cd11 ct11 : Value} (a11 : PySem.W.nsIn K mainGlobals "_law_cell" = some (some (.ref f11))) (l11 : K.lookup f11 = some ⟨oc11, od11, .func (PySem.W.fnOf "_law_cell" "_law_cell" (defArgs t__law_cell) (defBody t__law_cell) (defScope t__law_cell) .none kV11 dc11 pm11 an11 cd11 ct11), sl11⟩) (c11 : PySem.W.codeIn K cd11 "_law_cell" = true) (k11 : PySem.W.keepIn K (.ref f11) = true)
    {f12 : Addr} {od12 an12 : Option Addr} {sl12 : Array (Option Value)} {oc12 kV12 dc12 pm12 cd12 ct12 : Value} (a12 : PySem.W.nsIn K mainGlobals "_law_take" = some (some (.ref f12))) (l12 : K.lookup f12 = some ⟨oc12, od12, .func (PySem.W.fnOf "_law_take" "_law_take" (defArgs t__law_take) (defBody t__law_take) (defScope t__law_take) .none kV12 dc12 pm12 an12 cd12 ct12), sl12⟩) (c12 : PySem.W.codeIn K cd12 "_law_take" = true) (k12 : PySem.W.keepIn K (.ref f12) = true)
    {f13 : Addr} {od13 an13 : Option Addr} {sl13 : Array (Option Value)} {oc13 kV13 dc13 pm13 cd13 ct13 : Value} (a13 : PySem.W.nsIn K mainGlobals "_law_coins" = some (some (.ref f13))) (l13 : K.lookup f13 = some ⟨oc13, od13, .func (PySem.W.fnOf "_law_coins" "_law_coins" (defArgs t__law_coins) (defBody t__law_coins) (defScope t__law_coins) .none kV13 dc13 pm13 an13 cd13 ct13), sl13⟩) (c13 : PySem.W.codeIn K cd13 "_law_coins" = true) (k13 : PySem.W.keepIn K (.ref f13) = true)
    {f14 : Addr} {od14 an14 : Option Addr} {sl14 : Array (Option Value)} {oc14 kV14 dc14 pm14 cd14 ct14 : Value} (a14 : PySem.W.nsIn K mainGlobals "_law_one" = some (some (.ref f14))) (l14 : K.lookup f14 = some ⟨oc14, od14, .func (PySem.W.fnOf "_law_one" "_law_one" (defArgs t__law_one) (defBody t__law_one) (defScope t__law_one) .none kV14 dc14 pm14 an14 cd14 ct14), sl14⟩) (c14 : PySem.W.codeIn K cd14 "_law_one" = true) (k14 : PySem.W.keepIn K (.ref f14) = true)
    {f15 : Addr} {od15 an15 : Option Addr} {sl15 : Array (Option Value)} {oc15 kV15 dc15 pm15 cd15 ct15 : Value} (a15 : PySem.W.nsIn K mainGlobals "_law_row" = some (some (.ref f15))) (l15 : K.lookup f15 = some ⟨oc15, od15, .func (PySem.W.fnOf "_law_row" "_law_row" (defArgs t__law_row) (defBody t__law_row) (defScope t__law_row) .none kV15 dc15 pm15 an15 cd15 ct15), sl15⟩) (c15 : PySem.W.codeIn K cd15 "_law_row" = true) (k15 : PySem.W.keepIn K (.ref f15) = true)
    {f16 : Addr} {od16 an16 : Option Addr} {sl16 : Array (Option Value)} {oc16 kV16 dc16 pm16 cd16 ct16 : Value} (a16 : PySem.W.nsIn K mainGlobals "_law_asked" = some (some (.ref f16))) (l16 : K.lookup f16 = some ⟨oc16, od16, .func (PySem.W.fnOf "_law_asked" "_law_asked" (defArgs t__law_asked) (defBody t__law_asked) (defScope t__law_asked) .none kV16 dc16 pm16 an16 cd16 ct16), sl16⟩) (c16 : PySem.W.codeIn K cd16 "_law_asked" = true) (k16 : PySem.W.keepIn K (.ref f16) = true)
    {f17 : Addr} {od17 an17 : Option Addr} {sl17 : Array (Option Value)} {oc17 kV17 dc17 pm17 cd17 ct17 : Value} (a17 : PySem.W.nsIn K mainGlobals "_law_only" = some (some (.ref f17))) (l17 : K.lookup f17 = some ⟨oc17, od17, .func (PySem.W.fnOf "_law_only" "_law_only" (defArgs t__law_only) (defBody t__law_only) (defScope t__law_only) .none kV17 dc17 pm17 an17 cd17 ct17), sl17⟩) (c17 : PySem.W.codeIn K cd17 "_law_only" = true) (k17 : PySem.W.keepIn K (.ref f17) = true)
    {f18 : Addr} {od18 an18 : Option Addr} {sl18 : Array (Option Value)} {oc18 kV18 dc18 pm18 cd18 ct18 : Value} (a18 : PySem.W.nsIn K mainGlobals "_law_told" = some (some (.ref f18))) (l18 : K.lookup f18 = some ⟨oc18, od18, .func (PySem.W.fnOf "_law_told" "_law_told" (defArgs t__law_told) (defBody t__law_told) (defScope t__law_told) .none kV18 dc18 pm18 an18 cd18 ct18), sl18⟩) (c18 : PySem.W.codeIn K cd18 "_law_told" = true) (k18 : PySem.W.keepIn K (.ref f18) = true)
    {f19 : Addr} {od19 an19 : Option Addr} {sl19 : Array (Option Value)} {oc19 kV19 dc19 pm19 cd19 ct19 : Value} (a19 : PySem.W.nsIn K mainGlobals "_law_good" = some (some (.ref f19))) (l19 : K.lookup f19 = some ⟨oc19, od19, .func (PySem.W.fnOf "_law_good" "_law_good" (defArgs t__law_good) (defBody t__law_good) (defScope t__law_good) .none kV19 dc19 pm19 an19 cd19 ct19), sl19⟩) (c19 : PySem.W.codeIn K cd19 "_law_good" = true) (k19 : PySem.W.keepIn K (.ref f19) = true)
    {f20 : Addr} {od20 an20 : Option Addr} {sl20 : Array (Option Value)} {oc20 kV20 dc20 pm20 cd20 ct20 : Value} (a20 : PySem.W.nsIn K mainGlobals "_law_refused_good" = some (some (.ref f20))) (l20 : K.lookup f20 = some ⟨oc20, od20, .func (PySem.W.fnOf "_law_refused_good" "_law_refused_good" (defArgs t__law_refused_good) (defBody t__law_refused_good) (defScope t__law_refused_good) .none kV20 dc20 pm20 an20 cd20 ct20), sl20⟩) (c20 : PySem.W.codeIn K cd20 "_law_refused_good" = true) (k20 : PySem.W.keepIn K (.ref f20) = true)
    {f21 : Addr} {od21 an21 : Option Addr} {sl21 : Array (Option Value)} {oc21 kV21 dc21 pm21 cd21 ct21 : Value} (a21 : PySem.W.nsIn K mainGlobals "law" = some (some (.ref f21))) (l21 : K.lookup f21 = some ⟨oc21, od21, .func (PySem.W.fnOf "law" "law" (defArgs t_law) (defBody t_law) (defScope t_law) .none kV21 dc21 pm21 an21 cd21 ct21), sl21⟩) (c21 : PySem.W.codeIn K cd21 "law" = true) (k21 : PySem.W.keepIn K (.ref f21) = true)
    (z_all : PySem.W.nsIn K mainGlobals "all" = some none)
    (z_bool : PySem.W.nsIn K mainGlobals "bool" = some none)
    (z_dict : PySem.W.nsIn K mainGlobals "dict" = some none)
    (z_int : PySem.W.nsIn K mainGlobals "int" = some none)
    (z_isinstance : PySem.W.nsIn K mainGlobals "isinstance" = some none)
    (z_len : PySem.W.nsIn K mainGlobals "len" = some none)
    (z_list : PySem.W.nsIn K mainGlobals "list" = some none)
    (z_max : PySem.W.nsIn K mainGlobals "max" = some none)
    (z_min : PySem.W.nsIn K mainGlobals "min" = some none)
    (z_range : PySem.W.nsIn K mainGlobals "range" = some none)
    (z_sorted : PySem.W.nsIn K mainGlobals "sorted" = some none)
    (z_str : PySem.W.nsIn K mainGlobals "str" = some none)
    (z_sum : PySem.W.nsIn K mainGlobals "sum" = some none)
    (z_tuple : PySem.W.nsIn K mainGlobals "tuple" = some none)
    (z_zip : PySem.W.nsIn K mainGlobals "zip" = some none)
    {X_NoCoins : Addr} (ux_NoCoins : PySem.W.nsIn K mainGlobals "NoCoins" = some (some (.ref X_NoCoins)))
    {X_NoNumber : Addr} (ux_NoNumber : PySem.W.nsIn K mainGlobals "NoNumber" = some (some (.ref X_NoNumber)))
    {X_NoPay : Addr} (ux_NoPay : PySem.W.nsIn K mainGlobals "NoPay" = some (some (.ref X_NoPay)))
    {X_NoPile : Addr} (ux_NoPile : PySem.W.nsIn K mainGlobals "NoPile" = some (some (.ref X_NoPile)))
    {X_TillError : Addr} (ux_TillError : PySem.W.nsIn K mainGlobals "TillError" = some (some (.ref X_TillError)))
    {X_Unserved : Addr} (ux_Unserved : PySem.W.nsIn K mainGlobals "Unserved" = some (some (.ref X_Unserved)))
    (vx_ok : xAllB K = true)
    {fxNoCoins : Addr} {odxNoCoins anxNoCoins : Option Addr} {slxNoCoins : Array (Option Value)} {ocxNoCoins kVxNoCoins dcxNoCoins pmxNoCoins cdxNoCoins ctxNoCoins : Value} (ax_NoCoins : PySem.W.findIn K (.ref X_NoCoins) "__init__" = some (some (.ref fxNoCoins))) (lx_NoCoins : K.lookup fxNoCoins = some ⟨ocxNoCoins, odxNoCoins, .func (PySem.W.fnOf "__init__" "NoCoins.__init__" (defArgs tx_NoCoins) (defBody tx_NoCoins) (defScope tx_NoCoins) .none kVxNoCoins dcxNoCoins pmxNoCoins anxNoCoins cdxNoCoins ctxNoCoins), slxNoCoins⟩) (cx_NoCoins : PySem.W.codeIn K cdxNoCoins "NoCoins.__init__" = true) (kx_NoCoins : PySem.W.keepIn K (.ref fxNoCoins) = true) (yx_NoCoins : PySem.W.typeIn K (.ref fxNoCoins) = some (.type "function"))
    {fxNoPay : Addr} {odxNoPay anxNoPay : Option Addr} {slxNoPay : Array (Option Value)} {ocxNoPay kVxNoPay dcxNoPay pmxNoPay cdxNoPay ctxNoPay : Value} (ax_NoPay : PySem.W.findIn K (.ref X_NoPay) "__init__" = some (some (.ref fxNoPay))) (lx_NoPay : K.lookup fxNoPay = some ⟨ocxNoPay, odxNoPay, .func (PySem.W.fnOf "__init__" "NoPay.__init__" (defArgs tx_NoPay) (defBody tx_NoPay) (defScope tx_NoPay) .none kVxNoPay dcxNoPay pmxNoPay anxNoPay cdxNoPay ctxNoPay), slxNoPay⟩) (cx_NoPay : PySem.W.codeIn K cdxNoPay "NoPay.__init__" = true) (kx_NoPay : PySem.W.keepIn K (.ref fxNoPay) = true) (yx_NoPay : PySem.W.typeIn K (.ref fxNoPay) = some (.type "function"))
    (la_stumped : PySem.W.nsIn K mainGlobals "stumped" = some none)
    (la_cost_of : PySem.W.nsIn K mainGlobals "cost_of" = some none)
    (la_leanest : PySem.W.nsIn K mainGlobals "leanest" = some none)
    (la_groups_of : PySem.W.nsIn K mainGlobals "groups_of" = some none)
    : LawT l w K 8 63 "_law_script" mg fa h := by
  have e := hfa.symm.trans (PySem.W.mg_of X G a21)
  cases e
  have F0 := fun_mk (st := t_is_from) l0 c0 k0
  have F1 := fun_mk (st := t_look_at_number) l1 c1 k1
  have F2 := fun_mk (st := t_is_lot) l2 c2 k2
  have F3 := fun_mk (st := t_is_pile) l3 c3 k3
  have F4 := fun_mk (st := t_look_at_pile) l4 c4 k4
  have F5 := fun_mk (st := t_from_counts) l5 c5 k5
  have F6 := fun_mk (st := t_take_by) l6 c6 k6
  have F7 := fun_mk (st := t_pay_by) l7 c7 k7
  have F8 := fun_mk (st := t_pay) l8 c8 k8
  have F9 := fun_mk (st := t_paid) l9 c9 k9
  have F10 := fun_mk (st := t__law_mixed) l10 c10 k10
  have F11 := fun_mk (st := t__law_cell) l11 c11 k11
  have F12 := fun_mk (st := t__law_take) l12 c12 k12
  have F13 := fun_mk (st := t__law_coins) l13 c13 k13
  have F14 := fun_mk (st := t__law_one) l14 c14 k14
  have F15 := fun_mk (st := t__law_row) l15 c15 k15
  have F16 := fun_mk (st := t__law_asked) l16 c16 k16
  have F17 := fun_mk (st := t__law_only) l17 c17 k17
  have F18 := fun_mk (st := t__law_told) l18 c18 k18
  have F19 := fun_mk (st := t__law_good) l19 c19 k19
  have F20 := fun_mk (st := t__law_refused_good) l20 c20 k20
  have F21 := fun_mk (st := t_law) l21 c21 k21
  have FX_NoCoins := fun_mk (x := "__init__") (qual := "NoCoins.__init__") (st := tx_NoCoins) lx_NoCoins cx_NoCoins kx_NoCoins
  have BX_NoCoins := FX_NoCoins.binds (ps := ["self", "worth"]) fun _ _ _ _ _ _ us hl => match us, hl with | [_, _], _ => rfl
  have FX_NoPay := fun_mk (x := "__init__") (qual := "NoPay.__init__") (st := tx_NoPay) lx_NoPay cx_NoPay kx_NoPay
  have BX_NoPay := FX_NoPay.binds (ps := ["self", "rest"]) fun _ _ _ _ _ _ us hl => match us, hl with | [_, _], _ => rfl
  have B0 := F0.binds (ps := ["thing", "least"]) fun _ _ _ _ _ _ us hl => match us, hl with | [_, _], _ => rfl
  have B1 := F1.binds (ps := ["thing", "least"]) fun _ _ _ _ _ _ us hl => match us, hl with | [_, _], _ => rfl
  have B2 := F2.binds (ps := ["thing"]) fun _ _ _ _ _ _ us hl => match us, hl with | [_], _ => rfl
  have B3 := F3.binds (ps := ["thing"]) fun _ _ _ _ _ _ us hl => match us, hl with | [_], _ => rfl
  have B4 := F4.binds (ps := ["thing"]) fun _ _ _ _ _ _ us hl => match us, hl with | [_], _ => rfl
  have B5 := F5.binds (ps := ["counts"]) fun _ _ _ _ _ _ us hl => match us, hl with | [_], _ => rfl
  have B6 := F6.binds (ps := ["pile", "other"]) fun _ _ _ _ _ _ us hl => match us, hl with | [_, _], _ => rfl
  have B7 := F7.binds (ps := ["pile", "amount"]) fun _ _ _ _ _ _ us hl => match us, hl with | [_, _], _ => rfl
  have B8 := F8.binds (ps := ["pile", "amount"]) fun _ _ _ _ _ _ us hl => match us, hl with | [_, _], _ => rfl
  have K8_0 : KBn K (PySem.W.fnOf "pay" "pay" (defArgs t_pay) (defBody t_pay) (defScope t_pay) .none kV8 dc8 pm8 an8 cd8 ct8) ["pile", "amount"] 0 ["amount", "pile"] (fun us ws => ([.at 1, .at 0] : List Pk).map (pkU (us ++ ws))) (fun vs zs => ([.at 1, .at 0] : List Pk).map (pkV (vs ++ zs))) := by
    have rel : ∀ {vs : List V} {us : List Value} {zs : List V} {ws : List Value}, Vals vs us → Vals zs ws → Vals (([.at 1, .at 0] : List Pk).map (pkV (vs ++ zs))) (([.at 1, .at 0] : List Pk).map (pkU (us ++ ws))) := fun r1 r2 => pk_rel (r1.append r2) _
    refine ⟨fun s us ws _ h1 h2 => ?_, rel⟩
    match us, ws, h1, h2 with | [], [_, _], _, _ => exact .of_eq rfl
  have B9 := F9.binds (ps := ["pile", "amounts"]) fun _ _ _ _ _ _ us hl => match us, hl with | [_, _], _ => rfl
  have B10 := F10.binds (ps := ["_law_cell_here", "_law_k"]) fun _ _ _ _ _ _ us hl => match us, hl with | [_, _], _ => rfl
  have B11 := F11.binds (ps := ["_law_script", "_law_k"]) fun _ _ _ _ _ _ us hl => match us, hl with | [_, _], _ => rfl
  have B12 := F12.binds (ps := ["_law_own", "_law_size"]) fun _ _ _ _ _ _ us hl => match us, hl with | [_, _], _ => rfl
  have B13 := F13.binds (ps := ["_law_own", "_law_lots", "_law_gap", "_law_often"]) fun _ _ _ _ _ _ us hl => match us, hl with | [_, _, _, _], _ => rfl
  have B14 := F14.binds (ps := ["_law_some", "_law_size"]) fun _ _ _ _ _ _ us hl => match us, hl with | [_, _], _ => rfl
  have B15 := F15.binds (ps := ["_law_some", "_law_sizes"]) fun _ _ _ _ _ _ us hl => match us, hl with | [_, _], _ => rfl
  have B16 := F16.binds (ps := ["_law_which", "_law_some", "_law_odd"]) fun _ _ _ _ _ _ us hl => match us, hl with | [_, _, _], _ => rfl
  have B17 := F17.binds (ps := ["_law_caught", "_law_kind"]) fun _ _ _ _ _ _ us hl => match us, hl with | [_, _], _ => rfl
  have B18 := F18.binds (ps := ["_law_found", "_law_caught", "_law_due", "_law_rest"]) fun _ _ _ _ _ _ us hl => match us, hl with | [_, _, _, _], _ => rfl
  have B19 := F19.binds (ps := ["_law_some", "_law_sizes"]) fun _ _ _ _ _ _ us hl => match us, hl with | [_, _], _ => rfl
  have B20 := F20.binds (ps := ["_law_some"]) fun _ _ _ _ _ _ us hl => match us, hl with | [_], _ => rfl
  have lt_stumped := tabIn_none la_stumped
  have lt_cost_of := tabIn_none la_cost_of
  have lt_leanest := tabIn_none la_leanest
  have lt_groups_of := tabIn_none la_groups_of
  have hc : ∀ x ∈ lamDefs, ∀ c P, PySem.W.tabIn K x = some (c, P) → (c, P) ∈ ([] : List (Addr × Addr)) := fun x hx c P e => by
    simp only [lamDefs, List.mem_cons, List.not_mem_nil, or_false] at hx
    rcases hx with rfl | rfl | rfl | rfl
    · rw [lt_stumped] at e; cases e
    · rw [lt_cost_of] at e; cases e
    · rw [lt_leanest] at e; cases e
    · rw [lt_groups_of] at e; cases e
  refine ⟨(PySem.W.fnOf "law" "law" (defArgs t_law) (defBody t_law) (defScope t_law) .none kV21 dc21 pm21 an21 cd21 ct21), [], spL K [], ?_, ?_, ?_, fun s v => .of_eq rfl, fun H a ns hl t1 _ hS => ⟨a, ns, rfl, hS, hl, t1, fun _ => rfl⟩, fun base _ _ hB => ?_⟩
  · intro p hp
    cases hp
  · intro p hp
    cases hp
  · intro p hp
    cases hp
  have C : Fx K mg ⟨f0, _, f1, _, f2, _, f3, _, f4, _, f5, _, f6, _, f7, _, f8, _, f9, _, f10, _, f11, _, f12, _, f13, _, f14, _, f15, _, f16, _, f17, _, f18, _, f19, _, f20, _, fa, _, X_NoCoins, X_NoNumber, X_NoPay, X_NoPile, X_TillError, X_Unserved, fxNoCoins, _, fxNoPay, _⟩ := ⟨PySem.W.mg_none_of X G z_all, PySem.W.mg_none_of X G z_bool, PySem.W.mg_none_of X G z_dict, PySem.W.mg_none_of X G z_int, PySem.W.mg_none_of X G z_isinstance, PySem.W.mg_none_of X G z_len, PySem.W.mg_none_of X G z_list, PySem.W.mg_none_of X G z_max, PySem.W.mg_none_of X G z_min, PySem.W.mg_none_of X G z_range, PySem.W.mg_none_of X G z_sorted, PySem.W.mg_none_of X G z_str, PySem.W.mg_none_of X G z_sum, PySem.W.mg_none_of X G z_tuple, PySem.W.mg_none_of X G z_zip, vx_ok, ⟨ux_NoCoins, PySem.W.mg_of X G ux_NoCoins⟩, ⟨ux_NoNumber, PySem.W.mg_of X G ux_NoNumber⟩, ⟨ux_NoPay, PySem.W.mg_of X G ux_NoPay⟩, ⟨ux_NoPile, PySem.W.mg_of X G ux_NoPile⟩, ⟨ux_TillError, PySem.W.mg_of X G ux_TillError⟩, ⟨ux_Unserved, PySem.W.mg_of X G ux_Unserved⟩, FX_NoCoins, ax_NoCoins, yx_NoCoins, BX_NoCoins, FX_NoPay, ax_NoPay, yx_NoPay, BX_NoPay, F0, PySem.W.mg_of X G a0, k0, B0, F1, PySem.W.mg_of X G a1, k1, B1, F2, PySem.W.mg_of X G a2, k2, B2, F3, PySem.W.mg_of X G a3, k3, B3, F4, PySem.W.mg_of X G a4, k4, B4, F5, PySem.W.mg_of X G a5, k5, B5, F6, PySem.W.mg_of X G a6, k6, B6, F7, PySem.W.mg_of X G a7, k7, B7, F8, PySem.W.mg_of X G a8, k8, B8, K8_0, F9, PySem.W.mg_of X G a9, k9, B9, F10, PySem.W.mg_of X G a10, k10, B10, F11, PySem.W.mg_of X G a11, k11, B11, F12, PySem.W.mg_of X G a12, k12, B12, F13, PySem.W.mg_of X G a13, k13, B13, F14, PySem.W.mg_of X G a14, k14, B14, F15, PySem.W.mg_of X G a15, k15, B15, F16, PySem.W.mg_of X G a16, k16, B16, F17, PySem.W.mg_of X G a17, k17, B17, F18, PySem.W.mg_of X G a18, k18, B18, F19, PySem.W.mg_of X G a19, k19, B19, F20, PySem.W.mg_of X G a20, k20, B20, F21, PySem.W.mg_of X G a21, k21⟩
  refine (ok_law C).imp fun vs H Q E hs => ?_
  obtain ⟨a, ns, rfl, hS, hl, ht, q⟩ := hs
  obtain ⟨E2, hT⟩ := law_true ns hl
  refine ⟨rfl, [], _, [.scr ns], rel_law hS ht hc, ?_⟩
  rw [hT]
  intro O2 v H2 R2 l2
  cases R2.2
  exact q H2
end Lw
open PySem PySem.W PyProof.Rows
set_option maxHeartbeats 0 in
theorem PySem.Challenge.cw_blindtill_k20_what_the_clerk_pays_holds : PySem.Challenge.rw_blindtill_k20_what_the_clerk_pays.Holds := by
  w_on; o_law; k_head; (case hw => w_witness2)
  k_fill
  refine Bt.walk_ofT (l := PySem.Challenge.rw_blindtill_k20_what_the_clerk_pays) (n := 63) (k := 8) (x := "_law_script") rfl (by decide) rfl ⟨rfl, by decide, by decide⟩ (fun w h Y => PySem.W.kIn_of Y) ?F
  case F =>
    intro w mg fa h Y KX G hmg
    refine' Lw.all_mk KX G hmg ?a0 ?l0 ?c0 ?k0 ?a1 ?l1 ?c1 ?k1 ?a2 ?l2 ?c2 ?k2 ?a3 ?l3 ?c3 ?k3 ?a4 ?l4 ?c4 ?k4 ?a5 ?l5 ?c5 ?k5 ?a6 ?l6 ?c6 ?k6 ?a7 ?l7 ?c7 ?k7 ?a8 ?l8 ?c8 ?k8 ?a9 ?l9 ?c9 ?k9 ?a10 ?l10 ?c10 ?k10 ?a11 ?l11 ?c11 ?k11 ?a12 ?l12 ?c12 ?k12 ?a13 ?l13 ?c13 ?k13 ?a14 ?l14 ?c14 ?k14 ?a15 ?l15 ?c15 ?k15 ?a16 ?l16 ?c16 ?k16 ?a17 ?l17 ?c17 ?k17 ?a18 ?l18 ?c18 ?k18 ?a19 ?l19 ?c19 ?k19 ?a20 ?l20 ?c20 ?k20 ?a21 ?l21 ?c21 ?k21 ?z_all ?z_bool ?z_dict ?z_int ?z_isinstance ?z_len ?z_list ?z_max ?z_min ?z_range ?z_sorted ?z_str ?z_sum ?z_tuple ?z_zip ?ux_NoCoins ?ux_NoNumber ?ux_NoPay ?ux_NoPile ?ux_TillError ?ux_Unserved ?vx_ok ?ax_NoCoins ?lx_NoCoins ?cx_NoCoins ?kx_NoCoins ?yx_NoCoins ?ax_NoPay ?lx_NoPay ?cx_NoPay ?kx_NoPay ?yx_NoPay ?la_stumped ?la_cost_of ?la_leanest ?la_groups_of
    (case a0 => k_is)
    (case l0 => k_is)
    (case c0 => k_is)
    (case k0 => k_is)
    (case a1 => k_is)
    (case l1 => k_is)
    (case c1 => k_is)
    (case k1 => k_is)
    (case a2 => k_is)
    (case l2 => k_is)
    (case c2 => k_is)
    (case k2 => k_is)
    (case a3 => k_is)
    (case l3 => k_is)
    (case c3 => k_is)
    (case k3 => k_is)
    (case a4 => k_is)
    (case l4 => k_is)
    (case c4 => k_is)
    (case k4 => k_is)
    (case a5 => k_is)
    (case l5 => k_is)
    (case c5 => k_is)
    (case k5 => k_is)
    (case a6 => k_is)
    (case l6 => k_is)
    (case c6 => k_is)
    (case k6 => k_is)
    (case a7 => k_is)
    (case l7 => k_is)
    (case c7 => k_is)
    (case k7 => k_is)
    (case a8 => k_is)
    (case l8 => k_is)
    (case c8 => k_is)
    (case k8 => k_is)
    (case a9 => k_is)
    (case l9 => k_is)
    (case c9 => k_is)
    (case k9 => k_is)
    (case a10 => k_is)
    (case l10 => k_is)
    (case c10 => k_is)
    (case k10 => k_is)
    (case a11 => k_is)
    (case l11 => k_is)
    (case c11 => k_is)
    (case k11 => k_is)
    (case a12 => k_is)
    (case l12 => k_is)
    (case c12 => k_is)
    (case k12 => k_is)
    (case a13 => k_is)
    (case l13 => k_is)
    (case c13 => k_is)
    (case k13 => k_is)
    (case a14 => k_is)
    (case l14 => k_is)
    (case c14 => k_is)
    (case k14 => k_is)
    (case a15 => k_is)
    (case l15 => k_is)
    (case c15 => k_is)
    (case k15 => k_is)
    (case a16 => k_is)
    (case l16 => k_is)
    (case c16 => k_is)
    (case k16 => k_is)
    (case a17 => k_is)
    (case l17 => k_is)
    (case c17 => k_is)
    (case k17 => k_is)
    (case a18 => k_is)
    (case l18 => k_is)
    (case c18 => k_is)
    (case k18 => k_is)
    (case a19 => k_is)
    (case l19 => k_is)
    (case c19 => k_is)
    (case k19 => k_is)
    (case a20 => k_is)
    (case l20 => k_is)
    (case c20 => k_is)
    (case k20 => k_is)
    (case a21 => k_is)
    (case l21 => k_is)
    (case c21 => k_is)
    (case k21 => k_is)
    (case z_all => k_is)
    (case z_bool => k_is)
    (case z_dict => k_is)
    (case z_int => k_is)
    (case z_isinstance => k_is)
    (case z_len => k_is)
    (case z_list => k_is)
    (case z_max => k_is)
    (case z_min => k_is)
    (case z_range => k_is)
    (case z_sorted => k_is)
    (case z_str => k_is)
    (case z_sum => k_is)
    (case z_tuple => k_is)
    (case z_zip => k_is)
    (case ux_NoCoins => first | k_is | kernel_rfl | decide +kernel)
    (case ux_NoNumber => first | k_is | kernel_rfl | decide +kernel)
    (case ux_NoPay => first | k_is | kernel_rfl | decide +kernel)
    (case ux_NoPile => first | k_is | kernel_rfl | decide +kernel)
    (case ux_TillError => first | k_is | kernel_rfl | decide +kernel)
    (case ux_Unserved => first | k_is | kernel_rfl | decide +kernel)
    (case vx_ok => first | k_is | kernel_rfl | decide +kernel)
    (case ax_NoCoins => first | k_is | kernel_rfl | decide +kernel)
    (case lx_NoCoins => first | k_is | kernel_rfl | decide +kernel)
    (case cx_NoCoins => first | k_is | kernel_rfl | decide +kernel)
    (case kx_NoCoins => first | k_is | kernel_rfl | decide +kernel)
    (case yx_NoCoins => first | k_is | kernel_rfl | decide +kernel)
    (case ax_NoPay => first | k_is | kernel_rfl | decide +kernel)
    (case lx_NoPay => first | k_is | kernel_rfl | decide +kernel)
    (case cx_NoPay => first | k_is | kernel_rfl | decide +kernel)
    (case kx_NoPay => first | k_is | kernel_rfl | decide +kernel)
    (case yx_NoPay => first | k_is | kernel_rfl | decide +kernel)
    (case la_stumped => k_is)
    (case la_cost_of => k_is)
    (case la_leanest => k_is)
    (case la_groups_of => k_is)
