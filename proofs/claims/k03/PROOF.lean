import PyProof.Rows.All
import Wide.All
import OpenK.AllK
import Wide.FinOn
import PySem.Challenge.RW_longshort_k03_whole_texts_told_back
import HandS.ForMost
import HandS.Deep
import HandS.Wide
import HandS.IsInst
import HandS.Flow
import HandS.ForExc
import KE.DataEq
import KE.SortData
import KE.KeyNested
import HandS.Style
import HandS.Strs
import HandS.CallSlots
import PyProof.ListStr
import HandS.Conv
import HandS.Dict
import HandS.SortKw
import HandS.Replace
import KE.GoesMore
import KE.GoesEnum
import HandS.ExcInit
import HandS.ExcOwn
import HandS.ExcField
import HandS.TryOnly
import HandS.ClsMeth
import KE.KExcIs
import HandS.ExcIs
import HandS.HotCalls
import HandS.SuiteRaise
import HandS.RaiseFrom
import HandS.RaiseOp
import HandS.ExcBuiltin
import HandS.ReplaceLit
import KE.KIndexOf
import HandS.More
import PyProof.StrBlock2
import KE.KStateDown
import KE.RegKTryMore
set_option Elab.async false
set_option linter.all false
set_option maxRecDepth 100000
/-! dicts whose keys are nested tuples, tracked entry by entry -/
namespace DL
open PySem PySem.Spec L2
open PyProof.Rows hiding St
abbrev NEnt := NestedKey × Addr × Value
/-- at a stands a dict with the entries xs; of the keys only where they stand is told -/
def DictN (P : Program) (w : World) (a : Addr) (xs : List NEnt) (h : Heap) : Prop :=
  (xs.length ≤ sizeLine ∧ (a == sysModules) = false ∧ (xs.map (·.1)).Nodup) ∧ ∃ o es ep, h.get? a = some o ∧ o.ExactDict ∧ o.data = .dict es ep ∧ es.toList = xs.map (entryOfKey (nestedKind P w))
def dnO (P : Program) (w : World) (a : Addr) (xs : List NEnt) : HO := .ext (DictN P w a xs)
theorem dnO_ok {P : Program} {w : World} {H : Hp} {h : Heap} {a : Addr} {xs : List NEnt} (d : DictN P w a xs h) : ObjOk P w H h a (dnO P w a xs) := by
  refine ⟨d, ?_, fun h1 h2 d1 k => ?_⟩
  · obtain ⟨_, o, _, _, e, _⟩ := d; exact ⟨o, e⟩
  · obtain ⟨z, o, es, ep, e, r⟩ := d1
    exact ⟨z, o, es, ep, k o e, r⟩
theorem dnO_of {P : Program} {w : World} {H : Hp} {h : Heap} {a : Addr} {xs : List NEnt} (ok : HOk P w H h) (e : H a = some (dnO P w a xs)) : DictN P w a xs h := (show ObjOk P w H h a (dnO P w a xs) from ok a _ e).1
mutual
/-- the value is such a key, by tracked tuples -/
inductive NKey (K : PySem.W.Frag) (H : Hp) : V → NestedKey → Prop
  | non : NKey K H .non .none
  | int (i : Int) : NKey K H (.int i) (.num i)
  | str (x : Str) : NKey K H (.str x) (.text x)
  | tup {a : Addr} {xs : List V} {ks : List NestedKey} (e : SqT K H a xs) (r : NKeys K H xs ks) : NKey K H (.ref a) (.tup ks)
inductive NKeys (K : PySem.W.Frag) (H : Hp) : List V → List NestedKey → Prop
  | nil : NKeys K H [] []
  | cons {v : V} {vs : List V} {k : NestedKey} {ks : List NestedKey} (a : NKey K H v k) (t : NKeys K H vs ks) : NKeys K H (v :: vs) (k :: ks)
end
section
variable {X : Cx} {pins : List (Addr × Obj)} {σ : St} {H : Hp} {s : Shared}
mutual
theorem nkey_is (I : Inv X pins σ H s) : ∀ {k : NestedKey} {v : V} {u : Value}, NKey X.K H v k → RelV v u → NestedIs s.heap k u
  | .none, _, _, h, r => by cases h; cases r; exact .none
  | .num i, _, _, h, r => by cases h; obtain ⟨t, rfl⟩ := r; exact .int i t
  | .text x, _, _, h, r => by cases h; obtain ⟨t, rfl⟩ := r; exact .text x t
  | .tup ks, _, _, h, r => by
    cases h with
    | tup e q =>
      cases r
      obtain ⟨its, rv, ⟨o, ho, hc, n, hd⟩, _⟩ := I.tuple e
      exact .tup ho hc hd (by simpa using nkeys_is I q rv)
theorem nkeys_is (I : Inv X pins σ H s) : ∀ {ks : List NestedKey} {vs : List V} {us : List Value}, NKeys X.K H vs ks → Vals vs us → NestedAll s.heap ks us
  | [], _, _, h, r => by cases h; cases r; exact .nil
  | k :: ks, _, _, h, r => by
    cases h with
    | cons a t =>
      cases r with
      | cons b u => exact .cons (nkey_is I a b) (nkeys_is I t u)
end
/-- all keys of the entries are there -/
def KeysAt (K : PySem.W.Frag) (H : Hp) (xs : List NEnt) : Prop := ∀ x ∈ xs, NKey K H (.ref x.2.1) x.1 ∧ x.1.depth ≤ 8
theorem dn_dict (I : Inv X pins σ H s) {a : Addr} {xs : List NEnt} (e : H a = some (dnO X.prog X.w a xs)) (hk : KeysAt X.K H xs) : s.heap.DictOfH (nestedKind X.prog X.w) a xs := by
  obtain ⟨⟨z1, z2, z3⟩, o, es, ep, h1, h2, h3, h4⟩ := dnO_of I.hok e
  exact ⟨o, es, ep, h1, h2, h3, h4, fun x hx => ⟨nkey_is I (hk x hx).1 rfl, (hk x hx).2⟩, z3⟩
variable {A : Around} {E : Value → Shared → Prop} {a b : Addr} {xs : List NEnt} {k : NestedKey} {u r : Value}
theorem room8 (hu : A.units + 64 < cLine) : (nestedKind X.prog X.w).room A.in1 := by
  show A.units + 1 + 8 < cLine
  omega
theorem n_getItem {Q : Value → Shared → Prop} (hu : A.units + 64 < cLine) (I : Inv X pins σ H s) (e : H a = some (dnO X.prog X.w a xs)) (hk : KeysAt X.K H xs) (kb : NKey X.K H (.ref b) k) (kd : k.depth ≤ 8) {p : Addr × Value} (hp : atKey xs k = some p)
    (h : ∀ s', Inv X pins σ H s' → Q p.2 s') : wpAny (model X.prog X.w) A (getItem (.ref a) (.ref b)) Q E s :=
  wpAny_getItem_heap (knd := nestedKind X.prog X.w) (room8 hu) ⟨nkey_is I kb rfl, kd⟩ (dn_dict I e hk) hp (h _ (I.tok _))
theorem n_in {Q : Value → Shared → Prop} (hu : A.units + 64 < cLine) (I : Inv X pins σ H s) (e : H a = some (dnO X.prog X.w a xs)) (hk : KeysAt X.K H xs) (kb : NKey X.K H (.ref b) k) (kd : k.depth ≤ 8)
    (h : ∀ s', Inv X pins σ H s' → Q (.bool (atKey xs k).isSome) s') : wpAny (model X.prog X.w) A (compareOp .In (.ref b) (.ref a)) Q E s :=
  wpAny_in_heap (knd := nestedKind X.prog X.w) (room8 hu) ⟨nkey_is I kb rfl, kd⟩ (dnO_of I.hok e).1.2.1 (dn_dict I e hk) (h _ (I.tok _))
theorem n_notIn {Q : Value → Shared → Prop} (hu : A.units + 64 < cLine) (I : Inv X pins σ H s) (e : H a = some (dnO X.prog X.w a xs)) (hk : KeysAt X.K H xs) (kb : NKey X.K H (.ref b) k) (kd : k.depth ≤ 8)
    (h : ∀ s', Inv X pins σ H s' → Q (.bool (!(atKey xs k).isSome)) s') : wpAny (model X.prog X.w) A (compareOp .NotIn (.ref b) (.ref a)) Q E s :=
  wpAny_notIn_heap (knd := nestedKind X.prog X.w) (room8 hu) ⟨nkey_is I kb rfl, kd⟩ (dnO_of I.hok e).1.2.1 (dn_dict I e hk) (h _ (I.tok _))
theorem n_setItem {Q : Unit → Shared → Prop} (hu : A.units + 64 < cLine) (I : Inv X pins σ H s) (e : H a = some (dnO X.prog X.w a xs)) (hk : KeysAt X.K H xs) (kb : NKey X.K H (.ref b) k) (kd : k.depth ≤ 8) (hl : xs.length < sizeLine)
    (h : ∀ s', Inv X pins σ (upd H a (dnO X.prog X.w a (storedH xs k b r))) s' → Q () s') : wpAny (model X.prog X.w) A (setItem (.ref a) (.ref b) r) Q E s := by
  obtain ⟨z1, z2, z3⟩ := (dnO_of I.hok e).1
  refine wpAny_setItem_heap (knd := nestedKind X.prog X.w) (room8 hu) ⟨nkey_is I kb rfl, kd⟩ (dn_dict I e hk) (fun h' hm hs => h _ ?_) z1
  obtain ⟨o, es, ep, h1, h2, h3, h4, h5, h6⟩ := hm
  refine I.write (x := a) (e := a) (by rw [e]; trivial) (.inl rfl) (fun b q hb z => (hs.2 b hb).trans z) ⟨o, h1⟩ (dnO_ok ⟨⟨?_, z2, h6⟩, o, es, ep, h1, h2, h3, h4⟩)
  unfold storedH
  split
  · rw [List.length_map]; exact z1
  · rw [List.length_append]; exact hl
end
section
variable {X : Cx} {pos : Pos}
theorem dn_empty {P : Program} {w : World} (h : Heap) (hb : sysModules < h.objs.size) : DictN P w h.objs.size [] (h.push { cls := .type "dict", data := .dict #[] }) :=
  ⟨⟨Nat.zero_le _, beq_eq_false_iff_ne.mpr (Ne.symm (Nat.ne_of_lt hb)), List.nodup_nil⟩, _, #[], 0, Heap.get?_push_size _ rfl, ⟨rfl, rfl, rfl⟩, rfl, rfl⟩
/-- {} -/
def tDNewN (P : Program) (w : World) : TE := fun _ H Q => ∀ p, H p = none → Q (.ref p) (upd H p (dnO P w p []))
theorem pe_dnewN : PE X (.Dict [] [] pos) (tDNewN X.prog X.w) := ⟨fun pins s σ H Q I h =>
  wpAny_Dict_empty ⟨.ref s.heap.objs.size, _, I.laid (a := s.heap.objs.size) (o := dnO X.prog X.w s.heap.objs.size []) (t' := s.toks) (fun _ _ q => Heap.get?_push_of_some _ q) (Nat.le_refl _) (dnO_ok (dn_empty s.heap I.big)), rfl, h _ (I.hok.fresh (Nat.le_refl _))⟩⟩
end
section
variable {X : Cx} {o i value : Expr} {td ty tv : TE} {pos pos' : Pos}
/-- such a dict, such a key -/
def AtN (X : Cx) (H : Hp) (a : Addr) (y : V) (xs : List NEnt) (k : NestedKey) (b : Addr) : Prop := H a = some (dnO X.prog X.w a xs) ∧ KeysAt X.K H xs ∧ y = .ref b ∧ NKey X.K H (.ref b) k ∧ k.depth ≤ 8
def tDGetN (X : Cx) (td ty : TE) : TE := fun σ H Q => td σ H fun x H1 => ty σ H1 fun y H2 => ∃ a xs k b p v, x = .ref a ∧ AtN X H2 a y xs k b ∧ atKey xs k = some p ∧ RelV v p.2 ∧ Q v H2
def tDInN (X : Cx) (g : Bool → Bool) (ty td : TE) : TE := fun σ H Q => ty σ H fun y H1 => td σ H1 fun x H2 => ∃ a xs k b, x = .ref a ∧ AtN X H2 a y xs k b ∧ Q (.bl (g (atKey xs k).isSome)) H2
def sDPutN (X : Cx) (td ty tv : TE) : TS := fun D σ H => tv σ H fun v H1 => td σ H1 fun x H2 => ty σ H2 fun y H3 => ∃ a xs k b, x = .ref a ∧ AtN X H3 a y xs k b ∧ xs.length < sizeLine ∧ ∀ r, RelV v r → D.nx σ (upd H3 a (dnO X.prog X.w a (storedH xs k b r)))
theorem pe_dgetN (hu : X.A.units + 64 < cLine) (ho : PE X o td) (hi : PE X i ty) (hs : NoSl i) : PE X (.Subscript o i pos) (tDGetN X td ty) := by
  refine ⟨fun pins s σ H Q I h => ?_⟩
  refine subD_of PySem.F.slot_dict_getitem.lookup hs (thn (ho.run pins s σ H _ I h) fun u s1 ⟨x, H1, I1, rx, q1⟩ => thn (hi.run pins s1 σ H1 _ I1 q1) fun iv s2 ⟨y, H2, I2, ry, a, xs, k, b, p, v, ex, ⟨g1, g2, ey, g4, g5⟩, hp, rv, q2⟩ => ?_)
  subst ex ey
  obtain rfl : u = Value.ref a := rx
  obtain rfl : iv = Value.ref b := ry
  exact ⟨(dn_dict I2 g1 g2).typeIs, n_getItem hu I2 g1 g2 g4 g5 hp fun s3 I3 => ⟨v, H2, I3, rv, q2⟩⟩
theorem pc_dinN (hu : X.A.units + 64 < cLine) (hi : PE X i ty) (ho : PE X o td) : PC X .In i o (tDInN X id ty td) := by
  refine ⟨fun pins s σ H Q I h => ?_⟩
  refine thn (hi.run pins s σ H _ I h) fun iv s1 ⟨y, H1, I1, ry, q1⟩ => thn (ho.run pins s1 σ H1 _ I1 q1) fun u s2 ⟨x, H2, I2, rx, a, xs, k, b, ex, ⟨g1, g2, ey, g4, g5⟩, q2⟩ => ?_
  subst ex ey
  obtain rfl : u = Value.ref a := rx
  obtain rfl : iv = Value.ref b := ry
  exact n_in hu I2 g1 g2 g4 g5 fun s3 I3 => ⟨.bl _, H2, I3, rfl, q2⟩
theorem pc_dninN (hu : X.A.units + 64 < cLine) (hi : PE X i ty) (ho : PE X o td) : PC X .NotIn i o (tDInN X not ty td) := by
  refine ⟨fun pins s σ H Q I h => ?_⟩
  refine thn (hi.run pins s σ H _ I h) fun iv s1 ⟨y, H1, I1, ry, q1⟩ => thn (ho.run pins s1 σ H1 _ I1 q1) fun u s2 ⟨x, H2, I2, rx, a, xs, k, b, ex, ⟨g1, g2, ey, g4, g5⟩, q2⟩ => ?_
  subst ex ey
  obtain rfl : u = Value.ref a := rx
  obtain rfl : iv = Value.ref b := ry
  exact n_notIn hu I2 g1 g2 g4 g5 fun s3 I3 => ⟨.bl _, H2, I3, rfl, q2⟩
theorem ps_dputN (hu : X.A.units + 64 < cLine) (ho : PE X o td) (hi : PE X i ty) (hv : PE X value tv) (hs : swapsWith value (some (.Subscript o i pos')) pos.line X.env = pure false) :
    PS X (.Assign [.Subscript o i pos'] value pos) (sDPutN X td ty tv) := by
  refine ⟨fun pins s σ H D I h => ?_⟩
  refine wpAny_Assign_Subscript (thn (hv.run pins s σ H _ I h) fun r s1 ⟨v, H1, I1, rv, q1⟩ => thn (ho.run pins s1 σ H1 _ I1 q1) fun u s2 ⟨x, H2, I2, rx, q2⟩ => thn (hi.run pins s2 σ H2 _ I2 q2) fun iv s3 ⟨y, H3, I3, ry, a, xs, k, b, ex, ⟨g1, g2, ey, g4, g5⟩, hl, q3⟩ => ?_) hs
  subst ex ey
  obtain rfl : u = Value.ref a := rx
  obtain rfl : iv = Value.ref b := ry
  exact n_setItem hu I3 g1 g2 g4 g5 hl fun s4 I4 => ⟨σ, _, I4, q3 r rv⟩
end
/-! tuples made here: the object is known -/
section
variable {X : Cx} {es : List Expr} {t : TA} {pos : Pos}
/-- a tuple whose object has no dict of its own -/
def TupK (K : PySem.W.Frag) (H : Hp) (a : Addr) (xs : List V) : Prop := (∃ o, o.dict = none ∧ o.cls = .type "tuple" ∧ H a = some (.frz o (.tup xs))) ∨ (SqT K (fun _ => none) a xs ∧ ∃ o, K.lookup a = some o ∧ o.cls = .type "tuple" ∧ o.dict = none)
def tTupK (t : TA) : TE := fun σ H Q => t σ H fun xs H1 => xs.length ≤ sizeLine ∧ ∀ p o, H1 p = none → o.dict = none → o.cls = .type "tuple" → Q (.ref p) (upd H1 p (.frz o (.tup xs)))
theorem pe_tupK {x1} (h : PA X es t) : PE X (.Tuple es x1 pos) (tTupK t) := by
  refine ⟨fun pins s σ H Q I hq => ?_⟩
  refine wpAny_Tuple_spliced (thn (h.run pos pins s σ H _ I hq) fun us s1 ⟨xs, H1, I1, r, z, q⟩ => ⟨by rw [← r.length]; exact z, ?_⟩)
  have hf : H1 s1.heap.objs.size = none := I1.hok.fresh (Nat.le_refl _)
  refine ⟨.ref s1.heap.objs.size, _, I1.laid (o := .frz _ (.tup xs)) (t' := s1.toks) (fun b u e => Heap.get?_push_of_some _ e) (Nat.le_refl _) ⟨Heap.get?_push_size _ rfl, ?_⟩, rfl, q _ _ hf rfl rfl⟩
  exact ⟨z, us, r, ⟨_, Heap.get?_push_size _ rfl, rfl, _, rfl⟩⟩
theorem TupK.sq {K : PySem.W.Frag} {H : Hp} {a : Addr} {xs : List V} (h : TupK K H a xs) : SqT K H a xs := by
  rcases h with ⟨o, _, _, e⟩ | ⟨h, _⟩
  · exact .inl (.inr ⟨o, e⟩)
  · rcases h with (h | ⟨_, h⟩) | h
    · cases h
    · cases h
    · exact .inr h
end
end DL

set_option Elab.async false
set_option linter.all false
set_option maxRecDepth 100000
/-! DL: a data layer over HandS. A def's body is mirrored by a function of plain data (PyData); one rule a construct says that the code does what the mirror does. -/
namespace DL
open PySem PySem.Spec L2
open PyProof.Rows hiding St

abbrev Dt := PyData
structure Ex where
  cls : Str
  fs : List (Str × Dt)
/-- what is known of a slot: nothing; a value that nobody changes; a list or dict that this body alone holds; the caught exception -/
inductive Sl where
  | un
  | va (d : Dt)
  | ml (ds : List Dt)
  | md (kvs : List (Key × Dt))
  | mn (kvs : List (NestedKey × Dt))
  | ex (x : Ex)
def Sl.own : Sl → Bool
  | .ml _ => true
  | .md _ => true
  | .mn _ => true
  | _ => false
abbrev Rho := List Sl
inductive Rs (α : Type) where
  | ok (a : α) (ρ : Rho)
  | er (x : Ex) (ρ : Rho)
  | no
abbrev Mo (α : Type) := Rho → Rs α
/-- what a def's body is entered with -/
structure Cd where
  K : PySem.W.Frag
  H0 : Hp
  F0 : Hp
  xr : Ex → Value → Option Addr → Hp → Prop
  px : Addr → Ex → Prop
  P : Program
  w : World
  cv : Array Value → NestedKey → Option Int

theorem sameT {K : PySem.W.Frag} {H H' : Hp} {a : Addr} {xs : List V} (e : Same H H') (h : SqT K H a xs) : SqT K H' a xs := by
  rcases h with (h | ⟨o, h⟩) | h
  · exact .inl (.inl (e _ _ h))
  · exact .inl (.inr ⟨o, e _ _ h⟩)
  · exact .inr h
/-- a form: a tuple of five whole numbers whose object is known -/
abbrev fmD (a b c d e : Int) : Dt := .dict [(.bool true, .tuple [.int a, .int b, .int c, .int d, .int e])]
/-- a web: what it was made of -/
structure Wb where
  rows : List Str
  a : Int
  b : Int
  c : Int
  d : Int
  e : Int
  s : Int
  t : Int
  n : Int
  m : Int
  st : List Int
def encW (W : Wb) : Array Value := (W.rows.map (fun x => Value.str x 0) ++ Value.none :: ([W.a, W.b, W.c, W.d, W.e, W.s, W.t, W.n, W.m] ++ W.st).map (fun i => Value.int i 0)).toArray
abbrev webD (W : Wb) : Dt := .dict [(.str (Str.ofString "Web"), .list [.list (W.rows.map .str), fmD W.a W.b W.c W.d W.e, .tuple [.tuple [.int W.s, .int W.t], .tuple [.int W.n, .int W.m]], .list (W.st.map .int)])]
/-- the fields of a web -/
structure WebAt (K : PySem.W.Frag) (H : Hp) (W : Wb) (r f h h1 h2 st cd : Addr) : Prop where
  r : H r = some (.lst (W.rows.map V.str))
  f : TupK K H f [.int W.a, .int W.b, .int W.c, .int W.d, .int W.e]
  h : SqT K H h [.ref h1, .ref h2]
  h1 : SqT K H h1 [.int W.s, .int W.t]
  h2 : SqT K H h2 [.int W.n, .int W.m]
  st : H st = some (.lst (W.st.map V.int))
  tb : H cd = some (.tbl (encW W))
theorem tupkMono {K : PySem.W.Frag} {H H' : Hp} {a : Addr} {xs : List V} (e : Same H H') (h : TupK K H a xs) : TupK K H' a xs := by
  rcases h with ⟨o, z1, z2, h⟩ | h
  · exact .inl ⟨o, z1, z2, e _ _ h⟩
  · exact .inr h
theorem WebAt.mono {K : PySem.W.Frag} {H H' : Hp} {W : Wb} {r f h h1 h2 st cd : Addr} (e : Same H H') (z : WebAt K H W r f h h1 h2 st cd) : WebAt K H' W r f h h1 h2 st cd :=
  ⟨e _ _ z.r, tupkMono e z.f, sameT e z.h, sameT e z.h1, sameT e z.h2, e _ _ z.st, e _ _ z.tb⟩
mutual
/-- a value stands for data: lists that H tracks, tuples -/
inductive Rp (K : PySem.W.Frag) (H : Hp) : V → PyData → Prop
  | non : Rp K H .non .none
  | bl (b : Bool) : Rp K H (.bl b) (.bool b)
  | int (i : Int) : Rp K H (.int i) (.int i)
  | str (x : Str) : Rp K H (.str x) (.str x)
  | lst {a : Addr} {xs : List V} {ds : List PyData} (e : H a = some (.lst xs)) (r : RpA K H xs ds) : Rp K H (.ref a) (.list ds)
  | scr {a : Addr} {ns : List Int} (e : SqL K H a (ns.map V.int)) : Rp K H (.ref a) (.dict [(.none, .list (ns.map .int))])
  | tup {a : Addr} {xs : List V} {ds : List PyData} (e : SqT K H a xs) (r : RpA K H xs ds) : Rp K H (.ref a) (.tuple ds)
  | frm {p : Addr} {a b c d e : Int} (z : TupK K H p [.int a, .int b, .int c, .int d, .int e]) : Rp K H (.ref p) (fmD a b c d e)
  | web {p C dx : Addr} {W : Wb} {r f h h1 h2 st cd : Addr} (z : H p = some (.ins C dx [("rows", .ref r), ("form", .ref f), ("hand", .ref h), ("stretches", .ref st), ("counts", .ref cd)])) (y : WebAt K H W r f h h1 h2 st cd) (hC : PySem.W.nsIn K mainGlobals "Web" = some (some (.ref C))) : Rp K H (.ref p) (webD W)
inductive RpA (K : PySem.W.Frag) (H : Hp) : List V → List PyData → Prop
  | nil : RpA K H [] []
  | cons {v : V} {vs : List V} {d : PyData} {ds : List PyData} (a : Rp K H v d) (t : RpA K H vs ds) : RpA K H (v :: vs) (d :: ds)
end
mutual
theorem Rp.dp {K : PySem.W.Frag} {H : Hp} : ∀ {d : PyData} {v : V}, d.plain = true → Rp K H v d → Dp K H v d
  | .none, _, _, h => by cases h; exact .non
  | .bool b, _, _, h => by cases h; exact .bl b
  | .int i, _, _, h => by cases h; exact .int i
  | .str x, _, _, h => by cases h; exact .str x
  | .list ds, _, p, h => by
    cases h with
    | lst a b => exact .lst (SqL.of a) (RpA.dp (by simpa [PyData.plain] using p) b)
  | .tuple ds, _, p, h => by
    cases h with
    | tup a b => exact .tup a (RpA.dp (by simpa [PyData.plain] using p) b)
  | .dict _, _, p, _ => by simp [PyData.plain] at p
theorem RpA.dp {K : PySem.W.Frag} {H : Hp} : ∀ {ds : List PyData} {vs : List V}, PyData.plainAll ds = true → RpA K H vs ds → DpAll K H vs ds
  | [], _, _, h => by cases h; exact .nil
  | d :: ds, _, p, h => by
    have p' : d.plain = true ∧ PyData.plainAll ds = true := by simpa [PyData.plainAll] using p
    cases h with
    | cons a b => exact .cons (Rp.dp p'.1 a) (RpA.dp p'.2 b)
end
theorem rdMono {H H' : Hp} {a : Addr} {u : HO} (e : Same H H') (h : Rd H a u) : Rd H' a u := by
  rcases h with h | ⟨o, h⟩
  · exact .inl (e _ _ h)
  · exact .inr ⟨o, e _ _ h⟩
mutual
theorem rpMono {K : PySem.W.Frag} {H H' : Hp} (e : Same H H') : ∀ {d : Dt} {v : V}, Rp K H v d → Rp K H' v d
  | .none, _, h => by cases h; exact .non
  | .bool b, _, h => by cases h; exact .bl b
  | .int i, _, h => by cases h; exact .int i
  | .str x, _, h => by cases h; exact .str x
  | .list ds, _, h => by
    cases h with
    | lst a b => exact .lst (e _ _ a) (rpaMono e b)
  | .tuple ds, _, h => by
    cases h with
    | tup a b => exact .tup (sameT e a) (rpaMono e b)
  | .dict _, _, h => by
    cases h with
    | scr a => exact .scr (e.seq a)
    | frm z => exact .frm (tupkMono e z)
    | web z y hC => exact .web (e _ _ z) (y.mono e) hC
theorem rpaMono {K : PySem.W.Frag} {H H' : Hp} (e : Same H H') : ∀ {ds : List Dt} {vs : List V}, RpA K H vs ds → RpA K H' vs ds
  | [], _, h => by cases h; exact .nil
  | d :: ds, _, h => by
    cases h with
    | cons a b => exact .cons (rpMono e a) (rpaMono e b)
end
theorem RpA.len {K : PySem.W.Frag} {H : Hp} : ∀ {vs : List V} {ds : List Dt}, RpA K H vs ds → vs.length = ds.length
  | _, _, .nil => rfl
  | _, _, .cons _ t => congrArg (· + 1) (RpA.len t)
theorem RpA.get {K : PySem.W.Frag} {H : Hp} : ∀ {vs : List V} {ds : List Dt} {i : Nat} {d : Dt}, RpA K H vs ds → ds[i]? = some d → ∃ v, vs[i]? = some v ∧ Rp K H v d
  | _, _, _, _, .nil, e => by simp at e
  | _, _, 0, _, .cons a _, e => by simp at e; subst e; exact ⟨_, rfl, a⟩
  | _, _, i + 1, _, .cons _ t, e => by
    obtain ⟨v, h1, h2⟩ := RpA.get (i := i) t (by simpa using e)
    exact ⟨v, by simpa using h1, h2⟩
theorem RpA.getV {K : PySem.W.Frag} {H : Hp} : ∀ {vs : List V} {ds : List Dt} {i : Nat} {v : V}, RpA K H vs ds → vs[i]? = some v → ∃ d, ds[i]? = some d ∧ Rp K H v d
  | _, _, _, _, .nil, e => by simp at e
  | _, _, 0, _, .cons a _, e => by simp at e; subst e; exact ⟨_, rfl, a⟩
  | _, _, i + 1, _, .cons _ t, e => by
    obtain ⟨v, h1, h2⟩ := RpA.getV (i := i) t (by simpa using e)
    exact ⟨v, by simpa using h1, h2⟩
theorem RpA.app {K : PySem.W.Frag} {H : Hp} : ∀ {vs ws : List V} {ds es : List Dt}, RpA K H vs ds → RpA K H ws es → RpA K H (vs ++ ws) (ds ++ es)
  | _, _, _, _, .nil, s => s
  | _, _, _, _, .cons a t, s => .cons a (RpA.app t s)
theorem RpA.take {K : PySem.W.Frag} {H : Hp} : ∀ {vs : List V} {ds : List Dt} (n : Nat), RpA K H vs ds → RpA K H (vs.take n) (ds.take n)
  | _, _, 0, _ => .nil
  | _, _, _ + 1, .nil => .nil
  | _, _, n + 1, .cons a t => .cons a (RpA.take n t)
theorem RpA.drop {K : PySem.W.Frag} {H : Hp} : ∀ {vs : List V} {ds : List Dt} (n : Nat), RpA K H vs ds → RpA K H (vs.drop n) (ds.drop n)
  | _, _, 0, r => r
  | _, _, _ + 1, .nil => .nil
  | _, _, n + 1, .cons _ t => RpA.drop n t
theorem RpA.set {K : PySem.W.Frag} {H : Hp} {v : V} {d : Dt} (r : Rp K H v d) : ∀ {vs : List V} {ds : List Dt} (i : Nat), RpA K H vs ds → RpA K H (vs.set i v) (ds.set i d)
  | _, _, _, .nil => .nil
  | _, _, 0, .cons _ t => .cons r t
  | _, _, i + 1, .cons q t => .cons q (RpA.set r i t)
theorem RpA.erase {K : PySem.W.Frag} {H : Hp} : ∀ {vs : List V} {ds : List Dt} (i : Nat), RpA K H vs ds → RpA K H (vs.eraseIdx i) (ds.eraseIdx i)
  | _, _, _, .nil => .nil
  | _, _, 0, .cons _ t => t
  | _, _, i + 1, .cons q t => .cons q (RpA.erase i t)
theorem RpA.ints {K : PySem.W.Frag} {H : Hp} : ∀ {vs : List V} {ns : List Int}, RpA K H vs (ns.map .int) → vs = ns.map V.int
  | _, [], .nil => rfl
  | _, n :: ns, .cons a t => by cases a; rw [RpA.ints t]; rfl
theorem RpA.ofInts {K : PySem.W.Frag} {H : Hp} : ∀ (ns : List Int), RpA K H (ns.map V.int) (ns.map .int)
  | [] => .nil
  | n :: ns => .cons (.int n) (RpA.ofInts ns)
theorem RpA.strs {K : PySem.W.Frag} {H : Hp} : ∀ {vs : List V} {ns : List Str}, RpA K H vs (ns.map .str) → vs = ns.map V.str
  | _, [], .nil => rfl
  | _, n :: ns, .cons a t => by cases a; rw [RpA.strs t]; rfl
theorem RpA.bools {K : PySem.W.Frag} {H : Hp} : ∀ {vs : List V} {ns : List Bool}, RpA K H vs (ns.map .bool) → vs = ns.map V.bl
  | _, [], .nil => rfl
  | _, n :: ns, .cons a t => by cases a; rw [RpA.bools t]; rfl

abbrev KvAll (K : PySem.W.Frag) (F : Hp) : List (Key × V) → List (Key × Dt) → Prop := Paired fun p q => p.1 = q.1 ∧ Rp K F p.2 q.2
theorem KvAll.mono {K : PySem.W.Frag} {F F' : Hp} (e : Same F F') {a : List (Key × V)} {b : List (Key × Dt)} (h : KvAll K F a b) : KvAll K F' a b := Paired.mapP h fun _ _ r => ⟨r.1, rpMono e r.2⟩

/-- an entry stands for a key and data -/
def NvOk (K : PySem.W.Frag) (F : Hp) (x : NEnt) (q : NestedKey × Dt) : Prop := x.1 = q.1 ∧ x.1.depth ≤ 8 ∧ Rp K F (.ref x.2.1) x.1.data ∧ NKey K F (.ref x.2.1) x.1 ∧ ∃ v, RelV v x.2.2 ∧ Rp K F v q.2
abbrev NvAll (K : PySem.W.Frag) (F : Hp) : List NEnt → List (NestedKey × Dt) → Prop := Paired (NvOk K F)
mutual
theorem nkeyMono {K : PySem.W.Frag} {H H' : Hp} (e : Same H H') : ∀ {k : NestedKey} {v : V}, NKey K H v k → NKey K H' v k
  | .none, _, h => by cases h; exact .non
  | .num i, _, h => by cases h; exact .int i
  | .text x, _, h => by cases h; exact .str x
  | .tup ks, _, h => by
    cases h with
    | tup a r => exact .tup (sameT e a) (nkeysMono e r)
theorem nkeysMono {K : PySem.W.Frag} {H H' : Hp} (e : Same H H') : ∀ {ks : List NestedKey} {vs : List V}, NKeys K H vs ks → NKeys K H' vs ks
  | [], _, h => by cases h; exact .nil
  | k :: ks, _, h => by
    cases h with
    | cons a t => exact .cons (nkeyMono e a) (nkeysMono e t)
end
theorem NvOk.mono {K : PySem.W.Frag} {F F' : Hp} (e : Same F F') {x : NEnt} {q : NestedKey × Dt} (h : NvOk K F x q) : NvOk K F' x q := by
  obtain ⟨h1, h2, h3, h4, v, h5, h6⟩ := h
  exact ⟨h1, h2, rpMono e h3, nkeyMono e h4, v, h5, rpMono e h6⟩
theorem NvAll.mono {K : PySem.W.Frag} {F F' : Hp} (e : Same F F') {a : List NEnt} {b : List (NestedKey × Dt)} (h : NvAll K F a b) : NvAll K F' a b := Paired.mapP h fun _ _ r => r.mono e
/-- no mark of a cache -/
def NoM : HO → Prop
  | .tbl _ => False
  | _ => True
/-- a cache holds what it is to hold -/
def CacheOk (K : PySem.W.Frag) (cv : Array Value → NestedKey → Option Int) (F : Hp) (ps : Array Value) (xs : List NEnt) : Prop := ∀ x ∈ xs, NKey K F (.ref x.2.1) x.1 ∧ x.1.depth ≤ 8 ∧ ∃ i t, x.2.2 = Value.int i t ∧ cv ps x.1 = some i
theorem CacheOk.mono {K : PySem.W.Frag} {cv : Array Value → NestedKey → Option Int} {F F' : Hp} {ps : Array Value} {xs : List NEnt} (e : Same F F') (h : CacheOk K cv F ps xs) : CacheOk K cv F' ps xs := fun x hx => ⟨nkeyMono e (h x hx).1, (h x hx).2⟩
/-- what is frozen stands; caches are right -/
structure Sub (K : PySem.W.Frag) (P : Program) (w : World) (cv : Array Value → NestedKey → Option Int) (F H : Hp) : Prop where
  at' : ∀ b o, F b = some o → NoM o → H b = some o
  ca : ∀ b ps, F b = some (.tbl ps) → ∃ xs, H b = some (dnO P w b xs) ∧ CacheOk K cv F ps xs
def SubL (F H : Hp) : Prop := ∀ b o, F b = some o → NoM o → H b = some o
theorem SubL.pre {F F1 H : Hp} (s : Same F F1) (h : SubL F1 H) : SubL F H := fun b o e n => h b o (s b o e) n
theorem SubL.lst {F H : Hp} {a : Addr} {xs : List V} (h : SubL F H) (e : F a = some (.lst xs)) : H a = some (.lst xs) := h _ _ e trivial
theorem SubL.sqT {K : PySem.W.Frag} {F H : Hp} {a : Addr} {xs : List V} (h : SubL F H) (e : SqT K F a xs) : SqT K H a xs := by
  rcases e with (e | ⟨o, e⟩) | e
  · exact .inl (.inl (h _ _ e trivial))
  · exact .inl (.inr ⟨o, h _ _ e trivial⟩)
  · exact .inr e
theorem SubL.sqL {K : PySem.W.Frag} {F H : Hp} {a : Addr} {xs : List V} (h : SubL F H) (e : SqL K F a xs) : SqL K H a xs := by
  rcases e with (e | ⟨o, e⟩) | e
  · exact .inl (.inl (h _ _ e trivial))
  · exact .inl (.inr ⟨o, h _ _ e trivial⟩)
  · exact .inr e
theorem Sub.l {K : PySem.W.Frag} {P : Program} {w : World} {cv : Array Value → NestedKey → Option Int} {F H : Hp} (h : Sub K P w cv F H) : SubL F H := h.at'
/-- H' goes on from H: all is kept but the caches -/
structure SameM (F H H' : Hp) : Prop where
  kp : ∀ b o, H b = some o → ((∀ φ, o ≠ .ext φ) ∨ F b = none) → H' b = some o
  al : ∀ b o, H b = some o → ∃ o', H' b = some o'
section
variable {K : PySem.W.Frag} {P : Program} {w : World} {cv : Array Value → NestedKey → Option Int} {F F' F1 H H' H1 H2 : Hp} {a : Addr} {xs : List V}
theorem SameM.refl : SameM F H H := ⟨fun _ _ e _ => e, fun _ o e => ⟨o, e⟩⟩
theorem SameM.free (h : SameM F H H') (e : H' a = none) : H a = none := by
  cases q : H a with
  | none => rfl
  | some o => obtain ⟨o', q'⟩ := h.al a o q; rw [e] at q'; cases q'
theorem _root_.L2.Same.m (h : Same H H') : SameM F H H' := ⟨fun b o e _ => h b o e, fun b o e => ⟨o, h b o e⟩⟩
theorem SameM.trans (a : SameM F H H1) (n : ∀ b o, F1 b = some o → F b = some o ∨ H b = none) (b : SameM F1 H1 H2) : SameM F H H2 := by
  refine ⟨fun x o e q => ?_, fun x o e => ?_⟩
  · refine b.kp x o (a.kp x o e q) ?_
    rcases q with q | q
    · exact .inl q
    · refine .inr ?_
      cases z : F1 x with
      | none => rfl
      | some u =>
        rcases n x u z with y | y
        · rw [q] at y; cases y
        · rw [e] at y; cases y
  · obtain ⟨o1, e1⟩ := a.al x o e
    exact b.al x o1 e1
theorem SameM.up (s : Same F F') (h : SameM F H H') : SameM F' H H' := ⟨fun b o e q => h.kp b o e (q.imp id s.free), h.al⟩
theorem SameM.down (n : ∀ b o, F' b = some o → F b = some o ∨ H b = none) (h : SameM F' H H') : SameM F H H' := by
  refine ⟨fun b o e q => h.kp b o e (q.imp id fun q => ?_), h.al⟩
  cases z : F' b with
  | none => rfl
  | some u =>
    rcases n b u z with y | y
    · rw [q] at y; cases y
    · rw [e] at y; cases y
theorem SameM.upd {p : Addr} {o : HO} (h : SameM F H H') (n : H p = none) : SameM F H (upd H' p o) := by
  refine ⟨fun b z e q => ?_, fun b z e => ?_⟩
  · rw [upd_ne (ne_of_none e n)]; exact h.kp b z e q
  · rw [upd_ne (ne_of_none e n)]; exact h.al b z e
theorem SameM.lst (h : SameM F H H') (e : H a = some (.lst xs)) : H' a = some (.lst xs) := h.kp _ _ e (.inl fun _ q => nomatch q)
theorem SameM.dK (h : SameM F H H') {kvs : List (Key × V)} (e : H a = some (.dK kvs)) : H' a = some (.dK kvs) := h.kp _ _ e (.inl fun _ q => nomatch q)
theorem SameM.xd (h : SameM F H H') {kvs : List (Str × V)} (e : H a = some (.xd kvs)) : H' a = some (.xd kvs) := h.kp _ _ e (.inl fun _ q => nomatch q)
theorem Sub.lst (h : Sub K P w cv F H) (e : F a = some (.lst xs)) : H a = some (.lst xs) := h.at' _ _ e trivial
theorem Sub.free (h : Sub K P w cv F H) (e : H a = none) : F a = none := by
  cases q : F a with
  | none => rfl
  | some o =>
    by_cases z : ∃ ps, o = .tbl ps
    · obtain ⟨ps, rfl⟩ := z
      obtain ⟨ys, y, _⟩ := h.ca a ps q
      rw [e] at y; cases y
    · have : H a = some o := h.at' a o q (by cases o <;> first | trivial | exact absurd ⟨_, rfl⟩ z)
      rw [e] at this; cases this
theorem Sub.sqT (h : Sub K P w cv F H) (e : SqT K F a xs) : SqT K H a xs := by
  rcases e with (e | ⟨o, e⟩) | e
  · exact .inl (.inl (h.at' _ _ e trivial))
  · exact .inl (.inr ⟨o, h.at' _ _ e trivial⟩)
  · exact .inr e
theorem Sub.sqL (h : Sub K P w cv F H) (e : SqL K F a xs) : SqL K H a xs := by
  rcases e with (e | ⟨o, e⟩) | e
  · exact .inl (.inl (h.at' _ _ e trivial))
  · exact .inl (.inr ⟨o, h.at' _ _ e trivial⟩)
  · exact .inr e
mutual
theorem nkeySub (e : Sub K P w cv F H) : ∀ {k : NestedKey} {v : V}, NKey K F v k → NKey K H v k
  | .none, _, h => by cases h; exact .non
  | .num i, _, h => by cases h; exact .int i
  | .text x, _, h => by cases h; exact .str x
  | .tup ks, _, h => by
    cases h with
    | tup a r => exact .tup (e.sqT a) (nkeysSub e r)
theorem nkeysSub (e : Sub K P w cv F H) : ∀ {ks : List NestedKey} {vs : List V}, NKeys K F vs ks → NKeys K H vs ks
  | [], _, h => by cases h; exact .nil
  | k :: ks, _, h => by
    cases h with
    | cons a t => exact .cons (nkeySub e a) (nkeysSub e t)
end
mutual
/-- plain data stand as well where what is frozen does -/
theorem rpSub (e : Sub K P w cv F H) : ∀ {d : Dt} {v : V}, d.plain = true → Rp K F v d → Rp K H v d
  | .none, _, _, h => by cases h; exact .non
  | .bool b, _, _, h => by cases h; exact .bl b
  | .int i, _, _, h => by cases h; exact .int i
  | .str x, _, _, h => by cases h; exact .str x
  | .list ds, _, p, h => by
    cases h with
    | lst a b => exact .lst (e.lst a) (rpaSub e (by simpa [PyData.plain] using p) b)
  | .tuple ds, _, p, h => by
    cases h with
    | tup a b => exact .tup (e.sqT a) (rpaSub e (by simpa [PyData.plain] using p) b)
  | .dict _, _, p, _ => by simp [PyData.plain] at p
theorem rpaSub (e : Sub K P w cv F H) : ∀ {ds : List Dt} {vs : List V}, PyData.plainAll ds = true → RpA K F vs ds → RpA K H vs ds
  | [], _, _, h => by cases h; exact .nil
  | d :: ds, _, p, h => by
    have p' : d.plain = true ∧ PyData.plainAll ds = true := by simpa [PyData.plainAll] using p
    cases h with
    | cons a b => exact .cons (rpSub e p'.1 a) (rpaSub e p'.2 b)
end
end
/-- a slot's word -/
def SlOk (c : Cd) (F H : Hp) (o : Option (Option V)) : Sl → Prop
  | .un => True
  | .va d => ∃ v, o = some (some v) ∧ Rp c.K F v d
  | .ml ds => ∃ a vs, o = some (some (.ref a)) ∧ F a = none ∧ c.H0 a = none ∧ H a = some (.lst vs) ∧ RpA c.K F vs ds
  | .ex x => ∃ a, o = some (some (.ref a)) ∧ c.px a x
  | .md kvs => ∃ a ks, o = some (some (.ref a)) ∧ F a = none ∧ c.H0 a = none ∧ H a = some (.dK ks) ∧ KvAll c.K F ks kvs
  | .mn kvs => ∃ a xs, o = some (some (.ref a)) ∧ F a = none ∧ c.H0 a = none ∧ H a = some (dnO c.P c.w a xs) ∧ NvAll c.K F xs kvs
/-- p is no slot's own object -/
def Free (ρ : Rho) (σ : St) (p : Addr) : Prop := ∀ (j : Nat) t, ρ[j]? = some t → t.own = true → σ[j]? ≠ some (some (.ref p))
structure Holds (c : Cd) (ρ : Rho) (F : Hp) (σ : St) (H : Hp) : Prop where
  base : SameM c.F0 c.H0 H
  f0 : Same c.F0 F
  sub : Sub c.K c.P c.w c.cv F H
  new : ∀ b o, F b = some o → c.F0 b = some o ∨ c.H0 b = none
  len : ρ.length = σ.length
  sl : ∀ (i : Nat) s, ρ[i]? = some s → SlOk c F H σ[i]? s
  ap : ∀ (i j : Nat) s t a, ρ[i]? = some s → ρ[j]? = some t → s.own = true → t.own = true → σ[i]? = some (some (.ref a)) → σ[j]? = some (some (.ref a)) → i = j

theorem same_upd {H : Hp} {p : Addr} {o : HO} (h : H p = none) : Same H (upd H p o) := fun b x e => by
  rw [upd_ne (ne_of_none e h)]
  exact e
section
variable {K : PySem.W.Frag} {P : Program} {w : World} {cv : Array Value → NestedKey → Option Int} {F H : Hp} {p : Addr} {o : HO}
theorem Sub.alloc (h : Sub K P w cv F H) (hp : H p = none) (hn : NoM o) : Sub K P w cv (upd F p o) (upd H p o) := by
  have sF := same_upd (o := o) (h.free hp)
  refine ⟨fun b z e y => ?_, fun b ps e => ?_⟩
  · by_cases q : b = p
    · subst q; rw [upd_same] at e ⊢; exact e
    · rw [upd_ne q] at e ⊢; exact h.at' _ _ e y
  · by_cases q : b = p
    · subst q; rw [upd_same] at e; cases e; exact hn.elim
    · rw [upd_ne q] at e ⊢
      obtain ⟨xs, z1, z2⟩ := h.ca b ps e
      exact ⟨xs, z1, z2.mono sF⟩
theorem Sub.allocN (h : Sub K P w cv F H) (hp : H p = none) : Sub K P w cv F (upd H p o) := by
  refine ⟨fun b z e y => ?_, fun b ps e => ?_⟩
  · have := h.at' _ _ e y
    rw [upd_ne (ne_of_none this hp)]; exact this
  · obtain ⟨xs, z1, z2⟩ := h.ca b ps e
    exact ⟨xs, by rw [upd_ne (ne_of_none z1 hp)]; exact z1, z2⟩
/-- what is nobody's is written -/
theorem Sub.write (h : Sub K P w cv F H) (hp : F p = none) : Sub K P w cv F (upd H p o) := by
  refine ⟨fun b z e y => ?_, fun b ps e => ?_⟩
  · rw [upd_ne (ne_of_none e hp)]; exact h.at' _ _ e y
  · obtain ⟨xs, z1, z2⟩ := h.ca b ps e
    exact ⟨xs, by rw [upd_ne (ne_of_none e hp)]; exact z1, z2⟩
/-- something that stands is frozen -/
theorem Sub.freeze (h : Sub K P w cv F H) (hp : H p = some o) (h0 : F p = none) (hn : NoM o) : Sub K P w cv (upd F p o) H := by
  have sF := same_upd (o := o) h0
  refine ⟨fun b z e y => ?_, fun b ps e => ?_⟩
  · by_cases q : b = p
    · subst q; rw [upd_same] at e; cases e; exact hp
    · rw [upd_ne q] at e; exact h.at' _ _ e y
  · by_cases q : b = p
    · subst q; rw [upd_same] at e; cases e; exact hn.elim
    · rw [upd_ne q] at e
      obtain ⟨xs, z1, z2⟩ := h.ca b ps e
      exact ⟨xs, z1, z2.mono sF⟩
end
section
variable {c : Cd} {ρ : Rho} {F H : Hp} {σ : St} {p : Addr} {o : HO}
theorem Holds.h0 (h : Holds c ρ F σ H) (hp : H p = none) : c.H0 p = none := h.base.free hp
theorem Holds.fp (h : Holds c ρ F σ H) (hp : H p = none) : F p = none := h.sub.free hp
/-- an own slot's address stands in H -/
theorem Holds.ownH (h : Holds c ρ F σ H) {j : Nat} {t : Sl} (e : ρ[j]? = some t) (w : t.own = true) : ∃ a u, σ[j]? = some (some (.ref a)) ∧ F a = none ∧ c.H0 a = none ∧ H a = some u := by
  have q := h.sl j t e
  cases t with
  | un => cases w
  | ex x => cases w
  | va d => cases w
  | ml ds => obtain ⟨a, vs, e1, e2, e3, e4, _⟩ := q; exact ⟨a, _, e1, e2, e3, e4⟩
  | md kvs => obtain ⟨a, vs, e1, e2, e3, e4, _⟩ := q; exact ⟨a, _, e1, e2, e3, e4⟩
  | mn kvs => obtain ⟨a, vs, e1, e2, e3, e4, _⟩ := q; exact ⟨a, _, e1, e2, e3, e4⟩
theorem Holds.free (h : Holds c ρ F σ H) (hp : H p = none) : Free ρ σ p := fun j t e w z => by
  obtain ⟨a, u, e1, _, _, e4⟩ := h.ownH e w
  rw [z] at e1
  cases e1
  rw [hp] at e4
  cases e4
/-- the frozen part may grow, and H around the slots' own objects -/
theorem Holds.grow {F' H' : Hp} (h : Holds c ρ F σ H) (fF : Same F F') (hH : SameM F H H') (sub : Sub c.K c.P c.w c.cv F' H') (new : ∀ b o, F' b = some o → F b = some o ∨ H b = none) : Holds c ρ F' σ H' := by
  have nF : ∀ a u, F a = none → H a = some u → F' a = none := fun a u e1 e2 => by
    cases q : F' a with
    | none => rfl
    | some z =>
      rcases new a z q with q | q
      · rw [e1] at q; cases q
      · rw [e2] at q; cases q
  refine ⟨h.base.trans h.new hH, h.f0.trans fF, sub, fun b o e => ?_, h.len, fun i s e => ?_, h.ap⟩
  · rcases new b o e with q | q
    · exact h.new b o q
    · exact .inr (h.h0 q)
  · have q := h.sl i s e
    cases s with
    | un => trivial
    | ex x => exact q
    | va d => obtain ⟨v, e1, e2⟩ := q; exact ⟨v, e1, rpMono fF e2⟩
    | ml ds => obtain ⟨a, vs, e1, e2, e3, e4, e5⟩ := q; exact ⟨a, vs, e1, nF a _ e2 e4, e3, hH.lst e4, rpaMono fF e5⟩
    | md ds => obtain ⟨a, vs, e1, e2, e3, e4, e5⟩ := q; exact ⟨a, vs, e1, nF a _ e2 e4, e3, hH.dK e4, KvAll.mono fF e5⟩
    | mn ds => obtain ⟨a, vs, e1, e2, e3, e4, e5⟩ := q; exact ⟨a, vs, e1, nF a _ e2 e4, e3, hH.kp _ _ e4 (.inr e2), NvAll.mono fF e5⟩
/-- a new object, frozen at once -/
theorem Holds.alloc (h : Holds c ρ F σ H) (hp : H p = none) (hn : NoM o := by trivial) : Holds c ρ (upd F p o) σ (upd H p o) := by
  refine h.grow (same_upd (h.fp hp)) (same_upd hp).m (h.sub.alloc hp hn) (fun b z e => ?_)
  · by_cases q : b = p
    · subst q; exact .inr hp
    · rw [upd_ne q] at e; exact .inl e
/-- a new object that is nobody's yet -/
theorem Holds.allocN (h : Holds c ρ F σ H) (hp : H p = none) : Holds c ρ F σ (upd H p o) :=
  h.grow (Same.refl _) (same_upd hp).m (h.sub.allocN hp) fun b z e => .inl e
/-- a slot is stored -/
theorem Holds.setva {i : Nat} {v : V} {d : Dt} (h : Holds c ρ F σ H) (r : Rp c.K F v d) : Holds c (ρ.set i (.va d)) F (σ.set i (some v)) H := by
  refine ⟨h.base, h.f0, h.sub, h.new, by simp [h.len], fun j s e => ?_, fun j k s t a e1 e2 w1 w2 s1 s2 => ?_⟩
  · by_cases q : i = j
    · subst q
      have hl : i < ρ.length := by
        have := (List.getElem?_eq_some_iff.mp e).1
        simpa using this
      rw [List.getElem?_set_self hl] at e
      cases e
      exact ⟨v, by rw [List.getElem?_set_self (h.len ▸ hl)], r⟩
    · rw [List.getElem?_set_ne q] at e ⊢
      exact h.sl j s e
  · have nj : ∀ (j : Nat) s, (ρ.set i (.va d))[j]? = some s → s.own = true → i ≠ j := fun j s e w z => by
      subst z
      have hl : i < ρ.length := by
        have := (List.getElem?_eq_some_iff.mp e).1
        simpa using this
      rw [List.getElem?_set_self hl] at e
      cases e
      cases w
    have n1 := nj j s e1 w1
    have n2 := nj k t e2 w2
    rw [List.getElem?_set_ne n1] at e1 s1
    rw [List.getElem?_set_ne n2] at e2 s2
    exact h.ap j k s t a e1 e2 w1 w2 s1 s2
/-- a slot takes an object of its own -/
theorem Holds.setown {i : Nat} {s : Sl} (h : Holds c ρ F σ H) (w : s.own = true) (fr : Free ρ σ p) (ok : SlOk c F H (some (some (.ref p))) s) : Holds c (ρ.set i s) F (σ.set i (some (.ref p))) H := by
  refine ⟨h.base, h.f0, h.sub, h.new, by simp [h.len], fun j t e => ?_, fun j k t u a e1 e2 w1 w2 s1 s2 => ?_⟩
  · by_cases q : i = j
    · subst q
      have hl : i < ρ.length := by
        have := (List.getElem?_eq_some_iff.mp e).1
        simpa using this
      rw [List.getElem?_set_self hl] at e
      cases e
      rw [List.getElem?_set_self (h.len ▸ hl)]
      exact ok
    · rw [List.getElem?_set_ne q] at e ⊢
      exact h.sl j t e
  · by_cases q1 : i = j
    · subst q1
      by_cases q2 : i = k
      · exact q2
      · have hl : i < ρ.length := by
          have := (List.getElem?_eq_some_iff.mp e1).1
          simpa using this
        rw [List.getElem?_set_self (h.len ▸ hl)] at s1
        cases s1
        rw [List.getElem?_set_ne q2] at e2 s2
        exact absurd s2 (fr k u e2 w2)
    · by_cases q2 : i = k
      · subst q2
        have hl : i < ρ.length := by
          have := (List.getElem?_eq_some_iff.mp e2).1
          simpa using this
        rw [List.getElem?_set_self (h.len ▸ hl)] at s2
        cases s2
        rw [List.getElem?_set_ne q1] at e1 s1
        exact absurd s1 (fr j t e1 w1)
      · rw [List.getElem?_set_ne q1] at e1 s1
        rw [List.getElem?_set_ne q2] at e2 s2
        exact h.ap j k t u a e1 e2 w1 w2 s1 s2
/-- an own object is written -/
theorem Holds.write {i : Nat} {s s' : Sl} {a : Addr} (h : Holds c ρ F σ H) (e : ρ[i]? = some s) (w : s.own = true) (w' : s'.own = true) (ha : σ[i]? = some (some (.ref a))) (ok : SlOk c F (upd H a o) (some (some (.ref a))) s') : Holds c (ρ.set i s') F σ (upd H a o) := by
  obtain ⟨a', u, e1, e2, e3, e4⟩ := h.ownH e w
  rw [ha] at e1
  cases e1
  have neF : ∀ b z, F b = some z → b ≠ a := fun b z q => ne_of_none q e2
  have hl : i < ρ.length := (List.getElem?_eq_some_iff.mp e).1
  refine ⟨⟨fun b z q y => ?_, fun b z q => ?_⟩, h.f0, h.sub.write e2, h.new, by simp [h.len], fun j t q => ?_, fun j k t u b q1 q2 w1 w2 s1 s2 => ?_⟩
  · rw [upd_ne (ne_of_none q e3)]; exact h.base.kp _ _ q y
  · rw [upd_ne (ne_of_none q e3)]; exact h.base.al _ _ q
  · by_cases q2 : i = j
    · subst q2
      rw [List.getElem?_set_self hl] at q
      cases q
      rw [ha]
      exact ok
    · rw [List.getElem?_set_ne q2] at q
      have z := h.sl j t q
      cases t with
      | un => trivial
      | ex x => exact z
      | va d => exact z
      | ml ds =>
        obtain ⟨b, vs, z1, z2, z3, z4, z5⟩ := z
        have nb : b ≠ a := fun k => q2 (h.ap i j s _ a e q w rfl ha (k ▸ z1))
        exact ⟨b, vs, z1, z2, z3, by rw [upd_ne nb]; exact z4, z5⟩
      | md ds =>
        obtain ⟨b, vs, z1, z2, z3, z4, z5⟩ := z
        have nb : b ≠ a := fun k => q2 (h.ap i j s _ a e q w rfl ha (k ▸ z1))
        exact ⟨b, vs, z1, z2, z3, by rw [upd_ne nb]; exact z4, z5⟩
      | mn ds =>
        obtain ⟨b, vs, z1, z2, z3, z4, z5⟩ := z
        have nb : b ≠ a := fun k => q2 (h.ap i j s _ a e q w rfl ha (k ▸ z1))
        exact ⟨b, vs, z1, z2, z3, by rw [upd_ne nb]; exact z4, z5⟩
  · have back : ∀ (j : Nat) t, (ρ.set i s')[j]? = some t → t.own = true → ∃ t', ρ[j]? = some t' ∧ t'.own = true := fun j t q w => by
      by_cases z : i = j
      · subst z; exact ⟨s, e, by assumption⟩
      · rw [List.getElem?_set_ne z] at q; exact ⟨t, q, w⟩
    obtain ⟨t', q1', w1'⟩ := back j t q1 w1
    obtain ⟨u', q2', w2'⟩ := back k u q2 w2
    exact h.ap j k t' u' b q1' q2' w1' w2' s1 s2
/-- an own list is changed no more -/
theorem Holds.freeze {i : Nat} {ds : List Dt} (h : Holds c ρ F σ H) (e : ρ[i]? = some (.ml ds)) : ∃ a F', σ[i]? = some (some (.ref a)) ∧ Same F F' ∧ Rp c.K F' (.ref a) (.list ds) ∧ Holds c (ρ.set i (.va (.list ds))) F' σ H := by
  obtain ⟨a, vs, e1, e2, e3, e4, e5⟩ := h.sl i _ e
  have sF : Same F (upd F a (.lst vs)) := same_upd e2
  have hl : i < ρ.length := (List.getElem?_eq_some_iff.mp e).1
  have r : Rp c.K (upd F a (.lst vs)) (.ref a) (.list ds) := .lst upd_same (rpaMono sF e5)
  refine ⟨a, _, e1, sF, r, h.base, h.f0.trans sF, h.sub.freeze e4 e2 trivial, fun b z q => ?_, by simp [h.len], fun j t q => ?_, fun j k t u b q1 q2 w1 w2 s1 s2 => ?_⟩
  · by_cases hb : b = a
    · subst hb; exact .inr e3
    · rw [upd_ne hb] at q; exact h.new _ _ q
  · by_cases q2 : i = j
    · subst q2
      rw [List.getElem?_set_self hl] at q
      cases q
      exact ⟨_, e1, r⟩
    · rw [List.getElem?_set_ne q2] at q
      have z := h.sl j t q
      cases t with
      | un => trivial
      | ex x => exact z
      | va d => obtain ⟨v, z1, z2⟩ := z; exact ⟨v, z1, rpMono sF z2⟩
      | ml es =>
        obtain ⟨b, ws, z1, z2, z3, z4, z5⟩ := z
        have nb : b ≠ a := fun k => q2 (h.ap i j _ _ a e q rfl rfl e1 (k ▸ z1))
        exact ⟨b, ws, z1, by rw [upd_ne nb]; exact z2, z3, z4, rpaMono sF z5⟩
      | md es =>
        obtain ⟨b, ws, z1, z2, z3, z4, z5⟩ := z
        have nb : b ≠ a := fun k => q2 (h.ap i j _ _ a e q rfl rfl e1 (k ▸ z1))
        exact ⟨b, ws, z1, by rw [upd_ne nb]; exact z2, z3, z4, KvAll.mono sF z5⟩
      | mn es =>
        obtain ⟨b, ws, z1, z2, z3, z4, z5⟩ := z
        have nb : b ≠ a := fun k => q2 (h.ap i j _ _ a e q rfl rfl e1 (k ▸ z1))
        exact ⟨b, ws, z1, by rw [upd_ne nb]; exact z2, z3, z4, NvAll.mono sF z5⟩
  · have nj : ∀ (j : Nat) s, (ρ.set i (.va (.list ds)))[j]? = some s → s.own = true → i ≠ j := fun j s e w z => by
      subst z
      rw [List.getElem?_set_self hl] at e
      cases e
      cases w
    have n1 := nj j t q1 w1
    have n2 := nj k u q2 w2
    rw [List.getElem?_set_ne n1] at q1
    rw [List.getElem?_set_ne n2] at q2
    exact h.ap j k t u b q1 q2 w1 w2 s1 s2
end
end DL

set_option Elab.async false
set_option linter.all false
set_option maxRecDepth 100000
namespace DL
open PySem PySem.Spec L2
open PyProof.Rows hiding St

/-- a looked-at value: frozen data, or a slot's own list as it is now -/
def RP (c : Cd) (F H : Hp) (v : V) (d : Dt) : Prop := Rp c.K F v d ∨ ∃ a vs ds, v = .ref a ∧ d = .list ds ∧ H a = some (.lst vs) ∧ RpA c.K F vs ds
abbrev RE (c : Cd) (F H : Hp) (v : V) (d : Dt) : Prop := Rp c.K F v d
abbrev Rel := Cd → Hp → Hp → V → Dt → Prop
section
variable {c : Cd} {F F' H H' : Hp} {v : V} {d : Dt}
theorem RP.mono (h : RP c F H v d) (f : Same F F') (g : SameM F H H') : RP c F' H' v d := by
  rcases h with h | ⟨a, vs, ds, e1, e2, e3, e4⟩
  · exact .inl (rpMono f h)
  · exact .inr ⟨a, vs, ds, e1, e2, g.lst e3, rpaMono f e4⟩
abbrev CSub (c : Cd) (F H : Hp) : Prop := Sub c.K c.P c.w c.cv F H
theorem RP.all (h : RP c F H v d) (s : CSub c F H) (p : d.plain = true) : Rp c.K H v d := by
  rcases h with h | ⟨a, vs, ds, rfl, rfl, e3, e4⟩
  · exact rpSub s p h
  · exact .lst e3 (rpaSub s (by simpa [PyData.plain] using p) e4)
theorem RP.lst {ds : List Dt} (h : RP c F H v (.list ds)) (s : CSub c F H) : ∃ a vs, v = .ref a ∧ H a = some (.lst vs) ∧ RpA c.K F vs ds := by
  rcases h with h | ⟨a, vs, ds', rfl, e2, e3, e4⟩
  · cases h with
    | lst e r => exact ⟨_, _, rfl, s.lst e, r⟩
  · cases e2; exact ⟨a, vs, rfl, e3, e4⟩
theorem RP.tup {ds : List Dt} (h : RP c F H v (.tuple ds)) : ∃ a vs, v = .ref a ∧ SqT c.K F a vs ∧ RpA c.K F vs ds := by
  rcases h with h | ⟨a, vs, ds', rfl, e2, e3, e4⟩
  · cases h with
    | tup e r => exact ⟨_, _, rfl, e, r⟩
  · cases e2
theorem RP.int {i : Int} (h : RP c F H v (.int i)) : v = .int i := by
  rcases h with h | ⟨a, vs, ds', rfl, e2, e3, e4⟩
  · cases h; rfl
  · cases e2
theorem RP.str {i : Str} (h : RP c F H v (.str i)) : v = .str i := by
  rcases h with h | ⟨a, vs, ds', rfl, e2, e3, e4⟩
  · cases h; rfl
  · cases e2
theorem RP.bl {i : Bool} (h : RP c F H v (.bool i)) : v = .bl i := by
  rcases h with h | ⟨a, vs, ds', rfl, e2, e3, e4⟩
  · cases h; rfl
  · cases e2
theorem RP.non (h : RP c F H v .none) : v = .non := by
  rcases h with h | ⟨a, vs, ds', rfl, e2, e3, e4⟩
  · cases h; rfl
  · cases e2
/-- the script -/
abbrev scr (ns : List Int) : Dt := .dict [(.none, .list (ns.map .int))]
theorem RP.dict {x : PyData} (h : RP c F H v (.dict [(.none, x)])) : ∃ (a : Addr) (ns : List Int), v = .ref a ∧ x = .list (ns.map .int) ∧ SqL c.K F a (ns.map V.int) := by
  rcases h with h | ⟨a, vs, ds', rfl, e2, e3, e4⟩
  · cases h with
    | scr e => exact ⟨_, _, rfl, rfl, e⟩
  · cases e2
theorem RP.frm {ds : List Dt} (h : RP c F H v (.dict [(.bool true, .tuple ds)])) : ∃ p vs, v = .ref p ∧ TupK c.K F p vs ∧ RpA c.K F vs ds ∧ ∃ a b c d e : Int, ds = [.int a, .int b, .int c, .int d, .int e] ∧ vs = [.int a, .int b, .int c, .int d, .int e] := by
  rcases h with h | ⟨a, vs, ds', rfl, e2, e3, e4⟩
  · cases h with
    | frm z => exact ⟨_, _, rfl, z, .cons (.int _) (.cons (.int _) (.cons (.int _) (.cons (.int _) (.cons (.int _) .nil)))), _, _, _, _, _, rfl, rfl⟩
  · cases e2
theorem RP.none_iff (h : RP c F H v d) : (v = .non) ↔ d = .none := by
  constructor
  · intro e
    subst e
    rcases h with h | ⟨a, vs, ds', e1, e2, e3, e4⟩
    · cases h; rfl
    · cases e1
  · intro e
    subst e
    exact h.non
end

/-- nothing of one's own is changed: H grows, and what is frozen anew is new -/
abbrev NewB (F H F' : Hp) : Prop := ∀ b o, F' b = some o → F b = some o ∨ H b = none
structure Kept (ρ : Rho) (F H : Hp) (ρ' : Rho) (F' H' : Hp) : Prop where
  sH : SameM F H H'
  e : ρ' = ρ
  nw : NewB F H F'
theorem Kept.refl {ρ : Rho} {F H : Hp} : Kept ρ F H ρ F H := ⟨SameM.refl, rfl, fun _ _ q => .inl q⟩
theorem Kept.trans {ρ ρ1 ρ2 : Rho} {F H F1 H1 F2 H2 : Hp} (a : Kept ρ F H ρ1 F1 H1) (b : Kept ρ1 F1 H1 ρ2 F2 H2) : Kept ρ F H ρ2 F2 H2 :=
  ⟨a.sH.trans a.nw b.sH, b.e.trans a.e, fun x o q => by
    rcases b.nw x o q with q | q
    · exact a.nw x o q
    · exact .inr (a.sH.free q)⟩
theorem Kept.alloc {ρ : Rho} {F H : Hp} {p : Addr} {o : HO} (hp : H p = none) : Kept ρ F H ρ (upd F p o) (upd H p o) := ⟨(same_upd hp).m, rfl, fun b z q => by
  by_cases e : b = p
  · subst e; exact .inr hp
  · rw [upd_ne e] at q; exact .inl q⟩
theorem Kept.allocN {ρ : Rho} {F H : Hp} {p : Addr} {o : HO} (hp : H p = none) : Kept ρ F H ρ F (upd H p o) := ⟨(same_upd hp).m, rfl, fun b z q => .inl q⟩
/-- what is wanted where an exception leaves -/
def Lx (c : Cd) (W : WX) (x : Ex) (ρ' : Rho) (F : Hp) (σ : St) : Prop := ∀ cls dd F' H', Same F F' → Holds c ρ' F' σ H' → c.xr x cls dd F' → W cls dd σ H'
theorem Lx.later {c : Cd} {W : WX} {x : Ex} {ρ' : Rho} {F F1 : Hp} {σ : St} (h : Lx c W x ρ' F σ) (s : Same F F1) : Lx c W x ρ' F1 σ := fun cls dd F' H' s' => h cls dd F' H' (s.trans s')
/-- a mirror as a reading of an expression; n: nothing of one's own is changed -/
def lift (R : Rel) (c : Cd) (n : Prop) (W : WX) (m : Mo Dt) : TE := fun σ H Q => ∃ ρ F, Holds c ρ F σ H ∧ match m ρ with
  | .ok d ρ' => ∀ v F' H', Same F F' → (n → Kept ρ F H ρ' F' H') → Holds c ρ' F' σ H' → R c F' H' v d → Q v H'
  | .er x ρ' => Lx c W x ρ' F σ
  | .no => False
/-- .. of a fresh list -/
def liftF (c : Cd) (n : Prop) (W : WX) (m : Mo (List Dt)) : TE := fun σ H Q => ∃ ρ F, Holds c ρ F σ H ∧ match m ρ with
  | .ok ds ρ' => ∀ p vs F' H', Same F F' → (n → Kept ρ F H ρ' F' H' ∧ H p = none) → Holds c ρ' F' σ H' → F' p = none → c.H0 p = none → Free ρ' σ p → H' p = some (.lst vs) → RpA c.K F' vs ds → Q (.ref p) H'
  | .er x ρ' => Lx c W x ρ' F σ
  | .no => False
def liftT (c : Cd) (n : Prop) (W : WX) (m : Mo Bool) : TT := fun σ H Q => ∃ ρ F, Holds c ρ F σ H ∧ match m ρ with
  | .ok b ρ' => ∀ F' H', Same F F' → (n → Kept ρ F H ρ' F' H') → Holds c ρ' F' σ H' → Q b H'
  | .er x ρ' => Lx c W x ρ' F σ
  | .no => False
/-- .. of arguments, all frozen -/
def liftA (c : Cd) (n : Prop) (W : WX) (m : Mo (List Dt)) : TA := fun σ H Q => ∃ ρ F, Holds c ρ F σ H ∧ match m ρ with
  | .ok ds ρ' => ∀ vs F' H', Same F F' → (n → Kept ρ F H ρ' F' H') → Holds c ρ' F' σ H' → RpA c.K F' vs ds → Q vs H'
  | .er x ρ' => Lx c W x ρ' F σ
  | .no => False
/-- .. of arguments that are looked at -/
def liftB (c : Cd) (n : Prop) (W : WX) (m : Mo (List Dt)) : TA := fun σ H Q => ∃ ρ F, Holds c ρ F σ H ∧ match m ρ with
  | .ok ds ρ' => ∀ vs F' H', Same F F' → (n → Kept ρ F H ρ' F' H') → Holds c ρ' F' σ H' → Paired (RP c F' H') vs ds → Q vs H'
  | .er x ρ' => Lx c W x ρ' F σ
  | .no => False
abbrev KE (X : Cx) (c : Cd) (n : Prop) (W : WX) (e : Expr) (m : Mo Dt) : Prop := PE X e (lift RE c n W m)
abbrev KP (X : Cx) (c : Cd) (n : Prop) (W : WX) (e : Expr) (m : Mo Dt) : Prop := PE X e (lift RP c n W m)
abbrev KF (X : Cx) (c : Cd) (n : Prop) (W : WX) (e : Expr) (m : Mo (List Dt)) : Prop := PE X e (liftF c n W m)
abbrev KT (X : Cx) (c : Cd) (n : Prop) (W : WX) (e : Expr) (m : Mo Bool) : Prop := PT X e (liftT c n W m)
abbrev KW (X : Cx) (c : Cd) (n : Prop) (W : WX) (e : Expr) (m : Mo Bool) : Prop := PW X e (liftT c n W m)
abbrev KA (X : Cx) (c : Cd) (n : Prop) (W : WX) (es : List Expr) (m : Mo (List Dt)) : Prop := PA X es (liftA c n W m)
abbrev KB (X : Cx) (c : Cd) (n : Prop) (W : WX) (es : List Expr) (m : Mo (List Dt)) : Prop := PA X es (liftB c n W m)

theorem peImp {X : Cx} {e : Expr} {t t' : TE} (h : PE X e t) (k : ∀ σ H Q, t' σ H Q → t σ H Q) : PE X e t' := ⟨fun pins s σ H Q I q => h.run pins s σ H Q I (k _ _ _ q)⟩
theorem ptImp {X : Cx} {e : Expr} {t t' : TT} (h : PT X e t) (k : ∀ σ H Q, t' σ H Q → t σ H Q) : PT X e t' := ⟨fun pins s σ H Q I q => h.run pins s σ H Q I (k _ _ _ q)⟩
theorem pwImp {X : Cx} {e : Expr} {t t' : TT} (h : PW X e t) (k : ∀ σ H Q, t' σ H Q → t σ H Q) : PW X e t' := ⟨fun wh pins s σ H Q I q => h.run wh pins s σ H Q I (k _ _ _ q)⟩
theorem paImp {X : Cx} {e : List Expr} {t t' : TA} (h : PA X e t) (k : ∀ σ H Q, t' σ H Q → t σ H Q) : PA X e t' := ⟨fun pos pins s σ H Q I q => h.run pos pins s σ H Q I (k _ _ _ q)⟩
theorem psImp {X : Cx} {e : Stmt} {t t' : TS} (h : PS X e t) (k : ∀ D σ H, t' D σ H → t D σ H) : PS X e t' := ⟨fun pins s σ H D I q => h.run pins s σ H D I (k _ _ _ q)⟩
theorem pssImp {X : Cx} {e : List Stmt} {t t' : TS} (h : PSs X e t) (k : ∀ D σ H, t' D σ H → t D σ H) : PSs X e t' := ⟨fun pins s σ H D I q => h.run pins s σ H D I (k _ _ _ q)⟩

section
variable {X : Cx} {c : Cd} {n : Prop} {W : WX} {e : Expr} {m : Mo Dt} {mf : Mo (List Dt)}
/-- frozen data may be looked at -/
theorem kp (h : KE X c n W e m) : KP X c n W e m := peImp h fun σ H Q ⟨ρ, F, h, k⟩ => ⟨ρ, F, h, by
  cases hm : m ρ with
  | ok d ρ' => simp only [hm] at k ⊢; exact fun v F' H' s hn h' r => k v F' H' s hn h' (.inl r)
  | er x ρ' => simp only [hm] at k ⊢; exact k
  | no => simp only [hm] at k⟩
theorem kn {R : Rel} (h : PE X e (lift R c True W m)) : PE X e (lift R c n W m) := peImp h fun σ H Q ⟨ρ, F, h, k⟩ => ⟨ρ, F, h, by
  cases hm : m ρ with
  | ok d ρ' => simp only [hm] at k ⊢; exact fun v F' H' s hn h' r => k v F' H' s (fun _ => hn trivial) h' r
  | er x ρ' => simp only [hm] at k ⊢; exact k
  | no => simp only [hm] at k⟩
def eFz (m : Mo (List Dt)) : Mo Dt := fun ρ => match m ρ with
  | .ok ds ρ' => .ok (.list ds) ρ'
  | .er x ρ' => .er x ρ'
  | .no => .no
theorem kz_imp {σ : St} {H : Hp} {Q : VK} (hh : lift RE c n W (eFz mf) σ H Q) : liftF c n W mf σ H Q := by
  obtain ⟨ρ, F, h, k⟩ := hh
  refine ⟨ρ, F, h, ?_⟩
  unfold eFz at k
  cases hm : mf ρ with
  | ok ds ρ' =>
    simp only [hm] at k ⊢
    intro p vs F' H' s hn h' f0 h0 fr hp r
    have sF : Same F' (upd F' p (.lst vs)) := same_upd f0
    refine k (.ref p) (upd F' p (.lst vs)) H' (s.trans sF) (fun z => ⟨(hn z).1.sH, (hn z).1.e, fun b o q => by
      by_cases hb : b = p
      · subst hb; exact .inr (hn z).2
      · rw [upd_ne hb] at q; exact (hn z).1.nw b o q⟩) ?_ (.lst upd_same (rpaMono sF r))
    refine ⟨h'.base, h'.f0.trans sF, h'.sub.freeze hp f0 trivial, fun b z q => ?_, h'.len, fun j t q => ?_, h'.ap⟩
    · by_cases hb : b = p
      · subst hb; exact .inr h0
      · rw [upd_ne hb] at q; exact h'.new _ _ q
    · have z := h'.sl j t q
      cases t with
      | un => trivial
      | ex x => exact z
      | va d => obtain ⟨v, z1, z2⟩ := z; exact ⟨v, z1, rpMono sF z2⟩
      | ml es =>
        obtain ⟨b, ws, z1, z2, z3, z4, z5⟩ := z
        have nb : b ≠ p := fun e => fr j _ q rfl (e ▸ z1)
        exact ⟨b, ws, z1, by rw [upd_ne nb]; exact z2, z3, z4, rpaMono sF z5⟩
      | md es =>
        obtain ⟨b, ws, z1, z2, z3, z4, z5⟩ := z
        have nb : b ≠ p := fun e => fr j _ q rfl (e ▸ z1)
        exact ⟨b, ws, z1, by rw [upd_ne nb]; exact z2, z3, z4, KvAll.mono sF z5⟩
      | mn es =>
        obtain ⟨b, ws, z1, z2, z3, z4, z5⟩ := z
        have nb : b ≠ p := fun e => fr j _ q rfl (e ▸ z1)
        exact ⟨b, ws, z1, by rw [upd_ne nb]; exact z2, z3, z4, NvAll.mono sF z5⟩
  | er x ρ' => simp only [hm] at k ⊢; exact k
  | no => simp only [hm] at k
/-- a fresh list is frozen -/
theorem kz (h : KF X c n W e mf) : KE X c n W e (eFz mf) := peImp h fun σ H Q q => kz_imp q

/-! ### names, constants -/
def eVar (i : Nat) : Mo Dt := fun ρ => match ρ[i]? with
  | some (.va d) => .ok d ρ
  | _ => .no
def ePeek (i : Nat) : Mo Dt := fun ρ => match ρ[i]? with
  | some (.va d) => .ok d ρ
  | some (.ml ds) => .ok (.list ds) ρ
  | _ => .no
/-- an own list is handed on: from now on it stays -/
def eFrz (i : Nat) : Mo Dt := fun ρ => match ρ[i]? with
  | some (.va d) => .ok d ρ
  | some (.ml ds) => .ok (.list ds) (ρ.set i (.va (.list ds)))
  | _ => .no
def eC (d : Dt) : Mo Dt := fun ρ => .ok d ρ
theorem k_var {i : Nat} (h : PE X e (tVar i)) : KE X c n W e (eVar i) := peImp h fun σ H Q ⟨ρ, F, h, k⟩ => by
  unfold eVar at k
  cases hr : ρ[i]? with
  | none => simp only [hr] at k
  | some s =>
    cases s with
    | va d =>
      simp only [hr] at k
      obtain ⟨v, e1, e2⟩ := h.sl i _ hr
      exact ⟨v, e1, k v F H (Same.refl _) (fun _ => Kept.refl) h e2⟩
    | _ => simp only [hr] at k
theorem k_peek {i : Nat} (h : PE X e (tVar i)) : KP X c n W e (ePeek i) := peImp h fun σ H Q ⟨ρ, F, h, k⟩ => by
  unfold ePeek at k
  cases hr : ρ[i]? with
  | none => simp only [hr] at k
  | some s =>
    cases s with
    | va d =>
      simp only [hr] at k
      obtain ⟨v, e1, e2⟩ := h.sl i _ hr
      exact ⟨v, e1, k v F H (Same.refl _) (fun _ => Kept.refl) h (.inl e2)⟩
    | ml ds =>
      simp only [hr] at k
      obtain ⟨a, vs, e1, e2, e3, e4, e5⟩ := h.sl i _ hr
      exact ⟨_, e1, k _ F H (Same.refl _) (fun _ => Kept.refl) h (.inr ⟨a, vs, ds, rfl, rfl, e4, e5⟩)⟩
    | _ => simp only [hr] at k
theorem k_frz {i : Nat} (h : PE X e (tVar i)) : KE X c False W e (eFrz i) := peImp h fun σ H Q ⟨ρ, F, h, k⟩ => by
  unfold eFrz at k
  cases hr : ρ[i]? with
  | none => simp only [hr] at k
  | some s =>
    cases s with
    | va d =>
      simp only [hr] at k
      obtain ⟨v, e1, e2⟩ := h.sl i _ hr
      exact ⟨v, e1, k v F H (Same.refl _) (fun z => z.elim) h e2⟩
    | ml ds =>
      simp only [hr] at k
      obtain ⟨a, F', e1, e2, e3, e4⟩ := h.freeze hr
      exact ⟨_, e1, k _ F' H e2 (fun z => z.elim) e4 e3⟩
    | _ => simp only [hr] at k
theorem k_const {v : V} {d : Dt} (h : PE X e (tC v)) (r : ∀ F, Rp c.K F v d) : KE X c n W e (eC d) := peImp h fun σ H Q ⟨ρ, F, h, k⟩ =>
  k v F H (Same.refl _) (fun _ => Kept.refl) h (r F)
theorem k_int {i : Int} {j : Nat} {pos : Pos} : KE X c n W (.Constant (.int i) j pos) (eC (.int i)) := k_const pe_int fun _ => .int i
theorem k_str {x : Str} {j : Nat} {pos : Pos} : KE X c n W (.Constant (.str x) j pos) (eC (.str x)) := k_const pe_str fun _ => .str x
theorem k_bl {b : Bool} {j : Nat} {pos : Pos} : KE X c n W (.Constant (.bool b) j pos) (eC (.bool b)) := k_const pe_bl fun _ => .bl b
theorem k_non {j : Nat} {pos : Pos} : KE X c n W (.Constant .none j pos) (eC .none) := k_const pe_non fun _ => .non

/-! ### two operands -/
def bindM {α β : Type} (m : Mo α) (f : α → Mo β) : Mo β := fun ρ => match m ρ with
  | .ok a ρ' => f a ρ'
  | .er x ρ' => .er x ρ'
  | .no => .no
def ofO {α : Type} (o : Option α) : Mo α := fun ρ => match o with
  | some a => .ok a ρ
  | none => .no
def eOp (f : Dt → Dt → Option Dt) (ma mb : Mo Dt) : Mo Dt := bindM ma fun x => bindM mb fun y => ofO (f x y)
/-- the operation on values does what f does on data -/
def SemOp (c : Cd) (r : R2) (f : Dt → Dt → Option Dt) : Prop := ∀ ρ F σ H v u x y z Q, Holds c ρ F σ H → RP c F H v x → RP c F H u y → f x y = some z →
  (∀ w F' H', Same F F' → Kept ρ F H ρ F' H' → Holds c ρ F' σ H' → Rp c.K F' w z → Q w H') → r v u H Q
variable {ma mb : Mo Dt} {a b : Expr} {pos : Pos} {r : R2} {f : Dt → Dt → Option Dt}
theorem op_lift (S : SemOp c r f) {σ : St} {H : Hp} {Q : VK} (h : lift RE c n W (eOp f ma mb) σ H Q) : tOp r (lift RP c n W ma) (lift RP c True W mb) σ H Q := by
  obtain ⟨ρ, F, h, k⟩ := h
  refine ⟨ρ, F, h, ?_⟩
  unfold eOp bindM at k
  cases ha : ma ρ with
  | no => simp only [ha] at k
  | er x ρ1 => simp only [ha] at k ⊢; exact k
  | ok x ρ1 =>
    simp only [ha] at k ⊢
    intro v F1 H1 s1 n1 h1 r1
    refine ⟨ρ1, F1, h1, ?_⟩
    cases hb : mb ρ1 with
    | no => simp only [hb] at k
    | er x ρ1 => simp only [hb] at k ⊢; exact k.later s1
    | ok y ρ2 =>
      simp only [hb] at k ⊢
      intro u F2 H2 s2 n2 h2 r2
      have g2 := n2 trivial
      unfold ofO at k
      cases hf : f x y with
      | none => simp only [hf] at k
      | some z =>
        simp only [hf] at k
        exact S ρ2 F2 σ H2 v u x y z Q h2 (r1.mono s2 g2.sH) r2 hf fun w F3 H3 s3 g3 h3 r3 => k w F3 H3 (s1.trans (s2.trans s3)) (fun hn => (n1 hn).trans (g2.trans g3)) h3 r3
theorem k_bin {op : Operator} (ho : OpR X (binaryOp op) r) (S : SemOp c r f) (ha : KP X c n W a ma) (hb : KP X c True W b mb) : KE X c n W (.BinOp a op b pos) (eOp f ma mb) :=
  peImp (pe_op ho ha hb) fun _ _ _ h => op_lift S h
theorem k_cmp {op : CmpOp} (ho : OpR X (compareOp op) r) (S : SemOp c r f) (hm : behindInMarks op b = false) (ha : KP X c n W a ma) (hb : KP X c True W b mb) : KE X c n W (.Compare a [op] [b] pos) (eOp f ma mb) :=
  peImp (pe_cmpR ho ha hb hm) fun _ _ _ h => op_lift S h
/-- a bool as a test -/
def tOf (m : Mo Dt) : Mo Bool := bindM m fun x => match x with
  | .bool b => fun ρ => .ok b ρ
  | _ => fun _ => .no
theorem tb_lift {t : TE} (ht : ∀ σ H Q, lift RE c n W m σ H Q → t σ H Q) {σ : St} {H : Hp} {Q : Bool → Hp → Prop} (h : liftT c n W (tOf m) σ H Q) : t σ H fun x H' => ∃ k, x = .bl k ∧ Q k H' := by
  refine ht _ _ _ ?_
  obtain ⟨ρ, F, h, k⟩ := h
  refine ⟨ρ, F, h, ?_⟩
  unfold tOf bindM at k
  cases hm : m ρ with
  | no => simp only [hm] at k
  | er x ρ1 => simp only [hm] at k ⊢; exact k
  | ok x ρ1 =>
    simp only [hm] at k ⊢
    cases x with
    | bool b =>
      intro v F' H' s hn h' r
      cases r
      exact ⟨b, rfl, k F' H' s hn h'⟩
    | _ => simp only at k
theorem t_cmp {op : CmpOp} (ho : OpR X (compareOp op) r) (S : SemOp c r f) (hm : behindInMarks op b = false) (ha : KP X c n W a ma) (hb : KP X c True W b mb) : KT X c n W (.Compare a [op] [b] pos) (tOf (eOp f ma mb)) :=
  ptImp (pt_cmpR ho ha hb hm) fun _ _ _ h => tb_lift (fun _ _ _ h => op_lift S h) h
theorem t_val (h : KE X c n W e m) (he : ∀ whole, isTrue e X.env whole = (do let v ← whole; standAt e.pos; holding [v] (truthy v)) := by intro _; rfl) : KT X c n W e (tOf m) :=
  ptImp (pt_val h he) fun _ _ _ h => tb_lift (fun _ _ _ h => h) h
end
end DL

set_option Elab.async false
set_option linter.all false
set_option maxRecDepth 100000
namespace DL
open PySem PySem.Spec L2
open PyProof.Rows hiding St

/-! ### what operations do on data -/
instance {i j : Int} : Decidable (CMulW i j) := by unfold CMulW; infer_instance
instance {i j : Int} : Decidable (CDivW i j) := by unfold CDivW; infer_instance
/-- data of small depth without dicts -/
def okN : Nat → Dt → Bool
  | _, .none => true
  | _, .bool _ => true
  | _, .int _ => true
  | _, .str _ => true
  | 0, .list _ => false
  | 0, .tuple _ => false
  | n + 1, .list xs => xs.all (okN n)
  | n + 1, .tuple xs => xs.all (okN n)
  | _, .dict _ => false
theorem okN_all {n : Nat} (ih : ∀ d : Dt, okN n d = true → d.plain = true ∧ d.depth ≤ n) : ∀ xs : List Dt, xs.all (okN n) = true → PyData.plainAll xs = true ∧ PyData.depthAll xs ≤ n
  | [], _ => ⟨rfl, by simp [PyData.depthAll]⟩
  | x :: xs, h => by
    rw [List.all_cons, Bool.and_eq_true] at h
    obtain ⟨h1, h2⟩ := ih x h.1
    obtain ⟨h3, h4⟩ := okN_all ih xs h.2
    refine ⟨by rw [PyData.plainAll, h1, h3]; rfl, ?_⟩
    rw [PyData.depthAll]
    omega
theorem okN_plain : ∀ (n : Nat) (d : Dt), okN n d = true → d.plain = true ∧ d.depth ≤ n
  | _, .none, _ => ⟨rfl, by simp [PyData.depth]⟩
  | _, .bool _, _ => ⟨rfl, by simp [PyData.depth]⟩
  | _, .int _, _ => ⟨rfl, by simp [PyData.depth]⟩
  | _, .str _, _ => ⟨rfl, by simp [PyData.depth]⟩
  | 0, .list _, h => by simp [okN] at h
  | 0, .tuple _, h => by simp [okN] at h
  | n + 1, .list xs, h => by
    obtain ⟨h1, h2⟩ := okN_all (okN_plain n) xs (by simpa [okN] using h)
    refine ⟨by rw [PyData.plain]; exact h1, by rw [PyData.depth]; omega⟩
  | n + 1, .tuple xs, h => by
    obtain ⟨h1, h2⟩ := okN_all (okN_plain n) xs (by simpa [okN] using h)
    refine ⟨by rw [PyData.plain]; exact h1, by rw [PyData.depth]; omega⟩
  | 0, .dict _, h => by simp [okN] at h
  | n + 1, .dict _, h => by simp [okN] at h
abbrev okD : Dt → Bool := okN 12

def addD : Dt → Dt → Option Dt
  | .int i, .int j => some (.int (i + j))
  | .str x, .str y => if x.length + y.length ≤ sizeLine then some (.str (x ++ y)) else none
  | .list xs, .list ys => if xs.length + ys.length ≤ sizeLine then some (.list (xs ++ ys)) else none
  | _, _ => none
def catL : Dt → Dt → Option (List Dt)
  | .list xs, .list ys => if xs.length + ys.length ≤ sizeLine then some (xs ++ ys) else none
  | _, _ => none
def repL : Dt → Dt → Option (List Dt)
  | .list xs, .int k => if -(2 ^ 63) ≤ k ∧ k < 2 ^ 63 ∧ xs.length * k.toNat ≤ sizeLine then some (List.replicate k.toNat xs).flatten else none
  | _, _ => none
def subD : Dt → Dt → Option Dt
  | .int i, .int j => some (.int (i - j))
  | _, _ => none
def repOk (l : Nat) (k : Int) : Prop := -(2 ^ 63) ≤ k ∧ k < 2 ^ 63 ∧ l * k.toNat ≤ sizeLine
instance {l : Nat} {k : Int} : Decidable (repOk l k) := by unfold repOk; infer_instance
def mulD : Dt → Dt → Option Dt
  | .int i, .int j => if CMulW i j then some (.int (i * j)) else none
  | .list xs, .int k => if repOk xs.length k then some (.list (List.replicate k.toNat xs).flatten) else none
  | _, _ => none
def fdivD : Dt → Dt → Option Dt
  | .int i, .int j => if CDivW i j then some (.int (i / j)) else none
  | _, _ => none
def modD : Dt → Dt → Option Dt
  | .int i, .int j => if 0 < j then some (.int (i % j)) else none
  | _, _ => none
instance {i j : Int} : Decidable (CPow i j) := by unfold CPow; infer_instance
def powD : Dt → Dt → Option Dt
  | .int i, .int j => if CPow i j then some (.int (i ^ j.toNat)) else none
  | _, _ => none
def shlD : Dt → Dt → Option Dt
  | .int i, .int j => if CPow i j then some (.int (i * 2 ^ j.toNat)) else none
  | _, _ => none
def shrD : Dt → Dt → Option Dt
  | .int i, .int j => if 0 ≤ j then some (.int (i / 2 ^ j.toNat)) else none
  | _, _ => none
def bandD : Dt → Dt → Option Dt
  | .int i, .int j => some (.int (Builtin.bitAnd i j))
  | _, _ => none
def cmpI (p : Int → Int → Bool) : Dt → Dt → Option Dt
  | .int i, .int j => some (.bool (p i j))
  | _, _ => none
def ltD : Dt → Dt → Option Dt
  | .int i, .int j => some (.bool (decide (i < j)))
  | .str i, .str j => some (.bool (decide (i.cps.toList < j.cps.toList)))
  | _, _ => none
abbrev leD : Dt → Dt → Option Dt := cmpI fun i j => decide (i ≤ j)
abbrev gtD : Dt → Dt → Option Dt := cmpI fun i j => decide (j < i)
abbrev geD : Dt → Dt → Option Dt := cmpI fun i j => decide (j ≤ i)
def eqD (x y : Dt) : Option Dt := if okD x = true ∧ okD y = true then some (.bool (PyData.eqv x y)) else none
def neD (x y : Dt) : Option Dt := if okD x = true ∧ okD y = true then some (.bool (!PyData.eqv x y)) else none
/-- x in y, y a list, a tuple, or a text and x one sign -/
def inD (x : Dt) : Dt → Option Dt
  | .list ys => if okD x = true ∧ okD (.list ys) = true then some (.bool (ys.any fun z => PyData.eqv z x)) else none
  | .tuple ys => if okD x = true ∧ okD (.tuple ys) = true then some (.bool (ys.any fun z => PyData.eqv z x)) else none
  | .str z => match x with
    | .str s => match s.cps.toList with
      | [a] => some (.bool (decide (a ∈ z.cps.toList)))
      | _ => none
    | _ => none
  | _ => none
def ninD (x : Dt) : Dt → Option Dt
  | .list ys => if okD x = true ∧ okD (.list ys) = true then some (.bool (!ys.any fun z => PyData.eqv z x)) else none
  | .tuple ys => if okD x = true ∧ okD (.tuple ys) = true then some (.bool (!ys.any fun z => PyData.eqv z x)) else none
  | .str z => match x with
    | .str s => match s.cps.toList with
      | [a] => some (.bool (!decide (a ∈ z.cps.toList)))
      | _ => none
    | _ => none
  | _ => none
def isNoneD (x : Dt) : Option Dt := match x with
  | .none => some (.bool true)
  | _ => some (.bool false)
def isD : Dt → Dt → Option Dt
  | .none, .none => some (.bool true)
  | _, .none => some (.bool false)
  | .bool a, .bool b => some (.bool (decide (a = b)))
  | _, _ => none
def nisD : Dt → Dt → Option Dt
  | .none, .none => some (.bool false)
  | _, .none => some (.bool true)
  | .bool a, .bool b => some (.bool (!decide (a = b)))
  | _, _ => none
def idxD : Dt → Dt → Option Dt
  | .dict [(.none, .list xs)], .int i => atI xs i
  | .dict [(.bool true, .tuple xs)], .int i => atI xs i
  | .list xs, .int i => atI xs i
  | .tuple xs, .int i => atI xs i
  | .str z, .int i => if z.length ≤ sizeLine then (atI z.cps.toList i).map fun a => .str ⟨#[a]⟩ else none
  | _, _ => none

/-! ### .. and that they do it -/
section
variable {c : Cd} {X : Cx}
theorem sem_or {r r' : R2} {f : Dt → Dt → Option Dt} (h : ∀ ρ F σ H v u x y z Q, Holds c ρ F σ H → RP c F H v x → RP c F H u y → f x y = some z →
  (∀ w F' H', Same F F' → Kept ρ F H ρ F' H' → Holds c ρ F' σ H' → Rp c.K F' w z → Q w H') → r v u H Q ∨ r' v u H Q) : SemOp c (fun x y H Q => r x y H Q ∨ r' x y H Q) f := h
/-- a flat answer -/
theorem flat {ρ : Rho} {F : Hp} {σ : St} {H : Hp} {z : Dt} {Q : VK} {w : V} (h : Holds c ρ F σ H) (q : ∀ w F' H', Same F F' → Kept ρ F H ρ F' H' → Holds c ρ F' σ H' → Rp c.K F' w z → Q w H') (r : Rp c.K F w z) : Q w H := q w F H (Same.refl _) Kept.refl h r
theorem sem_int {C : Int → Int → Prop} {g : Int → Int → V} {f : Dt → Dt → Option Dt} (h : ∀ x y z, f x y = some z → ∃ i j, x = .int i ∧ y = .int j ∧ C i j ∧ ∀ F, Rp c.K F (g i j) z) : SemOp c (rI C g) f := by
  intro ρ F σ H v u x y z Q hh rx ry hf q
  obtain ⟨i, j, rfl, rfl, hc, hr⟩ := h x y z hf
  exact ⟨i, j, rx.int, ry.int, hc, flat hh q (hr F)⟩
theorem sem_int0 {g : Int → Int → V} {f : Dt → Dt → Option Dt} (h : ∀ x y z, f x y = some z → ∃ i j, x = .int i ∧ y = .int j ∧ ∀ F, Rp c.K F (g i j) z) : SemOp c (rI0 g) f := by
  intro ρ F σ H v u x y z Q hh rx ry hf q
  obtain ⟨i, j, rfl, rfl, hr⟩ := h x y z hf
  exact ⟨i, j, rx.int, ry.int, flat hh q (hr F)⟩
/-- a new list, frozen at once -/
theorem newZ {ρ : Rho} {F : Hp} {σ : St} {H : Hp} {zs : List Dt} {Q : VK} {vs : List V} (h : Holds c ρ F σ H) (q : ∀ w F' H', Same F F' → Kept ρ F H ρ F' H' → Holds c ρ F' σ H' → Rp c.K F' w (.list zs) → Q w H') (r : RpA c.K F vs zs) (p : Addr) (hp : H p = none) : Q (.ref p) (upd H p (.lst vs)) :=
  q (.ref p) _ _ (same_upd (h.fp hp)) (Kept.alloc hp) (h.alloc hp) (.lst upd_same (rpaMono (same_upd (h.fp hp)) r))
theorem sem_add : SemOp c (fun x y H Q => rI0 (fun i j => .int (i + j)) x y H Q ∨ ((∃ i j, x = V.str i ∧ y = V.str j ∧ i.length + j.length ≤ sizeLine ∧ Q (V.str (i ++ j)) H) ∨ rCat x y H Q)) addD := by
  intro ρ F σ H v u x y z Q hh rx ry hf q
  unfold addD at hf
  split at hf
  · cases hf; exact .inl ⟨_, _, rx.int, ry.int, flat hh q (.int _)⟩
  · split at hf
    · cases hf; exact .inr (.inl ⟨_, _, rx.str, ry.str, by assumption, flat hh q (.str _)⟩)
    · cases hf
  · split at hf
    · cases hf
      obtain ⟨a, vs, rfl, e, r⟩ := rx.lst hh.sub
      obtain ⟨a2, vs2, rfl, e2, r2⟩ := ry.lst hh.sub
      exact .inr (.inr ⟨a, a2, vs, vs2, rfl, rfl, e, e2, by rw [r.len, r2.len]; assumption, newZ hh q (r.app r2)⟩)
    · cases hf
  · cases hf
theorem flat_rep {K : PySem.W.Frag} {F : Hp} {vs : List V} {ds : List Dt} (r : RpA K F vs ds) : ∀ k : Nat, RpA K F (List.replicate k vs).flatten (List.replicate k ds).flatten
  | 0 => .nil
  | k + 1 => by simp only [List.replicate_succ, List.flatten_cons]; exact r.app (flat_rep r k)
theorem sem_sub : SemOp c (rI0 fun i j => .int (i - j)) subD := sem_int0 fun x y z hf => by
  unfold subD at hf
  split at hf
  · cases hf; exact ⟨_, _, rfl, rfl, fun _ => .int _⟩
  · cases hf
theorem sem_mul : SemOp c (fun x y H Q => rI CMulW (fun i j => .int (i * j)) x y H Q ∨ rRep x y H Q) mulD := by
  intro ρ F σ H v u x y z Q hh rx ry hf q
  unfold mulD at hf
  split at hf
  · split at hf
    · cases hf; exact .inl ⟨_, _, rx.int, ry.int, by assumption, flat hh q (.int _)⟩
    · cases hf
  · split at hf
    · rename_i h
      cases hf
      obtain ⟨a, vs, rfl, e, r⟩ := rx.lst hh.sub
      exact .inr ⟨a, _, vs, rfl, ry.int, e, h.1, h.2.1, by rw [r.len]; exact h.2.2, newZ hh q (flat_rep r _)⟩
    · cases hf
  · cases hf
theorem sem_fdiv : SemOp c (rI CDivW fun i j => .int (i / j)) fdivD := sem_int fun x y z hf => by
  unfold fdivD at hf
  split at hf
  · split at hf
    · cases hf; exact ⟨_, _, rfl, rfl, by assumption, fun _ => .int _⟩
    · cases hf
  · cases hf
theorem sem_mod : SemOp c (rI (fun _ j => 0 < j) fun i j => .int (i % j)) modD := sem_int fun x y z hf => by
  unfold modD at hf
  split at hf
  · split at hf
    · cases hf; exact ⟨_, _, rfl, rfl, by assumption, fun _ => .int _⟩
    · cases hf
  · cases hf
theorem sem_pow : SemOp c (rI CPow fun i j => .int (i ^ j.toNat)) powD := sem_int fun x y z hf => by
  unfold powD at hf
  split at hf
  · split at hf
    · cases hf; exact ⟨_, _, rfl, rfl, by assumption, fun _ => .int _⟩
    · cases hf
  · cases hf
theorem sem_shl : SemOp c (rI CPow fun i j => .int (i * 2 ^ j.toNat)) shlD := sem_int fun x y z hf => by
  unfold shlD at hf
  split at hf
  · split at hf
    · cases hf; exact ⟨_, _, rfl, rfl, by assumption, fun _ => .int _⟩
    · cases hf
  · cases hf
theorem sem_shr : SemOp c (rI (fun _ j => 0 ≤ j) fun i j => .int (i / 2 ^ j.toNat)) shrD := sem_int fun x y z hf => by
  unfold shrD at hf
  split at hf
  · split at hf
    · cases hf; exact ⟨_, _, rfl, rfl, by assumption, fun _ => .int _⟩
    · cases hf
  · cases hf
theorem sem_band : SemOp c (rI0 fun i j => .int (Builtin.bitAnd i j)) bandD := sem_int0 fun x y z hf => by
  unfold bandD at hf
  split at hf
  · cases hf; exact ⟨_, _, rfl, rfl, fun _ => .int _⟩
  · cases hf
theorem sem_cmp {p : Int → Int → Bool} : SemOp c (rI0 fun i j => .bl (p i j)) (cmpI p) := sem_int0 fun x y z hf => by
  unfold cmpI at hf
  split at hf
  · cases hf; exact ⟨_, _, rfl, rfl, fun _ => .bl _⟩
  · cases hf
theorem sem_lt : SemOp c (fun x y H Q => rI0 (fun i j => .bl (decide (i < j))) x y H Q ∨ ∃ i j, x = V.str i ∧ y = V.str j ∧ Q (V.bl (decide (i.cps.toList < j.cps.toList))) H) ltD := by
  intro ρ F σ H v u x y z Q hh rx ry hf q
  unfold ltD at hf
  split at hf
  · cases hf; exact .inl ⟨_, _, rx.int, ry.int, flat hh q (.bl _)⟩
  · cases hf; exact .inr ⟨_, _, rx.str, ry.str, flat hh q (.bl _)⟩
  · cases hf

/-! == of data -/
def rEqP (K : PySem.W.Frag) (neg : Bool) : R2 := fun x y H Q => ∃ d e, Dp K H x d ∧ Dp K H y e ∧ okD d = true ∧ okD e = true ∧ Q (.bl (if neg then !PyData.eqv d e else PyData.eqv d e)) H
theorem eq_room {A : Around} (hu : A.units + 64 < cLine) {d e : Dt} (h : okD d = true) : A.units + min d.depth e.depth < cLine := by
  have h1 := (okN_plain 12 d h).2
  have h2 : min d.depth e.depth ≤ d.depth := Nat.min_le_left _ _
  omega
theorem op_eqP (hu : X.A.units + 64 < cLine) : OpR X (compareOp .Eq) (rEqP X.K false) := by
  intro pins s σ H x y v u Q I rx ry ⟨d, e, hd, he, sd, se, q⟩
  obtain ⟨as, r1⟩ := Dp.reads I d x v hd rx
  obtain ⟨bs, r2⟩ := Dp.reads I e y u he ry
  exact SeqAt.eq_plain r1 r2 (okN_plain _ d sd).1 (okN_plain _ e se).1 (eq_room hu sd) ⟨.bl _, H, I, rfl, q⟩
theorem op_neP (hu : X.A.units + 64 < cLine) : OpR X (compareOp .NotEq) (rEqP X.K true) := by
  intro pins s σ H x y v u Q I rx ry ⟨d, e, hd, he, sd, se, q⟩
  obtain ⟨as, r1⟩ := Dp.reads I d x v hd rx
  obtain ⟨bs, r2⟩ := Dp.reads I e y u he ry
  exact SeqAt.ne_plain r1 r2 (okN_plain _ d sd).1 (okN_plain _ e se).1 (eq_room hu sd) ⟨.bl _, H, I, rfl, q⟩
theorem sem_eq : SemOp c (rEqP c.K false) eqD := by
  intro ρ F σ H v u x y z Q hh rx ry hf q
  unfold eqD at hf
  split at hf
  · rename_i h
    cases hf
    exact ⟨x, y, (rx.all hh.sub (okN_plain _ x h.1).1).dp (okN_plain _ x h.1).1, (ry.all hh.sub (okN_plain _ y h.2).1).dp (okN_plain _ y h.2).1, h.1, h.2, flat hh q (.bl _)⟩
  · cases hf
theorem sem_ne : SemOp c (rEqP c.K true) neD := by
  intro ρ F σ H v u x y z Q hh rx ry hf q
  unfold neD at hf
  split at hf
  · rename_i h
    cases hf
    exact ⟨x, y, (rx.all hh.sub (okN_plain _ x h.1).1).dp (okN_plain _ x h.1).1, (ry.all hh.sub (okN_plain _ y h.2).1).dp (okN_plain _ y h.2).1, h.1, h.2, flat hh q (.bl _)⟩
  · cases hf
/-! x in data -/
def rInP (K : PySem.W.Frag) (neg : Bool) : R2 := fun x y H Q => ∃ d ds, Dp K H x d ∧ (Dp K H y (.list ds) ∨ Dp K H y (.tuple ds)) ∧ okD d = true ∧ ds.all (okN 11) = true ∧ Q (.bl (if neg then !ds.any (fun z => PyData.eqv z d) else ds.any fun z => PyData.eqv z d)) H
theorem in_room {A : Around} (hu : A.units + 64 < cLine) {n : Nat} {d : Dt} (h : okD d = true) : A.units + 1 + min n d.depth < cLine := by
  have h1 := (okN_plain 12 d h).2
  have h2 : min n d.depth ≤ d.depth := Nat.min_le_right _ _
  omega
theorem op_inP (hu : X.A.units + 64 < cLine) : OpR X (compareOp .In) (rInP X.K false) := by
  intro pins s σ H x y v u Q I rx ry ⟨d, ds, hd, he, sd, se, q⟩
  obtain ⟨as, r1⟩ := Dp.reads I d x v hd rx
  have pl := (okN_all (okN_plain 11) ds se).1
  rcases he with he | he
  · obtain ⟨bs, r2⟩ := Dp.reads I _ y u he ry
    exact SeqAt.in_list_data r2 r1 pl (okN_plain _ d sd).1 (in_room hu sd) ⟨.bl _, H, I, rfl, q⟩
  · obtain ⟨bs, r2⟩ := Dp.reads I _ y u he ry
    exact SeqAt.in_tuple_data r2 r1 pl (okN_plain _ d sd).1 (in_room hu sd) ⟨.bl _, H, I, rfl, q⟩
theorem op_ninP (hu : X.A.units + 64 < cLine) : OpR X (compareOp .NotIn) (rInP X.K true) := by
  intro pins s σ H x y v u Q I rx ry ⟨d, ds, hd, he, sd, se, q⟩
  obtain ⟨as, r1⟩ := Dp.reads I d x v hd rx
  have pl := (okN_all (okN_plain 11) ds se).1
  rcases he with he | he
  · obtain ⟨bs, r2⟩ := Dp.reads I _ y u he ry
    exact SeqAt.notIn_list_data r2 r1 pl (okN_plain _ d sd).1 (in_room hu sd) ⟨.bl _, H, I, rfl, q⟩
  · obtain ⟨bs, r2⟩ := Dp.reads I _ y u he ry
    exact SeqAt.notIn_tuple_data r2 r1 pl (okN_plain _ d sd).1 (in_room hu sd) ⟨.bl _, H, I, rfl, q⟩
theorem one_sign {s : Str} {a : Nat} (ha : s.cps.toList = [a]) : s = { cps := #[a] } := Str.ext' (by rw [← Array.toList_inj]; exact ha)
abbrev rSign (neg : Bool) : R2 := fun x y H Q => ∃ (a : Nat) (z : Str), x = V.str { cps := #[a] } ∧ y = V.str z ∧ Q (V.bl (if neg then !decide (a ∈ z.cps.toList) else decide (a ∈ z.cps.toList))) H
theorem sem_in : SemOp c (fun x y H Q => rInP c.K false x y H Q ∨ rSign false x y H Q) inD := by
  intro ρ F σ H v u x y z Q hh rx ry hf q
  unfold inD at hf
  split at hf
  · split at hf
    · rename_i h
      cases hf
      exact .inl ⟨x, _, (rx.all hh.sub (okN_plain _ x h.1).1).dp (okN_plain _ x h.1).1, .inl ((ry.all hh.sub (okN_plain _ _ h.2).1).dp (okN_plain _ _ h.2).1), h.1, by simpa [okD, okN] using h.2, flat hh q (.bl _)⟩
    · cases hf
  · split at hf
    · rename_i h
      cases hf
      exact .inl ⟨x, _, (rx.all hh.sub (okN_plain _ x h.1).1).dp (okN_plain _ x h.1).1, .inr ((ry.all hh.sub (okN_plain _ _ h.2).1).dp (okN_plain _ _ h.2).1), h.1, by simpa [okD, okN] using h.2, flat hh q (.bl _)⟩
    · cases hf
  · split at hf
    · split at hf
      · rename_i a ha
        cases hf
        exact .inr ⟨a, _, by rw [rx.str, one_sign ha], ry.str, flat hh q (.bl _)⟩
      · cases hf
    · cases hf
  · cases hf
theorem sem_nin : SemOp c (fun x y H Q => rInP c.K true x y H Q ∨ rSign true x y H Q) ninD := by
  intro ρ F σ H v u x y z Q hh rx ry hf q
  unfold ninD at hf
  split at hf
  · split at hf
    · rename_i h
      cases hf
      exact .inl ⟨x, _, (rx.all hh.sub (okN_plain _ x h.1).1).dp (okN_plain _ x h.1).1, .inl ((ry.all hh.sub (okN_plain _ _ h.2).1).dp (okN_plain _ _ h.2).1), h.1, by simpa [okD, okN] using h.2, flat hh q (.bl _)⟩
    · cases hf
  · split at hf
    · rename_i h
      cases hf
      exact .inl ⟨x, _, (rx.all hh.sub (okN_plain _ x h.1).1).dp (okN_plain _ x h.1).1, .inr ((ry.all hh.sub (okN_plain _ _ h.2).1).dp (okN_plain _ _ h.2).1), h.1, by simpa [okD, okN] using h.2, flat hh q (.bl _)⟩
    · cases hf
  · split at hf
    · split at hf
      · rename_i a ha
        cases hf
        exact .inr ⟨a, _, by rw [rx.str, one_sign ha], ry.str, flat hh q (.bl _)⟩
      · cases hf
    · cases hf
  · cases hf
theorem op_sign : OpR X (compareOp .In) (rSign false) := op_in_sign
theorem op_nsign : OpR X (compareOp .NotIn) (rSign true) := op_notIn_sign
theorem sem_is : SemOp c (fun x y H Q => (y = V.non ∧ Q (.bl (decide (x = .non))) H) ∨ rIsB x y H Q) isD := by
  intro ρ F σ H v u x y z Q hh rx ry hf q
  unfold isD at hf
  split at hf
  · cases hf; exact .inl ⟨ry.non, by rw [rx.non]; exact flat hh q (.bl _)⟩
  · rename_i hx
    cases hf
    refine .inl ⟨ry.non, ?_⟩
    have e : decide (v = V.non) = false := decide_eq_false fun e => hx (rx.none_iff.mp e)
    rw [e]
    exact flat hh q (.bl _)
  · cases hf; exact .inr ⟨_, _, rx.bl, ry.bl, flat hh q (.bl _)⟩
  · cases hf
theorem sem_nis : SemOp c (fun x y H Q => (y = V.non ∧ Q (.bl (!decide (x = .non))) H) ∨ rNotB x y H Q) nisD := by
  intro ρ F σ H v u x y z Q hh rx ry hf q
  unfold nisD at hf
  split at hf
  · cases hf; exact .inl ⟨ry.non, by rw [rx.non]; exact flat hh q (.bl _)⟩
  · rename_i hx
    cases hf
    refine .inl ⟨ry.non, ?_⟩
    have e : decide (v = V.non) = false := decide_eq_false fun e => hx (rx.none_iff.mp e)
    rw [e]
    exact flat hh q (.bl _)
  · cases hf; exact .inr ⟨_, _, rx.bl, ry.bl, flat hh q (.bl _)⟩
  · cases hf
theorem atI_rp {K : PySem.W.Frag} {F : Hp} {vs : List V} {ds : List Dt} {i : Int} {d : Dt} (r : RpA K F vs ds) (h : atI ds i = some d) : ∃ v, atI vs i = some v ∧ Rp K F v d := by
  unfold atI at h ⊢
  rw [r.len]
  cases e : ixN ds.length i with
  | none => rw [e] at h; cases h
  | some j =>
    rw [e] at h
    exact r.get h
theorem sem_idx : SemOp c (rIx c.K) idxD := by
  intro ρ F σ H v u x y z Q hh rx ry hf q
  unfold idxD at hf
  split at hf
  · obtain ⟨a, ns, rfl, ek, e⟩ := rx.dict
    cases ek
    obtain ⟨w, hw, rw'⟩ := atI_rp (K := c.K) (F := F) (RpA.ofInts ns) hf
    exact .inl ⟨a, _, _, w, rfl, ry.int, hh.sub.sqL e, hw, flat hh q rw'⟩
  · obtain ⟨a, vs, rfl, e, r, _⟩ := rx.frm
    obtain ⟨w, hw, rw'⟩ := atI_rp r hf
    exact .inr (.inl ⟨a, vs, _, w, rfl, ry.int, hh.sub.sqT e.sq, hw, flat hh q rw'⟩)
  · obtain ⟨a, vs, rfl, e, r⟩ := rx.lst hh.sub
    obtain ⟨w, hw, rw'⟩ := atI_rp r hf
    exact .inl ⟨a, vs, _, w, rfl, ry.int, SqL.of e, hw, flat hh q rw'⟩
  · obtain ⟨a, vs, rfl, e, r⟩ := rx.tup
    obtain ⟨w, hw, rw'⟩ := atI_rp r hf
    exact .inr (.inl ⟨a, vs, _, w, rfl, ry.int, hh.sub.sqT e, hw, flat hh q rw'⟩)
  · split at hf
    · rename_i z0 i0 hz
      cases e : atI z0.cps.toList i0 with
      | none => rw [e] at hf; cases hf
      | some k =>
        rw [e] at hf
        cases hf
        exact .inr (.inr ⟨_, _, k, rx.str, ry.int, hz, e, flat hh q (.str _)⟩)
    · cases hf
  · cases hf
end

/-! ### the rules by name -/
section
variable {X : Cx} {c : Cd} {n : Prop} {W : WX} {a b : Expr} {ma mb : Mo Dt} {pos : Pos}
theorem k_add (ha : KP X c n W a ma) (hb : KP X c True W b mb) : KE X c n W (.BinOp a .Add b pos) (eOp addD ma mb) := k_bin (op_add.or (op_add_str.or op_cat)) sem_add ha hb
theorem k_sub (ha : KP X c n W a ma) (hb : KP X c True W b mb) : KE X c n W (.BinOp a .Sub b pos) (eOp subD ma mb) := k_bin op_sub sem_sub ha hb
theorem k_mul (ha : KP X c n W a ma) (hb : KP X c True W b mb) : KE X c n W (.BinOp a .Mult b pos) (eOp mulD ma mb) := k_bin (op_mulW.or op_rep) sem_mul ha hb
theorem k_fdiv (ha : KP X c n W a ma) (hb : KP X c True W b mb) : KE X c n W (.BinOp a .FloorDiv b pos) (eOp fdivD ma mb) := k_bin op_fdivW sem_fdiv ha hb
theorem k_mod (ha : KP X c n W a ma) (hb : KP X c True W b mb) : KE X c n W (.BinOp a .Mod b pos) (eOp modD ma mb) := k_bin op_mod sem_mod ha hb
theorem k_pow (ha : KP X c n W a ma) (hb : KP X c True W b mb) : KE X c n W (.BinOp a .Pow b pos) (eOp powD ma mb) := k_bin op_pow sem_pow ha hb
theorem k_shl (ha : KP X c n W a ma) (hb : KP X c True W b mb) : KE X c n W (.BinOp a .LShift b pos) (eOp shlD ma mb) := k_bin op_shl sem_shl ha hb
theorem k_shr (ha : KP X c n W a ma) (hb : KP X c True W b mb) : KE X c n W (.BinOp a .RShift b pos) (eOp shrD ma mb) := k_bin op_shr sem_shr ha hb
theorem k_band (ha : KP X c n W a ma) (hb : KP X c True W b mb) : KE X c n W (.BinOp a .BitAnd b pos) (eOp bandD ma mb) := k_bin op_and sem_band ha hb
theorem k_lt (ha : KP X c n W a ma) (hb : KP X c True W b mb) : KE X c n W (.Compare a [.Lt] [b] pos) (eOp ltD ma mb) := k_cmp (op_lt.or op_lt_str) sem_lt (nomark _) ha hb
theorem k_le (ha : KP X c n W a ma) (hb : KP X c True W b mb) : KE X c n W (.Compare a [.LtE] [b] pos) (eOp leD ma mb) := k_cmp op_le sem_cmp (nomark _) ha hb
theorem k_gt (ha : KP X c n W a ma) (hb : KP X c True W b mb) : KE X c n W (.Compare a [.Gt] [b] pos) (eOp gtD ma mb) := k_cmp op_gt sem_cmp (nomark _) ha hb
theorem k_ge (ha : KP X c n W a ma) (hb : KP X c True W b mb) : KE X c n W (.Compare a [.GtE] [b] pos) (eOp geD ma mb) := k_cmp op_ge sem_cmp (nomark _) ha hb
theorem k_eq (hu : X.A.units + 64 < cLine) (hK : X.K = c.K) (ha : KP X c n W a ma) (hb : KP X c True W b mb) : KE X c n W (.Compare a [.Eq] [b] pos) (eOp eqD ma mb) := k_cmp (op_eqP hu) (by rw [hK]; exact sem_eq) (nomark _) ha hb
theorem k_ne (hu : X.A.units + 64 < cLine) (hK : X.K = c.K) (ha : KP X c n W a ma) (hb : KP X c True W b mb) : KE X c n W (.Compare a [.NotEq] [b] pos) (eOp neD ma mb) := k_cmp (op_neP hu) (by rw [hK]; exact sem_ne) (nomark _) ha hb
theorem k_in (hu : X.A.units + 64 < cLine) (hK : X.K = c.K) (hm : behindInMarks .In b = false) (ha : KP X c n W a ma) (hb : KP X c True W b mb) : KE X c n W (.Compare a [.In] [b] pos) (eOp inD ma mb) := k_cmp ((op_inP hu).or op_sign) (by rw [hK]; exact sem_in) hm ha hb
theorem k_nin (hu : X.A.units + 64 < cLine) (hK : X.K = c.K) (hm : behindInMarks .NotIn b = false) (ha : KP X c n W a ma) (hb : KP X c True W b mb) : KE X c n W (.Compare a [.NotIn] [b] pos) (eOp ninD ma mb) := k_cmp ((op_ninP hu).or op_nsign) (by rw [hK]; exact sem_nin) hm ha hb
theorem k_is (ha : KP X c n W a ma) (hb : KP X c True W b mb) : KE X c n W (.Compare a [.Is] [b] pos) (eOp isD ma mb) := k_cmp (op_isN.or op_isBl) sem_is (nomark _) ha hb
theorem k_nis (ha : KP X c n W a ma) (hb : KP X c True W b mb) : KE X c n W (.Compare a [.IsNot] [b] pos) (eOp nisD ma mb) := k_cmp (op_notN.or op_notBl) sem_nis (nomark _) ha hb
theorem k_idx (hK : X.K = c.K) (ha : KP X c n W a ma) (hb : KP X c True W b mb) (hs : PlainIx b) : KE X c n W (.Subscript a b pos) (eOp idxD ma mb) := peImp (pe_ix ix_seq ha hb hs) fun _ _ _ h => op_lift (by rw [hK]; exact sem_idx) h
end
end DL

set_option Elab.async false
set_option linter.all false
set_option maxRecDepth 100000
namespace DL
open PySem PySem.Spec L2
open PyProof.Rows hiding St

/-! ### fresh lists -/
section
variable {c : Cd} {X : Cx} {n : Prop} {W : WX} {ma mb : Mo Dt} {a b e : Expr} {pos : Pos} {r : R2} {f : Dt → Dt → Option (List Dt)}
def eOpF (f : Dt → Dt → Option (List Dt)) (ma mb : Mo Dt) : Mo (List Dt) := bindM ma fun x => bindM mb fun y => ofO (f x y)
abbrev NewL (c : Cd) (ρ : Rho) (F : Hp) (σ : St) (H : Hp) (zs : List Dt) (Q : VK) : Prop := ∀ p vs F' H', Same F F' → (Kept ρ F H ρ F' H' ∧ H p = none) → Holds c ρ F' σ H' → F' p = none → c.H0 p = none → Free ρ σ p → H' p = some (.lst vs) → RpA c.K F' vs zs → Q (.ref p) H'
theorem newL {ρ : Rho} {F : Hp} {σ : St} {H : Hp} {zs : List Dt} {Q : VK} {vs : List V} (h : Holds c ρ F σ H) (q : NewL c ρ F σ H zs Q) (r : RpA c.K F vs zs) (p : Addr) (hp : H p = none) : Q (.ref p) (upd H p (.lst vs)) :=
  q p vs F _ (Same.refl _) ⟨Kept.allocN hp, hp⟩ (h.allocN hp) (h.fp hp) (h.h0 hp) (h.free hp) upd_same r
def SemOpF (c : Cd) (r : R2) (f : Dt → Dt → Option (List Dt)) : Prop := ∀ ρ F σ H v u x y z Q, Holds c ρ F σ H → RP c F H v x → RP c F H u y → f x y = some z → NewL c ρ F σ H z Q → r v u H Q
theorem opF_lift (S : SemOpF c r f) {σ : St} {H : Hp} {Q : VK} (h : liftF c n W (eOpF f ma mb) σ H Q) : tOp r (lift RP c n W ma) (lift RP c True W mb) σ H Q := by
  obtain ⟨ρ, F, h, k⟩ := h
  refine ⟨ρ, F, h, ?_⟩
  unfold eOpF bindM at k
  cases ha : ma ρ with
  | no => simp only [ha] at k
  | er x ρ1 => simp only [ha] at k ⊢; exact k
  | ok x ρ1 =>
    simp only [ha] at k ⊢
    intro v F1 H1 s1 n1 h1 r1
    refine ⟨ρ1, F1, h1, ?_⟩
    cases hb : mb ρ1 with
    | no => simp only [hb] at k
    | er x ρ1 => simp only [hb] at k ⊢; exact k.later s1
    | ok y ρ2 =>
      simp only [hb] at k ⊢
      intro u F2 H2 s2 n2 h2 r2
      have g2 := n2 trivial
      unfold ofO at k
      cases hf : f x y with
      | none => simp only [hf] at k
      | some z =>
        simp only [hf] at k
        exact S ρ2 F2 σ H2 v u x y z Q h2 (r1.mono s2 g2.sH) r2 hf fun p vs F3 H3 s3 g3 h3 f0 h0 fr hp r3 => k p vs F3 H3 (s1.trans (s2.trans s3)) (fun hn => ⟨(n1 hn).trans (g2.trans g3.1), ((n1 hn).trans g2).sH.free g3.2⟩) h3 f0 h0 fr hp r3
theorem sem_cat : SemOpF c rCat catL := by
  intro ρ F σ H v u x y z Q hh rx ry hf q
  unfold catL at hf
  split at hf
  · split at hf
    · cases hf
      obtain ⟨a, vs, rfl, e, r⟩ := rx.lst hh.sub
      obtain ⟨a2, vs2, rfl, e2, r2⟩ := ry.lst hh.sub
      exact ⟨a, a2, vs, vs2, rfl, rfl, e, e2, by rw [r.len, r2.len]; assumption, newL hh q (r.app r2)⟩
    · cases hf
  · cases hf
theorem kf_cat (ha : KP X c n W a ma) (hb : KP X c True W b mb) : KF X c n W (.BinOp a .Add b pos) (eOpF catL ma mb) := peImp (pe_op op_cat ha hb) fun _ _ _ h => opF_lift sem_cat h
theorem sem_rep : SemOpF c rRep repL := by
  intro ρ F σ H v u x y z Q hh rx ry hf q
  unfold repL at hf
  split at hf
  · split at hf
    · rename_i h
      cases hf
      obtain ⟨a, vs, rfl, e, r⟩ := rx.lst hh.sub
      exact ⟨a, _, vs, rfl, ry.int, e, h.1, h.2.1, by rw [r.len]; exact h.2.2, newL hh q (flat_rep r _)⟩
    · cases hf
  · cases hf
theorem kf_rep (ha : KP X c n W a ma) (hb : KP X c True W b mb) : KF X c n W (.BinOp a .Mult b pos) (eOpF repL ma mb) := peImp (pe_op op_rep ha hb) fun _ _ _ h => opF_lift sem_rep h
end

/-! ### arguments, displays -/
section
variable {c : Cd} {X : Cx} {n : Prop} {W : WX} {m : Mo Dt} {ms : Mo (List Dt)} {e : Expr} {es : List Expr} {pos : Pos}
def eNil : Mo (List Dt) := fun ρ => .ok [] ρ
def eCons (m : Mo Dt) (ms : Mo (List Dt)) : Mo (List Dt) := bindM m fun x => bindM ms fun xs => fun ρ => .ok (x :: xs) ρ
theorem a_nil : KA X c n W [] eNil := paImp pa_nil fun σ H Q ⟨ρ, F, h, k⟩ => k [] F H (Same.refl _) (fun _ => Kept.refl) h .nil
theorem b_nil : KB X c n W [] eNil := paImp pa_nil fun σ H Q ⟨ρ, F, h, k⟩ => k [] F H (Same.refl _) (fun _ => Kept.refl) h .nil
theorem a_cons (ha : KE X c n W e m) (hr : KA X c n W es ms) (hs : starEach (e :: es) X.env = (false, eval e X.env) :: starEach es X.env := by rfl) : KA X c n W (e :: es) (eCons m ms) :=
  paImp (pa_cons ha hr hs) fun σ H Q ⟨ρ, F, h, k⟩ => by
    refine ⟨ρ, F, h, ?_⟩
    unfold eCons bindM at k
    cases hm : m ρ with
    | no => simp only [hm] at k
    | er x ρ1 => simp only [hm] at k ⊢; exact k
    | ok x ρ1 =>
      simp only [hm] at k ⊢
      intro v F1 H1 s1 n1 h1 r1
      refine ⟨ρ1, F1, h1, ?_⟩
      cases hb : ms ρ1 with
      | no => simp only [hb] at k
      | er x ρ1 => simp only [hb] at k ⊢; exact k.later s1
      | ok xs ρ2 =>
        simp only [hb] at k ⊢
        intro vs F2 H2 s2 n2 h2 r2
        exact k (v :: vs) F2 H2 (s1.trans s2) (fun hn => (n1 hn).trans (n2 hn)) h2 (.cons (rpMono s2 r1) r2)
theorem b_cons (ha : KP X c n W e m) (hr : KB X c True W es ms) (hs : starEach (e :: es) X.env = (false, eval e X.env) :: starEach es X.env := by rfl) : KB X c n W (e :: es) (eCons m ms) :=
  paImp (pa_cons ha hr hs) fun σ H Q ⟨ρ, F, h, k⟩ => by
    refine ⟨ρ, F, h, ?_⟩
    unfold eCons bindM at k
    cases hm : m ρ with
    | no => simp only [hm] at k
    | er x ρ1 => simp only [hm] at k ⊢; exact k
    | ok x ρ1 =>
      simp only [hm] at k ⊢
      intro v F1 H1 s1 n1 h1 r1
      refine ⟨ρ1, F1, h1, ?_⟩
      cases hb : ms ρ1 with
      | no => simp only [hb] at k
      | er x ρ1 => simp only [hb] at k ⊢; exact k.later s1
      | ok xs ρ2 =>
        simp only [hb] at k ⊢
        intro vs F2 H2 s2 n2 h2 r2
        have g2 := n2 trivial
        exact k (v :: vs) F2 H2 (s1.trans s2) (fun hn => (n1 hn).trans g2) h2 (.cons (r1.mono s2 g2.sH) r2)
/-- a written tuple -/
def eTup (ms : Mo (List Dt)) : Mo Dt := bindM ms fun xs ρ => if xs.length ≤ 1000 then .ok (.tuple xs) ρ else .no
theorem le1000 {k : Nat} (h : k ≤ 1000) : k ≤ sizeLine := by rw [sizeLine_eq]; omega
theorem k_tup {j : Nat} (h : KA X c n W es ms) : KE X c n W (.Tuple es j pos) (eTup ms) := peImp (pe_tup h) fun σ H Q ⟨ρ, F, h, k⟩ => by
  refine ⟨ρ, F, h, ?_⟩
  unfold eTup bindM at k
  cases hm : ms ρ with
  | no => simp only [hm] at k
  | er x ρ1 => simp only [hm] at k ⊢; exact k
  | ok xs ρ1 =>
    simp only [hm] at k ⊢
    intro vs F1 H1 s1 n1 h1 r1
    by_cases hz : xs.length ≤ 1000
    · rw [if_pos hz] at k
      refine ⟨by rw [r1.len]; exact le1000 hz, fun p hp => ?_⟩
      have sF : Same F1 (upd F1 p (.tup vs)) := same_upd (h1.fp hp)
      exact k (.ref p) _ _ (s1.trans sF) (fun hn => (n1 hn).trans (Kept.alloc hp)) (h1.alloc hp) (.tup (SqT.of upd_same) (rpaMono sF r1))
    · rw [if_neg hz] at k; exact k.elim
/-- a written form -/
def isFrm : List Dt → Bool
  | [.int _, .int _, .int _, .int _, .int _] => true
  | _ => false
def eFrm (ms : Mo (List Dt)) : Mo Dt := bindM ms fun xs ρ => if isFrm xs = true then .ok (.dict [(.bool true, .tuple xs)]) ρ else .no
theorem k_frm {j : Nat} (h : KA X c n W es ms) : KE X c n W (.Tuple es j pos) (eFrm ms) := peImp (pe_tupK h) fun σ H Q ⟨ρ, F, h, k⟩ => by
  refine ⟨ρ, F, h, ?_⟩
  unfold eFrm bindM at k
  cases hm : ms ρ with
  | no => simp only [hm] at k
  | er x ρ1 => simp only [hm] at k ⊢; exact k
  | ok xs ρ1 =>
    simp only [hm] at k ⊢
    intro vs F1 H1 s1 n1 h1 r1
    by_cases hz : isFrm xs = true
    · rw [if_pos hz] at k
      obtain ⟨a, b, c', d, e, rfl⟩ : ∃ a b c d e : Int, xs = [.int a, .int b, .int c, .int d, .int e] := by
        unfold isFrm at hz
        split at hz
        · exact ⟨_, _, _, _, _, rfl⟩
        · cases hz
      have ev : vs = [V.int a, V.int b, V.int c', V.int d, V.int e] := RpA.ints (ns := [a, b, c', d, e]) r1
      subst ev
      refine ⟨by rw [sizeLine_eq]; simp, fun p o hp od oc => ?_⟩
      have sF : Same F1 (upd F1 p (.frz o (.tup [V.int a, V.int b, V.int c', V.int d, V.int e]))) := same_upd (h1.fp hp)
      exact k (.ref p) _ _ (s1.trans sF) (fun hn => (n1 hn).trans (Kept.alloc hp)) (h1.alloc hp) (.frm (.inl ⟨o, od, oc, upd_same⟩))
    · rw [if_neg hz] at k; exact k.elim
/-- a written list -/
def eLst (ms : Mo (List Dt)) : Mo (List Dt) := bindM ms fun xs ρ => if xs.length ≤ 1000 then .ok xs ρ else .no
theorem kf_lst (h : KA X c n W es ms) : KF X c n W (.List es pos) (eLst ms) := peImp (pe_lst h) fun σ H Q ⟨ρ, F, h, k⟩ => by
  refine ⟨ρ, F, h, ?_⟩
  unfold eLst bindM at k
  cases hm : ms ρ with
  | no => simp only [hm] at k
  | er x ρ1 => simp only [hm] at k ⊢; exact k
  | ok xs ρ1 =>
    simp only [hm] at k ⊢
    intro vs F1 H1 s1 n1 h1 r1
    by_cases hz : xs.length ≤ 1000
    · rw [if_pos hz] at k
      exact ⟨by rw [r1.len]; exact le1000 hz, newL h1 (fun p vs F' H' sf sh h' a b d e r => k p vs F' H' (s1.trans sf) (fun hn => ⟨(n1 hn).trans sh.1, (n1 hn).sH.free sh.2⟩) h' a b d e r) r1⟩
    · rw [if_neg hz] at k; exact k.elim
end

/-! ### slices -/
section
variable {c : Cd} {X : Cx} {n : Prop} {W : WX} {m : Mo Dt} {e : Expr} {pos p2 : Pos}
def liftO (c : Cd) (W : WX) (m : Mo (Option Int)) : TO := fun σ H Q => ∃ ρ F, Holds c ρ F σ H ∧ match m ρ with
  | .ok o ρ' => ∀ F' H', Same F F' → Kept ρ F H ρ' F' H' → Holds c ρ' F' σ H' → Q o H'
  | .er x ρ' => Lx c W x ρ' F σ
  | .no => False
abbrev KO (X : Cx) (c : Cd) (W : WX) (e : Option Expr) (m : Mo (Option Int)) : Prop := PO X e (liftO c W m)
theorem poImp {e : Option Expr} {t t' : TO} (h : PO X e t) (k : ∀ σ H Q, t' σ H Q → t σ H Q) : PO X e t' := ⟨fun pins s σ H Q I q => h.run pins s σ H Q I (k _ _ _ q)⟩
def eNoP : Mo (Option Int) := fun ρ => .ok none ρ
def ePart (m : Mo Dt) : Mo (Option Int) := bindM m fun x ρ => match x with
  | .int i => .ok (some i) ρ
  | _ => .no
theorem o_none : KO X c W none eNoP := poImp po_none fun σ H Q ⟨ρ, F, h, k⟩ => k F H (Same.refl _) Kept.refl h
theorem o_some (h : KE X c True W e m) : KO X c W (some e) (ePart m) := poImp (po_some h) fun σ H Q ⟨ρ, F, h, k⟩ => by
  refine ⟨ρ, F, h, ?_⟩
  unfold ePart bindM at k
  cases hm : m ρ with
  | no => simp only [hm] at k
  | er x ρ1 => simp only [hm] at k ⊢; exact k
  | ok x ρ1 =>
    simp only [hm] at k ⊢
    cases x with
    | int i => intro v F1 H1 s1 n1 h1 r1; cases r1; exact ⟨i, rfl, k F1 H1 s1 (n1 trivial) h1⟩
    | _ => simp only at k
def cutD {α : Type} (xs : List α) (lo hi : Option Int) : List α := (xs.drop (HT.sIx xs.length 0 lo)).take (HT.sIx xs.length xs.length hi - HT.sIx xs.length 0 lo)
theorem cut_rp {K : PySem.W.Frag} {F : Hp} {vs : List V} {ds : List Dt} (r : RpA K F vs ds) (lo hi : Option Int) : RpA K F (cutV vs lo hi) (cutD ds lo hi) := by
  unfold cutV cutD
  rw [r.len]
  exact (r.drop _).take _
/-- the slice of a list, a fresh list -/
def slL (x : Dt) (lo hi : Option Int) : Option (List Dt) := match x with
  | .list xs => some (cutD xs lo hi)
  | _ => none
/-- the slice of a tuple (not the whole), of a text -/
def slD (x : Dt) (lo hi : Option Int) : Option Dt := match x with
  | .list xs => some (.list (cutD xs lo hi))
  | .tuple xs => if HT.sIx xs.length 0 lo = 0 ∧ HT.sIx xs.length xs.length hi = xs.length then none else some (.tuple (cutD xs lo hi))
  | .str z => if z.length ≤ sizeLine then some (.str (cutS z lo hi)) else none
  | .dict [(.bool true, .tuple xs)] => if HT.sIx xs.length 0 lo = 0 ∧ HT.sIx xs.length xs.length hi = xs.length then none else some (.tuple (cutD xs lo hi))
  | _ => none
theorem slD_dict {kvs : List (PyData × PyData)} {lo hi : Option Int} {z : Dt} (h : slD (.dict kvs) lo hi = some z) : ∃ xs, kvs = [(.bool true, .tuple xs)] ∧ ¬ (HT.sIx xs.length 0 lo = 0 ∧ HT.sIx xs.length xs.length hi = xs.length) ∧ z = .tuple (cutD xs lo hi) := by
  unfold slD at h
  split at h
  · rename_i e; cases e
  · rename_i e; cases e
  · rename_i e; cases e
  · rename_i xs e
    cases e
    split at h
    · cases h
    · cases h; exact ⟨xs, rfl, by assumption, rfl⟩
  · cases h
variable {lo hi : Option Expr} {ml mh : Mo (Option Int)}
def eSlF (m : Mo Dt) (ml mh : Mo (Option Int)) : Mo (List Dt) := bindM m fun x => bindM ml fun l => bindM mh fun h => ofO (slL x l h)
def eSl (m : Mo Dt) (ml mh : Mo (Option Int)) : Mo Dt := bindM m fun x => bindM ml fun l => bindM mh fun h => ofO (slD x l h)
theorem kf_sl (he : KP X c n W e m) (hl : KO X c W lo ml) (hh : KO X c W hi mh) : KF X c n W (.Subscript e (.Slice lo hi none p2) pos) (eSlF m ml mh) := peImp (pe_slice sl_list he hl hh) fun σ H Q ⟨ρ, F, h, k⟩ => by
  refine ⟨ρ, F, h, ?_⟩
  unfold eSlF bindM at k
  cases hm : m ρ with
  | no => simp only [hm] at k
  | er x ρ1 => simp only [hm] at k ⊢; exact k
  | ok x ρ1 =>
    simp only [hm] at k ⊢
    intro v F1 H1 s1 n1 h1 r1
    refine ⟨ρ1, F1, h1, ?_⟩
    cases hb : ml ρ1 with
    | no => simp only [hb] at k
    | er x ρ1 => simp only [hb] at k ⊢; exact k.later s1
    | ok l ρ2 =>
      simp only [hb] at k ⊢
      intro F2 H2 s2 n2 h2
      refine ⟨ρ2, F2, h2, ?_⟩
      cases hc : mh ρ2 with
      | no => simp only [hc] at k
      | er x ρ1 => simp only [hc] at k ⊢; exact (k.later s1).later s2
      | ok u ρ3 =>
        simp only [hc] at k ⊢
        intro F3 H3 s3 n3 h3
        unfold ofO slL at k
        cases x with
        | list ds =>
          simp only at k
          obtain ⟨a, vs, rfl, e, r⟩ := RP.lst (r1.mono (s2.trans s3) (n2.sH.trans n2.nw n3.sH)) h3.sub
          exact ⟨a, vs, rfl, SqL.of e, newL h3 (fun p vs F' H' sf sh h' a b d e r => k p vs F' H' (s1.trans (s2.trans (s3.trans sf))) (fun hn => ⟨(n1 hn).trans (n2.trans (n3.trans sh.1)), ((n1 hn).trans (n2.trans n3)).sH.free sh.2⟩) h' a b d e r) (cut_rp r _ _)⟩
        | _ => simp only at k
theorem k_sl (hK : X.K = c.K) (he : KP X c n W e m) (hl : KO X c W lo ml) (hh : KO X c W hi mh) : KE X c n W (.Subscript e (.Slice lo hi none p2) pos) (eSl m ml mh) := peImp (pe_slice (sl_list.or (sl_tup.or sl_str)) he hl hh) fun σ H Q ⟨ρ, F, h, k⟩ => by
  refine ⟨ρ, F, h, ?_⟩
  unfold eSl bindM at k
  cases hm : m ρ with
  | no => simp only [hm] at k
  | er x ρ1 => simp only [hm] at k ⊢; exact k
  | ok x ρ1 =>
    simp only [hm] at k ⊢
    intro v F1 H1 s1 n1 h1 r1
    refine ⟨ρ1, F1, h1, ?_⟩
    cases hb : ml ρ1 with
    | no => simp only [hb] at k
    | er x ρ1 => simp only [hb] at k ⊢; exact k.later s1
    | ok l ρ2 =>
      simp only [hb] at k ⊢
      intro F2 H2 s2 n2 h2
      refine ⟨ρ2, F2, h2, ?_⟩
      cases hc : mh ρ2 with
      | no => simp only [hc] at k
      | er x ρ1 => simp only [hc] at k ⊢; exact (k.later s1).later s2
      | ok u ρ3 =>
        simp only [hc] at k ⊢
        intro F3 H3 s3 n3 h3
        have r3 := r1.mono (s2.trans s3) (n2.sH.trans n2.nw n3.sH)
        have s13 := s1.trans (s2.trans s3)
        have nn : n → Kept ρ F H ρ3 F3 H3 := fun hn => (n1 hn).trans (n2.trans n3)
        by_cases hdd : ∃ kvs, x = .dict kvs
        · obtain ⟨kvs, rfl⟩ := hdd
          unfold ofO at k
          cases hz : slD (.dict kvs) l u with
          | none => simp only [hz] at k
          | some z =>
            simp only [hz] at k
            obtain ⟨xs, rfl, hw, rfl⟩ := slD_dict hz
            obtain ⟨a, vs, rfl, e, r, _⟩ := r3.frm
            refine .inr (.inl ⟨a, vs, rfl, by rw [hK]; exact h3.sub.sqT e.sq, by rw [r.len]; exact hw, fun p hp => ?_⟩)
            have sF : Same F3 (upd F3 p (.tup (cutV vs l u))) := same_upd (h3.fp hp)
            exact k (.ref p) _ _ (s13.trans sF) (fun hn => (nn hn).trans (Kept.alloc hp)) (h3.alloc hp) (.tup (SqT.of upd_same) (rpaMono sF (cut_rp r _ _)))
        unfold ofO slD at k
        cases x with
        | dict kvs => exact absurd ⟨_, rfl⟩ hdd
        | list ds =>
          simp only at k
          obtain ⟨a, vs, rfl, e, r⟩ := r3.lst h3.sub
          exact .inl ⟨a, vs, rfl, SqL.of e, newZ h3 (fun w F' H' sf kk h' rr => k w F' H' (s13.trans sf) (fun hn => (nn hn).trans kk) h' rr) (cut_rp r _ _)⟩
        | tuple ds =>
          simp only at k
          by_cases hw : HT.sIx ds.length 0 l = 0 ∧ HT.sIx ds.length ds.length u = ds.length
          · rw [if_pos hw] at k; exact k.elim
          · rw [if_neg hw] at k
            obtain ⟨a, vs, rfl, e, r⟩ := r3.tup
            refine .inr (.inl ⟨a, vs, rfl, by rw [hK]; exact h3.sub.sqT e, by rw [r.len]; exact hw, fun p hp => ?_⟩)
            have sF : Same F3 (upd F3 p (.tup (cutV vs l u))) := same_upd (h3.fp hp)
            exact k (.ref p) _ _ (s13.trans sF) (fun hn => (nn hn).trans (Kept.alloc hp)) (h3.alloc hp) (.tup (SqT.of upd_same) (rpaMono sF (cut_rp r _ _)))
        | str z =>
          simp only at k
          by_cases hw : z.length ≤ sizeLine
          · rw [if_pos hw] at k
            exact .inr (.inr ⟨z, r3.str, hw, k _ F3 H3 s13 nn h3 (.str _)⟩)
          · rw [if_neg hw] at k; exact k.elim
        | _ => simp only at k
end

/-! ### calls of defs -/
/-- what a def's mirror gives -/
inductive Fo where
  | ok (d : Dt)
  | fr (ds : List Dt)
  | er (x : Ex)
  | no
/-- the promise that a mirror makes -/
def spOf (K : PySem.W.Frag) (P : Program) (w : World) (cv : Array Value → NestedKey → Option Int) (xr : Ex → Value → Option Addr → Hp → Prop) (G : List Dt → Fo) : Sp := fun vs H Q E => ∃ F ds, Sub K P w cv F H ∧ RpA K F vs ds ∧ match G ds with
  | .ok d => ∀ v F' H', SameM F H H' → Same F F' → Sub K P w cv F' H' → NewB F H F' → Rp K F' v d → Q v H'
  | .fr es => ∀ p ws F' H', SameM F H H' → Same F F' → Sub K P w cv F' H' → NewB F H F' → F' p = none → H p = none → H' p = some (.lst ws) → RpA K F' ws es → Q (.ref p) H'
  | .er x => ∀ cls dd F' H', SameM F H H' → Same F F' → Sub K P w cv F' H' → NewB F H F' → xr x cls dd F' → E cls dd H'
  | .no => False
def eCall (G : List Dt → Fo) (ms : Mo (List Dt)) : Mo Dt := bindM ms fun ds ρ => match G ds with
  | .ok d => .ok d ρ
  | .fr es => .ok (.list es) ρ
  | .er x => .er x ρ
  | .no => .no
def eCallF (G : List Dt → Fo) (ms : Mo (List Dt)) : Mo (List Dt) := bindM ms fun ds ρ => match G ds with
  | .fr es => .ok es ρ
  | .er x => .er x ρ
  | _ => .no
section
variable {c : Cd} {X : Cx} {n : Prop} {W : WX} {ms : Mo (List Dt)} {e : Expr} {es : List Expr} {pos p : Pos} {G : List Dt → Fo} {x : Str} {k : Nat} {f : Addr} {fd : FuncData} {ps : List Str}
theorem callF_lift {σ : St} {H : Hp} {Q : VK} (h : liftF c n W (eCallF G ms) σ H Q) : tCallSD (spOf c.K c.P c.w c.cv c.xr G) [] (WE W) (liftA c n W ms) σ H Q := by
  obtain ⟨ρ, F, h, k⟩ := h
  refine ⟨ρ, F, h, ?_⟩
  unfold eCallF bindM at k
  cases hm : ms ρ with
  | no => simp only [hm] at k
  | er x ρ1 => simp only [hm] at k ⊢; exact k
  | ok ds ρ1 =>
    simp only [hm] at k ⊢
    intro vs F1 H1 s1 n1 h1 r1
    refine ⟨F1, ds, h1.sub, by rw [List.append_nil]; exact r1, ?_⟩
    cases hg : G ds with
    | no => simp only [hg] at k
    | ok d => simp only [hg] at k
    | er x =>
      simp only [hg] at k ⊢
      exact fun cls dd F' H' sH sF sub new xx => k cls dd F' H' (s1.trans sF) (h1.grow sF sH sub new) xx
    | fr ws =>
      simp only [hg] at k ⊢
      intro p us F' H' sH sF sub new f0 h0 hp r
      have h' := h1.grow sF sH sub new
      exact k p us F' H' (s1.trans sF) (fun hn => ⟨(n1 hn).trans ⟨sH, rfl, new⟩, (n1 hn).sH.free h0⟩) h' f0 (h1.h0 h0) (h1.free h0) hp r
theorem call_lift {σ : St} {H : Hp} {Q : VK} (h : lift RE c n W (eCall G ms) σ H Q) : tCallSD (spOf c.K c.P c.w c.cv c.xr G) [] (WE W) (liftA c n W ms) σ H Q := by
  obtain ⟨ρ, F, h, k⟩ := h
  refine ⟨ρ, F, h, ?_⟩
  unfold eCall bindM at k
  cases hm : ms ρ with
  | no => simp only [hm] at k
  | er x ρ1 => simp only [hm] at k ⊢; exact k
  | ok ds ρ1 =>
    simp only [hm] at k ⊢
    intro vs F1 H1 s1 n1 h1 r1
    refine ⟨F1, ds, h1.sub, by rw [List.append_nil]; exact r1, ?_⟩
    cases hg : G ds with
    | no => simp only [hg] at k
    | ok d =>
      simp only [hg] at k ⊢
      intro v F' H' sH sF sub new r
      exact k v F' H' (s1.trans sF) (fun hn => (n1 hn).trans ⟨sH, rfl, new⟩) (h1.grow sF sH sub new) r
    | er x =>
      simp only [hg] at k ⊢
      exact fun cls dd F' H' sH sF sub new xx => k cls dd F' H' (s1.trans sF) (h1.grow sF sH sub new) xx
    | fr ws =>
      simp only [hg] at k ⊢
      intro p us F' H' sH sF sub new f0 h0 hp r
      have h' := h1.grow sF sH sub new
      have sP : Same F' (upd F' p (.lst us)) := same_upd f0
      have sub' : CSub c (upd F' p (.lst us)) H' := sub.freeze hp f0 trivial
      have new' : NewB F1 H1 (upd F' p (.lst us)) := fun b z q => by
        by_cases hb : b = p
        · subst hb; exact .inr h0
        · rw [upd_ne hb] at q; exact new b z q
      exact k (.ref p) (upd F' p (.lst us)) H' (s1.trans (sF.trans sP)) (fun hn => (n1 hn).trans ⟨sH, rfl, new'⟩) (h1.grow (sF.trans sP) sH sub' new') (.lst upd_same (rpaMono sP r))
section
variable (F : FnOk X.prog X.w X.K X.mg X.base (L2.CX X.prog X.w) k f fd ps (spOf c.K c.P c.w c.cv c.xr G)) (hr : Room k X.A) (hg : Gl X x) (hm : X.mg x = some (.ref f)) (hk : PySem.W.keepIn X.K (.ref f) = true) (hb : Binds X.K fd ps []) (hx : ∀ σ, PassesAt (L2.CX X.prog X.w) X σ (WE W σ))
  (ha : KA X c n W (e :: es) ms)
include F hr hg hm hk hb hx ha
theorem k_call (hdb : (x == ("__debug__" : Str)) = false := by decide) (he : starEach (e :: es) X.env = (false, eval e X.env) :: starEach es X.env := by rfl) (hpl : (backTo pos (starEach es X.env)).any (·.1) = false := by rfl) :
    KE X c n W (.Call (.Name x p) (e :: es) [] pos) (eCall G ms) := peImp (pe_callSD F hr hg hm hk hb .nil hx ha hdb he hpl) fun _ _ _ h => call_lift h
theorem kf_call (hdb : (x == ("__debug__" : Str)) = false := by decide) (he : starEach (e :: es) X.env = (false, eval e X.env) :: starEach es X.env := by rfl) (hpl : (backTo pos (starEach es X.env)).any (·.1) = false := by rfl) :
    KF X c n W (.Call (.Name x p) (e :: es) [] pos) (eCallF G ms) := peImp (pe_callSD F hr hg hm hk hb .nil hx ha hdb he hpl) fun _ _ _ h => callF_lift h
end
/-- a value that is frozen, or a fresh list -/
inductive Vl where
  | z (d : Dt)
  | f (ds : List Dt)
def liftV (c : Cd) (n : Prop) (W : WX) (m : Mo Vl) : TE := fun σ H Q => ∃ ρ F, Holds c ρ F σ H ∧ match m ρ with
  | .ok (.z d) ρ' => ∀ v F' H', Same F F' → (n → Kept ρ F H ρ' F' H') → Holds c ρ' F' σ H' → Rp c.K F' v d → Q v H'
  | .ok (.f ds) ρ' => ∀ p vs F' H', Same F F' → (n → Kept ρ F H ρ' F' H' ∧ H p = none) → Holds c ρ' F' σ H' → F' p = none → c.H0 p = none → Free ρ' σ p → H' p = some (.lst vs) → RpA c.K F' vs ds → Q (.ref p) H'
  | .er x ρ' => Lx c W x ρ' F σ
  | .no => False
abbrev KV (X : Cx) (c : Cd) (n : Prop) (W : WX) (e : Expr) (m : Mo Vl) : Prop := PE X e (liftV c n W m)
def eCallV (G : List Dt → Fo) (ms : Mo (List Dt)) : Mo Vl := bindM ms fun ds ρ => match G ds with
  | .ok d => .ok (.z d) ρ
  | .fr es => .ok (.f es) ρ
  | .er x => .er x ρ
  | .no => .no
theorem callV_lift {σ : St} {H : Hp} {Q : VK} (h : liftV c n W (eCallV G ms) σ H Q) : tCallSD (spOf c.K c.P c.w c.cv c.xr G) [] (WE W) (liftA c n W ms) σ H Q := by
  obtain ⟨ρ, F, h, k⟩ := h
  refine ⟨ρ, F, h, ?_⟩
  unfold eCallV bindM at k
  cases hm : ms ρ with
  | no => simp only [hm] at k
  | er x ρ1 => simp only [hm] at k ⊢; exact k
  | ok ds ρ1 =>
    simp only [hm] at k ⊢
    intro vs F1 H1 s1 n1 h1 r1
    refine ⟨F1, ds, h1.sub, by rw [List.append_nil]; exact r1, ?_⟩
    cases hg : G ds with
    | no => simp only [hg] at k
    | ok d =>
      simp only [hg] at k ⊢
      intro v F' H' sH sF sub new r
      exact k v F' H' (s1.trans sF) (fun hn => (n1 hn).trans ⟨sH, rfl, new⟩) (h1.grow sF sH sub new) r
    | er x =>
      simp only [hg] at k ⊢
      exact fun cls dd F' H' sH sF sub new xx => k cls dd F' H' (s1.trans sF) (h1.grow sF sH sub new) xx
    | fr ws =>
      simp only [hg] at k ⊢
      intro p us F' H' sH sF sub new f0 h0 hp r
      exact k p us F' H' (s1.trans sF) (fun hn => ⟨(n1 hn).trans ⟨sH, rfl, new⟩, (n1 hn).sH.free h0⟩) (h1.grow sF sH sub new) f0 (h1.h0 h0) (h1.free h0) hp r
theorem kv_call (F : FnOk X.prog X.w X.K X.mg X.base (L2.CX X.prog X.w) k f fd ps (spOf c.K c.P c.w c.cv c.xr G)) (hr : Room k X.A) (hg : Gl X x) (hm : X.mg x = some (.ref f)) (hk : PySem.W.keepIn X.K (.ref f) = true) (hb : Binds X.K fd ps []) (hx : ∀ σ, PassesAt (L2.CX X.prog X.w) X σ (WE W σ))
  (ha : KA X c n W (e :: es) ms) (hdb : (x == ("__debug__" : Str)) = false := by decide) (he : starEach (e :: es) X.env = (false, eval e X.env) :: starEach es X.env := by rfl) (hpl : (backTo pos (starEach es X.env)).any (·.1) = false := by rfl) :
    KV X c n W (.Call (.Name x p) (e :: es) [] pos) (eCallV G ms) := peImp (pe_callSD F hr hg hm hk hb .nil hx ha hdb he hpl) fun _ _ _ h => callV_lift h
/-- a def without parameters, that raises nothing -/
def eCall0 (G : List Dt → Fo) : Mo Dt := fun ρ => match G [] with
  | .ok d => .ok d ρ
  | .fr es => .ok (.list es) ρ
  | _ => .no
def eCallF0 (G : List Dt → Fo) : Mo (List Dt) := fun ρ => match G [] with
  | .fr es => .ok es ρ
  | _ => .no
theorem passE0 : Passes (L2.CX X.prog X.w) X E0 := fun _ _ _ _ _ _ _ h => by
  obtain ⟨_, _, _, _, _, _, _, _, _, _, _, _, z⟩ := h
  exact z.elim
theorem kf_call0 (F : FnOk X.prog X.w X.K X.mg X.base (L2.CX X.prog X.w) k f fd ps (spOf c.K c.P c.w c.cv c.xr G)) (hr : Room k X.A) (hg : Gl X x) (hm : X.mg x = some (.ref f)) (hk : PySem.W.keepIn X.K (.ref f) = true) (hb : Binds X.K fd ps []) (hdb : (x == ("__debug__" : Str)) = false := by decide) :
    KF X c n W (.Call (.Name x p) [] [] pos) (eCallF0 G) := peImp (pe_call0 F hr hg hm hk hb .nil passE0 hdb) fun σ H Q ⟨ρ, F, h, k⟩ => by
  refine ⟨F, [], h.sub, .nil, ?_⟩
  unfold eCallF0 at k
  cases hg : G [] with
  | fr ws =>
    simp only [hg] at k ⊢
    intro p us F' H' sH sF sub new f0 h0 hp r
    exact k p us F' H' sF (fun hn => ⟨⟨sH, rfl, new⟩, h0⟩) (h.grow sF sH sub new) f0 (h.h0 h0) (h.free h0) hp r
  | _ => simp only [hg] at k
end
end DL

set_option Elab.async false
set_option linter.all false
set_option maxRecDepth 100000
namespace DL
open PySem PySem.Spec L2
open PyProof.Rows hiding St

/-! ### tests -/
section
variable {c : Cd} {X : Cx} {n : Prop} {W : WX} {m1 m2 : Mo Bool} {ma mb mc : Mo Dt} {a b e : Expr} {rest : List Expr} {pos : Pos}
def tAndM (m1 m2 : Mo Bool) : Mo Bool := bindM m1 fun b => if b = true then m2 else fun ρ => .ok false ρ
def tOrM (m1 m2 : Mo Bool) : Mo Bool := bindM m1 fun b => if b = true then fun ρ => .ok true ρ else m2
def tNotM (m : Mo Bool) : Mo Bool := bindM m fun b ρ => .ok (!b) ρ
theorem w_one {op : BoolOp} (h : KT X c n W a m1) : KW X c n W (.BoolOp op [a] pos) m1 := by
  cases op with
  | And => exact pw_and1 h
  | Or => exact pw_or1 h
theorem w_and (ha : KT X c n W a m1) (hb : KW X c n W (.BoolOp .And (b :: rest) pos) m2) : KW X c n W (.BoolOp .And (a :: b :: rest) pos) (tAndM m1 m2) := pwImp (pw_and ha hb) fun σ H Q ⟨ρ, F, h, k⟩ => by
  refine ⟨ρ, F, h, ?_⟩
  unfold tAndM bindM at k
  cases hm : m1 ρ with
  | no => simp only [hm] at k
  | er x ρ1 => simp only [hm] at k ⊢; exact k
  | ok b ρ1 =>
    simp only [hm] at k ⊢
    intro F1 H1 s1 n1 h1
    cases b with
    | false => exact k F1 H1 s1 n1 h1
    | true =>
      rw [if_pos rfl] at k ⊢
      refine ⟨ρ1, F1, h1, ?_⟩
      cases hb : m2 ρ1 with
      | no => simp only [hb] at k
      | er x ρ1 => simp only [hb] at k ⊢; exact k.later s1
      | ok y ρ2 =>
        simp only [hb] at k ⊢
        exact fun F2 H2 s2 n2 h2 => k F2 H2 (s1.trans s2) (fun hn => (n1 hn).trans (n2 hn)) h2
theorem w_or (ha : KT X c n W a m1) (hb : KW X c n W (.BoolOp .Or (b :: rest) pos) m2) : KW X c n W (.BoolOp .Or (a :: b :: rest) pos) (tOrM m1 m2) := pwImp (pw_or ha hb) fun σ H Q ⟨ρ, F, h, k⟩ => by
  refine ⟨ρ, F, h, ?_⟩
  unfold tOrM bindM at k
  cases hm : m1 ρ with
  | no => simp only [hm] at k
  | er x ρ1 => simp only [hm] at k ⊢; exact k
  | ok b ρ1 =>
    simp only [hm] at k ⊢
    intro F1 H1 s1 n1 h1
    cases b with
    | true => exact k F1 H1 s1 n1 h1
    | false =>
      rw [if_neg Bool.false_ne_true] at k ⊢
      refine ⟨ρ1, F1, h1, ?_⟩
      cases hb : m2 ρ1 with
      | no => simp only [hb] at k
      | er x ρ1 => simp only [hb] at k ⊢; exact k.later s1
      | ok y ρ2 =>
        simp only [hb] at k ⊢
        exact fun F2 H2 s2 n2 h2 => k F2 H2 (s1.trans s2) (fun hn => (n1 hn).trans (n2 hn)) h2
theorem t_bool {op : BoolOp} {es : List Expr} (h : KW X c n W (.BoolOp op es pos) m1) : KT X c n W (.BoolOp op es pos) m1 := h.pt
theorem t_not (h : KT X c n W a m1) : KT X c n W (.UnaryOp .Not a pos) (tNotM m1) := ptImp (pt_not h) fun σ H Q ⟨ρ, F, h, k⟩ => by
  refine ⟨ρ, F, h, ?_⟩
  unfold tNotM bindM at k
  cases hm : m1 ρ with
  | no => simp only [hm] at k
  | er x ρ1 => simp only [hm] at k ⊢; exact k
  | ok b ρ1 => simp only [hm] at k ⊢; exact k
/-! .. as values -/
def eAndM (m1 m2 : Mo Dt) : Mo Dt := bindM m1 fun x => match x with
  | .bool b => if b = true then m2 else fun ρ => .ok (.bool false) ρ
  | _ => fun _ => .no
def eOrM (m1 m2 : Mo Dt) : Mo Dt := bindM m1 fun x => match x with
  | .bool b => if b = true then fun ρ => .ok (.bool true) ρ else m2
  | _ => fun _ => .no
def eNotM (m : Mo Dt) : Mo Dt := bindM m fun x => match x with
  | .bool b => fun ρ => .ok (.bool (!b)) ρ
  | _ => fun _ => .no
theorem k_one {op : BoolOp} (h : KE X c n W a ma) : KE X c n W (.BoolOp op [a] pos) ma := pe_one h
theorem k_and (ha : KE X c n W a ma) (hb : KE X c n W (.BoolOp .And (b :: rest) pos) mb) : KE X c n W (.BoolOp .And (a :: b :: rest) pos) (eAndM ma mb) := peImp (pe_and ha hb) fun σ H Q ⟨ρ, F, h, k⟩ => by
  refine ⟨ρ, F, h, ?_⟩
  unfold eAndM bindM at k
  cases hm : ma ρ with
  | no => simp only [hm] at k
  | er x ρ1 => simp only [hm] at k ⊢; exact k
  | ok x ρ1 =>
    simp only [hm] at k ⊢
    cases x with
    | bool b =>
      intro v F1 H1 s1 n1 h1 r1
      cases r1
      refine ⟨b, rfl, ?_⟩
      cases b with
      | false => exact k _ F1 H1 s1 n1 h1 (.bl _)
      | true =>
        simp only [if_true] at k ⊢
        refine ⟨ρ1, F1, h1, ?_⟩
        cases hb : mb ρ1 with
        | no => simp only [hb] at k
        | er x ρ1 => simp only [hb] at k ⊢; exact k.later s1
        | ok y ρ2 =>
          simp only [hb] at k ⊢
          exact fun v2 F2 H2 s2 n2 h2 r2 => k v2 F2 H2 (s1.trans s2) (fun hn => (n1 hn).trans (n2 hn)) h2 r2
    | _ => simp only at k
theorem k_or (ha : KE X c n W a ma) (hb : KE X c n W (.BoolOp .Or (b :: rest) pos) mb) : KE X c n W (.BoolOp .Or (a :: b :: rest) pos) (eOrM ma mb) := peImp (pe_or ha hb) fun σ H Q ⟨ρ, F, h, k⟩ => by
  refine ⟨ρ, F, h, ?_⟩
  unfold eOrM bindM at k
  cases hm : ma ρ with
  | no => simp only [hm] at k
  | er x ρ1 => simp only [hm] at k ⊢; exact k
  | ok x ρ1 =>
    simp only [hm] at k ⊢
    cases x with
    | bool b =>
      intro v F1 H1 s1 n1 h1 r1
      cases r1
      refine ⟨b, rfl, ?_⟩
      cases b with
      | true => exact k _ F1 H1 s1 n1 h1 (.bl _)
      | false =>
        simp only [Bool.false_eq_true, if_false] at k ⊢
        refine ⟨ρ1, F1, h1, ?_⟩
        cases hb : mb ρ1 with
        | no => simp only [hb] at k
        | er x ρ1 => simp only [hb] at k ⊢; exact k.later s1
        | ok y ρ2 =>
          simp only [hb] at k ⊢
          exact fun v2 F2 H2 s2 n2 h2 r2 => k v2 F2 H2 (s1.trans s2) (fun hn => (n1 hn).trans (n2 hn)) h2 r2
    | _ => simp only at k
theorem k_not (h : KE X c n W a ma) : KE X c n W (.UnaryOp .Not a pos) (eNotM ma) := peImp (pe_not h) fun σ H Q ⟨ρ, F, h, k⟩ => by
  refine ⟨ρ, F, h, ?_⟩
  unfold eNotM bindM at k
  cases hm : ma ρ with
  | no => simp only [hm] at k
  | er x ρ1 => simp only [hm] at k ⊢; exact k
  | ok x ρ1 =>
    simp only [hm] at k ⊢
    cases x with
    | bool b => intro v F1 H1 s1 n1 h1 r1; cases r1; exact ⟨b, rfl, k _ F1 H1 s1 n1 h1 (.bl _)⟩
    | _ => simp only at k
/-- a if t else b -/
def eIf (t : Mo Bool) (ma mb : Mo Dt) : Mo Dt := bindM t fun b => if b = true then ma else mb
theorem k_if {t : Expr} (ht : KT X c n W t m1) (ha : KE X c n W a ma) (hb : KE X c n W b mb) : KE X c n W (.IfExp t a b pos) (eIf m1 ma mb) := peImp (pe_ifExp ht ha hb) fun σ H Q ⟨ρ, F, h, k⟩ => by
  refine ⟨ρ, F, h, ?_⟩
  unfold eIf bindM at k
  cases hm : m1 ρ with
  | no => simp only [hm] at k
  | er x ρ1 => simp only [hm] at k ⊢; exact k
  | ok b ρ1 =>
    simp only [hm] at k ⊢
    intro F1 H1 s1 n1 h1
    cases b with
    | true =>
      simp only [if_true] at k ⊢
      refine ⟨ρ1, F1, h1, ?_⟩
      cases hb : ma ρ1 with
      | no => simp only [hb] at k
      | er x ρ1 => simp only [hb] at k ⊢; exact k.later s1
      | ok y ρ2 =>
        simp only [hb] at k ⊢
        exact fun v2 F2 H2 s2 n2 h2 r2 => k v2 F2 H2 (s1.trans s2) (fun hn => (n1 hn).trans (n2 hn)) h2 r2
    | false =>
      simp only [Bool.false_eq_true, if_false] at k ⊢
      refine ⟨ρ1, F1, h1, ?_⟩
      cases hb : mb ρ1 with
      | no => simp only [hb] at k
      | er x ρ1 => simp only [hb] at k ⊢; exact k.later s1
      | ok y ρ2 =>
        simp only [hb] at k ⊢
        exact fun v2 F2 H2 s2 n2 h2 r2 => k v2 F2 H2 (s1.trans s2) (fun hn => (n1 hn).trans (n2 hn)) h2 r2
/-- a op1 b op2 c -/
def eChain (f f' : Dt → Dt → Option Dt) (ma mb mc : Mo Dt) : Mo Dt := bindM ma fun x => bindM mb fun y => match f x y with
  | some (.bool true) => bindM mc fun z => ofO (f' y z)
  | some (.bool false) => fun ρ => .ok (.bool false) ρ
  | _ => fun _ => .no
variable {r r' : R2} {f f' : Dt → Dt → Option Dt} {cc : Expr}
theorem chain_lift (S : SemOp c r f) (S' : SemOp c r' f') (hf1 : ∀ x y z, f x y = some z → ∀ (F : Hp) v, Rp c.K F v z → ∃ b, v = .bl b ∧ z = .bool b) {σ : St} {H : Hp} {Q : VK} (h : lift RE c n W (eChain f f' ma mb mc) σ H Q) :
    tChain r r' (lift RP c n W ma) (lift RP c True W mb) (lift RP c True W mc) σ H Q := by
  obtain ⟨ρ, F, h, k⟩ := h
  refine ⟨ρ, F, h, ?_⟩
  unfold eChain bindM at k
  cases ha : ma ρ with
  | no => simp only [ha] at k
  | er x ρ1 => simp only [ha] at k ⊢; exact k
  | ok x ρ1 =>
    simp only [ha] at k ⊢
    intro v F1 H1 s1 n1 h1 r1
    refine ⟨ρ1, F1, h1, ?_⟩
    cases hb : mb ρ1 with
    | no => simp only [hb] at k
    | er x ρ1 => simp only [hb] at k ⊢; exact k.later s1
    | ok y ρ2 =>
      simp only [hb] at k ⊢
      intro u F2 H2 s2 n2 h2 r2
      have g2 := n2 trivial
      cases hf : f x y with
      | none => simp only [hf] at k
      | some z =>
        refine S ρ2 F2 σ H2 v u x y z _ h2 (r1.mono s2 g2.sH) r2 hf fun w F3 H3 s3 g3 h3 r3 => ?_
        obtain ⟨d, rfl, rfl⟩ := hf1 x y z hf F3 w r3
        refine ⟨d, rfl, ?_⟩
        cases d with
        | false =>
          simp only [hf] at k
          rw [if_neg Bool.false_ne_true]
          exact k _ F3 H3 (s1.trans (s2.trans s3)) (fun hn => (n1 hn).trans (g2.trans g3)) h3 (.bl _)
        | true =>
          simp only [hf] at k
          rw [if_pos rfl]
          refine ⟨ρ2, F3, h3, ?_⟩
          cases hc : mc ρ2 with
          | no => simp only [hc] at k
          | er x ρ1 => simp only [hc] at k ⊢; exact ((k.later s1).later s2).later s3
          | ok z ρ3 =>
            simp only [hc] at k ⊢
            intro w F4 H4 s4 n4 h4 r4
            have g4 := n4 trivial
            obtain rfl := g4.e
            unfold ofO at k
            cases hf2 : f' y z with
            | none => simp only [hf2] at k
            | some zz =>
              simp only [hf2] at k
              exact S' ρ3 F4 σ H4 u w y z zz Q h4 (r2.mono (s3.trans s4) (g3.sH.trans g3.nw g4.sH)) r4 hf2 fun w5 F5 H5 s5 g5 h5 r5 =>
                k w5 F5 H5 (s1.trans (s2.trans (s3.trans (s4.trans s5)))) (fun hn => (n1 hn).trans (g2.trans (g3.trans (g4.trans g5)))) h5 r5
theorem cmpI_bool {p : Int → Int → Bool} : ∀ x y z, cmpI p x y = some z → ∀ (F : Hp) v, Rp c.K F v z → ∃ b, v = .bl b ∧ z = .bool b := by
  intro x y z hf F v hv
  unfold cmpI at hf
  split at hf
  · cases hf; cases hv; exact ⟨_, rfl, rfl⟩
  · cases hf
/-- the comparisons of ints by name -/
inductive Ord : CmpOp → (Int → Int → Bool) → Prop
  | lt : Ord .Lt fun i j => decide (i < j)
  | le : Ord .LtE fun i j => decide (i ≤ j)
  | gt : Ord .Gt fun i j => decide (j < i)
  | ge : Ord .GtE fun i j => decide (j ≤ i)
theorem Ord.rule {op : CmpOp} {p : Int → Int → Bool} (h : Ord op p) : OpR X (compareOp op) (rI0 fun i j => .bl (p i j)) := by
  cases h with
  | lt => exact op_lt
  | le => exact op_le
  | gt => exact op_gt
  | ge => exact op_ge
theorem k_chain {op op' : CmpOp} {p p' : Int → Int → Bool} (o : Ord op p) (o' : Ord op' p') (ha : KP X c n W a ma) (hb : KP X c True W b mb) (hc : KP X c True W cc mc) (hm : lastMarks [op, op'] [b, cc] = false := by with_unfolding_all rfl) :
    KE X c n W (.Compare a [op, op'] [b, cc] pos) (eChain (cmpI p) (cmpI p') ma mb mc) := peImp (pe_chain o.rule o'.rule ha hb hc hm) fun _ _ _ h => chain_lift sem_cmp sem_cmp cmpI_bool h
theorem t_chain {op op' : CmpOp} {p p' : Int → Int → Bool} (o : Ord op p) (o' : Ord op' p') (ha : KP X c n W a ma) (hb : KP X c True W b mb) (hc : KP X c True W cc mc) (hm : lastMarks [op, op'] [b, cc] = false := by with_unfolding_all rfl) :
    KT X c n W (.Compare a [op, op'] [b, cc] pos) (tOf (eChain (cmpI p) (cmpI p') ma mb mc)) := ptImp (pt_chain o.rule o'.rule ha hb hc hm) fun _ _ _ h => tb_lift (fun _ _ _ h => chain_lift sem_cmp sem_cmp cmpI_bool h) h
/-- a comparison as a test -/
theorem t_lt (ha : KP X c n W a ma) (hb : KP X c True W b mb) : KT X c n W (.Compare a [.Lt] [b] pos) (tOf (eOp ltD ma mb)) := t_cmp (op_lt.or op_lt_str) sem_lt (nomark _) ha hb
theorem t_le (ha : KP X c n W a ma) (hb : KP X c True W b mb) : KT X c n W (.Compare a [.LtE] [b] pos) (tOf (eOp leD ma mb)) := t_cmp op_le sem_cmp (nomark _) ha hb
theorem t_gt (ha : KP X c n W a ma) (hb : KP X c True W b mb) : KT X c n W (.Compare a [.Gt] [b] pos) (tOf (eOp gtD ma mb)) := t_cmp op_gt sem_cmp (nomark _) ha hb
theorem t_ge (ha : KP X c n W a ma) (hb : KP X c True W b mb) : KT X c n W (.Compare a [.GtE] [b] pos) (tOf (eOp geD ma mb)) := t_cmp op_ge sem_cmp (nomark _) ha hb
theorem t_eq (hu : X.A.units + 64 < cLine) (hK : X.K = c.K) (ha : KP X c n W a ma) (hb : KP X c True W b mb) : KT X c n W (.Compare a [.Eq] [b] pos) (tOf (eOp eqD ma mb)) := t_cmp (op_eqP hu) (by rw [hK]; exact sem_eq) (nomark _) ha hb
theorem t_ne (hu : X.A.units + 64 < cLine) (hK : X.K = c.K) (ha : KP X c n W a ma) (hb : KP X c True W b mb) : KT X c n W (.Compare a [.NotEq] [b] pos) (tOf (eOp neD ma mb)) := t_cmp (op_neP hu) (by rw [hK]; exact sem_ne) (nomark _) ha hb
theorem t_in (hu : X.A.units + 64 < cLine) (hK : X.K = c.K) (hm : behindInMarks .In b = false) (ha : KP X c n W a ma) (hb : KP X c True W b mb) : KT X c n W (.Compare a [.In] [b] pos) (tOf (eOp inD ma mb)) := t_cmp ((op_inP hu).or op_sign) (by rw [hK]; exact sem_in) hm ha hb
theorem t_nin (hu : X.A.units + 64 < cLine) (hK : X.K = c.K) (hm : behindInMarks .NotIn b = false) (ha : KP X c n W a ma) (hb : KP X c True W b mb) : KT X c n W (.Compare a [.NotIn] [b] pos) (tOf (eOp ninD ma mb)) := t_cmp ((op_ninP hu).or op_nsign) (by rw [hK]; exact sem_nin) hm ha hb
theorem t_is (ha : KP X c n W a ma) (hb : KP X c True W b mb) : KT X c n W (.Compare a [.Is] [b] pos) (tOf (eOp isD ma mb)) := t_cmp (op_isN.or op_isBl) sem_is (nomark _) ha hb
theorem t_nis (ha : KP X c n W a ma) (hb : KP X c True W b mb) : KT X c n W (.Compare a [.IsNot] [b] pos) (tOf (eOp nisD ma mb)) := t_cmp (op_notN.or op_notBl) sem_nis (nomark _) ha hb
end

/-! ### built-ins by name -/
section
variable {c : Cd} {X : Cx} {n : Prop} {W : WX} {ms : Mo (List Dt)} {e : Expr} {es : List Expr} {pos p : Pos} {x : Str} {id T : String} {r : List V → Hp → VK → Prop} {g : List Dt → Option Dt} {gf : List Dt → Option (List Dt)}
def eB (g : List Dt → Option Dt) (ms : Mo (List Dt)) : Mo Dt := bindM ms fun ds => ofO (g ds)
def eBF (g : List Dt → Option (List Dt)) (ms : Mo (List Dt)) : Mo (List Dt) := bindM ms fun ds => ofO (g ds)
def SemB (c : Cd) (r : List V → Hp → VK → Prop) (g : List Dt → Option Dt) : Prop := ∀ ρ F σ H vs ds z Q, Holds c ρ F σ H → Paired (RP c F H) vs ds → g ds = some z → (∀ w F' H', Same F F' → Kept ρ F H ρ F' H' → Holds c ρ F' σ H' → Rp c.K F' w z → Q w H') → r vs H Q
def SemBF (c : Cd) (r : List V → Hp → VK → Prop) (g : List Dt → Option (List Dt)) : Prop := ∀ ρ F σ H vs ds z Q, Holds c ρ F σ H → Paired (RP c F H) vs ds → g ds = some z → NewL c ρ F σ H z Q → r vs H Q
theorem b_lift (S : SemB c r g) {σ : St} {H : Hp} {Q : VK} (h : lift RE c n W (eB g ms) σ H Q) : tCB r (liftB c n W ms) σ H Q := by
  obtain ⟨ρ, F, h, k⟩ := h
  refine ⟨ρ, F, h, ?_⟩
  unfold eB bindM at k
  cases hm : ms ρ with
  | no => simp only [hm] at k
  | er x ρ1 => simp only [hm] at k ⊢; exact k
  | ok ds ρ1 =>
    simp only [hm] at k ⊢
    intro vs F1 H1 s1 n1 h1 r1
    unfold ofO at k
    cases hg : g ds with
    | none => simp only [hg] at k
    | some z =>
      simp only [hg] at k
      exact S ρ1 F1 σ H1 vs ds z Q h1 r1 hg fun w F2 H2 s2 g2 h2 r2 => k w F2 H2 (s1.trans s2) (fun hn => (n1 hn).trans g2) h2 r2
theorem bF_lift (S : SemBF c r gf) {σ : St} {H : Hp} {Q : VK} (h : liftF c n W (eBF gf ms) σ H Q) : tCB r (liftB c n W ms) σ H Q := by
  obtain ⟨ρ, F, h, k⟩ := h
  refine ⟨ρ, F, h, ?_⟩
  unfold eBF bindM at k
  cases hm : ms ρ with
  | no => simp only [hm] at k
  | er x ρ1 => simp only [hm] at k ⊢; exact k
  | ok ds ρ1 =>
    simp only [hm] at k ⊢
    intro vs F1 H1 s1 n1 h1 r1
    unfold ofO at k
    cases hg : gf ds with
    | none => simp only [hg] at k
    | some z =>
      simp only [hg] at k
      exact S ρ1 F1 σ H1 vs ds z Q h1 r1 hg fun p us F2 H2 s2 g2 h2 f0 h0 fr hp r2 => k p us F2 H2 (s1.trans s2) (fun hn => ⟨(n1 hn).trans g2.1, (n1 hn).sH.free g2.2⟩) h2 f0 h0 fr hp r2
theorem k_bi (hc : CallR X (.builtin id) r) (S : SemB c r g) (hg : Gl X x) (hm : X.mg x = none) (hv : bootBuiltins x = some (.builtin id)) (ha : KB X c n W (e :: es) ms) (hn : x ≠ "__name__" := by decide) (hdb : (x == ("__debug__" : Str)) = false := by decide)
    (he : starEach (e :: es) X.env = (false, eval e X.env) :: starEach es X.env := by rfl) (hpl : (backTo pos (starEach es X.env)).any (·.1) = false := by rfl) : KE X c n W (.Call (.Name x p) (e :: es) [] pos) (eB g ms) :=
  peImp (pe_callB hc hg hm hv ha hn hdb he hpl) fun _ _ _ h => b_lift S h
theorem k_ty (hc : CallR X (.type T) r) (S : SemB c r g) (hg : Gl X x) (hm : X.mg x = none) (hv : bootBuiltins x = some (.type T)) (ha : KB X c n W (e :: es) ms) (hn : x ≠ "__name__" := by decide) (hdb : (x == ("__debug__" : Str)) = false := by decide)
    (he : starEach (e :: es) X.env = (false, eval e X.env) :: starEach es X.env := by rfl) (hpl : (backTo pos (starEach es X.env)).any (·.1) = false := by rfl) : KE X c n W (.Call (.Name x p) (e :: es) [] pos) (eB g ms) :=
  peImp (pe_callTy hc hg hm hv ha hn hdb he hpl) fun _ _ _ h => b_lift S h
theorem kf_bi (hc : CallR X (.builtin id) r) (S : SemBF c r gf) (hg : Gl X x) (hm : X.mg x = none) (hv : bootBuiltins x = some (.builtin id)) (ha : KB X c n W (e :: es) ms) (hn : x ≠ "__name__" := by decide) (hdb : (x == ("__debug__" : Str)) = false := by decide)
    (he : starEach (e :: es) X.env = (false, eval e X.env) :: starEach es X.env := by rfl) (hpl : (backTo pos (starEach es X.env)).any (·.1) = false := by rfl) : KF X c n W (.Call (.Name x p) (e :: es) [] pos) (eBF gf ms) :=
  peImp (pe_callB hc hg hm hv ha hn hdb he hpl) fun _ _ _ h => bF_lift S h
theorem kf_ty (hc : CallR X (.type T) r) (S : SemBF c r gf) (hg : Gl X x) (hm : X.mg x = none) (hv : bootBuiltins x = some (.type T)) (ha : KB X c n W (e :: es) ms) (hn : x ≠ "__name__" := by decide) (hdb : (x == ("__debug__" : Str)) = false := by decide)
    (he : starEach (e :: es) X.env = (false, eval e X.env) :: starEach es X.env := by rfl) (hpl : (backTo pos (starEach es X.env)).any (·.1) = false := by rfl) : KF X c n W (.Call (.Name x p) (e :: es) [] pos) (eBF gf ms) :=
  peImp (pe_callTy hc hg hm hv ha hn hdb he hpl) fun _ _ _ h => bF_lift S h
end

section
variable {c : Cd} {X : Cx}
theorem pr1 {α β : Type} {R : α → β → Prop} {vs : List α} {x : β} (h : Paired R vs [x]) : ∃ v, vs = [v] ∧ R v x := by
  cases h with
  | cons a t => cases t; exact ⟨_, rfl, a⟩
theorem pr2 {α β : Type} {R : α → β → Prop} {vs : List α} {x y : β} (h : Paired R vs [x, y]) : ∃ v w, vs = [v, w] ∧ R v x ∧ R w y := by
  cases h with
  | cons a t =>
    obtain ⟨w, rfl, b⟩ := pr1 t
    exact ⟨_, w, rfl, a, b⟩
def lenD : List Dt → Option Dt
  | [.dict [(.none, .list xs)]] => some (.int xs.length)
  | [.list xs] => some (.int xs.length)
  | [.tuple xs] => some (.int xs.length)
  | [.str z] => if z.length ≤ sizeLine then some (.int z.length) else none
  | _ => none
theorem sem_len : SemB c (fun xs H Q => ∃ x n, xs = [x] ∧ LenV c.K x H n ∧ Q (V.int ↑n) H) lenD := by
  intro ρ F σ H vs ds z Q hh rv hg q
  unfold lenD at hg
  split at hg
  · obtain ⟨v, rfl, r⟩ := pr1 rv
    cases hg
    obtain ⟨a, ns, rfl, ek, e⟩ := r.dict
    cases ek
    exact ⟨_, (ns.map V.int).length, rfl, .inl ⟨_, hh.sub.sqL e, rfl⟩, by
      have e := flat hh q (.int _)
      simpa only [List.length_map] using e⟩
  · obtain ⟨v, rfl, r⟩ := pr1 rv
    cases hg
    obtain ⟨a, ws, rfl, e, r⟩ := r.lst hh.sub
    exact ⟨_, ws.length, rfl, .inl ⟨ws, SqL.of e, rfl⟩, by rw [r.len]; exact flat hh q (.int _)⟩
  · obtain ⟨v, rfl, r⟩ := pr1 rv
    cases hg
    obtain ⟨a, ws, rfl, e, r⟩ := r.tup
    exact ⟨_, ws.length, rfl, .inr ⟨ws, hh.sub.sqT e, rfl⟩, by rw [r.len]; exact flat hh q (.int _)⟩
  · obtain ⟨v, rfl, r⟩ := pr1 rv
    split at hg
    · rename_i hz
      cases hg
      exact ⟨_, _, rfl, by rw [r.str]; exact ⟨hz, rfl⟩, flat hh q (.int _)⟩
    · cases hg
  · cases hg
def intsOf : List Dt → Option (List Int)
  | [] => some []
  | .int i :: r => (intsOf r).map (i :: ·)
  | _ => none
theorem intsOf_eq : ∀ {ds : List Dt} {ns : List Int}, intsOf ds = some ns → ds = ns.map .int
  | [], ns, h => by cases h; rfl
  | d :: ds, ns, h => by
    cases d with
    | int i =>
      simp only [intsOf] at h
      cases e : intsOf ds with
      | none => rw [e] at h; cases h
      | some ms => rw [e] at h; cases h; rw [intsOf_eq e]; rfl
    | _ => simp [intsOf] at h
theorem intsOf_map : ∀ ns : List Int, intsOf (ns.map .int) = some ns
  | [] => rfl
  | n :: ns => by simp only [List.map_cons, intsOf, intsOf_map ns]; rfl
def sumD : List Dt → Option Dt
  | [.list xs] => (intsOf xs).map fun ns => .int ns.sum
  | _ => none
theorem sem_sum : SemB c (rSum c.K) sumD := by
  intro ρ F σ H vs ds z Q hh rv hg q
  unfold sumD at hg
  split at hg
  · rename_i xs
    obtain ⟨v, rfl, r⟩ := pr1 rv
    cases e : intsOf xs with
    | none => rw [e] at hg; cases hg
    | some ns =>
      rw [e] at hg
      cases hg
      obtain ⟨a, ws, rfl, e1, r⟩ := r.lst hh.sub
      rw [intsOf_eq e] at r
      rw [r.ints] at e1
      exact ⟨a, ns, rfl, SqL.of e1, flat hh q (.int _)⟩
  · cases hg
/-- the greatest, the least of a list that is not empty -/
def maxI : List Int → Int
  | [] => 0
  | n :: ns => ns.foldl max n
def minI : List Int → Int
  | [] => 0
  | n :: ns => ns.foldl min n
theorem foldl_max : ∀ (ns : List Int) (n : Int), n ≤ ns.foldl max n ∧ (∀ y ∈ ns, y ≤ ns.foldl max n) ∧ (ns.foldl max n = n ∨ ns.foldl max n ∈ ns)
  | [], n => ⟨Int.le_refl _, by simp, .inl rfl⟩
  | m :: ns, n => by
    obtain ⟨h1, h2, h3⟩ := foldl_max ns (max n m)
    rw [List.foldl_cons]
    refine ⟨by omega, fun y hy => ?_, ?_⟩
    · rcases List.mem_cons.mp hy with rfl | hy
      · omega
      · exact h2 y hy
    · rcases h3 with h3 | h3
      · by_cases hle : n ≤ m
        · right; rw [h3, show max n m = m by omega]; exact List.mem_cons_self
        · left; rw [h3]; omega
      · right; exact List.mem_cons_of_mem _ h3
theorem foldl_min : ∀ (ns : List Int) (n : Int), ns.foldl min n ≤ n ∧ (∀ y ∈ ns, ns.foldl min n ≤ y) ∧ (ns.foldl min n = n ∨ ns.foldl min n ∈ ns)
  | [], n => ⟨Int.le_refl _, by simp, .inl rfl⟩
  | m :: ns, n => by
    obtain ⟨h1, h2, h3⟩ := foldl_min ns (min n m)
    rw [List.foldl_cons]
    refine ⟨by omega, fun y hy => ?_, ?_⟩
    · rcases List.mem_cons.mp hy with rfl | hy
      · omega
      · exact h2 y hy
    · rcases h3 with h3 | h3
      · by_cases hle : m ≤ n
        · right; rw [h3, show min n m = m by omega]; exact List.mem_cons_self
        · left; rw [h3]; omega
      · right; exact List.mem_cons_of_mem _ h3
theorem maxI_spec {ns : List Int} (h : ns ≠ []) : maxI ns ∈ ns ∧ ∀ y ∈ ns, y ≤ maxI ns := by
  cases ns with
  | nil => exact absurd rfl h
  | cons n ns =>
    obtain ⟨h1, h2, h3⟩ := foldl_max ns n
    refine ⟨?_, fun y hy => ?_⟩
    · rcases h3 with h3 | h3
      · show ns.foldl max n ∈ _; rw [h3]; exact List.mem_cons_self
      · exact List.mem_cons_of_mem _ h3
    · rcases List.mem_cons.mp hy with rfl | hy
      · exact h1
      · exact h2 y hy
theorem minI_spec {ns : List Int} (h : ns ≠ []) : minI ns ∈ ns ∧ ∀ y ∈ ns, minI ns ≤ y := by
  cases ns with
  | nil => exact absurd rfl h
  | cons n ns =>
    obtain ⟨h1, h2, h3⟩ := foldl_min ns n
    refine ⟨?_, fun y hy => ?_⟩
    · rcases h3 with h3 | h3
      · show ns.foldl min n ∈ _; rw [h3]; exact List.mem_cons_self
      · exact List.mem_cons_of_mem _ h3
    · rcases List.mem_cons.mp hy with rfl | hy
      · exact h1
      · exact h2 y hy
def maxD : List Dt → Option Dt
  | [.int i, .int j] => some (.int (if j > i then j else i))
  | [.list xs] => (intsOf xs).bind fun ns => if ns = [] then none else some (.int (maxI ns))
  | _ => none
def minD : List Dt → Option Dt
  | [.int i, .int j] => some (.int (if j < i then j else i))
  | [.list xs] => (intsOf xs).bind fun ns => if ns = [] then none else some (.int (minI ns))
  | _ => none
theorem sem_max : SemB c (fun xs H Q => (∃ i j, xs = [V.int i, V.int j] ∧ Q (V.int (if j > i then j else i)) H) ∨ rMax c.K xs H Q) maxD := by
  intro ρ F σ H vs ds z Q hh rv hg q
  unfold maxD at hg
  split at hg
  · obtain ⟨v, w, rfl, r1, r2⟩ := pr2 rv
    cases hg
    exact .inl ⟨_, _, by rw [r1.int, r2.int], flat hh q (.int _)⟩
  · rename_i xs
    obtain ⟨v, rfl, r⟩ := pr1 rv
    cases e : intsOf xs with
    | none => rw [e] at hg; cases hg
    | some ns =>
      rw [e] at hg
      simp only [Option.bind_some] at hg
      split at hg
      · cases hg
      · rename_i hn
        cases hg
        obtain ⟨a, ws, rfl, e1, r⟩ := r.lst hh.sub
        rw [intsOf_eq e] at r
        rw [r.ints] at e1
        refine .inr ⟨a, ns, rfl, SqL.of e1, List.length_pos_iff.mpr hn, fun m hm hle => ?_⟩
        obtain ⟨h1, h2⟩ := maxI_spec hn
        have e : m = maxI ns := Int.le_antisymm (h2 m hm) (hle _ h1)
        rw [e]
        exact flat hh q (.int _)
  · cases hg
theorem sem_min : SemB c (fun xs H Q => (∃ i j, xs = [V.int i, V.int j] ∧ Q (V.int (if j < i then j else i)) H) ∨ rMin c.K xs H Q) minD := by
  intro ρ F σ H vs ds z Q hh rv hg q
  unfold minD at hg
  split at hg
  · obtain ⟨v, w, rfl, r1, r2⟩ := pr2 rv
    cases hg
    exact .inl ⟨_, _, by rw [r1.int, r2.int], flat hh q (.int _)⟩
  · rename_i xs
    obtain ⟨v, rfl, r⟩ := pr1 rv
    cases e : intsOf xs with
    | none => rw [e] at hg; cases hg
    | some ns =>
      rw [e] at hg
      simp only [Option.bind_some] at hg
      split at hg
      · cases hg
      · rename_i hn
        cases hg
        obtain ⟨a, ws, rfl, e1, r⟩ := r.lst hh.sub
        rw [intsOf_eq e] at r
        rw [r.ints] at e1
        refine .inr ⟨a, ns, rfl, SqL.of e1, List.length_pos_iff.mpr hn, fun m hm hle => ?_⟩
        obtain ⟨h1, h2⟩ := minI_spec hn
        have e : m = minI ns := Int.le_antisymm (hle _ h1) (h2 m hm)
        rw [e]
        exact flat hh q (.int _)
  · cases hg
def absD : List Dt → Option Dt
  | [.int i] => some (.int (if i < 0 then -i else i))
  | _ => none
theorem sem_abs : SemB c (fun xs H Q => ∃ i, xs = [V.int i] ∧ Q (V.int (if i < 0 then -i else i)) H) absD := by
  intro ρ F σ H vs ds z Q hh rv hg q
  unfold absD at hg
  split at hg
  · obtain ⟨v, rfl, r⟩ := pr1 rv
    cases hg
    exact ⟨_, by rw [r.int], flat hh q (.int _)⟩
  · cases hg
def intD : List Dt → Option Dt
  | [.int i] => some (.int i)
  | [.bool b] => some (.int (if b = true then 1 else 0))
  | _ => none
theorem sem_intD : SemB c (fun xs H Q => (∃ i, xs = [V.int i] ∧ Q (V.int i) H) ∨ ∃ k, xs = [V.bl k] ∧ Q (V.int (if k = true then 1 else 0)) H) intD := by
  intro ρ F σ H vs ds z Q hh rv hg q
  unfold intD at hg
  split at hg
  · obtain ⟨v, rfl, r⟩ := pr1 rv
    cases hg
    exact .inl ⟨_, by rw [r.int], flat hh q (.int _)⟩
  · obtain ⟨v, rfl, r⟩ := pr1 rv
    cases hg
    exact .inr ⟨_, by rw [r.bl], flat hh q (.int _)⟩
  · cases hg
/-- list(x) of a list or tuple -/
def listD : List Dt → Option (List Dt)
  | [.list xs] => some xs
  | [.tuple xs] => some xs
  | _ => none
theorem sem_list : SemBF c (fun xs H Q => ∃ p ys, xs = [V.ref p] ∧ (SqL c.K H p ys ∨ SqT c.K H p ys) ∧ ∀ (l : Addr), H l = none → Q (V.ref l) (upd H l (HO.lst ys))) listD := by
  intro ρ F σ H vs ds z Q hh rv hg q
  unfold listD at hg
  split at hg
  · obtain ⟨v, rfl, r⟩ := pr1 rv
    cases hg
    obtain ⟨a, ws, rfl, e, r⟩ := r.lst hh.sub
    exact ⟨a, ws, rfl, .inl (SqL.of e), newL hh q r⟩
  · obtain ⟨v, rfl, r⟩ := pr1 rv
    cases hg
    obtain ⟨a, ws, rfl, e, r⟩ := r.tup
    exact ⟨a, ws, rfl, .inr (hh.sub.sqT e), newL hh q r⟩
  · cases hg
/-- tuple(x) of a list -/
def tupD : List Dt → Option Dt
  | [.list xs] => some (.tuple xs)
  | [.tuple xs] => some (.tuple xs)
  | _ => none
theorem sem_tup : SemB c (fun xs H Q => ∃ p ys, xs = [V.ref p] ∧ ((SqL c.K H p ys ∧ ∀ (l : Addr), H l = none → Q (V.ref l) (upd H l (HO.tup ys))) ∨ SqT c.K H p ys ∧ Q (V.ref p) H)) tupD := by
  intro ρ F σ H vs ds z Q hh rv hg q
  unfold tupD at hg
  split at hg
  · obtain ⟨v, rfl, r⟩ := pr1 rv
    cases hg
    obtain ⟨a, ws, rfl, e, r⟩ := r.lst hh.sub
    refine ⟨a, ws, rfl, .inl ⟨SqL.of e, fun p hp => ?_⟩⟩
    exact q (.ref p) _ _ (same_upd (hh.fp hp)) (Kept.alloc hp) (hh.alloc hp) (.tup (SqT.of upd_same) (rpaMono (same_upd (hh.fp hp)) r))
  · obtain ⟨v, rfl, r⟩ := pr1 rv
    cases hg
    obtain ⟨a, ws, rfl, e, r⟩ := r.tup
    exact ⟨a, ws, rfl, .inr ⟨hh.sub.sqT e, flat hh q (.tup e r)⟩⟩
  · cases hg
end
end DL

set_option Elab.async false
set_option linter.all false
set_option maxRecDepth 100000
namespace DL
open PySem PySem.Spec L2
open PyProof.Rows hiding St

/-! ### statements -/
inductive Fl where
  | nx
  | rt (d : Dt)
  | ro (ds : List Dt)
  | bk
  | ct
def FlOk (c : Cd) (fl : Fl) (ρ' : Rho) (F : Hp) (D : Ends) : Prop := match fl with
  | .nx => ∀ σ' F' H', Same F F' → Holds c ρ' F' σ' H' → D.nx σ' H'
  | .rt d => ∀ v σ' F' H', Same F F' → Holds c ρ' F' σ' H' → Rp c.K F' v d → D.rt v H'
  | .ro ds => ∀ p vs σ' F' H', Same F F' → Holds c ρ' F' σ' H' → F' p = none → c.H0 p = none → H' p = some (.lst vs) → RpA c.K F' vs ds → D.rt (.ref p) H'
  | .bk => ∀ σ' F' H', Same F F' → Holds c ρ' F' σ' H' → D.bk σ' H'
  | .ct => ∀ σ' F' H', Same F F' → Holds c ρ' F' σ' H' → D.ct σ' H'
def LxS (c : Cd) (W : WX) (x : Ex) (ρ' : Rho) (F : Hp) : Prop := ∀ cls dd σ' F' H', Same F F' → Holds c ρ' F' σ' H' → c.xr x cls dd F' → W cls dd σ' H'
def Res (c : Cd) (W : WX) (r : Rs Fl) (F : Hp) (D : Ends) : Prop := match r with
  | .ok fl ρ' => FlOk c fl ρ' F D
  | .er x ρ' => LxS c W x ρ' F
  | .no => False
theorem FlOk.later {c : Cd} {fl : Fl} {ρ' : Rho} {F F1 : Hp} {D : Ends} (h : FlOk c fl ρ' F D) (s : Same F F1) : FlOk c fl ρ' F1 D := by
  cases fl with
  | nx => exact fun σ' F' H' s' => h σ' F' H' (s.trans s')
  | rt d => exact fun v σ' F' H' s' => h v σ' F' H' (s.trans s')
  | ro ds => exact fun p vs σ' F' H' s' => h p vs σ' F' H' (s.trans s')
  | bk => exact fun σ' F' H' s' => h σ' F' H' (s.trans s')
  | ct => exact fun σ' F' H' s' => h σ' F' H' (s.trans s')
theorem LxS.later {c : Cd} {W : WX} {x : Ex} {ρ' : Rho} {F F1 : Hp} (h : LxS c W x ρ' F) (s : Same F F1) : LxS c W x ρ' F1 := fun cls dd σ' F' H' s' => h cls dd σ' F' H' (s.trans s')
theorem LxS.lx {c : Cd} {W : WX} {x : Ex} {ρ' : Rho} {F : Hp} {σ : St} (h : LxS c W x ρ' F) : Lx c W x ρ' F σ := fun cls dd F' H' s' => h cls dd σ F' H' s'
theorem Res.later {c : Cd} {W : WX} {r : Rs Fl} {F F1 : Hp} {D : Ends} (h : Res c W r F D) (s : Same F F1) : Res c W r F1 D := by
  cases r with
  | ok fl ρ' => exact FlOk.later h s
  | er x ρ' => exact LxS.later h s
  | no => exact h
def liftS (c : Cd) (W : WX) (m : Mo Fl) : TS := fun D σ H => ∃ ρ F, Holds c ρ F σ H ∧ Res c W (m ρ) F D
abbrev KS (X : Cx) (c : Cd) (W : WX) (st : Stmt) (m : Mo Fl) : Prop := PS X st (liftS c W m)
abbrev KSs (X : Cx) (c : Cd) (W : WX) (st : List Stmt) (m : Mo Fl) : Prop := PSs X st (liftS c W m)
def sNext : Mo Fl := fun ρ => .ok .nx ρ
def sSeq (m1 m2 : Mo Fl) : Mo Fl := fun ρ => match m1 ρ with
  | .ok .nx ρ1 => m2 ρ1
  | r => r
section
variable {X : Cx} {c : Cd} {n : Prop} {W : WX} {st : Stmt} {sts : List Stmt} {m1 m2 : Mo Fl} {m me mi : Mo Dt} {mf : Mo (List Dt)} {pos p : Pos} {e : Expr} {i : Nat} {te : TE}
theorem s_nil : KSs X c W [] sNext := pssImp pss_nil fun D σ H ⟨ρ, F, h, k⟩ => k σ F H (Same.refl _) h
theorem s_pass : KS X c W (.Pass pos) sNext := psImp ps_pass fun D σ H ⟨ρ, F, h, k⟩ => k σ F H (Same.refl _) h
theorem s_break : KS X c W (.Break pos) (fun ρ => .ok .bk ρ) := psImp ps_break fun D σ H ⟨ρ, F, h, k⟩ => k σ F H (Same.refl _) h
theorem s_continue : KS X c W (.Continue pos) (fun ρ => .ok .ct ρ) := psImp ps_continue fun D σ H ⟨ρ, F, h, k⟩ => k σ F H (Same.refl _) h
theorem s_one (h : KS X c W st m1) : KSs X c W [st] m1 := pss_one h
theorem s_cons (h1 : KS X c W st m1) (h2 : KSs X c W sts m2) : KSs X c W (st :: sts) (sSeq m1 m2) := pssImp (pss_cons h1 h2) fun D σ H ⟨ρ, F, h, k⟩ => by
  refine ⟨ρ, F, h, ?_⟩
  unfold sSeq at k
  cases hm : m1 ρ with
  | no => rw [hm] at k; exact k.elim
  | er x ρ1 => rw [hm] at k; exact k
  | ok fl ρ1 =>
    rw [hm] at k
    cases fl with
    | nx => exact fun σ' F' H' s h' => ⟨ρ1, F', h', k.later s⟩
    | rt d => exact k
    | ro ds => exact k
    | bk => exact k
    | ct => exact k
/-! stores -/
def sSet (i : Nat) (m : Mo Dt) : Mo Fl := bindM m fun d ρ => .ok .nx (ρ.set i (.va d))
def sSetF (i : Nat) (m : Mo (List Dt)) : Mo Fl := bindM m fun ds ρ => .ok .nx (ρ.set i (.ml ds))
theorem asg (h : PS X st (tAsg te (gName i))) (k : ∀ σ H Q, lift RE c n W m σ H Q → te σ H Q) : KS X c W st (sSet i m) := psImp h fun D σ H ⟨ρ, F, h, q⟩ => by
  refine k σ H _ ⟨ρ, F, h, ?_⟩
  unfold sSet bindM at q
  cases hm : m ρ with
  | no => rw [hm] at q; exact q.elim
  | er x ρ1 => rw [hm] at q; exact LxS.lx q
  | ok d ρ1 =>
    rw [hm] at q
    exact fun v F' H' s _ h' r => q _ F' H' s (h'.setva r)
theorem asgF (h : PS X st (tAsg te (gName i))) (k : ∀ σ H Q, liftF c n W mf σ H Q → te σ H Q) : KS X c W st (sSetF i mf) := psImp h fun D σ H ⟨ρ, F, h, q⟩ => by
  refine k σ H _ ⟨ρ, F, h, ?_⟩
  unfold sSetF bindM at q
  cases hm : mf ρ with
  | no => rw [hm] at q; exact q.elim
  | er x ρ1 => rw [hm] at q; exact LxS.lx q
  | ok ds ρ1 =>
    rw [hm] at q
    exact fun p vs F' H' s _ h' f0 h0 fr hp r => q _ F' H' s (h'.setown (s := .ml ds) rfl fr ⟨p, vs, rfl, f0, h0, hp, r⟩)
theorem s_set {x : Str} {pos' : Pos} (hN : X.N.Nodup) (hi : X.N[i]? = some x) (hx : Loc X.env.scope x) (he : KE X c n W e m) (hs : swapsWith e (some (.Name x pos')) pos.line X.env = pure false := by rfl) (hf : X.fn x = true ∨ X.env.scope.names.lookup x = some .local := by first | exact .inl rfl | exact .inr rfl | assumption) :
    KS X c W (.Assign [.Name x pos'] e pos) (sSet i m) := asg (ps_set hN hi hx he hs hf) fun _ _ _ h => h
theorem s_setF {x : Str} {pos' : Pos} (hN : X.N.Nodup) (hi : X.N[i]? = some x) (hx : Loc X.env.scope x) (he : KF X c n W e mf) (hs : swapsWith e (some (.Name x pos')) pos.line X.env = pure false := by rfl) (hf : X.fn x = true ∨ X.env.scope.names.lookup x = some .local := by first | exact .inl rfl | exact .inr rfl | assumption) :
    KS X c W (.Assign [.Name x pos'] e pos) (sSetF i mf) := asgF (ps_set hN hi hx he hs hf) fun _ _ _ h => h
def sDrop (m : Mo Dt) : Mo Fl := bindM m fun _ ρ => .ok .nx ρ
theorem s_expr (he : KE X c n W e m) (hs : swapsWith e none pos.line X.env = pure false := by rfl) : KS X c W (.Expr e pos) (sDrop m) := psImp (ps_expr he hs) fun D σ H ⟨ρ, F, h, q⟩ => by
  refine ⟨ρ, F, h, ?_⟩
  unfold sDrop bindM at q
  cases hm : m ρ with
  | no => rw [hm] at q; exact q.elim
  | er x ρ1 => rw [hm] at q; exact LxS.lx q
  | ok d ρ1 =>
    rw [hm] at q
    exact fun v F' H' s _ h' r => q σ F' H' s h'
def sRet (m : Mo Dt) : Mo Fl := bindM m fun d ρ => .ok (.rt d) ρ
def sRetF (m : Mo (List Dt)) : Mo Fl := bindM m fun d ρ => .ok (.ro d) ρ
theorem s_ret (he : KE X c n W e m) : KS X c W (.Return (some e) pos) (sRet m) := psImp (ps_ret he) fun D σ H ⟨ρ, F, h, q⟩ => by
  refine ⟨ρ, F, h, ?_⟩
  unfold sRet bindM at q
  cases hm : m ρ with
  | no => rw [hm] at q; exact q.elim
  | er x ρ1 => rw [hm] at q; exact LxS.lx q
  | ok d ρ1 =>
    rw [hm] at q
    exact fun v F' H' s _ h' r => q v σ F' H' s h' r
theorem s_retF (he : KF X c n W e mf) : KS X c W (.Return (some e) pos) (sRetF mf) := psImp (ps_ret he) fun D σ H ⟨ρ, F, h, q⟩ => by
  refine ⟨ρ, F, h, ?_⟩
  unfold sRetF bindM at q
  cases hm : mf ρ with
  | no => rw [hm] at q; exact q.elim
  | er x ρ1 => rw [hm] at q; exact LxS.lx q
  | ok d ρ1 =>
    rw [hm] at q
    exact fun p vs F' H' s _ h' f0 h0 fr hp r => q p vs σ F' H' s h' f0 h0 hp r
theorem s_retN : KS X c W (.Return none pos) (fun ρ => .ok (.rt .none) ρ) := psImp ps_retN fun D σ H ⟨ρ, F, h, q⟩ => q .non σ F H (Same.refl _) h .non
/-- .. of what may be fresh or not -/
def sSetV (i : Nat) (m : Mo Vl) : Mo Fl := bindM m fun x ρ => match x with
  | .z d => .ok .nx (ρ.set i (.va d))
  | .f ds => .ok .nx (ρ.set i (.ml ds))
def sRetV (m : Mo Vl) : Mo Fl := bindM m fun x ρ => match x with
  | .z d => .ok (.rt d) ρ
  | .f ds => .ok (.ro ds) ρ
theorem s_setV {x : Str} {pos' : Pos} {mv : Mo Vl} (hN : X.N.Nodup) (hi : X.N[i]? = some x) (hx : Loc X.env.scope x) (he : KV X c n W e mv) (hs : swapsWith e (some (.Name x pos')) pos.line X.env = pure false := by rfl) (hf : X.fn x = true ∨ X.env.scope.names.lookup x = some .local := by first | exact .inl rfl | exact .inr rfl | assumption) :
    KS X c W (.Assign [.Name x pos'] e pos) (sSetV i mv) := psImp (ps_set hN hi hx he hs hf) fun D σ H ⟨ρ, F, h, q⟩ => by
  refine ⟨ρ, F, h, ?_⟩
  unfold sSetV bindM at q
  cases hm : mv ρ with
  | no => rw [hm] at q; exact q.elim
  | er x ρ1 => rw [hm] at q; exact LxS.lx q
  | ok y ρ1 =>
    rw [hm] at q
    cases y with
    | z d => exact fun v F' H' s _ h' r => q _ F' H' s (h'.setva r)
    | f ds => exact fun p vs F' H' s _ h' f0 h0 fr hp r => q _ F' H' s (h'.setown (s := .ml ds) rfl fr ⟨p, vs, rfl, f0, h0, hp, r⟩)
theorem s_retV {mv : Mo Vl} (he : KV X c n W e mv) : KS X c W (.Return (some e) pos) (sRetV mv) := psImp (ps_ret he) fun D σ H ⟨ρ, F, h, q⟩ => by
  refine ⟨ρ, F, h, ?_⟩
  unfold sRetV bindM at q
  cases hm : mv ρ with
  | no => rw [hm] at q; exact q.elim
  | er x ρ1 => rw [hm] at q; exact LxS.lx q
  | ok y ρ1 =>
    rw [hm] at q
    cases y with
    | z d => exact fun v F' H' s _ h' r => q v σ F' H' s h' r
    | f ds => exact fun p vs F' H' s _ h' f0 h0 fr hp r => q p vs σ F' H' s h' f0 h0 hp r
/-- a slot is forgotten -/
theorem Holds.forget {ρ : Rho} {F H : Hp} {σ : St} (h : Holds c ρ F σ H) (i : Nat) : Holds c (ρ.set i .un) F σ H := by
  have back : ∀ (j : Nat) t, (ρ.set i .un)[j]? = some t → t = .un ∨ ρ[j]? = some t := fun j t q => by
    by_cases z : i = j
    · subst z
      have hl : i < ρ.length := by
        have := (List.getElem?_eq_some_iff.mp q).1
        simpa using this
      rw [List.getElem?_set_self hl] at q
      cases q
      exact .inl rfl
    · rw [List.getElem?_set_ne z] at q; exact .inr q
  refine ⟨h.base, h.f0, h.sub, h.new, by simp [h.len], fun j t q => ?_, fun j k t u a q1 q2 w1 w2 s1 s2 => ?_⟩
  · rcases back j t q with rfl | q
    · trivial
    · exact h.sl j t q
  · rcases back j t q1 with rfl | q1
    · cases w1
    · rcases back k u q2 with rfl | q2
      · cases w2
      · exact h.ap j k t u a q1 q2 w1 w2 s1 s2
/-- return of an own list: the caller's from now on -/
def sRetO (i : Nat) : Mo Fl := fun ρ => match ρ[i]? with
  | some (.ml ds) => .ok (.ro ds) (ρ.set i .un)
  | some (.va d) => .ok (.rt d) ρ
  | _ => .no
theorem s_retO (he : PE X e (tVar i)) : KS X c W (.Return (some e) pos) (sRetO i) := psImp (ps_ret he) fun D σ H ⟨ρ, F, h, q⟩ => by
  unfold sRetO at q
  cases hr : ρ[i]? with
  | none => rw [hr] at q; exact q.elim
  | some s =>
    rw [hr] at q
    cases s with
    | va d =>
      obtain ⟨v, e1, e2⟩ := h.sl i _ hr
      exact ⟨v, e1, q v σ F H (Same.refl _) h e2⟩
    | ml ds =>
      obtain ⟨a, vs, e1, e2, e3, e4, e5⟩ := h.sl i _ hr
      exact ⟨_, e1, q a vs σ F H (Same.refl _) (h.forget i) e2 e3 e4 e5⟩
    | un => exact q.elim
    | ex x => exact q.elim
    | md kvs => exact q.elim
    | mn kvs => exact q.elim
/-! if -/
def sIf (t : Mo Bool) (m1 m2 : Mo Fl) : Mo Fl := bindM t fun b => if b = true then m1 else m2
theorem s_if {t : Expr} {mt : Mo Bool} {as bs : List Stmt} (ht : KT X c n W t mt) (ha : KSs X c W as m1) (hb : KSs X c W bs m2) : KS X c W (.If t as bs pos) (sIf mt m1 m2) := psImp (ps_if ht ha hb) fun D σ H ⟨ρ, F, h, q⟩ => by
  refine ⟨ρ, F, h, ?_⟩
  unfold sIf bindM at q
  cases hm : mt ρ with
  | no => rw [hm] at q; exact q.elim
  | er x ρ1 => rw [hm] at q; exact LxS.lx q
  | ok b ρ1 =>
    rw [hm] at q
    intro F' H' s _ h'
    cases b with
    | true => rw [if_pos rfl]; exact ⟨ρ1, F', h', Res.later (by simpa using q) s⟩
    | false => rw [if_neg Bool.false_ne_true]; exact ⟨ρ1, F', h', Res.later (by simpa using q) s⟩

/-! ### own lists are changed -/
def sAppend (i : Nat) (m : Mo Dt) : Mo Fl := fun ρ => match ρ[i]? with
  | some (.ml _) => bindM m (fun d ρ1 => match ρ1[i]? with
    | some (.ml ds) => if ds.length < sizeLine then .ok .nx (ρ1.set i (.ml (ds ++ [d]))) else .no
    | _ => .no) ρ
  | _ => .no
theorem s_append {o : Expr} {apos cpos : Pos} (ho : PE X o (tVar i)) (ha : KA X c n W [e] (eCons m eNil)) (hK : X.K = c.K) (hs : swapsWith (.Call (.Attribute o "append" apos) [e] [] cpos) none pos.line X.env = pure false := by rfl)
    (h1 : attributeBase o "append" X.env (eval o X.env) = eval o X.env := by rfl) (h3 : (apos.endLine == cpos.line) = true := by rfl)
    (h4 : starEach (e :: []) X.env = (false, eval e X.env) :: starEach [] X.env := by rfl) (h2 : (((((backTo cpos (starEach (e :: []) X.env)).all fun x => !x.fst) && (backToKw cpos (keywordEach [] X.env)).all fun x => x.fst.isSome) && decide (((e :: []).length + ([] : List Keyword).length + if ([] : List Keyword).isEmpty = true then 0 else 1) < 30)) = true) := by rfl)
    (h5 : ((backTo cpos (starEach [] X.env)).any fun x => x.fst) = false := by rfl) : KS X c W (.Expr (.Call (.Attribute o "append" apos) [e] [] cpos) pos) (sAppend i m) :=
  psImp (ps_expr (pe_bm PySem.F.plainAttrs_list PySem.F.slot_list_append PySem.F.type_list_append mt_append ho ha h1 h2 h3 h4 h5) hs) fun D σ H ⟨ρ, F, h, q⟩ => by
    unfold sAppend bindM at q
    cases hr : ρ[i]? with
    | none => rw [hr] at q; exact q.elim
    | some s =>
      rw [hr] at q
      cases s with
      | ml ds0 =>
        obtain ⟨a, vs0, e1, e2, e3, e4, e5⟩ := h.sl i _ hr
        refine ⟨_, e1, .inl ⟨rfl, vs0, SqL.of e4⟩, ρ, F, h, ?_⟩
        unfold eCons eNil bindM
        cases hm : m ρ with
        | no => simp only [hm] at q; exact q.elim
        | er x ρ1 => simp only [hm] at q ⊢; exact LxS.lx q
        | ok d ρ1 =>
          simp only [hm] at q ⊢
          intro vs F1 H1 s1 _ h1 r1
          cases r1 with
          | cons rd rn =>
            cases rn
            cases hr1 : ρ1[i]? with
            | none => rw [hr1] at q; exact q.elim
            | some s1 =>
              rw [hr1] at q
              cases s1 with
              | ml ds =>
                obtain ⟨a', vs, e1', e2', e3', e4', e5'⟩ := h1.sl i _ hr1
                rw [e1] at e1'
                cases e1'
                simp only at q
                by_cases hz : ds.length < sizeLine
                · rw [if_pos hz] at q
                  refine ⟨a, vs, _, rfl, rfl, e4', by rw [e5'.len]; exact hz, ?_⟩
                  refine q σ F1 _ (by assumption) (h1.write (i := i) hr1 rfl (s' := .ml (ds ++ [d])) rfl e1 ⟨a, _, rfl, e2', e3', upd_same, e5'.app (.cons rd .nil)⟩)
                · rw [if_neg hz] at q; exact q.elim
              | _ => exact q.elim
      | _ => exact q.elim
/-- name.extend(list) -/
def sExtend (i : Nat) (m : Mo Dt) : Mo Fl := fun ρ => match ρ[i]? with
  | some (.ml _) => bindM m (fun d ρ1 => match ρ1[i]? with
    | some (.ml ds) => match d with
      | .list es => if ds.length + es.length ≤ sizeLine then .ok .nx (ρ1.set i (.ml (ds ++ es))) else .no
      | _ => .no
    | _ => .no) ρ
  | _ => .no
theorem s_extend {o : Expr} {apos cpos : Pos} (ho : PE X o (tVar i)) (ha : KA X c n W [e] (eCons m eNil)) (hK : X.K = c.K) (hs : swapsWith (.Call (.Attribute o "extend" apos) [e] [] cpos) none pos.line X.env = pure false := by rfl)
    (h1 : attributeBase o "extend" X.env (eval o X.env) = eval o X.env := by rfl) (h3 : (apos.endLine == cpos.line) = true := by rfl)
    (h4 : starEach (e :: []) X.env = (false, eval e X.env) :: starEach [] X.env := by rfl) (h2 : (((((backTo cpos (starEach (e :: []) X.env)).all fun x => !x.fst) && (backToKw cpos (keywordEach [] X.env)).all fun x => x.fst.isSome) && decide (((e :: []).length + ([] : List Keyword).length + if ([] : List Keyword).isEmpty = true then 0 else 1) < 30)) = true) := by rfl)
    (h5 : ((backTo cpos (starEach [] X.env)).any fun x => x.fst) = false := by rfl) : KS X c W (.Expr (.Call (.Attribute o "extend" apos) [e] [] cpos) pos) (sExtend i m) :=
  psImp (ps_expr (pe_bm PySem.F.plainAttrs_list PySem.F.slot_list_extend PySem.F.type_list_extend mt_extend ho ha h1 h2 h3 h4 h5) hs) fun D σ H ⟨ρ, F, h, q⟩ => by
    unfold sExtend bindM at q
    cases hr : ρ[i]? with
    | none => rw [hr] at q; exact q.elim
    | some s =>
      rw [hr] at q
      cases s with
      | ml ds0 =>
        obtain ⟨a, vs0, e1, e2, e3, e4, e5⟩ := h.sl i _ hr
        refine ⟨_, e1, .inl ⟨rfl, vs0, SqL.of e4⟩, ρ, F, h, ?_⟩
        unfold eCons eNil bindM
        cases hm : m ρ with
        | no => simp only [hm] at q; exact q.elim
        | er x ρ1 => simp only [hm] at q ⊢; exact LxS.lx q
        | ok d ρ1 =>
          simp only [hm] at q ⊢
          intro vs F1 H1 s1 _ h1 r1
          cases r1 with
          | cons rd rn =>
            cases rn
            cases hr1 : ρ1[i]? with
            | none => rw [hr1] at q; exact q.elim
            | some s1 =>
              rw [hr1] at q
              cases s1 with
              | ml ds =>
                obtain ⟨a', vs, e1', e2', e3', e4', e5'⟩ := h1.sl i _ hr1
                rw [e1] at e1'
                cases e1'
                simp only at q
                cases d with
                | list es =>
                  cases rd with
                  | lst eb rb =>
                    simp only at q
                    by_cases hz : ds.length + es.length ≤ sizeLine
                    · rw [if_pos hz] at q
                      refine ⟨a, _, vs, _, rfl, rfl, e4', h1.sub.lst eb, by rw [e5'.len, rb.len]; exact hz, ?_⟩
                      exact q σ F1 _ (by assumption) (h1.write (i := i) hr1 rfl (s' := .ml (ds ++ es)) rfl e1 ⟨a, _, rfl, e2', e3', upd_same, e5'.app rb⟩)
                    · rw [if_neg hz] at q; exact q.elim
                | _ => exact q.elim
              | _ => exact q.elim
      | _ => exact q.elim
/-- an item of an own list is stored: name[i] = e -/
def sSetIx (i : Nat) (mk me : Mo Dt) : Mo Fl := bindM me fun d ρ1 => match ρ1[i]? with
  | some (.ml ds) => bindM mk (fun k ρ2 => match k with
    | .int z => match ixN ds.length z with
      | some j => .ok .nx (ρ2.set i (.ml (ds.set j d)))
      | none => .no
    | _ => .no) ρ1
  | _ => .no
theorem s_setIx {o ix : Expr} {tpos : Pos} {mk : Mo Dt} (ho : PE X o (tVar i)) (hi : KE X c True W ix mk) (he : KE X c n W e me) (ha : ∀ v, assign (.Subscript o ix tpos) X.env v = (do
      let ov ← holding [v] (eval o X.env)
      let iv ← holding [v, ov] (eval ix X.env)
      standAt tpos
      holding [v, ov, iv] (setItem ov iv v)
      release [v, ov, iv] []) := by intro _; rfl)
    (hs : swapsWithSole [.Subscript o ix tpos] e pos.line X.env = pure false := by rfl) (hw : swappedStores [.Subscript o ix tpos] e X.env = pure none := by rfl) (h1 : (assignEach [.Subscript o ix tpos] X.env).map (·.2) = [assign (.Subscript o ix tpos) X.env] := by rfl) :
    KS X c W (.Assign [.Subscript o ix tpos] e pos) (sSetIx i mk me) := psImp (ps_asg he (pg_sub ho hi set_list ha) hs hw h1) fun D σ H ⟨ρ, F, h, q⟩ => by
  refine ⟨ρ, F, h, ?_⟩
  unfold sSetIx bindM at q
  cases hm : me ρ with
  | no => simp only [hm] at q; exact q.elim
  | er x ρ1 => simp only [hm] at q ⊢; exact LxS.lx q
  | ok d ρ1 =>
    simp only [hm] at q ⊢
    intro v F1 H1 s1 _ h1 r1
    cases hr : ρ1[i]? with
    | none => simp only [hr] at q; exact q.elim
    | some s =>
      simp only [hr] at q
      cases s with
      | ml ds =>
        obtain ⟨a, vs, e1, e2, e3, e4, e5⟩ := h1.sl i _ hr
        refine ⟨_, e1, ρ1, F1, h1, ?_⟩
        simp only at q
        cases hk : mk ρ1 with
        | no => simp only [hk] at q; exact q.elim
        | er x ρ2 => simp only [hk] at q ⊢; exact LxS.lx (LxS.later q s1)
        | ok k ρ2 =>
          simp only [hk] at q ⊢
          intro w F2 H2 s2 n2 h2 r2
          have g2 := n2 trivial
          obtain rfl := g2.e
          cases k with
          | int z =>
            cases r2
            simp only at q
            cases hj : ixN ds.length z with
            | none => simp only [hj] at q; exact q.elim
            | some j =>
              simp only [hj] at q
              refine ⟨a, vs, z, j, rfl, rfl, g2.sH.lst e4, by rw [e5.len]; exact hj, ?_⟩
              have e5' := rpaMono s2 e5
              have e2' : F2 a = none := by
                obtain ⟨a', vs', q1, q2, _⟩ := h2.sl i _ hr
                rw [e1] at q1; cases q1; exact q2
              exact q σ F2 _ (s1.trans s2) (h2.write (i := i) hr rfl (s' := .ml (ds.set j d)) rfl e1 ⟨a, _, rfl, e2', e3, upd_same, RpA.set (rpMono s2 r1) j e5'⟩)
          | _ => exact q.elim
      | _ => exact q.elim
/-- name.pop(i) as a value -/
def ePop (i : Nat) (mk : Mo Dt) : Mo Dt := fun ρ => match ρ[i]? with
  | some (.ml ds) => bindM mk (fun k ρ1 => match k with
    | .int z => if -(2 ^ 63) ≤ z ∧ z < 2 ^ 63 then (match seqIndex? z ds.length with
      | some j => match ds[j]? with
        | some d => .ok d (ρ1.set i (.ml (ds.eraseIdx j)))
        | none => .no
      | none => .no) else .no
    | _ => .no) ρ
  | _ => .no
theorem k_pop {o : Expr} {apos cpos : Pos} {mk : Mo Dt} (ho : PE X o (tVar i)) (ha : KA X c True W [e] (eCons mk eNil)) 
    (h1 : attributeBase o "pop" X.env (eval o X.env) = eval o X.env := by rfl) (h3 : (apos.endLine == cpos.line) = true := by rfl)
    (h4 : starEach (e :: []) X.env = (false, eval e X.env) :: starEach [] X.env := by rfl) (h2 : (((((backTo cpos (starEach (e :: []) X.env)).all fun x => !x.fst) && (backToKw cpos (keywordEach [] X.env)).all fun x => x.fst.isSome) && decide (((e :: []).length + ([] : List Keyword).length + if ([] : List Keyword).isEmpty = true then 0 else 1) < 30)) = true) := by rfl)
    (h5 : ((backTo cpos (starEach [] X.env)).any fun x => x.fst) = false := by rfl) : KE X c False W (.Call (.Attribute o "pop" apos) [e] [] cpos) (ePop i mk) :=
  peImp (pe_bm PySem.F.plainAttrs_list PySem.F.slot_list_pop PySem.F.type_list_pop mt_popAt ho ha h1 h2 h3 h4 h5) fun σ H Q ⟨ρ, F, h, q⟩ => by
    unfold ePop bindM at q
    cases hr : ρ[i]? with
    | none => simp only [hr] at q
    | some s =>
      simp only [hr] at q
      cases s with
      | ml ds =>
        obtain ⟨a, vs0, e1, e2, e3, e4, e5⟩ := h.sl i _ hr
        refine ⟨_, e1, .inl ⟨rfl, vs0, SqL.of e4⟩, ρ, F, h, ?_⟩
        unfold eCons eNil bindM
        simp only at q
        cases hm : mk ρ with
        | no => simp only [hm] at q
        | er x ρ1 => simp only [hm] at q ⊢; exact q
        | ok k ρ1 =>
          simp only [hm] at q ⊢
          intro vs F1 H1 s1 n1 h1 r1
          have g1 := n1 trivial
          obtain rfl := g1.e
          cases r1 with
          | cons rd rn =>
            cases rn
            cases k with
            | int z =>
              cases rd
              simp only at q
              by_cases hz : -(2 ^ 63) ≤ z ∧ z < 2 ^ 63
              · rw [if_pos hz] at q
                cases hj : seqIndex? z ds.length with
                | none => simp only [hj] at q
                | some j =>
                  simp only [hj] at q
                  cases hd : ds[j]? with
                  | none => simp only [hd] at q
                  | some d =>
                    simp only [hd] at q
                    obtain ⟨w, hw, rw'⟩ := e5.get hd
                    refine ⟨a, vs0, z, j, w, rfl, rfl, g1.sH.lst e4, hz.1, hz.2, by rw [e5.len]; exact hj, hw, ?_⟩
                    have e2' : F1 a = none := by
                      obtain ⟨a', vs', q1, q2, _⟩ := h1.sl i _ hr
                      rw [e1] at q1; cases q1; exact q2
                    exact q w F1 _ s1 (fun z => z.elim) (h1.write (i := i) hr rfl (s' := .ml (ds.eraseIdx j)) rfl e1 ⟨a, _, rfl, e2', e3, upd_same, RpA.erase j (rpaMono s1 e5)⟩) (rpMono s1 rw')
              · rw [if_neg hz] at q; exact q.elim
            | _ => exact q.elim
      | _ => exact q.elim
end
end DL

set_option Elab.async false
set_option linter.all false
set_option maxRecDepth 100000
namespace DL
open PySem PySem.Spec L2
open PyProof.Rows hiding St

/-! ### two names at once, targets -/
section
variable {X : Cx} {c : Cd} {n : Prop} {W : WX} {ms : Mo (List Dt)} {m : Mo Dt} {i j : Nat}
def sPar (i j : Nat) (ms : Mo (List Dt)) : Mo Fl := bindM ms fun ds ρ => match ds with
  | [d, e] => .ok .nx ((ρ.set i (.va d)).set j (.va e))
  | _ => .no
theorem s_par {x y : Str} {a b : Expr} {px py pt pos : Pos} {kt k2 pt2} (hc : X.calm = true) (hN : X.N.Nodup) (hi : X.N[i]? = some x) (hj : X.N[j]? = some y) (hij : i ≠ j)
    (hx : X.env.scope.names.lookup x = some .local) (hy : X.env.scope.names.lookup y = some .local) (ha : KA X c n W [a, b] ms)
    (hw : swappedStores [.Tuple [.Name x px, .Name y py] kt pt] (.Tuple [a, b] k2 pt2) X.env = pure (some [x, y]))
    (hs : swapsWithSole [.Tuple [.Name x px, .Name y py] kt pt] (.Tuple [a, b] k2 pt2) pos.line X.env = pure false := by rfl) :
    KS X c W (.Assign [.Tuple [.Name x px, .Name y py] kt pt] (.Tuple [a, b] k2 pt2) pos) (sPar i j ms) := psImp (ps_par hc hN hi hj hij hx hy ha hw hs) fun D σ H ⟨ρ, F, h, q⟩ => by
  refine ⟨ρ, F, h, ?_⟩
  unfold sPar bindM at q
  cases hm : ms ρ with
  | no => simp only [hm] at q; exact q.elim
  | er x ρ1 => simp only [hm] at q ⊢; exact LxS.lx q
  | ok ds ρ1 =>
    simp only [hm] at q ⊢
    intro vs F1 H1 s1 _ h1 r1
    cases r1 with
    | nil => exact q.elim
    | cons r t =>
      cases t with
      | nil => exact q.elim
      | cons r' t' =>
        cases t' with
        | nil => exact ⟨_, _, rfl, q _ F1 H1 s1 ((h1.setva r).setva r')⟩
        | cons _ _ => exact q.elim

/-! a target: what a value does to the slots -/
def SemG (c : Cd) (g : TG) (is : List Nat) (T : Dt → Rho → Option Rho) : Prop := ∀ ρ F σ H v d ρ' (Q : St → Hp → Prop), Holds c ρ F σ H → Rp c.K F v d → T d ρ = some ρ' →
  (∀ σ', Holds c ρ' F σ' H → (∀ vs : List Nat, (∀ k ∈ is, k ∈ vs) → wipe σ' vs = wipe σ vs) → Q σ' H) → g v σ H Q
def tgN (i : Nat) : Dt → Rho → Option Rho := fun d ρ => some (ρ.set i (.va d))
def tgL : List Nat → List Dt → Rho → Option Rho
  | [], [], ρ => some ρ
  | i :: is, d :: ds, ρ => tgL is ds (ρ.set i (.va d))
  | _, _, _ => none
def tgT (is : List Nat) : Dt → Rho → Option Rho := fun d ρ => match d with
  | .tuple ds => tgL is ds ρ
  | .dict [(.bool true, .tuple ds)] => tgL is ds ρ
  | _ => none
theorem wipe_set {σ : St} {i : Nat} {x : Option V} : ∀ {vs : List Nat}, i ∈ vs → wipe (σ.set i x) vs = wipe σ vs
  | v :: vs, h => by
    by_cases hv : i ∈ vs
    · show (wipe (σ.set i x) vs).set v none = (wipe σ vs).set v none
      rw [wipe_set hv]
    · have e : v = i := ((List.mem_cons.mp h).resolve_right hv).symm
      subst e
      have out : ∀ {ws : List Nat}, v ∉ ws → wipe (σ.set v x) ws = (wipe σ ws).set v x := by
        intro ws
        induction ws with
        | nil => intro _; rfl
        | cons w ws ih =>
          intro hn
          have h1 : v ≠ w := fun e => hn (e ▸ List.mem_cons_self)
          have h2 : v ∉ ws := fun e => hn (List.mem_cons_of_mem _ e)
          show (wipe (σ.set v x) ws).set w none = ((wipe σ ws).set w none).set v x
          rw [ih h2, List.set_comm _ _ h1]
      show (wipe (σ.set v x) vs).set v none = (wipe σ vs).set v none
      rw [out hv, List.set_set]
theorem wipe_idem (σ : St) : ∀ vs : List Nat, wipe (wipe σ vs) vs = wipe σ vs := fun vs => by
  have go : ∀ (ws : List Nat) (τ : St), (∀ k ∈ ws, k ∈ vs) → wipe (wipe τ ws) vs = wipe τ vs := by
    intro ws
    induction ws with
    | nil => intro τ _; rfl
    | cons w ws ih =>
      intro τ hs
      show wipe ((wipe τ ws).set w none) vs = _
      rw [wipe_set (hs w List.mem_cons_self)]
      exact ih τ fun k hk => hs k (List.mem_cons_of_mem _ hk)
  exact go vs σ fun k hk => hk
theorem sem_name : SemG c (gName i) [i] (tgN i) := by
  intro ρ F σ H v d ρ' Q h r e q
  cases e
  exact q _ (h.setva r) fun vs hv => wipe_set (hv i List.mem_cons_self)
def gNms : List Nat → TGs
  | [] => gNil
  | i :: is => gCons (gName i) (gNms is)
theorem gNms_ok : ∀ {is : List Nat} {ρ : Rho} {F : Hp} {σ : St} {H : Hp} {vs : List V} {ds : List Dt} {ρ' : Rho} {Q : St → Hp → Prop}, Holds c ρ F σ H → RpA c.K F vs ds → tgL is ds ρ = some ρ' →
    (∀ σ', Holds c ρ' F σ' H → (∀ vs : List Nat, (∀ k ∈ is, k ∈ vs) → wipe σ' vs = wipe σ vs) → Q σ' H) → gNms is vs σ H Q
  | [], _, _, _, _, _, _, _, _, h, .nil, e, q => by cases e; exact ⟨rfl, q _ h fun _ _ => rfl⟩
  | [], _, _, _, _, _, _, _, _, h, .cons _ _, e, q => by cases e
  | i :: is, _, _, _, _, _, _, _, _, h, .nil, e, q => by cases e
  | i :: is, _, _, _, _, _, _, _, _, h, .cons r t, e, q => ⟨_, _, rfl, gNms_ok (h.setva r) t e fun σ' h' hw => q σ' h' fun vs hv => by
      rw [hw vs fun k hk => hv k (List.mem_cons_of_mem _ hk)]
      exact wipe_set (hv i List.mem_cons_self)⟩
theorem tgL_len : ∀ {is : List Nat} {ds : List Dt} {ρ ρ' : Rho}, tgL is ds ρ = some ρ' → is.length = ds.length
  | [], [], _, _, _ => rfl
  | i :: is, d :: ds, ρ, ρ', h => by
    show is.length + 1 = ds.length + 1
    rw [tgL_len (is := is) (ds := ds) h]
  | [], _ :: _, _, _, h => by cases h
  | _ :: _, [], _, _, h => by cases h
theorem sem_tupG {is : List Nat} {k : Nat} (hk : is.length = k) : SemG c (gTup c.K k (gNms is)) is (tgT is) := by
  intro ρ F σ H v d ρ' Q h r e q
  unfold tgT at e
  split at e
  · cases r with
    | tup e1 t =>
      refine ⟨_, _, rfl, h.sub.sqT e1, ?_, gNms_ok h t e q⟩
      rw [t.len, ← hk, tgL_len e]
  · obtain ⟨a, vs, rfl, e1, t, _⟩ := RP.frm (H := H) (.inl r)
    refine ⟨_, _, rfl, h.sub.sqT e1.sq, ?_, gNms_ok h t e q⟩
    rw [t.len, ← hk, tgL_len e]
  · cases e
/-- target = e, by its target's word -/
def sTo (T : Dt → Rho → Option Rho) (m : Mo Dt) : Mo Fl := bindM m fun d ρ => match T d ρ with
  | some ρ' => .ok .nx ρ'
  | none => .no
theorem s_to {tg e : Expr} {g : TG} {is : List Nat} {T : Dt → Rho → Option Rho} {pos : Pos} (S : SemG c g is T) (he : KE X c n W e m) (hg : PG X tg g) (hs : swapsWithSole [tg] e pos.line X.env = pure false := by rfl) (hw : swappedStores [tg] e X.env = pure none := by rfl)
    (h1 : (assignEach [tg] X.env).map (·.2) = [assign tg X.env] := by rfl) : KS X c W (.Assign [tg] e pos) (sTo T m) := psImp (ps_asg he hg hs hw h1) fun D σ H ⟨ρ, F, h, q⟩ => by
  refine ⟨ρ, F, h, ?_⟩
  unfold sTo bindM at q
  cases hm : m ρ with
  | no => simp only [hm] at q; exact q.elim
  | er x ρ1 => simp only [hm] at q ⊢; exact LxS.lx q
  | ok d ρ1 =>
    simp only [hm] at q ⊢
    intro v F1 H1 s1 _ h1 r1
    cases hT : T d ρ1 with
    | none => simp only [hT] at q; exact q.elim
    | some ρ' =>
      simp only [hT] at q
      exact S ρ1 F1 σ H1 v d ρ' _ h1 r1 hT fun σ' h' _ => q σ' F1 H1 s1 h'
/-! name op= e -/
def SemIp (c : Cd) (t : TIp) (f : Dt → Dt → Option Dt) : Prop := ∀ ρ F σ H v u x y z Q, Holds c ρ F σ H → Rp c.K F v x → Rp c.K F u y → f x y = some z →
  (∀ w, Rp c.K F w z → Q w H) → t v u H Q
def sAug (i : Nat) (f : Dt → Dt → Option Dt) (m : Mo Dt) : Mo Fl := fun ρ => match ρ[i]? with
  | some (.va x) => bindM m (fun y ρ1 => match f x y with
    | some z => .ok .nx (ρ1.set i (.va z))
    | none => .no) ρ
  | _ => .no
theorem s_aug {x : Str} {e : Expr} {op : Operator} {ti : TIp} {f : Dt → Dt → Option Dt} {pos pos' : Pos} (S : SemIp c ti f) (hN : X.N.Nodup) (hi : X.N[i]? = some x) (hx : Loc X.env.scope x) (he : KE X c n W e m) (ho : PIp X op ti) (hf : X.fn x = true ∨ X.env.scope.names.lookup x = some .local := by first | exact .inl rfl | exact .inr rfl | assumption) :
    KS X c W (.AugAssign (.Name x pos') op e pos) (sAug i f m) := psImp (ps_aug hN hi hx he ho hf) fun D σ H ⟨ρ, F, h, q⟩ => by
  unfold sAug bindM at q
  cases hr : ρ[i]? with
  | none => simp only [hr] at q; exact q.elim
  | some s =>
    simp only [hr] at q
    cases s with
    | va x =>
      obtain ⟨v, e1, e2⟩ := h.sl i _ hr
      refine ⟨v, e1, ρ, F, h, ?_⟩
      simp only at q
      cases hm : m ρ with
      | no => simp only [hm] at q; exact q.elim
      | er x ρ1 => simp only [hm] at q ⊢; exact LxS.lx q
      | ok y ρ1 =>
        simp only [hm] at q ⊢
        intro u F1 H1 s1 _ h1 r1
        cases hf : f x y with
        | none => simp only [hf] at q; exact q.elim
        | some z =>
          simp only [hf] at q
          exact S ρ1 F1 σ H1 v u x y z _ h1 (rpMono s1 e2) r1 hf fun w rw' => q _ F1 H1 s1 (h1.setva rw')
    | _ => exact q.elim
def addI : Dt → Dt → Option Dt
  | .int i, .int j => some (.int (i + j))
  | _, _ => none
theorem sem_ipAdd : SemIp c (ipI fun i j => i + j) addI := by
  intro ρ F σ H v u x y z Q h rx ry hf q
  unfold addI at hf
  split at hf
  · cases hf; cases rx; cases ry; exact ⟨_, _, rfl, rfl, q _ (.int _)⟩
  · cases hf
theorem sem_ipSub : SemIp c (ipI fun i j => i - j) subD := by
  intro ρ F σ H v u x y z Q h rx ry hf q
  unfold subD at hf
  split at hf
  · cases hf; cases rx; cases ry; exact ⟨_, _, rfl, rfl, q _ (.int _)⟩
  · cases hf
end

/-! ### what a loop walks -/
structure JOk (c : Cd) (J : It) (F : Hp) (ds : List Dt) : Prop where
  go : ∀ i H, SubL F H → i < ds.length → J.go i H
  stop : ∀ i H, SubL F H → ds.length ≤ i → J.stop i H
  yld : ∀ i ρ F1 σ H x H', Same F F1 → Holds c ρ F1 σ H → i < ds.length → J.yld i H x H' → ∃ d F2, ds[i]? = some d ∧ Same F1 F2 ∧ Kept ρ F1 H ρ F2 H' ∧ Holds c ρ F2 σ H' ∧ Rp c.K F2 x d
def liftI (c : Cd) (n : Prop) (W : WX) (m : Mo (List Dt)) : TI := fun σ H R => ∃ ρ F, Holds c ρ F σ H ∧ match m ρ with
  | .ok ds ρ' => ∀ J F' H', Same F F' → (n → Kept ρ F H ρ' F' H') → Holds c ρ' F' σ H' → JOk c J F' ds → R J H'
  | .er x ρ' => Lx c W x ρ' F σ
  | .no => False
abbrev KI (X : Cx) (c : Cd) (n : Prop) (W : WX) (tg iter : Expr) (m : Mo (List Dt)) : Prop := PI X tg iter (liftI c n W m)
/-- the same, while what one holds oneself stays -/
structure JOkP (c : Cd) (J : It) (F H1 : Hp) (ds : List Dt) : Prop where
  go : ∀ i H, SubL F H → SameM F H1 H → i < ds.length → J.go i H
  stop : ∀ i H, SubL F H → SameM F H1 H → ds.length ≤ i → J.stop i H
  yld : ∀ i ρ F1 σ H x H', Same F F1 → SameM F H1 H → Holds c ρ F1 σ H → i < ds.length → J.yld i H x H' → ∃ d F2, ds[i]? = some d ∧ Same F1 F2 ∧ Kept ρ F1 H ρ F2 H' ∧ Holds c ρ F2 σ H' ∧ Rp c.K F2 x d
def liftIP (c : Cd) (n : Prop) (W : WX) (m : Mo (List Dt)) : TI := fun σ H R => ∃ ρ F, Holds c ρ F σ H ∧ match m ρ with
  | .ok ds ρ' => ∀ J F' H', Same F F' → (n → Kept ρ F H ρ' F' H') → Holds c ρ' F' σ H' → JOkP c J F' H' ds → R J H'
  | .er x ρ' => Lx c W x ρ' F σ
  | .no => False
abbrev KIP (X : Cx) (c : Cd) (n : Prop) (W : WX) (tg iter : Expr) (m : Mo (List Dt)) : Prop := PI X tg iter (liftIP c n W m)
theorem JOk.peek {c : Cd} {J : It} {F H1 : Hp} {ds : List Dt} (h : JOk c J F ds) : JOkP c J F H1 ds := ⟨fun i H s _ => h.go i H s, fun i H s _ => h.stop i H s, fun i ρ F1 σ H x H' s _ => h.yld i ρ F1 σ H x H' s⟩
theorem piImp {X : Cx} {tg e : Expr} {t t' : TI} (h : PI X tg e t) (k : ∀ σ H R, t' σ H R → t σ H R) : PI X tg e t' := ⟨fun pins s σ H R I q => h.run pins s σ H R I (k _ _ _ q)⟩
section
variable {X : Cx} {c : Cd} {n : Prop} {W : WX} {ms : Mo (List Dt)} {m : Mo Dt} {tg e : Expr}
theorem jok_list {a : Addr} {F : Hp} {vs : List V} {ds : List Dt} (h : F a = some (.lst vs)) (r : RpA c.K F vs ds) : JOk c (Itl c.K a) F ds where
  go := fun i H s hi => by
    obtain ⟨v, hv, _⟩ := r.get (List.getElem?_eq_getElem hi)
    exact ⟨vs, v, SqL.of (s.lst h), hv⟩
  stop := fun i H s hi => ⟨vs, SqL.of (s.lst h), by rw [r.len]; exact hi⟩
  yld := fun i ρ F1 σ H x H' s1 hh hi y => by
    obtain ⟨rfl, y⟩ := y
    have e := y vs (SqL.of ((hh.sub.l.pre s1).lst h))
    obtain ⟨d, hd, rd⟩ := r.getV e
    exact ⟨d, F1, hd, Same.refl _, Kept.refl, hh, rpMono s1 rd⟩
theorem jok_tup {a : Addr} {F : Hp} {vs : List V} {ds : List Dt} (h : SqT c.K F a vs) (r : RpA c.K F vs ds) : JOk c (Itt c.K a) F ds where
  go := fun i H s hi => by
    obtain ⟨v, hv, _⟩ := r.get (List.getElem?_eq_getElem hi)
    exact ⟨vs, v, s.sqT h, hv⟩
  stop := fun i H s hi => ⟨vs, s.sqT h, by rw [r.len]; exact hi⟩
  yld := fun i ρ F1 σ H x H' s1 hh hi y => by
    obtain ⟨rfl, y⟩ := y
    have e := y vs ((hh.sub.l.pre s1).sqT h)
    obtain ⟨d, hd, rd⟩ := r.getV e
    exact ⟨d, F1, hd, Same.refl _, Kept.refl, hh, rpMono s1 rd⟩
/-- lo, lo + 1, .. -/
def rgD (lo : Int) (k : Nat) : List Dt := (List.range k).map fun (i : Nat) => .int (lo + (i : Int))
theorem rgD_len (lo : Int) (k : Nat) : (rgD lo k).length = k := by simp [rgD]
theorem jok_range {lo : Int} {k : Nat} {F : Hp} : JOk c (Itr lo k) F (rgD lo k) where
  go := fun i H s hi => by rw [rgD_len] at hi; exact hi
  stop := fun i H s hi => by rw [rgD_len] at hi; exact hi
  yld := fun i ρ F1 σ H x H' s1 hh hi y => by
    obtain ⟨rfl, rfl⟩ := y
    rw [rgD_len] at hi
    exact ⟨.int (lo + (i : Int)), F1, by simp [rgD, hi], Same.refl _, Kept.refl, hh, .int _⟩
/-- the signs of a text -/
def signsD (x : Str) : List Dt := x.cps.toList.map fun k => .str ⟨#[k]⟩
theorem jok_str {x : Str} {F : Hp} : JOk c (Its x) F (signsD x) where
  go := fun i H s hi => by simp only [signsD, List.length_map, Array.length_toList] at hi; exact hi
  stop := fun i H s hi => by simp only [signsD, List.length_map, Array.length_toList] at hi; exact hi
  yld := fun i ρ F1 σ H v H' s1 hh hi y => by
    obtain ⟨rfl, k, hk, rfl⟩ := y
    refine ⟨.str ⟨#[k]⟩, F1, ?_, Same.refl _, Kept.refl, hh, .str _⟩
    simp [signsD, hk]
/-- over a list, a tuple, a text -/
def iSeq (m : Mo Dt) : Mo (List Dt) := bindM m fun x ρ => match x with
  | .list ds => .ok ds ρ
  | _ => .no
def iTupM (m : Mo Dt) : Mo (List Dt) := bindM m fun x ρ => match x with
  | .tuple ds => .ok ds ρ
  | _ => .no
def iStrM (m : Mo Dt) : Mo (List Dt) := bindM m fun x ρ => match x with
  | .str z => .ok (signsD z) ρ
  | _ => .no
theorem i_list (hK : X.K = c.K) (h : KE X c n W e m) : KI X c n W tg e (iSeq m) := piImp (pi_list h) fun σ H R ⟨ρ, F, h, q⟩ => by
  refine ⟨ρ, F, h, ?_⟩
  unfold iSeq bindM at q
  cases hm : m ρ with
  | no => simp only [hm] at q
  | er x ρ1 => simp only [hm] at q ⊢; exact q
  | ok d ρ1 =>
    simp only [hm] at q ⊢
    cases d with
    | list ds =>
      intro v F1 H1 s1 n1 h1 r1
      cases r1 with
      | lst e r => exact ⟨_, rfl, ⟨_, SqL.of (h1.sub.lst e)⟩, by rw [hK]; exact q _ F1 H1 s1 n1 h1 (jok_list e r)⟩
    | _ => simp only at q
theorem i_tup (hK : X.K = c.K) (h : KE X c n W e m) : KI X c n W tg e (iTupM m) := piImp (pi_tup h) fun σ H R ⟨ρ, F, h, q⟩ => by
  refine ⟨ρ, F, h, ?_⟩
  unfold iTupM bindM at q
  cases hm : m ρ with
  | no => simp only [hm] at q
  | er x ρ1 => simp only [hm] at q ⊢; exact q
  | ok d ρ1 =>
    simp only [hm] at q ⊢
    cases d with
    | tuple ds =>
      intro v F1 H1 s1 n1 h1 r1
      cases r1 with
      | tup e r => exact ⟨_, rfl, ⟨_, by rw [hK]; exact h1.sub.sqT e⟩, by rw [hK]; exact q _ F1 H1 s1 n1 h1 (jok_tup e r)⟩
    | _ => simp only at q
theorem i_str (h : KE X c n W e m) : KI X c n W tg e (iStrM m) := piImp (pi_str h) fun σ H R ⟨ρ, F, h, q⟩ => by
  refine ⟨ρ, F, h, ?_⟩
  unfold iStrM bindM at q
  cases hm : m ρ with
  | no => simp only [hm] at q
  | er x ρ1 => simp only [hm] at q ⊢; exact q
  | ok d ρ1 =>
    simp only [hm] at q ⊢
    cases d with
    | str z =>
      intro v F1 H1 s1 n1 h1 r1
      cases r1
      exact ⟨z, rfl, q _ F1 H1 s1 n1 h1 jok_str⟩
    | _ => simp only at q
/-- over a list, a tuple or a text, whatever it is -/
def iAny (m : Mo Dt) : Mo (List Dt) := bindM m fun x ρ => match x with
  | .list ds => .ok ds ρ
  | .tuple ds => .ok ds ρ
  | .str z => .ok (signsD z) ρ
  | _ => .no
theorem i_any (hK : X.K = c.K) (h : KE X c n W e m) : KI X c n W tg e (iAny m) := ⟨fun pins s σ H R I q => by
  obtain ⟨ρ, F, hh, q⟩ := id q
  unfold iAny bindM at q
  cases hm : m ρ with
  | no => simp only [hm] at q
  | er x ρ1 =>
    refine (i_list hK h).run pins s σ H R I ⟨ρ, F, hh, ?_⟩
    unfold iSeq bindM
    simp only [hm] at q ⊢
    exact q
  | ok d ρ1 =>
    cases d with
    | list ds =>
      refine (i_list hK h).run pins s σ H R I ⟨ρ, F, hh, ?_⟩
      unfold iSeq bindM
      simp only [hm] at q ⊢
      exact q
    | tuple ds =>
      refine (i_tup hK h).run pins s σ H R I ⟨ρ, F, hh, ?_⟩
      unfold iTupM bindM
      simp only [hm] at q ⊢
      exact q
    | str z =>
      refine (i_str h).run pins s σ H R I ⟨ρ, F, hh, ?_⟩
      unfold iStrM bindM
      simp only [hm] at q ⊢
      exact q
    | _ => simp only [hm] at q⟩
theorem ip_of {mi : Mo (List Dt)} (h : KI X c n W tg e mi) : KIP X c n W tg e mi := piImp h fun σ H R ⟨ρ, F, hh, q⟩ => by
  refine ⟨ρ, F, hh, ?_⟩
  cases hm : mi ρ with
  | no => simp only [hm] at q
  | er x ρ1 => simp only [hm] at q ⊢; exact q
  | ok ds ρ1 =>
    simp only [hm] at q ⊢
    exact fun J F' H' s hn h' j => q J F' H' s hn h' j.peek
/-- over an own list that stays meanwhile -/
theorem i_peek {i : Nat} (hK : X.K = c.K) (h : PE X e (tVar i)) : KIP X c n W tg e (iSeq (ePeek i)) := piImp (pi_list h) fun σ H R ⟨ρ, F, hh, q⟩ => by
  unfold iSeq ePeek bindM at q
  cases hr : ρ[i]? with
  | none => simp only [hr] at q
  | some s =>
    cases s with
    | va d =>
      simp only [hr] at q
      obtain ⟨v, e1, r1⟩ := hh.sl i _ hr
      cases d with
      | list ds =>
        cases r1 with
        | lst e r => exact ⟨_, e1, _, rfl, ⟨_, SqL.of (hh.sub.lst e)⟩, by rw [hK]; exact q _ F H (Same.refl _) (fun _ => Kept.refl) hh (jok_list e r).peek⟩
      | _ => simp only at q
    | ml ds =>
      simp only [hr] at q
      obtain ⟨a, vs, e1, e2, e3, e4, r⟩ := hh.sl i _ hr
      refine ⟨_, e1, a, rfl, ⟨vs, SqL.of e4⟩, ?_⟩
      rw [hK]
      refine q _ F H (Same.refl _) (fun _ => Kept.refl) hh ⟨fun i H' s s' hi => ?_, fun i H' s s' hi => ⟨vs, SqL.of (s'.lst e4), by rw [r.len]; exact hi⟩, fun i ρ F1 σ H2 x H' s1 s2 h2 hi y => ?_⟩
      · obtain ⟨v, hv, _⟩ := r.get (List.getElem?_eq_getElem hi)
        exact ⟨vs, v, SqL.of (s'.lst e4), hv⟩
      · obtain ⟨rfl, y⟩ := y
        have ex := y vs (SqL.of (s2.lst e4))
        obtain ⟨d, hd, rd⟩ := r.getV ex
        exact ⟨d, F1, hd, Same.refl _, Kept.refl, h2, rpMono s1 rd⟩
    | _ => simp only [hr] at q
/-- range(j), range(i, j) -/
def small62 (j : Int) : Prop := -(2 ^ 62) ≤ j ∧ j < 2 ^ 62
instance {j : Int} : Decidable (small62 j) := by unfold small62; infer_instance
def rg1D : List Dt → Option (List Dt)
  | [.int j] => if small62 j then some (rgD 0 j.toNat) else none
  | _ => none
def rg2D : List Dt → Option (List Dt)
  | [.int i, .int j] => if small62 i ∧ small62 j then some (rgD i (j - i).toNat) else none
  | _ => none
theorem rg1D_some {ds zs : List Dt} (h : rg1D ds = some zs) : ∃ j, ds = [.int j] ∧ small62 j ∧ zs = rgD 0 j.toNat := by
  unfold rg1D at h
  split at h
  · rename_i j
    by_cases hj : small62 j
    · rw [if_pos hj] at h; cases h; exact ⟨j, rfl, hj, rfl⟩
    · rw [if_neg hj] at h; cases h
  · cases h
theorem rg2D_some {ds zs : List Dt} (h : rg2D ds = some zs) : ∃ i j, ds = [.int i, .int j] ∧ small62 i ∧ small62 j ∧ zs = rgD i (j - i).toNat := by
  unfold rg2D at h
  split at h
  · rename_i i j
    by_cases hj : small62 i ∧ small62 j
    · rw [if_pos hj] at h; cases h; exact ⟨i, j, rfl, hj.1, hj.2, rfl⟩
    · rw [if_neg hj] at h; cases h
  · cases h
theorem i_range1 {a : Expr} {p pos : Pos} (hg : Gl X "range") (hm : X.mg "range" = none) (ha : KA X c n W [a] ms) (hs : starEach [a] X.env = [(false, eval a X.env)] := by rfl) : KI X c n W tg (.Call (.Name "range" p) [a] [] pos) (eBF rg1D ms) := piImp (pi_range1 hg hm ha hs) fun σ H R ⟨ρ, F, h, q⟩ => by
  refine ⟨ρ, F, h, ?_⟩
  unfold eBF bindM at q
  cases hm : ms ρ with
  | no => simp only [hm] at q
  | er x ρ1 => simp only [hm] at q ⊢; exact q
  | ok ds ρ1 =>
    simp only [hm] at q ⊢
    intro vs F1 H1 s1 n1 h1 r1
    unfold ofO at q
    cases hz : rg1D ds with
    | none => simp only [hz] at q
    | some zs =>
      simp only [hz] at q
      obtain ⟨j, rfl, hj, rfl⟩ := rg1D_some hz
      cases r1 with
      | cons r t =>
        cases t
        cases r
        exact ⟨j, rfl, hj.1, hj.2, q _ F1 H1 s1 n1 h1 jok_range⟩
theorem i_range2 {a b : Expr} {p pos : Pos} (hg : Gl X "range") (hm : X.mg "range" = none) (ha : KA X c n W [a, b] ms) (hs : starEach [a, b] X.env = [(false, eval a X.env), (false, eval b X.env)] := by rfl) (hs2 : starEach [b] X.env = [(false, eval b X.env)] := by rfl) :
    KI X c n W tg (.Call (.Name "range" p) [a, b] [] pos) (eBF rg2D ms) := piImp (pi_range2 hg hm ha hs hs2) fun σ H R ⟨ρ, F, h, q⟩ => by
  refine ⟨ρ, F, h, ?_⟩
  unfold eBF bindM at q
  cases hm : ms ρ with
  | no => simp only [hm] at q
  | er x ρ1 => simp only [hm] at q ⊢; exact q
  | ok ds ρ1 =>
    simp only [hm] at q ⊢
    intro vs F1 H1 s1 n1 h1 r1
    unfold ofO at q
    cases hz : rg2D ds with
    | none => simp only [hz] at q
    | some zs =>
      simp only [hz] at q
      obtain ⟨i, j, rfl, hi, hj, rfl⟩ := rg2D_some hz
      cases r1 with
      | cons r t =>
        cases t with
        | cons r' t' =>
          cases t'
          cases r
          cases r'
          exact ⟨i, j, rfl, ⟨hi.1, hi.2, hj.1, hj.2⟩, q _ F1 H1 s1 n1 h1 jok_range⟩
/-- enumerate(list): each turn a new pair -/
def enD : Nat → List Dt → List Dt
  | _, [] => []
  | k, d :: ds => .tuple [.int k, d] :: enD (k + 1) ds
theorem enD_get : ∀ (ds : List Dt) (k i : Nat) (d : Dt), ds[i]? = some d → (enD k ds)[i]? = some (.tuple [.int ((k + i : Nat) : Int), d])
  | [], _, _, _, h => by simp at h
  | x :: ds, k, 0, d, h => by simp at h; subst h; simp [enD]
  | x :: ds, k, i + 1, d, h => by
    have q := enD_get ds (k + 1) i d (by simpa using h)
    rw [show k + 1 + i = k + (i + 1) by omega] at q
    simpa [enD] using q
theorem enD_len : ∀ (ds : List Dt) (k : Nat), (enD k ds).length = ds.length
  | [], _ => rfl
  | _ :: ds, k => by simp [enD, enD_len ds]
/-- zip of two lists -/
def zipD : List Dt → List Dt → List Dt
  | x :: xs, y :: ys => .tuple [x, y] :: zipD xs ys
  | _, _ => []
theorem zipD_get : ∀ (xs ys : List Dt) (i : Nat) (x y : Dt), xs[i]? = some x → ys[i]? = some y → (zipD xs ys)[i]? = some (.tuple [x, y])
  | [], _, _, _, _, h, _ => by simp at h
  | _ :: _, [], _, _, _, _, h => by simp at h
  | a :: xs, b :: ys, 0, x, y, h, h' => by simp at h h'; subst h; subst h'; simp [zipD]
  | a :: xs, b :: ys, i + 1, x, y, h, h' => by
    have q := zipD_get xs ys i x y (by simpa using h) (by simpa using h')
    simpa [zipD] using q
theorem zipD_len : ∀ (xs ys : List Dt), (zipD xs ys).length = min xs.length ys.length
  | [], _ => by simp [zipD]
  | _ :: _, [] => by simp [zipD]
  | _ :: xs, _ :: ys => by simp [zipD, zipD_len xs ys]
theorem jok_enum {a : Addr} {F : Hp} {vs : List V} {ds : List Dt} (h : F a = some (.lst vs)) (r : RpA c.K F vs ds) : JOk c (Ite c.K a) F (enD 0 ds) where
  go := fun i H s hi => by
    rw [enD_len] at hi
    obtain ⟨v, hv, _⟩ := r.get (List.getElem?_eq_getElem hi)
    exact ⟨vs, v, SqL.of (s.lst h), hv⟩
  stop := fun i H s hi => ⟨vs, SqL.of (s.lst h), by rw [enD_len] at hi; rw [r.len]; exact hi⟩
  yld := fun i ρ F1 σ H x H' s1 hh hi y => by
    obtain ⟨T, v, rfl, nT, rfl, y⟩ := y
    have e := y vs (SqL.of ((hh.sub.l.pre s1).lst h))
    obtain ⟨d, hd, rd⟩ := r.getV e
    have sF : Same F1 (upd F1 T (.tup [.int (i : Nat), v])) := same_upd (hh.fp nT)
    refine ⟨_, _, by have q := enD_get ds 0 i d hd; rw [Nat.zero_add] at q; exact q, sF, Kept.alloc nT, hh.alloc nT, .tup (SqT.of upd_same) (.cons (.int _) (.cons (rpMono (s1.trans sF) rd) .nil))⟩
def en1D : List Dt → Option (List Dt)
  | [.list ds] => some (enD 0 ds)
  | _ => none
theorem en1D_some {ds zs : List Dt} (h : en1D ds = some zs) : ∃ xs, ds = [.list xs] ∧ zs = enD 0 xs := by
  unfold en1D at h
  split at h
  · cases h; exact ⟨_, rfl, rfl⟩
  · cases h
theorem i_enum {a : Expr} {p pos tpos : Pos} {elts : List Expr} {kk : Nat} (hK : X.K = c.K) (hg : Gl X "enumerate") (hm : X.mg "enumerate" = none) (ha : KA X c n W [a] ms) (hs : starEach [a] X.env = [(false, eval a X.env)] := by rfl) :
    KI X c n W (.Tuple elts kk tpos) (.Call (.Name "enumerate" p) [a] [] pos) (eBF en1D ms) := piImp (pi_enum hg hm ha hs) fun σ H R ⟨ρ, F, h, q⟩ => by
  refine ⟨ρ, F, h, ?_⟩
  unfold eBF bindM at q
  cases hm : ms ρ with
  | no => simp only [hm] at q
  | er x ρ1 => simp only [hm] at q ⊢; exact q
  | ok ds ρ1 =>
    simp only [hm] at q ⊢
    intro vs F1 H1 s1 n1 h1 r1
    unfold ofO at q
    cases hz : en1D ds with
    | none => simp only [hz] at q
    | some zs =>
      simp only [hz] at q
      obtain ⟨xs, rfl, rfl⟩ := en1D_some hz
      cases r1 with
      | cons r t =>
        cases t
        cases r with
        | lst e r => exact ⟨_, _, rfl, SqL.of (h1.sub.lst e), by rw [hK]; exact q _ F1 H1 s1 n1 h1 (jok_enum e r)⟩
theorem jok_zip {a b : Addr} {F : Hp} {vs ws : List V} {ds es : List Dt} (h : F a = some (.lst vs)) (r : RpA c.K F vs ds) (h' : F b = some (.lst ws)) (r' : RpA c.K F ws es) : JOk c (Itz c.K a b) F (zipD ds es) where
  go := fun i H s hi => by
    rw [zipD_len] at hi
    obtain ⟨v, hv, _⟩ := r.get (List.getElem?_eq_getElem (show i < ds.length by omega))
    obtain ⟨w, hw, _⟩ := r'.get (List.getElem?_eq_getElem (show i < es.length by omega))
    exact ⟨vs, ws, v, w, SqL.of (s.lst h), SqL.of (s.lst h'), hv, hw⟩
  stop := fun i H s hi => ⟨vs, ws, SqL.of (s.lst h), SqL.of (s.lst h'), by rw [zipD_len] at hi; rw [r.len, r'.len]; omega⟩
  yld := fun i ρ F1 σ H x H' s1 hh hi y => by
    obtain ⟨T, v, w, rfl, nT, rfl, y, y'⟩ := y
    have e := y vs (SqL.of ((hh.sub.l.pre s1).lst h))
    have e' := y' ws (SqL.of ((hh.sub.l.pre s1).lst h'))
    obtain ⟨d, hd, rd⟩ := r.getV e
    obtain ⟨d', hd', rd'⟩ := r'.getV e'
    have sF : Same F1 (upd F1 T (.tup [v, w])) := same_upd (hh.fp nT)
    refine ⟨_, _, zipD_get ds es i d d' hd hd', sF, Kept.alloc nT, hh.alloc nT, .tup (SqT.of upd_same) (.cons (rpMono (s1.trans sF) rd) (.cons (rpMono (s1.trans sF) rd') .nil))⟩
def zip2D : List Dt → Option (List Dt)
  | [.list ds, .list es] => some (zipD ds es)
  | _ => none
theorem zip2D_some {ds zs : List Dt} (h : zip2D ds = some zs) : ∃ xs ys, ds = [.list xs, .list ys] ∧ zs = zipD xs ys := by
  unfold zip2D at h
  split at h
  · cases h; exact ⟨_, _, rfl, rfl⟩
  · cases h
theorem i_zip {a b : Expr} {p pos tpos : Pos} {elts : List Expr} {kk : Nat} (hK : X.K = c.K) (hg : Gl X "zip") (hm : X.mg "zip" = none) (ha : KA X c n W [a, b] ms) (hs : starEach [a, b] X.env = (false, eval a X.env) :: starEach [b] X.env := by rfl) (hpl : (backTo pos (starEach [b] X.env)).any (·.1) = false := by rfl) :
    KI X c n W (.Tuple elts kk tpos) (.Call (.Name "zip" p) [a, b] [] pos) (eBF zip2D ms) := piImp (pi_zip hg hm ha hs hpl) fun σ H R ⟨ρ, F, h, q⟩ => by
  refine ⟨ρ, F, h, ?_⟩
  unfold eBF bindM at q
  cases hm : ms ρ with
  | no => simp only [hm] at q
  | er x ρ1 => simp only [hm] at q ⊢; exact q
  | ok ds ρ1 =>
    simp only [hm] at q ⊢
    intro vs F1 H1 s1 n1 h1 r1
    unfold ofO at q
    cases hz : zip2D ds with
    | none => simp only [hz] at q
    | some zs =>
      simp only [hz] at q
      obtain ⟨xs, ys, rfl, rfl⟩ := zip2D_some hz
      cases r1 with
      | cons r t =>
        cases t with
        | cons r' t' =>
          cases t'
          cases r with
          | lst e r =>
            cases r' with
            | lst e' r' => exact ⟨_, _, _, _, rfl, SqL.of (h1.sub.lst e), SqL.of (h1.sub.lst e'), by rw [hK]; exact q _ F1 H1 s1 n1 h1 (jok_zip e r e' r')⟩
end

/-! ### for, while -/
def sLoop (T : Dt → Rho → Option Rho) (body : Mo Fl) : List Dt → Mo Fl
  | [] => fun ρ => .ok .nx ρ
  | d :: ds => fun ρ => match T d ρ with
    | none => .no
    | some ρ1 => match body ρ1 with
      | .ok .nx ρ2 => sLoop T body ds ρ2
      | .ok .ct ρ2 => sLoop T body ds ρ2
      | .ok .bk ρ2 => .ok .nx ρ2
      | r => r
def sFor (mi : Mo (List Dt)) (T : Dt → Rho → Option Rho) (body : Mo Fl) : Mo Fl := bindM mi fun ds => sLoop T body ds
def sWhile (t : Mo Bool) (body : Mo Fl) : Nat → Mo Fl
  | 0 => fun _ => .no
  | k + 1 => fun ρ => match t ρ with
    | .ok true ρ1 => match body ρ1 with
      | .ok .nx ρ2 => sWhile t body k ρ2
      | .ok .ct ρ2 => sWhile t body k ρ2
      | .ok .bk ρ2 => .ok .nx ρ2
      | r => r
    | .ok false ρ1 => .ok .nx ρ1
    | .er x ρ1 => .er x ρ1
    | .no => .no
section
variable {X : Cx} {c : Cd} {n : Prop} {W : WX} {mi : Mo (List Dt)} {mb : Mo Fl} {mt : Mo Bool} {tg iter t : Expr} {body : List Stmt} {g : TG} {is : List Nat} {T : Dt → Rho → Option Rho} {pos : Pos}
theorem s_for (S : SemG c g is T) (hp : PassesOwn (model X.prog X.w) X.A X.env X.xe) (hc : X.calm = true) (hi : KI X c n W tg iter mi) (hg : PG X tg g) (hb : KSs X c W body mb) (hs : ∀ x, foldedSetIterable iter X.env x = pure x := by intro _; rfl) :
    KS X c W (.For tg iter body [] pos) (sFor mi T mb) := psImp (ps_for hp hc hi hg hb hs) fun D σ H ⟨ρ, F, h, q⟩ => by
  refine ⟨ρ, F, h, ?_⟩
  unfold sFor bindM at q
  cases hm : mi ρ with
  | no => simp only [hm] at q; exact q.elim
  | er x ρ1 => simp only [hm] at q ⊢; exact LxS.lx q
  | ok ds ρ1 =>
    simp only [hm] at q ⊢
    intro J F1 H1 s1 _ h1 jk
    refine ⟨fun i k σ H => k = ds.length - i ∧ i ≤ ds.length ∧ ∃ ρ F', Same F1 F' ∧ Holds c ρ F' σ H ∧ Res c W (sLoop T mb (ds.drop i) ρ) F' D, ⟨_, rfl, Nat.zero_le _, ρ1, F1, Same.refl _, h1, by rw [List.drop_zero]; exact Res.later q s1⟩, ?_⟩
    rintro i k σ2 H2 ⟨rfl, hi, ρ2, F2, s2, h2, q2⟩
    by_cases hlt : i < ds.length
    · refine .inr ⟨jk.go i H2 (h2.sub.l.pre s2) hlt, fun σ' H' => ∃ ρ F', Same F1 F' ∧ Holds c ρ F' σ' H' ∧ Res c W (sLoop T mb (ds.drop (i + 1)) ρ) F' D, fun σ' H' w => ⟨_, by omega, rfl, hlt, w⟩, fun x H' y => ?_⟩
      obtain ⟨d, F3, hd, s3, _, h3, r3⟩ := jk.yld i ρ2 F2 σ2 H2 x H' s2 h2 hlt y
      have ed : ds.drop i = d :: ds.drop (i + 1) := by
        rw [List.drop_eq_getElem_cons hlt]
        rw [List.getElem?_eq_getElem hlt] at hd
        cases hd
        rfl
      rw [ed] at q2
      unfold sLoop at q2
      cases hT : T d ρ2 with
      | none => simp only [hT] at q2; exact q2.elim
      | some ρ3 =>
        simp only [hT] at q2
        refine S ρ2 F3 σ2 H' x d ρ3 _ h3 r3 hT fun σ' h' _ => ⟨ρ3, F3, h', ?_⟩
        cases hb : mb ρ3 with
        | no => simp only [hb] at q2; exact q2.elim
        | er x ρ4 => simp only [hb] at q2 ⊢; exact LxS.later q2 s3
        | ok fl ρ4 =>
          simp only [hb] at q2 ⊢
          cases fl with
          | nx => exact fun σ5 F5 H5 s5 h5 => ⟨ρ4, F5, s2.trans (s3.trans s5), h5, Res.later q2 (s3.trans s5)⟩
          | ct => exact fun σ5 F5 H5 s5 h5 => ⟨ρ4, F5, s2.trans (s3.trans s5), h5, Res.later q2 (s3.trans s5)⟩
          | bk => exact FlOk.later (fl := .nx) q2 s3
          | rt d => exact FlOk.later (fl := .rt d) q2 s3
          | ro d => exact FlOk.later (fl := .ro d) q2 s3
    · have e : i = ds.length := by omega
      subst e
      rw [List.drop_length] at q2
      exact .inl ⟨jk.stop _ H2 (h2.sub.l.pre s2) (Nat.le_refl _), q2 σ2 F2 H2 (Same.refl _) h2⟩
theorem s_while (k : Nat) (hp : PassesOwn (model X.prog X.w) X.A X.env X.xe) (ht : KT X c n W t mt) (hb : KSs X c W body mb) : KS X c W (.While t body [] pos) (sWhile mt mb k) := psImp (ps_while hp ht hb) fun D σ H ⟨ρ, F, h, q⟩ => by
  refine ⟨fun k σ H => ∃ ρ F', Same F F' ∧ Holds c ρ F' σ H ∧ Res c W (sWhile mt mb k ρ) F' D, ⟨k, ρ, F, Same.refl _, h, q⟩, ?_⟩
  rintro k σ2 H2 ⟨ρ2, F2, s2, h2, q2⟩
  refine ⟨ρ2, F2, h2, ?_⟩
  cases k with
  | zero => exact q2.elim
  | succ k =>
    unfold sWhile at q2
    cases hm : mt ρ2 with
    | no => simp only [hm] at q2; exact q2.elim
    | er x ρ1 => simp only [hm] at q2 ⊢; exact LxS.lx q2
    | ok b ρ3 =>
      cases b with
      | false =>
        simp only [hm] at q2 ⊢
        intro F3 H3 s3 _ h3
        rw [if_neg Bool.false_ne_true]
        exact q2 _ F3 H3 s3 h3
      | true =>
        simp only [hm] at q2 ⊢
        intro F3 H3 s3 _ h3
        rw [if_pos (by trivial)]
        refine ⟨fun σ' H' => ∃ ρ F', Same F F' ∧ Holds c ρ F' σ' H' ∧ Res c W (sWhile mt mb k ρ) F' D, fun σ' H' w => ⟨k, Nat.lt_succ_self _, w⟩, ρ3, F3, h3, ?_⟩
        cases hb : mb ρ3 with
        | no => simp only [hb] at q2; exact q2.elim
        | er x ρ4 => simp only [hb] at q2 ⊢; exact LxS.later q2 s3
        | ok fl ρ4 =>
          simp only [hb] at q2 ⊢
          cases fl with
          | nx => exact fun σ5 F5 H5 s5 h5 => ⟨ρ4, F5, s2.trans (s3.trans s5), h5, Res.later q2 (s3.trans s5)⟩
          | ct => exact fun σ5 F5 H5 s5 h5 => ⟨ρ4, F5, s2.trans (s3.trans s5), h5, Res.later q2 (s3.trans s5)⟩
          | bk => exact FlOk.later (fl := .nx) q2 s3
          | rt d => exact FlOk.later (fl := .rt d) q2 s3
          | ro d => exact FlOk.later (fl := .ro d) q2 s3
end
end DL

set_option Elab.async false
set_option linter.all false
set_option maxRecDepth 100000
namespace DL
open PySem PySem.Spec L2
open PyProof.Rows hiding St

/-! ### comprehensions -/
def cL (T : Dt → Rho → Option Rho) (t : Mo Bool) (e : Mo Dt) (ρ : Rho) : List Dt → Option (List Dt)
  | [] => some []
  | d :: ds => match T d ρ with
    | none => none
    | some ρ1 => match t ρ1 with
      | .ok true _ => match e ρ1 with
        | .ok y _ => (cL T t e ρ ds).map (y :: ·)
        | _ => none
      | .ok false _ => cL T t e ρ ds
      | _ => none
def wipeR (ρ : Rho) : List Nat → Rho
  | [] => ρ
  | i :: is => (wipeR ρ is).set i .un
def eComp (mi : Mo (List Dt)) (own : List Nat) (T : Dt → Rho → Option Rho) (t : Mo Bool) (e : Mo Dt) : Mo (List Dt) := bindM mi fun ds ρ => match cL T t e (wipeR ρ own) ds with
  | some ys => if ds.length ≤ sizeLine then .ok ys ρ else .no
  | none => .no
section
variable {X : Cx} {c : Cd} {n : Prop} {W : WX} {ρ : Rho} {F H : Hp} {σ : St}
theorem Holds.wipe1 (h : Holds c ρ F σ H) (i : Nat) : Holds c (ρ.set i .un) F (σ.set i none) H := by
  have back : ∀ (j : Nat) t, (ρ.set i .un)[j]? = some t → t = .un ∨ (i ≠ j ∧ ρ[j]? = some t) := fun j t q => by
    by_cases z : i = j
    · subst z
      have hl : i < ρ.length := by
        have := (List.getElem?_eq_some_iff.mp q).1
        simpa using this
      rw [List.getElem?_set_self hl] at q
      cases q
      exact .inl rfl
    · rw [List.getElem?_set_ne z] at q; exact .inr ⟨z, q⟩
  refine ⟨h.base, h.f0, h.sub, h.new, by simp [h.len], fun j t q => ?_, fun j k t u a q1 q2 w1 w2 s1 s2 => ?_⟩
  · rcases back j t q with rfl | ⟨z, q⟩
    · trivial
    · rw [List.getElem?_set_ne z]; exact h.sl j t q
  · rcases back j t q1 with rfl | ⟨z1, q1⟩
    · cases w1
    · rcases back k u q2 with rfl | ⟨z2, q2⟩
      · cases w2
      · rw [List.getElem?_set_ne z1] at s1
        rw [List.getElem?_set_ne z2] at s2
        exact h.ap j k t u a q1 q2 w1 w2 s1 s2
theorem Holds.wipe (h : Holds c ρ F σ H) : ∀ is : List Nat, Holds c (wipeR ρ is) F (L2.wipe σ is) H
  | [] => h
  | i :: is => (Holds.wipe h is).wipe1 i
/-- an object that is nobody's is written -/
theorem Holds.other {p : Addr} {o : HO} (h : Holds c ρ F σ H) (f0 : F p = none) (h0 : c.H0 p = none) (fr : Free ρ σ p) : Holds c ρ F σ (upd H p o) := by
  refine ⟨h.base.upd h0, h.f0, h.sub.write f0, h.new, h.len, fun j t q => ?_, h.ap⟩
  · have z := h.sl j t q
    cases t with
    | un => trivial
    | ex x => exact z
    | va d => exact z
    | ml ds =>
      obtain ⟨b, vs, z1, z2, z3, z4, z5⟩ := z
      have nb : b ≠ p := fun e => fr j _ q rfl (e ▸ z1)
      exact ⟨b, vs, z1, z2, z3, by rw [upd_ne nb]; exact z4, z5⟩
    | md ds =>
      obtain ⟨b, vs, z1, z2, z3, z4, z5⟩ := z
      have nb : b ≠ p := fun e => fr j _ q rfl (e ▸ z1)
      exact ⟨b, vs, z1, z2, z3, by rw [upd_ne nb]; exact z4, z5⟩
    | mn ds =>
      obtain ⟨b, vs, z1, z2, z3, z4, z5⟩ := z
      have nb : b ≠ p := fun e => fr j _ q rfl (e ▸ z1)
      exact ⟨b, vs, z1, z2, z3, by rw [upd_ne nb]; exact z4, z5⟩
theorem cL_len {T : Dt → Rho → Option Rho} {t : Mo Bool} {e : Mo Dt} {ρ : Rho} : ∀ {ds ys : List Dt}, cL T t e ρ ds = some ys → ys.length ≤ ds.length
  | [], _, h => by cases h; exact Nat.le_refl _
  | d :: ds, ys, h => by
    unfold cL at h
    split at h
    · cases h
    · split at h
      · split at h
        · cases q : cL T t e ρ ds with
          | none => rw [q] at h; cases h
          | some zs => rw [q] at h; cases h; simpa using cL_len q
        · cases h
      · exact Nat.le_succ_of_le (cL_len h)
      · cases h
theorem NewB.trans {F H F1 H1 F2 : Hp} (a : NewB F H F1) (s : SameM F H H1) (b : NewB F1 H1 F2) : NewB F H F2 := fun x o q => by
  rcases b x o q with q | q
  · exact a x o q
  · exact .inr (s.free q)
theorem NewB.none {F H F1 : Hp} (a : NewB F H F1) {p : Addr} {o : HO} (f : F p = none) (h : H p = some o) : F1 p = none := by
  cases q : F1 p with
  | none => rfl
  | some z =>
    rcases a p z q with q | q
    · rw [f] at q; cases q
    · rw [h] at q; cases q
abbrev noW : WX := fun _ _ _ _ => False
variable {mi : Mo (List Dt)} {T : Dt → Rho → Option Rho} {t : Mo Bool} {e : Mo Dt} {g : TG} {is vs : List Nat}
theorem comp_lift (S : SemG c g is T) (hv : ∀ k ∈ is, k ∈ vs) {σ : St} {H : Hp} {Q : VK} (h : liftF c n W (eComp mi vs T t e) σ H Q) : tLc (liftIP c n W mi) g (liftT c True noW t) (lift RE c True noW e) vs σ H Q := by
  obtain ⟨ρ, F, h, q⟩ := h
  refine ⟨ρ, F, h, ?_⟩
  unfold eComp bindM at q
  cases hm : mi ρ with
  | no => simp only [hm] at q
  | er x ρ1 => simp only [hm] at q ⊢; exact q
  | ok ds ρ1 =>
    simp only [hm] at q ⊢
    intro J F1 H1 s1 n1 h1 jk D nD
    cases hc : cL T t e (wipeR ρ1 vs) ds with
    | none => simp only [hc] at q
    | some ys =>
      simp only [hc] at q
      by_cases hz : ds.length ≤ sizeLine
      · rw [if_pos hz] at q
        refine ⟨fun i k H => k = ds.length - i ∧ i ≤ ds.length ∧ ∃ F' acc as zs, Same F1 F' ∧ SameM F1 H1 H ∧ NewB F1 H1 F' ∧ Holds c ρ1 F' σ H ∧ F' D = none ∧ H D = some (.lst acc) ∧ RpA c.K F' acc as ∧ acc.length ≤ i ∧ cL T t e (wipeR ρ1 vs) (ds.drop i) = some zs ∧ ys = as ++ zs, ⟨_, rfl, Nat.zero_le _, F1, [], [], ys, Same.refl _, (same_upd nD).m, (fun _ _ q => .inl q), h1.allocN nD, h1.fp nD, upd_same, .nil, Nat.le_refl _, by rw [List.drop_zero]; exact hc, rfl⟩, ?_⟩
        rintro i k H2 ⟨rfl, hi, F2, acc, as, zs, s2, g2, nw2, h2, f2, d2, r2, la, hc2, ey⟩
        have h0D : c.H0 D = none := h1.h0 nD
        have frD : Free ρ1 σ D := h1.free nD
        by_cases hlt : i < ds.length
        · refine .inr ⟨jk.go i H2 (h2.sub.l.pre s2) g2 hlt, fun H' => ∃ F' acc as zs, Same F1 F' ∧ SameM F1 H1 H' ∧ NewB F1 H1 F' ∧ Holds c ρ1 F' σ H' ∧ F' D = none ∧ H' D = some (.lst acc) ∧ RpA c.K F' acc as ∧ acc.length ≤ i + 1 ∧ cL T t e (wipeR ρ1 vs) (ds.drop (i + 1)) = some zs ∧ ys = as ++ zs, fun H' w => ⟨_, by omega, rfl, hlt, w⟩, fun x H' y => ?_⟩
          obtain ⟨d, F3, hd, s3, g3, h3, r3⟩ := jk.yld i ρ1 F2 σ H2 x H' s2 g2 h2 hlt y
          have ed : ds.drop i = d :: ds.drop (i + 1) := by
            rw [List.drop_eq_getElem_cons hlt]
            rw [List.getElem?_eq_getElem hlt] at hd
            cases hd
            rfl
          rw [ed] at hc2
          unfold cL at hc2
          cases hT : T d (wipeR ρ1 vs) with
          | none => simp only [hT] at hc2; cases hc2
          | some ρ3 =>
            simp only [hT] at hc2
            refine S (wipeR ρ1 vs) F3 (L2.wipe σ vs) H' x d ρ3 _ (h3.wipe vs) r3 hT fun σ2 h4 hw => ⟨?_, ρ3, F3, h4, ?_⟩
            · rw [hw vs hv, wipe_idem]
            · cases ht : t ρ3 with
              | no => simp only [ht] at hc2; cases hc2
              | er x ρ4 => simp only [ht] at hc2; cases hc2
              | ok b ρ4 =>
                simp only [ht] at hc2 ⊢
                intro F4 H4 s4 n4 h5
                have g4 := n4 trivial
                have nw4 : NewB F2 H2 F4 := g3.nw.trans g3.sH g4.nw
                cases b with
                | false =>
                  simp only at hc2
                  rw [if_neg (by decide)]
                  exact ⟨F4, acc, as, zs, s2.trans (s3.trans s4), g2.trans nw2 (g3.sH.trans g3.nw g4.sH), nw2.trans g2 nw4, h2.grow (s3.trans s4) (g3.sH.trans g3.nw g4.sH) h5.sub nw4, nw4.none f2 d2, g4.sH.lst (g3.sH.lst d2), rpaMono (s3.trans s4) r2, Nat.le_succ_of_le la, hc2, ey⟩
                | true =>
                  simp only at hc2
                  rw [if_pos (by decide)]
                  refine ⟨ρ4, F4, h5, ?_⟩
                  obtain rfl := g4.e
                  cases he : e ρ4 with
                  | no => simp only [he] at hc2; cases hc2
                  | er x ρ5 => simp only [he] at hc2; cases hc2
                  | ok y0 ρ5 =>
                    simp only [he] at hc2 ⊢
                    intro w F5 H5 s5 n5 h6 r6
                    have g5 := n5 trivial
                    have nw5 : NewB F2 H2 F5 := nw4.trans (g3.sH.trans g3.nw g4.sH) g5.nw
                    have sH5 : SameM F2 H2 H5 := g3.sH.trans g3.nw (g4.sH.trans g4.nw g5.sH)
                    have h7 := h2.grow (s3.trans (s4.trans s5)) sH5 h6.sub nw5
                    have d5 : H5 D = some (.lst acc) := sH5.lst d2
                    have f5 : F5 D = none := nw5.none f2 d2
                    cases hr : cL T t e (wipeR ρ1 vs) (ds.drop (i + 1)) with
                    | none => rw [hr] at hc2; cases hc2
                    | some zs' =>
                      rw [hr] at hc2
                      cases hc2
                      refine ⟨acc, d5, by omega, F5, acc ++ [w], as ++ [y0], zs', s2.trans (s3.trans (s4.trans s5)), (g2.trans nw2 sH5).upd nD, nw2.trans g2 nw5, h7.other f5 h0D frD, f5, upd_same, (rpaMono (s3.trans (s4.trans s5)) r2).app (.cons r6 .nil), by simp; omega, rfl, by rw [ey]; simp⟩
        · have e : i = ds.length := by omega
          subst e
          rw [List.drop_length] at hc2
          cases hc2
          rw [List.append_nil] at ey
          subst ey
          refine .inl ⟨jk.stop _ H2 (h2.sub.l.pre s2) g2 (Nat.le_refl _), q D acc F2 H2 (s1.trans s2) (fun hn => ⟨(n1 hn).trans ⟨g2, rfl, nw2⟩, (n1 hn).sH.free nD⟩) h2 f2 h0D frD d2 r2⟩
      · rw [if_neg hz] at q; exact q.elim
theorem kf_comp {elt tg iter : Expr} {ifs : List Expr} {scope : Scope} {own : List (Str × Nat)} {pos : Pos} (S : SemG c g is T) (hv : ∀ k ∈ is, k ∈ own.map (·.2)) (hc : X.calm = true) (hN : X.N.Nodup) (hi : KIP X c n W tg iter mi) (ok : BlkOk X.N X.env.scope scope own)
    (hg : ∀ (s : Shared) (H : Hp) (C : Addr) (cl : List (Str × Addr)) (fp : List Addr), PG (X.blk s H scope (compEnvC scope cl C X.env) fp) tg g) (ht : ∀ (s : Shared) (H : Hp) (C : Addr) (cl : List (Str × Addr)) (fp : List Addr), PTs (X.blk s H scope (compEnvC scope cl C X.env) fp) ifs (liftT c True noW t))
    (he : ∀ (s : Shared) (H : Hp) (C : Addr) (cl : List (Str × Addr)) (fp : List Addr), KE (X.blk s H scope (compEnvC scope cl C X.env) fp) c True noW elt e) (hs : ∀ x, foldedSetIterable iter X.env x = pure x := by intro _; rfl) :
    KF X c n W (.ListComp elt [⟨tg, iter, ifs, 0⟩] scope pos) (eComp mi (own.map (·.2)) T t e) := peImp (pe_lc hc hN hi ok hg ht he hs) fun _ _ _ h => comp_lift S hv h
theorem s_setLc {i : Nat} {y : Str} {py : Pos} {elt tg iter : Expr} {ifs : List Expr} {scope : Scope} {own : List (Str × Nat)} {pos spos : Pos} (S : SemG c g is T) (hv : ∀ k ∈ is, k ∈ own.map (·.2)) (hc : X.calm = true) (hN : X.N.Nodup) (hy : X.N[i]? = some y) (hyl : X.env.scope.names.lookup y = some .local)
    (hsw : swapsWith (.ListComp elt [⟨tg, iter, ifs, 0⟩] scope pos) (some (.Name y py)) spos.line X.env = pure true) (hi : KIP X c n W tg iter mi) (ok : BlkOk X.N X.env.scope scope own)
    (hg : ∀ (s : Shared) (H : Hp) (C : Addr) (cl : List (Str × Addr)) (fp : List Addr), PG (X.blk s H scope (compEnvC scope cl C X.env) fp) tg g) (ht : ∀ (s : Shared) (H : Hp) (C : Addr) (cl : List (Str × Addr)) (fp : List Addr), PTs (X.blk s H scope (compEnvC scope cl C X.env) fp) ifs (liftT c True noW t))
    (he : ∀ (s : Shared) (H : Hp) (C : Addr) (cl : List (Str × Addr)) (fp : List Addr), KE (X.blk s H scope (compEnvC scope cl C X.env) fp) c True noW elt e) (hs : ∀ x, foldedSetIterable iter X.env x = pure x := by intro _; rfl) :
    KS X c W (.Assign [.Name y py] (.ListComp elt [⟨tg, iter, ifs, 0⟩] scope pos) spos) (sSetF i (eComp mi (own.map (·.2)) T t e)) := asgF (ps_setLc hc hN hy hyl hsw hi ok hg ht he hs) fun _ _ _ h => comp_lift S hv h
theorem s_setLcZ {i : Nat} {y : Str} {py : Pos} {elt tg iter : Expr} {ifs : List Expr} {scope : Scope} {own : List (Str × Nat)} {pos spos : Pos} (S : SemG c g is T) (hv : ∀ k ∈ is, k ∈ own.map (·.2)) (hc : X.calm = true) (hN : X.N.Nodup) (hy : X.N[i]? = some y) (hyl : X.env.scope.names.lookup y = some .local)
    (hsw : swapsWith (.ListComp elt [⟨tg, iter, ifs, 0⟩] scope pos) (some (.Name y py)) spos.line X.env = pure true) (hi : KIP X c n W tg iter mi) (ok : BlkOk X.N X.env.scope scope own)
    (hg : ∀ (s : Shared) (H : Hp) (C : Addr) (cl : List (Str × Addr)) (fp : List Addr), PG (X.blk s H scope (compEnvC scope cl C X.env) fp) tg g) (ht : ∀ (s : Shared) (H : Hp) (C : Addr) (cl : List (Str × Addr)) (fp : List Addr), PTs (X.blk s H scope (compEnvC scope cl C X.env) fp) ifs (liftT c True noW t))
    (he : ∀ (s : Shared) (H : Hp) (C : Addr) (cl : List (Str × Addr)) (fp : List Addr), KE (X.blk s H scope (compEnvC scope cl C X.env) fp) c True noW elt e) (hs : ∀ x, foldedSetIterable iter X.env x = pure x := by intro _; rfl) :
    KS X c W (.Assign [.Name y py] (.ListComp elt [⟨tg, iter, ifs, 0⟩] scope pos) spos) (sSet i (eFz (eComp mi (own.map (·.2)) T t e))) := asg (ps_setLc hc hN hy hyl hsw hi ok hg ht he hs) fun _ _ _ h => comp_lift S hv (kz_imp h)
theorem passNo {X : Cx} : ∀ σ, PassesAt (L2.CX X.prog X.w) X σ (WE noW σ) := fun σ _ _ _ _ _ _ h => by
  obtain ⟨_, _, _, _, _, _, _, _, _, _, _, _, z⟩ := h
  exact z.elim
/-- a fresh list, bound as one that stays -/
theorem asgZ {st : Stmt} {te : TE} {i : Nat} {mf : Mo (List Dt)} (h : PS X st (tAsg te (gName i))) (k : ∀ σ H Q, liftF c n W mf σ H Q → te σ H Q) : KS X c W st (sSetF i mf) := asgF h k
def tYesM : Mo Bool := fun ρ => .ok true ρ
theorem ts_nil : PTs X [] (liftT c n W tYesM) := ⟨fun pins s σ H Q I ⟨ρ, F, h, k⟩ => pts_nil.run pins s σ H Q I (k F H (Same.refl _) (fun _ => Kept.refl) h)⟩
theorem ts_one {a : Expr} {m : Mo Bool} (h : KT X c n W a m) : PTs X [a] (liftT c n W m) := pts_one h
end

/-! ### a def -/
def runF (k p : Nat) (m : Mo Fl) (ds : List Dt) : Fo := if ds.length = p then (match m (ds.map .va ++ List.replicate (k - ds.length) .un) with
  | .ok (.rt d) _ => .ok d
  | .ok (.ro es) _ => .fr es
  | .ok .nx _ => .ok .none
  | .er x _ => .er x
  | _ => .no) else .no
theorem start_holds {K : PySem.W.Frag} {xr : Ex → Value → Option Addr → Hp → Prop} {P : Program} {w : World} {cv : Array Value → NestedKey → Option Int} {F H : Hp} {N : List Str} {vs : List V} {ds : List Dt} (s : Sub K P w cv F H) (r : RpA K F vs ds) : Holds ⟨K, H, F, xr, fun _ _ => False, P, w, cv⟩ (ds.map .va ++ List.replicate (N.length - ds.length) .un) F (L2.start N vs) H := by
  have hl := r.len
  have noown : ∀ (j : Nat) t, (ds.map Sl.va ++ List.replicate (N.length - ds.length) Sl.un)[j]? = some t → t.own = false ∧ SlOk ⟨K, H, F, xr, fun _ _ => False, P, w, cv⟩ F H (L2.start N vs)[j]? t := fun j t q => by
    by_cases hj : j < ds.length
    · rw [List.getElem?_append_left (by simpa using hj), List.getElem?_map] at q
      cases e : ds[j]? with
      | none => rw [e] at q; cases q
      | some d =>
        rw [e] at q
        cases q
        obtain ⟨v, hv, rv⟩ := r.get e
        refine ⟨rfl, v, ?_, rv⟩
        unfold L2.start
        rw [List.getElem?_append_left (by simp; omega), List.getElem?_map, hv]
        rfl
    · rw [List.getElem?_append_right (by simpa using hj), List.getElem?_replicate] at q
      split at q
      · cases q; exact ⟨rfl, trivial⟩
      · cases q
  refine ⟨SameM.refl, Same.refl _, s, fun b o q => .inl q, ?_, fun j t q => (noown j t q).2, fun j k t u a q1 _ w1 _ _ _ => ?_⟩
  · unfold L2.start
    simp [hl]
  · rw [(noown j t q1).1] at w1; cases w1
section
variable {P : Program} {w : World} {K : PySem.W.Frag} {mg : Str → Option Value} {base : Heap} {x qual : Str} {st : Stmt} {f : Addr} {fd : FuncData} {N ps : List Str} {k : Nat} {xr : Ex → Value → Option Addr → Hp → Prop} {cv : Array Value → NestedKey → Option Int} {m : Mo Fl}
theorem fn_ok (Fn : Fun K x qual st f fd) (S : FnScope N ps (defScope st))
    (hb : ∀ (cdv : Value) (A : Around) (outer : List Env) (s : Shared) (H F0 : Hp) (E : XK), Room k (A.deeper (envOfC qual (defScope st) s.heap.objs.size f cdv)) →
      KSs (cxOf (L2.CX P w) P w K mg base N qual (defScope st) f cdv A outer s H E) ⟨K, H, F0, xr, fun _ _ => False, P, w, cv⟩ (fun cls dd _ H' => E cls dd H') (defBody st) m) :
    FnOk P w K mg base (L2.CX P w) (k + 1) f fd ps (spOf K P w cv xr (runF N.length ps.length m)) := by
  refine Fn.okX S (fun vs H Q E ⟨F, ds, s, r, q⟩ => ?_) fun cdv A outer s H vs Q E hr ⟨F, ds, sF, r, q⟩ => ⟨_, hb cdv A outer s H F E hr, ?_⟩
  · unfold runF at q
    by_cases h : ds.length = ps.length
    · rw [r.len]; exact h
    · rw [if_neg h] at q; exact q.elim
  · refine ⟨_, F, start_holds sF r, ?_⟩
    have nw : ∀ {σ' : St} {ρ' : Rho} {F' H' : Hp}, Holds ⟨K, H, F, xr, fun _ _ => False, P, w, cv⟩ ρ' F' σ' H' → NewB F H F' := fun h b o q => h.new b o q
    unfold runF at q
    by_cases h : ds.length = ps.length
    · rw [if_pos h] at q
      cases hm : m (ds.map .va ++ List.replicate (N.length - ds.length) .un) with
      | no => rw [hm] at q; exact q.elim
      | er x ρ' => rw [hm] at q; exact fun cls dd σ' F' H' s' h' xx => q cls dd F' H' h'.base s' h'.sub (nw h') xx
      | ok fl ρ' =>
        rw [hm] at q
        cases fl with
        | nx => exact fun σ' F' H' s' h' => q .non F' H' h'.base s' h'.sub (nw h') .non
        | rt d => exact fun v σ' F' H' s' h' r' => q v F' H' h'.base s' h'.sub (nw h') r'
        | ro es => exact fun p us σ' F' H' s' h' f0 h0 hp r' => q p us F' H' h'.base s' h'.sub (nw h') f0 h0 hp r'
        | bk => exact q.elim
        | ct => exact q.elim
    · rw [if_neg h] at q; exact q.elim
end
end DL

set_option Elab.async false
set_option linter.all false
set_option maxRecDepth 100000
namespace DL
open PySem PySem.Spec L2
open PyProof.Rows hiding St

/-! ### sorted -/
abbrev leT : Dt → Dt → Bool := PySem.W.dataLe false (fun d : Dt => d)
def rSortD (K : PySem.W.Frag) : List V → Hp → VK → Prop := fun xs H Q => ∃ (a : Addr) (vs : List V) (ds : List Dt) (P : V → Dt → Prop), xs = [.ref a] ∧ H a = some (.lst vs) ∧ Paired P vs ds ∧ (∀ v d, d ∈ ds → P v d → Dp K H v d) ∧ PySem.W.AllAlike ds ∧ PySem.W.Sortable ds ∧ (∀ d ∈ ds, okD d = true) ∧
  ∀ p ws, H p = none → Paired P ws (ds.mergeSort leT) → Q (.ref p) (upd H p (.lst ws))
theorem each_of {X : Cx} {pins : List (Addr × Obj)} {σ : St} {H : Hp} {s : Shared} {P : V → Dt → Prop} (I : L2.Inv X pins σ H s) {ds0 : List Dt} (hP : ∀ v d, d ∈ ds0 → P v d → Dp X.K H v d) : ∀ {vs : List V} {us : List Value} {ds : List Dt}, (∀ d ∈ ds, d ∈ ds0) → Vals vs us → Paired P vs ds →
    PySem.W.EachIs (fun u d => ∃ v, RelV v u ∧ P v d) us ds ∧ PySem.W.EachIs (fun u d => ∃ as, Reads s.heap u d as) us ds
  | _, _, _, _, .nil, .nil => ⟨.nil, .nil⟩
  | _, _, _, hs, .cons r t, .cons p q => by
    obtain ⟨h1, h2⟩ := each_of I hP (fun d hd => hs d (List.mem_cons_of_mem _ hd)) t q
    exact ⟨.cons ⟨_, r, p⟩ h1, .cons (Dp.reads I _ _ _ (hP _ _ (hs _ List.mem_cons_self) p) r) h2⟩
theorem each_back {P : V → Dt → Prop} : ∀ {us : List Value} {ds : List Dt}, PySem.W.EachIs (fun u d => ∃ v, RelV v u ∧ P v d) us ds → ∃ vs, Vals vs us ∧ Paired P vs ds
  | _, _, .nil => ⟨[], .nil, .nil⟩
  | _, _, .cons ⟨v, r, p⟩ t => by
    obtain ⟨vs, h1, h2⟩ := each_back t
    exact ⟨v :: vs, .cons r h1, .cons p h2⟩
theorem cr_sortD {X : Cx} (hu : X.A.units + 64 < cLine) : CallR X (.builtin "sorted") (rSortD X.K) := by
  rintro pins s σ H xs us Q I r ⟨a, vs, ds, P, rfl, ea, hp, hP, al, so, ok, q⟩
  rw [Vals.ref1 r]
  obtain ⟨z, its, n, rv, eo⟩ := I.hok a _ ea
  obtain ⟨e1, e2⟩ := each_of I hP (fun _ h => h) rv hp
  have ld : ds.length ≤ sizeLine := by rw [← Paired.length hp]; exact z
  refine PySem.W.sorted_data (enc := fun d : Dt => d) ⟨_, eo, rfl, _, rfl⟩ e1 e2 (by rw [List.map_id']; exact al) (by rw [List.map_id']; exact so) ld (fun b hb => ?_) fun out ho h => ?_
  · have := (okN_plain 12 b (ok b hb)).2
    omega
  · obtain ⟨ws, hw, hpw⟩ := each_back h
    obtain ⟨ep, he⟩ := PyProof.Rows.sortedAll_at s.heap its out.toArray
    refine ⟨.ref _, upd H (s.heap.objs.size + 1) (.lst ws), I.laid (t' := s.toks) (fun _ _ => PyProof.Rows.sortedAll_old) (Nat.le_succ _) ⟨?_, out, ep, hw, he⟩, rfl, q _ ws (I.hok.fresh (Nat.le_succ _)) hpw⟩
    rw [Vals.length hw, ho]; exact ld
theorem rpa_paired {K : PySem.W.Frag} {F : Hp} : ∀ {vs : List V} {ds : List Dt}, RpA K F vs ds → Paired (Rp K F) vs ds
  | _, _, .nil => .nil
  | _, _, .cons a t => .cons a (rpa_paired t)
theorem paired_rpa {K : PySem.W.Frag} {F : Hp} : ∀ {vs : List V} {ds : List Dt}, Paired (Rp K F) vs ds → RpA K F vs ds
  | _, _, .nil => .nil
  | _, _, .cons a t => .cons a (paired_rpa t)
def Sorts (ds : List Dt) : Prop := PySem.W.AllAlike ds ∧ PySem.W.Sortable ds ∧ ∀ d ∈ ds, okD d = true
open Classical in
noncomputable def sortD : List Dt → Option (List Dt)
  | [.list ds] => if Sorts ds then some (ds.mergeSort leT) else none
  | _ => none
theorem sem_sort {c : Cd} : SemBF c (rSortD c.K) sortD := by
  intro ρ F σ H vs ds z Q hh rv hg q
  unfold sortD at hg
  split at hg
  · rename_i xs
    obtain ⟨v, rfl, r⟩ := pr1 rv
    by_cases hs : Sorts xs
    · rw [if_pos hs] at hg
      cases hg
      obtain ⟨a, ws, rfl, e, r⟩ := r.lst hh.sub
      exact ⟨a, ws, xs, Rp c.K F, rfl, e, rpa_paired r, fun v d hd p => (rpSub hh.sub (okN_plain _ d (hs.2.2 d hd)).1 p).dp (okN_plain _ d (hs.2.2 d hd)).1, hs.1, hs.2.1, hs.2.2, fun p us hp h => newL hh q (paired_rpa h) p hp⟩
    · rw [if_neg hs] at hg; cases hg
  · cases hg

/-! ### isinstance -/
def tyD : Dt → String
  | .none => "NoneType"
  | .bool _ => "bool"
  | .int _ => "int"
  | .str _ => "str"
  | .list _ => "list"
  | .tuple _ => "tuple"
  | .dict _ => "dict"
def isIn (T : String) (x : Dt) : Option Dt := match x with
  | .dict _ => none
  | x => (kitB (tyD x) T).map .bool
def eIsI (T : String) (m : Mo Dt) : Mo Dt := bindM m fun x => ofO (isIn T x)
theorem tyX_of {c : Cd} {F H : Hp} {v : V} {x : Dt} (nd : ∀ kvs, x ≠ .dict kvs) (s : CSub c F H) (r : RP c F H v x) : TyX c.K H v (.type (tyD x)) := by
  cases x with
  | none => rw [r.non]; exact .base .non
  | bool b => rw [r.bl]; exact .base (.bl _)
  | int i => rw [r.int]; exact .base (.int _)
  | str z => rw [r.str]; exact .base (.str _)
  | list xs =>
    obtain ⟨a, vs, rfl, e, _⟩ := r.lst s
    exact .base (.lst e)
  | tuple xs =>
    obtain ⟨a, vs, rfl, e, _⟩ := r.tup
    rcases s.sqT e with (e | ⟨o, e⟩) | ⟨o, its, n, e, h, _⟩
    · exact .base (.tup e)
    · exact .fTuple e
    · exact .kTuple e h
  | dict kvs => exact absurd rfl (nd kvs)
theorem k_isi {X : Cx} {c : Cd} {n : Prop} {W : WX} {m : Mo Dt} {e : Expr} {T : String} {nm : Str} {p p2 pos : Pos} (hK : X.K = c.K) (hg : Gl X "isinstance") (hm : X.mg "isinstance" = none) (hgT : Gl X nm) (hmT : X.mg nm = none) (hvT : bootBuiltins nm = some (.type T)) (he : KP X c n W e m)
    (hnT : nm ≠ "__name__" := by decide) (hdT : (nm == ("__debug__" : Str)) = false := by decide)
    (s1 : starEach [e, .Name nm p2] X.env = (false, eval e X.env) :: starEach [.Name nm p2] X.env := by rfl) (s2 : starEach [.Name nm p2] X.env = (false, eval (.Name nm p2) X.env) :: starEach [] X.env := by rfl) (hpl : (backTo pos (starEach [.Name nm p2] X.env)).any (·.1) = false := by rfl) :
    KE X c n W (.Call (.Name "isinstance" p) [e, .Name nm p2] [] pos) (eIsI T m) :=
  peImp (pe_callB call_isi hg hm (by decide +kernel) (pa_cons he (pa_cons (pe_bltn (v := .ty T) hgT hmT hvT rfl hnT hdT) pa_nil s2) s1) (by decide) (by decide) s1 hpl) fun σ H Q ⟨ρ, F, h, k⟩ => by
    refine ⟨ρ, F, h, ?_⟩
    unfold eIsI bindM at k
    cases hm : m ρ with
    | no => simp only [hm] at k
    | er x ρ1 => simp only [hm] at k ⊢; exact k
    | ok x ρ1 =>
      simp only [hm] at k ⊢
      intro v F1 H1 s1 n1 h1 r1
      unfold ofO at k
      cases hi : isIn T x with
      | none => simp only [hi] at k
      | some z =>
        simp only [hi] at k
        obtain ⟨nd, b, hb, rfl⟩ : (∀ kvs, x ≠ .dict kvs) ∧ ∃ b, kitB (tyD x) T = some b ∧ z = .bool b := by
          unfold isIn at hi
          split at hi
          · cases hi
          · rename_i hn
            refine ⟨fun kvs e => hn kvs e, ?_⟩
            cases hb : kitB (tyD x) T with
            | none => rw [hb] at hi; cases hi
            | some b => rw [hb] at hi; cases hi; exact ⟨b, rfl, rfl⟩
        exact ⟨v, .ty T, _, _, b, rfl, .ty T, by rw [hK]; exact tyX_of nd h1.sub r1, kit_ty hb, k _ F1 H1 s1 n1 h1 (.bl _)⟩

/-! ### methods of texts -/
section
variable {X : Cx} {c : Cd} {n : Prop} {W : WX} {mo me : Mo Dt} {o e : Expr} {id : String} {name : Str} {apos pos : Pos} {r : V → List V → Hp → VK → Prop} {f : Str → Dt → Option Dt} {ff : Str → Dt → Option (List Dt)}
def eM1 (f : Str → Dt → Option Dt) (mo me : Mo Dt) : Mo Dt := bindM mo fun x => match x with
  | .str s => bindM me fun y => ofO (f s y)
  | _ => fun _ => .no
def eM1F (f : Str → Dt → Option (List Dt)) (mo me : Mo Dt) : Mo (List Dt) := bindM mo fun x => match x with
  | .str s => bindM me fun y => ofO (f s y)
  | _ => fun _ => .no
def SemM (c : Cd) (r : V → List V → Hp → VK → Prop) (f : Str → Dt → Option Dt) : Prop := ∀ ρ F σ H (s : Str) u y z Q, Holds c ρ F σ H → RP c F H u y → f s y = some z → (∀ w F' H', Same F F' → Kept ρ F H ρ F' H' → Holds c ρ F' σ H' → Rp c.K F' w z → Q w H') → r (.str s) [u] H Q
def SemMF (c : Cd) (r : V → List V → Hp → VK → Prop) (f : Str → Dt → Option (List Dt)) : Prop := ∀ ρ F σ H (s : Str) u y z Q, Holds c ρ F σ H → RP c F H u y → f s y = some z → NewL c ρ F σ H z Q → r (.str s) [u] H Q
theorem k_m1 (S : SemM c r f) (slot : Slot "str" name id) (hty : typeOf (.builtin id) = pure (.type "method_descriptor")) (hm : MtR X id r) (ho : KE X c n W o mo) (he : KP X c True W e me)
    (h1 : starEach [e] X.env = [(false, eval e X.env)] := by rfl) (h2 : attributeBase o name X.env (eval o X.env) = eval o X.env := by rfl) (h3 : (apos.endLine == pos.line) = true := by rfl) :
    KE X c n W (.Call (.Attribute o name apos) [e] [] pos) (eM1 f mo me) := peImp (pe_m1 slot hty hm ho he h1 h2 h3) fun σ H Q ⟨ρ, F, h, k⟩ => by
  refine ⟨ρ, F, h, ?_⟩
  unfold eM1 bindM at k
  cases ha : mo ρ with
  | no => simp only [ha] at k
  | er x ρ1 => simp only [ha] at k ⊢; exact k
  | ok x ρ1 =>
    simp only [ha] at k ⊢
    cases x with
    | str s =>
      intro v F1 H1 s1 n1 h1 r1
      cases r1
      refine ⟨⟨s, rfl⟩, ρ1, F1, h1, ?_⟩
      simp only at k
      cases hb : me ρ1 with
      | no => simp only [hb] at k
      | er x ρ1 => simp only [hb] at k ⊢; exact k.later s1
      | ok y ρ2 =>
        simp only [hb] at k ⊢
        intro u F2 H2 s2 n2 h2 r2
        have g2 := n2 trivial
        unfold ofO at k
        cases hf : f s y with
        | none => simp only [hf] at k
        | some z =>
          simp only [hf] at k
          exact S ρ2 F2 σ H2 s u y z Q h2 r2 hf fun w F3 H3 s3 g3 h3 r3 => k w F3 H3 (s1.trans (s2.trans s3)) (fun hn => (n1 hn).trans (g2.trans g3)) h3 r3
    | _ => simp only at k
theorem kf_m1 (S : SemMF c r ff) (slot : Slot "str" name id) (hty : typeOf (.builtin id) = pure (.type "method_descriptor")) (hm : MtR X id r) (ho : KE X c n W o mo) (he : KP X c True W e me)
    (h1 : starEach [e] X.env = [(false, eval e X.env)] := by rfl) (h2 : attributeBase o name X.env (eval o X.env) = eval o X.env := by rfl) (h3 : (apos.endLine == pos.line) = true := by rfl) :
    KF X c n W (.Call (.Attribute o name apos) [e] [] pos) (eM1F ff mo me) := peImp (pe_m1 slot hty hm ho he h1 h2 h3) fun σ H Q ⟨ρ, F, h, k⟩ => by
  refine ⟨ρ, F, h, ?_⟩
  unfold eM1F bindM at k
  cases ha : mo ρ with
  | no => simp only [ha] at k
  | er x ρ1 => simp only [ha] at k ⊢; exact k
  | ok x ρ1 =>
    simp only [ha] at k ⊢
    cases x with
    | str s =>
      intro v F1 H1 s1 n1 h1 r1
      cases r1
      refine ⟨⟨s, rfl⟩, ρ1, F1, h1, ?_⟩
      simp only at k
      cases hb : me ρ1 with
      | no => simp only [hb] at k
      | er x ρ1 => simp only [hb] at k ⊢; exact k.later s1
      | ok y ρ2 =>
        simp only [hb] at k ⊢
        intro u F2 H2 s2 n2 h2 r2
        have g2 := n2 trivial
        unfold ofO at k
        cases hf : ff s y with
        | none => simp only [hf] at k
        | some z =>
          simp only [hf] at k
          exact S ρ2 F2 σ H2 s u y z Q h2 r2 hf fun p vs F3 H3 s3 g3 h3 f0 h0 fr hp r3 => k p vs F3 H3 (s1.trans (s2.trans s3)) (fun hn => ⟨(n1 hn).trans (g2.trans g3.1), ((n1 hn).trans g2).sH.free g3.2⟩) h3 f0 h0 fr hp r3
    | _ => simp only at k
def strsOf : List Dt → Option (List Str)
  | [] => some []
  | .str i :: r => (strsOf r).map (i :: ·)
  | _ => none
theorem strsOf_eq : ∀ {ds : List Dt} {ns : List Str}, strsOf ds = some ns → ds = ns.map .str
  | [], ns, h => by cases h; rfl
  | d :: ds, ns, h => by
    cases d with
    | str i =>
      simp only [strsOf] at h
      cases e : strsOf ds with
      | none => rw [e] at h; cases h
      | some ms => rw [e] at h; cases h; rw [strsOf_eq e]; rfl
    | _ => simp [strsOf] at h
theorem strsOf_map : ∀ ns : List Str, strsOf (ns.map .str) = some ns
  | [] => rfl
  | n :: ns => by simp only [List.map_cons, strsOf, strsOf_map ns]; rfl
/-- sep.join(texts) -/
def joinD (s : Str) : Dt → Option Dt
  | .list ds => (strsOf ds).bind fun ys => if (ys.map fun x => x.length).sum + ys.length * s.length ≤ 16777216 then some (.str (Txt.join s ys)) else none
  | _ => none
theorem sem_join : SemM c (fun x xs H Q => ∃ a p ys, x = V.str a ∧ xs = [V.ref p] ∧ (SqL c.K H p (List.map V.str ys) ∨ SqT c.K H p (List.map V.str ys)) ∧ (List.map (fun x => x.length) ys).sum + ys.length * a.length ≤ 16777216 ∧ Q (V.str (Txt.join a ys)) H) joinD := by
  intro ρ F σ H s u y z Q hh ry hf q
  unfold joinD at hf
  split at hf
  · rename_i ds
    cases e : strsOf ds with
    | none => rw [e] at hf; cases hf
    | some ys =>
      rw [e] at hf
      simp only [Option.bind_some] at hf
      split at hf
      · rename_i hz
        cases hf
        obtain ⟨a, vs, rfl, e1, r⟩ := ry.lst hh.sub
        rw [strsOf_eq e] at r
        rw [r.strs] at e1
        exact ⟨s, a, ys, rfl, rfl, .inl (SqL.of e1), hz, flat hh q (.str _)⟩
      · cases hf
  · cases hf
theorem k_join (hK : X.K = c.K) (ho : KE X c n W o mo) (he : KP X c True W e me)
    (h1 : starEach [e] X.env = [(false, eval e X.env)] := by rfl) (h2 : attributeBase o "join" X.env (eval o X.env) = eval o X.env := by rfl) (h3 : (apos.endLine == pos.line) = true := by rfl) :
    KE X c n W (.Call (.Attribute o "join" apos) [e] [] pos) (eM1 joinD mo me) := k_m1 (S := sem_join) PySem.F.slot_str_join PySem.F.type_str_join (by rw [← hK]; exact mt_join) ho he h1 h2 h3
def countD (s : Str) : Dt → Option Dt
  | .str y => some (.int (Txt.count s y))
  | _ => none
theorem sem_count : SemM c (fun x xs H Q => ∃ a b, x = V.str a ∧ xs = [V.str b] ∧ Q (V.int (Txt.count a b)) H) countD := by
  intro ρ F σ H s u y z Q hh ry hf q
  unfold countD at hf
  split at hf
  · cases hf; exact ⟨s, _, rfl, by rw [ry.str], flat hh q (.int _)⟩
  · cases hf
theorem k_count (ho : KE X c n W o mo) (he : KP X c True W e me)
    (h1 : starEach [e] X.env = [(false, eval e X.env)] := by rfl) (h2 : attributeBase o "count" X.env (eval o X.env) = eval o X.env := by rfl) (h3 : (apos.endLine == pos.line) = true := by rfl) :
    KE X c n W (.Call (.Attribute o "count" apos) [e] [] pos) (eM1 countD mo me) := k_m1 sem_count PySem.F.slot_str_count PySem.F.type_str_count mt_count ho he h1 h2 h3
end

/-! ### list(text) -/
def listS : List Dt → Option (List Dt)
  | [.str z] => if z.length ≤ sizeLine then some (signsD z) else none
  | _ => none
def rListS : List V → Hp → VK → Prop := fun xs H Q => ∃ z, xs = [V.str z] ∧ z.length ≤ sizeLine ∧ ∀ p, H p = none → Q (.ref p) (upd H p (.lst (z.cps.toList.map fun k => V.str ⟨#[k]⟩)))
theorem cr_listS {X : Cx} (hc : X.calm = true) : CallR X (.type "list") rListS := by
  rintro pins s σ H xs us Q I r ⟨z, rfl, hz, q⟩
  obtain ⟨u, rfl, ru⟩ := r.one
  obtain ⟨t, rfl⟩ := ru
  refine call_list_str (I.ok.hd hc) z t (fun h' tk acc' c' hk ho ha => ?_) hz
  have hv : Vals (z.cps.toList.map fun k => V.str ⟨#[k]⟩) acc'.toList := by
    refine vals_of_at (by simp [ha.1]) fun j x u hx hu => ?_
    rw [List.getElem?_map] at hx
    obtain ⟨k, w, hk', rfl⟩ := ha.2 j u (by simpa using hu)
    rw [show z.cps.toList[j]? = some k by simpa using hk'] at hx
    cases hx
    exact ⟨_, rfl⟩
  refine ⟨.ref _, _, I.laid (o := .lst (z.cps.toList.map fun k => V.str ⟨#[k]⟩)) hk (Nat.le_refl _) ⟨by rw [List.length_map, Array.length_toList]; exact hz, acc'.toList, c', hv, by simpa using ho⟩, rfl, q _ (I.hok.fresh (Nat.le_refl _))⟩
theorem rpa_signs {K : PySem.W.Frag} {F : Hp} : ∀ l : List Nat, RpA K F (l.map fun k => V.str ⟨#[k]⟩) (l.map fun k => PyData.str ⟨#[k]⟩)
  | [] => .nil
  | k :: l => .cons (.str _) (rpa_signs l)
theorem sem_listS {c : Cd} : SemBF c rListS listS := by
  intro ρ F σ H vs ds z Q hh rv hg q
  unfold listS at hg
  split at hg
  · obtain ⟨v, rfl, r⟩ := pr1 rv
    split at hg
    · rename_i hz
      cases hg
      exact ⟨_, by rw [r.str], hz, newL hh q (rpa_signs _)⟩
    · cases hg
  · cases hg
end DL

set_option Elab.async false
set_option linter.all false
set_option maxRecDepth 100000
namespace DL
open PySem PySem.Spec L2
open PyProof.Rows hiding St
section
variable {X : Cx} {c : Cd} {n : Prop} {W : WX} {e : Expr} {pos : Pos} {m : Mo Dt}
/-! ### minus -/
def eNeg (m : Mo Dt) : Mo Dt := bindM m fun x => match x with
  | .int i => fun ρ => .ok (.int (-i)) ρ
  | _ => fun _ => .no
theorem neg_lift {σ : St} {H : Hp} {Q : VK} (h : lift RE c n W (eNeg m) σ H Q) : tUn (rU fun i => .int (-i)) (lift RP c n W m) σ H Q := by
  obtain ⟨ρ, F, h, k⟩ := h
  refine ⟨ρ, F, h, ?_⟩
  unfold eNeg bindM at k
  cases hm : m ρ with
  | no => simp only [hm] at k
  | er x ρ1 => simp only [hm] at k ⊢; exact k
  | ok x ρ1 =>
    simp only [hm] at k ⊢
    intro v F1 H1 s1 n1 h1 r1
    cases x with
    | int i =>
      have e := r1.int
      subst e
      exact ⟨i, rfl, k _ F1 H1 s1 n1 h1 (.int _)⟩
    | _ => simp only at k
theorem k_neg (h : KP X c n W e m) : KE X c n W (.UnaryOp .USub e pos) (eNeg m) := peImp (pe_un un_neg h) fun _ _ _ h => neg_lift h
end
theorem fn_okL {P : Program} {w : World} {K : PySem.W.Frag} {mg : Str → Option Value} {base : Heap} {x qual : Str} {st : Stmt} {f : Addr} {fd : FuncData} {N ps : List Str} {k a b : Nat} {xr : Ex → Value → Option Addr → Hp → Prop} {cv : Array Value → NestedKey → Option Int} {m : Mo Fl}
    (hN : N.length = a) (hp : ps.length = b) (Fn : Fun K x qual st f fd) (S : FnScope N ps (defScope st))
    (hb : ∀ (cdv : Value) (A : Around) (outer : List Env) (s : Shared) (H F0 : Hp) (E : XK), Room k (A.deeper (envOfC qual (defScope st) s.heap.objs.size f cdv)) →
      KSs (cxOf (L2.CX P w) P w K mg base N qual (defScope st) f cdv A outer s H E) ⟨K, H, F0, xr, fun _ _ => False, P, w, cv⟩ (fun cls dd _ H' => E cls dd H') (defBody st) m) :
    FnOk P w K mg base (L2.CX P w) (k + 1) f fd ps (spOf K P w cv xr (runF a b m)) := by
  subst hN hp
  exact fn_ok Fn S hb
noncomputable def fuelN : Nat := 2 ^ 20000
/-! ### the law's end -/
def spLaw (K : PySem.W.Frag) : Sp := fun vs H Q _ => ∃ (a : Addr) (ns : List Int), vs = [.ref a] ∧ SqL K H a (ns.map V.int) ∧ ns.length ≤ 63 ∧ ∀ H', Q (.bl true) H'
/-- all that stands, but no mark -/
def bareH (H : Hp) : Hp := fun b => match H b with
  | some (.tbl _) => none
  | o => o
theorem bare_sub {K : PySem.W.Frag} {P : Program} {w : World} {cv : Array Value → NestedKey → Option Int} {H : Hp} : Sub K P w cv (bareH H) H := by
  refine ⟨fun b o e _ => ?_, fun b ps e => ?_⟩
  · unfold bareH at e
    split at e
    · cases e
    · exact e
  · unfold bareH at e
    split at e
    · cases e
    · rename_i h
      exact absurd e (by intro q; exact h ps q)
theorem law_end {P : Program} {w : World} {K : PySem.W.Frag} {mg : Str → Option Value} {base : Heap} {k : Nat} {f : Addr} {fd : FuncData} {x : Str} {xr : Ex → Value → Option Addr → Hp → Prop} {cv : Array Value → NestedKey → Option Int} {G : List Dt → Fo}
    (hG : ∀ ns : List Int, ns.length ≤ 63 → G [scr ns] = .ok (.bool true)) (h : FnOk P w K mg base (L2.CX P w) k f fd [x] (spOf K P w cv xr G)) : FnOk P w K mg base (L2.CX P w) k f fd [x] (spLaw K) :=
  h.imp fun vs H Q E ⟨a, ns, e, hS, hl, q⟩ => by
    subst e
    refine ⟨bareH H, [scr ns], bare_sub, .cons (.scr ?_) .nil, ?_⟩
    · rcases hS with (hS | ⟨o, hS⟩) | hS
      · exact .inl (.inl (by unfold bareH; rw [hS]))
      · exact .inl (.inr ⟨o, by unfold bareH; rw [hS]⟩)
      · exact .inr hS
    rw [hG ns hl]
    intro v F' H' _ _ _ _ r
    cases r
    exact q H'
theorem cx_no {P : Program} {w : World} {H : Hp} {s : Shared} {e : Value} {s' : Shared} (h : L2.CX P w [] H s (fun _ _ _ => False) e s') : False := by
  obtain ⟨_, _, _, _, _, _, _, _, _, _, _, _, z⟩ := h
  exact z
end DL

set_option Elab.async false
set_option linter.all false
set_option maxRecDepth 100000
namespace DL
open PySem PySem.Spec L2
open PyProof.Rows hiding St
/-! ### own dicts -/
def keyD : Dt → Option Key
  | .int i => some (.inl i)
  | .str s => some (.inr s)
  | _ => none
def valD (kvs : List (Key × Dt)) (k : Key) : Option Dt := (kvs.find? fun kv => decide (kv.1 = k)).map (·.2)
def putD (kvs : List (Key × Dt)) (k : Key) (d : Dt) : List (Key × Dt) := if (kvs.any fun kv => decide (kv.1 = k)) = true then kvs.map (fun kv => if kv.1 = k then (kv.1, d) else kv) else kvs ++ [(k, d)]
theorem key_rp {K : PySem.W.Frag} {F : Hp} {v : V} {d : Dt} {k : Key} (r : Rp K F v d) (h : keyD d = some k) : v = kV k := by
  cases r with
  | int i => cases h; rfl
  | str s => cases h; rfl
  | _ => cases h
theorem key_RP {c : Cd} {F H : Hp} {v : V} {d : Dt} {k : Key} (r : RP c F H v d) (h : keyD d = some k) : v = kV k := by
  rcases r with r | ⟨a, vs, ds, e1, e2, e3, e4⟩
  · exact key_rp r h
  · subst e2; cases h
theorem KvAll.val {K : PySem.W.Frag} {F : Hp} : ∀ {ks : List (Key × V)} {kvs : List (Key × Dt)}, KvAll K F ks kvs → ∀ k : Key, (valV ks k = none ∧ valD kvs k = none) ∨ ∃ v d, valV ks k = some v ∧ valD kvs k = some d ∧ Rp K F v d
  | _, _, .nil, k => .inl ⟨rfl, rfl⟩
  | p :: ks, q :: kvs, .cons a t, k => by
    obtain ⟨e, r⟩ := a
    by_cases h : p.1 = k
    · exact .inr ⟨p.2, q.2, valV_pos h, by unfold valD; rw [List.find?_cons_of_pos (by rw [decide_eq_true_eq, ← e]; exact h)]; rfl, r⟩
    · have h2 : ¬ q.1 = k := by rw [← e]; exact h
      have e2 : valD (q :: kvs) k = valD kvs k := by unfold valD; rw [List.find?_cons_of_neg (by rw [decide_eq_true_eq]; exact h2)]
      rw [valV_neg h, e2]
      exact KvAll.val t k
theorem KvAll.any {K : PySem.W.Frag} {F : Hp} : ∀ {ks : List (Key × V)} {kvs : List (Key × Dt)}, KvAll K F ks kvs → ∀ k : Key, (ks.any fun kv => decide (kv.1 = k)) = kvs.any fun kv => decide (kv.1 = k)
  | _, _, .nil, k => rfl
  | p :: ks, q :: kvs, .cons a t, k => by
    rw [List.any_cons, List.any_cons, KvAll.any t k, a.1]
theorem KvAll.len {K : PySem.W.Frag} {F : Hp} {ks : List (Key × V)} {kvs : List (Key × Dt)} (h : KvAll K F ks kvs) : ks.length = kvs.length := Paired.length h
theorem KvAll.put {K : PySem.W.Frag} {F : Hp} {ks : List (Key × V)} {kvs : List (Key × Dt)} (h : KvAll K F ks kvs) (k : Key) {v : V} {d : Dt} (r : Rp K F v d) : KvAll K F (putK ks k v) (putD kvs k d) := by
  unfold putK putD
  rw [h.any k]
  by_cases g : (kvs.any fun kv => decide (kv.1 = k)) = true
  · rw [if_pos g, if_pos g]
    clear g
    induction h with
    | nil => exact .nil
    | @cons p q ks kvs a t ih =>
      rw [List.map_cons, List.map_cons]
      refine .cons ?_ ih
      by_cases e : p.1 = k
      · rw [if_pos e, if_pos (a.1 ▸ e)]; exact ⟨a.1, r⟩
      · rw [if_neg e, if_neg (a.1 ▸ e)]; exact a
  · rw [if_neg g, if_neg g]
    clear g
    induction h with
    | nil => exact .cons ⟨rfl, r⟩ .nil
    | cons a t ih => exact .cons a ih
section
variable {X : Cx} {c : Cd} {n : Prop} {W : WX} {e a o : Expr} {pos : Pos} {i : Nat} {mk me : Mo Dt}
def liftD (c : Cd) (n : Prop) (W : WX) (m : Mo (List (Key × Dt))) : TE := fun σ H Q => ∃ ρ F, Holds c ρ F σ H ∧ match m ρ with
  | .ok ds ρ' => ∀ p vs F' H', Same F F' → (n → Kept ρ F H ρ' F' H' ∧ H p = none) → Holds c ρ' F' σ H' → F' p = none → c.H0 p = none → Free ρ' σ p → H' p = some (.dK vs) → KvAll c.K F' vs ds → Q (.ref p) H'
  | .er x ρ' => Lx c W x ρ' F σ
  | .no => False
abbrev KD (X : Cx) (c : Cd) (n : Prop) (W : WX) (e : Expr) (m : Mo (List (Key × Dt))) : Prop := PE X e (liftD c n W m)
def eDNew : Mo (List (Key × Dt)) := fun ρ => .ok [] ρ
theorem kd_new : KD X c n W (.Dict [] [] pos) eDNew := peImp pe_dnewK fun σ H Q ⟨ρ, F, h, k⟩ p hp =>
  k p [] F _ (Same.refl _) (fun _ => ⟨Kept.allocN hp, hp⟩) (h.allocN hp) (h.fp hp) (h.h0 hp) (h.free hp) upd_same .nil
def sSetD (i : Nat) (m : Mo (List (Key × Dt))) : Mo Fl := bindM m fun ds ρ => .ok .nx (ρ.set i (.md ds))
theorem s_setD {x : Str} {pos' : Pos} {mf : Mo (List (Key × Dt))} (hN : X.N.Nodup) (hi : X.N[i]? = some x) (hx : Loc X.env.scope x) (he : KD X c n W e mf) (hs : swapsWith e (some (.Name x pos')) pos.line X.env = pure false := by rfl) (hf : X.fn x = true ∨ X.env.scope.names.lookup x = some .local := by first | exact .inl rfl | exact .inr rfl | assumption) :
    KS X c W (.Assign [.Name x pos'] e pos) (sSetD i mf) := psImp (ps_set hN hi hx he hs hf) fun D σ H ⟨ρ, F, h, q⟩ => by
  refine ⟨ρ, F, h, ?_⟩
  unfold sSetD bindM at q
  cases hm : mf ρ with
  | no => rw [hm] at q; exact q.elim
  | er x ρ1 => rw [hm] at q; exact LxS.lx q
  | ok ds ρ1 =>
    rw [hm] at q
    exact fun p vs F' H' s _ h' f0 h0 fr hp r => q _ F' H' s (h'.setown (s := .md ds) rfl fr ⟨p, vs, rfl, f0, h0, hp, r⟩)
def slD? (ρ : Rho) (i : Nat) : Option (List (Key × Dt)) := match ρ[i]? with
  | some (.md kvs) => some kvs
  | _ => none
/-- key in name -/
def eDIn (g : Bool → Bool) (i : Nat) (mk : Mo Dt) : Mo Dt := bindM mk fun k ρ => match keyD k, slD? ρ i with
  | some q, some kvs => .ok (.bool (g (valD kvs q).isSome)) ρ
  | _, _ => .no
theorem slD_some {ρ : Rho} {i : Nat} {kvs : List (Key × Dt)} (h : slD? ρ i = some kvs) : ρ[i]? = some (.md kvs) := by
  unfold slD? at h
  split at h
  · cases h; assumption
  · cases h
theorem din_lift {g : Bool → Bool} {σ : St} {H : Hp} {Q : VK} (h : lift RE c n W (eDIn g i mk) σ H Q) : lift RP c n W mk σ H fun y H1 => tVar i σ H1 fun x H2 => ∃ a o, x = .ref a ∧ DGet H2 a y o ∧ Q (.bl (g o.isSome)) H2 := by
  obtain ⟨ρ, F, h, k⟩ := h
  refine ⟨ρ, F, h, ?_⟩
  unfold eDIn bindM at k
  cases hm : mk ρ with
  | no => simp only [hm] at k
  | er x ρ1 => simp only [hm] at k ⊢; exact k
  | ok d ρ1 =>
    simp only [hm] at k ⊢
    intro v F1 H1 s1 n1 h1 r1
    cases hk : keyD d with
    | none => simp only [hk] at k
    | some q =>
      cases hs : slD? ρ1 i with
      | none => simp only [hk, hs] at k
      | some kvs =>
        simp only [hk, hs] at k
        obtain ⟨a, ks, e1, e2, e3, e4, e5⟩ := h1.sl i _ (slD_some hs)
        have ev := key_RP r1 hk
        subst ev
        refine ⟨_, e1, a, _, rfl, DGet.k e4, ?_⟩
        have : (valV ks q).isSome = (valD kvs q).isSome := by
          rcases e5.val q with ⟨z1, z2⟩ | ⟨v, d, z1, z2, _⟩ <;> rw [z1, z2] <;> rfl
        rw [this]
        exact k _ F1 H1 s1 n1 h1 (.bl _)
theorem k_din (hu : X.A.units + 64 < cLine) (he : KP X c n W a mk) (ho : PE X o (tVar i)) (h1 : behindInMarks .In o = false := by first | exact nobehind _ (by decide) (by decide) | rfl) : KE X c n W (.Compare a [.In] [o] pos) (eDIn id i mk) :=
  peImp (pe_cmp (pc_din (by omega) he ho) h1) fun _ _ _ h => din_lift h
theorem k_dnin (hu : X.A.units + 64 < cLine) (he : KP X c n W a mk) (ho : PE X o (tVar i)) (h1 : behindInMarks .NotIn o = false := by first | exact nobehind _ (by decide) (by decide) | rfl) : KE X c n W (.Compare a [.NotIn] [o] pos) (eDIn not i mk) :=
  peImp (pe_cmp (pc_dnotin (by omega) he ho) h1) fun _ _ _ h => din_lift h
theorem t_din (hu : X.A.units + 64 < cLine) (he : KP X c n W a mk) (ho : PE X o (tVar i)) (h1 : behindInMarks .In o = false := by first | exact nobehind _ (by decide) (by decide) | rfl) : KT X c n W (.Compare a [.In] [o] pos) (tOf (eDIn id i mk)) :=
  ptImp (pt_cmp (pc_din (by omega) he ho) h1) fun _ _ _ h => tb_lift (fun _ _ _ h => din_lift h) h
theorem t_dnin (hu : X.A.units + 64 < cLine) (he : KP X c n W a mk) (ho : PE X o (tVar i)) (h1 : behindInMarks .NotIn o = false := by first | exact nobehind _ (by decide) (by decide) | rfl) : KT X c n W (.Compare a [.NotIn] [o] pos) (tOf (eDIn not i mk)) :=
  ptImp (pt_cmp (pc_dnotin (by omega) he ho) h1) fun _ _ _ h => tb_lift (fun _ _ _ h => din_lift h) h
/-- name[key] -/
def eDGet (i : Nat) (mk : Mo Dt) : Mo Dt := fun ρ => match slD? ρ i with
  | some kvs => bindM mk (fun k ρ1 => match (keyD k).bind (valD kvs) with
    | some d => .ok d ρ1
    | none => .no) ρ
  | none => .no
theorem k_dget (hu : X.A.units + 64 < cLine) (ho : PE X o (tVar i)) (he : KE X c True W a mk) (hs : NoSl a) : KE X c n W (.Subscript o a pos) (eDGet i mk) := peImp (pe_dget (by omega) ho he hs) fun σ H Q ⟨ρ, F, h, k⟩ => by
  unfold eDGet bindM at k
  cases hs : slD? ρ i with
  | none => simp only [hs] at k
  | some kvs =>
    simp only [hs] at k
    obtain ⟨p, ks, e1, e2, e3, e4, e5⟩ := h.sl i _ (slD_some hs)
    refine ⟨_, e1, ρ, F, h, ?_⟩
    cases hm : mk ρ with
    | no => simp only [hm] at k
    | er x ρ1 => simp only [hm] at k ⊢; exact k
    | ok d ρ1 =>
      simp only [hm] at k ⊢
      intro v F1 H1 s1 n1 h1 r1
      have g1 := n1 trivial
      cases hk : keyD d with
      | none => rw [hk] at k; exact k.elim
      | some q =>
        rw [hk] at k
        have ev := key_rp r1 hk
        subst ev
        rcases e5.val q with ⟨z1, z2⟩ | ⟨v, d', z1, z2, z3⟩
        · simp only [Option.bind_some, z2] at k
        · simp only [Option.bind_some, z2] at k
          exact ⟨p, v, rfl, z1 ▸ DGet.k (g1.sH.dK e4), k v F1 H1 s1 (fun _ => g1) h1 (rpMono s1 z3)⟩
/-- name[key] = e -/
def sDPut (i : Nat) (mk me : Mo Dt) : Mo Fl := bindM me fun d ρ1 => match slD? ρ1 i with
  | some kvs => bindM mk (fun k ρ2 => match keyD k with
    | some q => if kvs.length < sizeLine then .ok .nx (ρ2.set i (.md (putD kvs q d))) else .no
    | none => .no) ρ1
  | none => .no
theorem s_dput {pos' : Pos} (hu : X.A.units + 64 < cLine) (ho : PE X o (tVar i)) (hk : KE X c True W a mk) (he : KE X c n W e me) (hs : swapsWith e (some (.Subscript o a pos')) pos.line X.env = pure false := by rfl) :
    KS X c W (.Assign [.Subscript o a pos'] e pos) (sDPut i mk me) := psImp (ps_dput (by omega) ho hk he hs) fun D σ H ⟨ρ, F, h, q⟩ => by
  refine ⟨ρ, F, h, ?_⟩
  unfold DL.sDPut bindM at q
  cases hm : me ρ with
  | no => simp only [hm] at q; exact q.elim
  | er x ρ1 => simp only [hm] at q ⊢; exact LxS.lx q
  | ok d ρ1 =>
    simp only [hm] at q ⊢
    intro v F1 H1 s1 _ h1 r1
    cases hr : slD? ρ1 i with
    | none => simp only [hr] at q; exact q.elim
    | some kvs =>
      simp only [hr] at q
      obtain ⟨p, ks, e1, e2, e3, e4, e5⟩ := h1.sl i _ (slD_some hr)
      refine ⟨_, e1, ρ1, F1, h1, ?_⟩
      cases hk : mk ρ1 with
      | no => simp only [hk] at q; exact q.elim
      | er x ρ2 => simp only [hk] at q ⊢; exact LxS.lx (LxS.later q s1)
      | ok k ρ2 =>
        simp only [hk] at q ⊢
        intro w F2 H2 s2 n2 h2 r2
        have g2 := n2 trivial
        obtain rfl := g2.e
        cases hq : keyD k with
        | none => simp only [hq] at q; exact q.elim
        | some y =>
          simp only [hq] at q
          have ev := key_rp r2 hq
          subst ev
          by_cases hl : kvs.length < sizeLine
          · rw [if_pos hl] at q
            have e5' := KvAll.mono s2 e5
            have e2' : F2 p = none := by
              obtain ⟨a', vs', q1, q2, _⟩ := h2.sl i _ (slD_some hr)
              rw [e1] at q1; cases q1; exact q2
            exact ⟨p, _, rfl, DPut.k (g2.sH.dK e4) (by rw [e5.len]; exact hl), q σ F2 _ (s1.trans s2) (h2.write (i := i) (slD_some hr) rfl (s' := .md (putD kvs y d)) rfl e1 ⟨p, _, rfl, e2', e3, upd_same, e5'.put y (rpMono s2 r1)⟩)⟩
          · rw [if_neg hl] at q; exact q.elim
end
end DL

set_option Elab.async false
set_option linter.all false
set_option maxRecDepth 100000
namespace DL
open PySem PySem.Spec L2
open PyProof.Rows hiding St
/-! ### max(list, default=d): the kit carries max without default -/
section
variable {prog : Program} {w : World} {A : Around} {R : Result → Shared → Prop} {I : Addr} {fp wr : List Addr} {n : Nat} {P : Nat → Value → Prop} {Z : Nat → Heap → Prop} {dk : List (Str × Value)}
theorem mx_name : (toString "max" ++ toString ".loop" : String) = "max.loop" := by decide
theorem mx_rest (V : Walks prog w A.in1 I fp wr n P Z) (bt : Nat → Nat → Bool) (hc : CmpOf prog w A.in1 .Gt P bt) (B : Addr) (nB : B ∉ fp) : ∀ (k j : Nat) (s : Shared) (u : Value) (c : Nat), n - (j + 1) = k → j + 1 ≤ n → Z (j + 1) s.heap → P (argBest bt j) u →
    s.heap.get? B = some { cls := .type "list", dict := none, data := .seq #[u, u] c, slots := #[] } → (∀ v h' tk, P (argBest bt (n - 1)) v → (∀ b o, b ∉ wr → b ≠ B → s.heap.get? b = some o → h'.get? b = some o) → R (.ok (.ret v)) { s with heap := h', toks := tk }) →
    codeAny (model prog w) A (.builtin "max.loop" ⟨[.ref I, .none, .ref B], dk⟩) R s := by
  have nW : B ∉ wr := fun h => nB (V.sub _ h)
  intro k
  induction k with
  | zero =>
    intro j s u c ek hj z pu gB fin
    have ej : j + 1 = n := by omega
    refine codeAny_builtin F.entry_max_loop ?_
    rw [Around.under_plainId F.plain_max_loop _]
    show wpAny _ A.in1 (seqItems? (.ref B) >>= _) _ _ s
    refine wpAny_bind (wpAny_seqItems gB rfl ?_)
    show wpAny _ A.in1 (tryCatch (pyNext (.ref I)) _ >>= _) _ _ s
    refine wpAny_bind (wpAny_tryCatch (V.done s _ _ (ej ▸ z) fun h' tk kp => ?_))
    have gB' := kp B _ nW gB
    show wpAny _ A.in1 (updateSeq B (fun _ => #[]) >>= _) _ _ _
    refine wpAny_bind (wpAny_updateSeq gB' rfl (wpAny_bind (wpAny_letGo (wpAny_pure ?_))))
    exact fin u _ tk (by rw [← ej]; exact pu) fun b o q1 q2 e => (Heap.get?_update_other _ _ (Ne.symm q2)).trans (kp b o q1 e)
  | succ k ih =>
    intro j s u c ek hj z pu gB fin
    have lt : j + 1 < n := by omega
    refine codeAny_builtin F.entry_max_loop ?_
    rw [Around.under_plainId F.plain_max_loop _]
    show wpAny _ A.in1 (seqItems? (.ref B) >>= _) _ _ s
    refine wpAny_bind (wpAny_seqItems gB rfl ?_)
    show wpAny _ A.in1 (tryCatch (pyNext (.ref I)) _ >>= _) _ _ s
    refine wpAny_bind (wpAny_tryCatch (V.item (j + 1) s _ _ lt z fun v h' tk pv z' kp => ?_))
    have gB' := kp B _ nW gB
    show wpAny _ A.in1 (tryCatch (holding [v, v] (richCompare .Gt v u >>= _)) _ >>= _) _ _ _
    refine wpAny_bind (wpAny_tryCatch (wpAny_holding (wpAny_bind (hc (j + 1) (argBest bt j) v u _ _ _ pv pu ?_))))
    refine wpAny_bind (wpAny_holding (wpAny_truthy_bool (wpAny_bind (wpAny_letGo (wpAny_pure ?_)))))
    cases q : bt (j + 1) (argBest bt j) with
    | true =>
      simp only [if_true]
      refine wpAny_bind (wpAny_updateSeq gB' rfl (wpAny_bind (wpAny_letGo ?_)))
      rw [mx_name]
      refine wpAny_pure ⟨plainId_quiet F.plain_max_loop _, ih (j + 1) _ v _ (by omega) lt (V.frame _ _ _ z' fun b hb o e => (Heap.get?_update_other _ _ (fun h : B = b => nB (by rw [h]; exact hb))).trans e) (by simp only [argBest, q, if_true]; exact pv) (Heap.get?_update_self _ gB' rfl) fun v' h2 tk2 p2 k2 => ?_⟩
      exact fin v' h2 tk2 p2 fun b o q1 q2 e => k2 b o q1 q2 ((Heap.get?_update_other _ _ (Ne.symm q2)).trans (kp b o q1 e))
    | false =>
      simp only [Bool.false_eq_true, if_false]
      refine wpAny_bind (wpAny_letGo ?_)
      rw [mx_name]
      exact wpAny_pure ⟨plainId_quiet F.plain_max_loop _, ih (j + 1) _ u c (by omega) lt z' (by simp only [argBest, q, Bool.false_eq_true, if_false]; exact pu) gB' fun v' h2 tk2 p2 k2 => fin v' h2 tk2 p2 fun b o q1 q2 e => k2 b o q1 q2 (kp b o q1 e)⟩
theorem mx_first (V : Walks prog w A.in1 I fp wr n P Z) (bt : Nat → Nat → Bool) (hc : CmpOf prog w A.in1 .Gt P bt) (B : Addr) (nB : B ∉ fp) {s : Shared} {c : Nat} {d : Value} (z : Z 0 s.heap)
    (gB : s.heap.get? B = some { cls := .type "list", dict := none, data := .seq #[] c, slots := #[] })
    (fin : 0 < n → ∀ v h' tk, P (argBest bt (n - 1)) v → (∀ b o, b ∉ wr → b ≠ B → s.heap.get? b = some o → h'.get? b = some o) → R (.ok (.ret v)) { s with heap := h', toks := tk })
    (fin0 : n = 0 → ∀ h' tk, (∀ b o, b ∉ wr → s.heap.get? b = some o → h'.get? b = some o) → R (.ok (.ret d)) { s with heap := h', toks := tk }) :
    codeAny (model prog w) A (.builtin "max.loop" ⟨[.ref I, .none, .ref B], [(Str.ofString "default", d)]⟩) R s := by
  have nW : B ∉ wr := fun h => nB (V.sub _ h)
  refine codeAny_builtin F.entry_max_loop ?_
  rw [Around.under_plainId F.plain_max_loop _]
  show wpAny _ A.in1 (seqItems? (.ref B) >>= _) _ _ s
  refine wpAny_bind (wpAny_seqItems gB rfl ?_)
  show wpAny _ A.in1 (tryCatch (pyNext (.ref I)) _ >>= _) _ _ s
  by_cases hn : n = 0
  · refine wpAny_bind (wpAny_tryCatch (V.done s _ _ (hn ▸ z) fun h' tk kp => ?_))
    show wpAny _ A.in1 (rule _ >>= fun _ => ret d) _ _ _
    exact wpAny_bind (wpAny_rule (wpAny_pure (fin0 hn _ tk kp)))
  · have hn : 0 < n := Nat.pos_of_ne_zero hn
    refine wpAny_bind (wpAny_tryCatch (V.item 0 s _ _ hn z fun v h' tk pv z' kp => ?_))
    have gB' := kp B _ nW gB
    show wpAny _ A.in1 (updateSeq B (fun _ => #[v, v]) >>= _) _ _ _
    refine wpAny_bind (wpAny_updateSeq gB' rfl ?_)
    rw [mx_name]
    refine wpAny_pure ⟨plainId_quiet F.plain_max_loop _, mx_rest V bt hc B nB _ 0 _ v _ rfl hn (V.frame _ _ _ z' fun b hb o e => (Heap.get?_update_other _ _ (fun h : B = b => nB (by rw [h]; exact hb))).trans e) pv (Heap.get?_update_self _ gB' rfl) fun v' h2 tk2 p2 k2 => ?_⟩
    exact fin hn v' h2 tk2 p2 fun b o q1 q2 e => k2 b o q1 q2 ((Heap.get?_update_other _ _ (Ne.symm q2)).trans (kp b o q1 e))
end
theorem args_maxd (a d : Value) : argsOk "max" ⟨[a], [(Str.ofString "default", d)]⟩ := by unfold argsOk; kernel_rfl
theorem call_kw_tree {prog : Program} {w : World} {A : Around} {E : Value → Shared → Prop} {s : Shared} {id : String} {b : Builtin} {args : List Value} {kw : List (Str × Value)} {Q : Value → Shared → Prop} (hk : builtinKind id = none) (hp : plainId id = true) (hb : entryFor table id = some b) (ha : argsOk id ⟨args, kw⟩)
    (hc : wpAny (model prog w) A.in1 (b ⟨args, kw⟩) (fun fin s' => match fin with
      | .done f => (match (Except.ok f : Result) with | .ok (.ret v) => Q v s' | .ok _ => False | .error e => E e s')
      | .again c2 => c2.quiet = true ∧ codeAny (model prog w) A c2 (fun r s2 => match r with | .ok (.ret v) => Q v s2 | .ok _ => False | .error e => E e s2) s') E s) :
    wpAny (model prog w) A (call (.builtin id) args kw) Q E s := by
  refine wpAny_call (codeAny_call_builtin hp hb ?_)
  simp only [checkBuiltinCall, hk]
  cases q : Manifest.signature? id with
  | none => exact wpAny_pure hc
  | some sig =>
    have e : Bind.checkArgs id sig ⟨args, kw⟩ = pure () := by simpa only [argsOk, q] using ha
    simp only [e]
    exact wpAny_pure hc
theorem maxd_call {prog : Program} {w : World} {A : Around} {E : Value → Shared → Prop} {s : Shared} {l : Addr} {xs : Array (Int × Tok)} {d : Value} {Q : Value → Shared → Prop} (hh : A.handled = none) (hl : s.heap.IsList l (intItems xs))
    (h1 : 0 < xs.size → ∀ v h' tk, (intItems xs)[argBest (fun i j => decide (numAt xs i > numAt xs j)) (xs.size - 1)]? = some v → (∀ b o, s.heap.get? b = some o → h'.get? b = some o) → Q v { s with heap := h', toks := tk })
    (h0 : xs.size = 0 → ∀ h' tk, (∀ b o, s.heap.get? b = some o → h'.get? b = some o) → Q d { s with heap := h', toks := tk }) :
    wpAny (model prog w) A (call (.builtin "max") [.ref l] [(Str.ofString "default", d)]) Q E s := by
  refine call_kw_tree F.kind_max F.plain_max F.entry_max (args_maxd _ _) ?_
  show wpAny _ A.in1 (Builtin.Builtins.bindParams "max" ["key", "default"] 0 ⟨[], [(Str.ofString "default", d)]⟩ >>= _) _ _ s
  refine wpAny_bind (wpAny_of_eq (show Builtin.Builtins.bindParams "max" ["key", "default"] 0 ⟨[], [(Str.ofString "default", d)]⟩ = pure [none, some d] from rfl) ?_)
  refine wpAny_bind (wpAny_pure ?_)
  refine wpAny_bind (iter_intList hl fun s2 e st hfp ne => ?_)
  subst e
  refine wpAny_bind (wpAny_newObj_type ?_)
  have V := Walks.list (prog := prog) (w := w) (A := A.in1) hh s.heap.objs.size l ne (intItems xs)
  have nB := fun hm => Nat.lt_irrefl _ (hfp _ hm)
  rw [mx_name]
  have sz : (intItems xs).size = xs.size := by simp [intItems]
  refine wpAny_pure ⟨plainId_quiet F.plain_max_loop _, mx_first V _ (CmpOf.ints_gt (numAt xs) fun _ _ => intItems_at) _ nB (V.frame _ _ _ st fun b _ o e => Heap.get?_push_of_some _ e) (Heap.get?_push_size _ rfl) (fun hn v h' tk pv kp => ?_) fun hn h' tk kp => ?_⟩
  · refine h1 (sz ▸ hn) v h' tk (by rw [← sz]; exact pv) (old_kept fun b o hb e => kp b o hb (Nat.ne_of_lt (Heap.lt_size e)) (Heap.get?_push_of_some _ e))
  · exact h0 (sz ▸ hn) h' tk (old_kept fun b o hb e => kp b o hb (Heap.get?_push_of_some _ e))
end DL

set_option Elab.async false
set_option linter.all false
set_option maxRecDepth 100000
namespace DL
open PySem PySem.Spec L2
open PyProof.Rows hiding St
section
variable {X : Cx} {c : Cd} {n : Prop} {W : WX} {mo me mf : Mo Dt} {o e f : Expr} {apos pos p kpos : Pos}
/-! ### max(list, default=d) -/
def rMaxDef (K : PySem.W.Frag) : List V → List V → Hp → VK → Prop := fun xs zs H Q => ∃ (a : Addr) (ns : List Int) (d : Int), xs = [.ref a] ∧ zs = [.int d] ∧ SqL K H a (ns.map V.int) ∧ (ns = [] → Q (.int d) H) ∧ ∀ m, m ∈ ns → (∀ y ∈ ns, y ≤ m) → Q (.int m) H
theorem cr_maxDef (hc : X.calm = true) : CallRK X (.builtin "max") [Str.ofString "default"] (rMaxDef X.K) := by
  intro pins s σ H xs zs us ws Q I r rz h
  obtain ⟨a, ns, d, rfl, rfl, hs, q0, q⟩ := h
  obtain ⟨its, rv, hl, _⟩ := I.list hs
  obtain rfl := Vals.ref1 r
  obtain ⟨w1, rfl, td, rfl⟩ := vals1 rz
  have hi := rv.ints
  obtain ⟨ys, e⟩ := hi.allInts.items
  have hn : numsOf (intItems ys).toList = ns := by rw [← e]; exact hi.numsOf
  rw [nums_intItems] at hn
  subst hn
  have hl2 := hl.isList
  rw [e] at hl2
  show wpAny _ _ (call (.builtin "max") [.ref a] [(Str.ofString "default", .int d td)]) _ _ s
  refine maxd_call (I.ok.hd hc) hl2 (fun hn v h' tk hv hk => ?_) fun hn h' tk hk => ?_
  · obtain ⟨t, rfl⟩ := intItems_at hv
    obtain ⟨h1, h2⟩ := argBest_gt (numAt ys) (ys.size - 1)
    refine ⟨.int _, H, I.kept hk, ⟨_, rfl⟩, q _ ?_ fun y hy => ?_⟩
    · rw [numAt_eq]; exact PySem.getD_mem (by rw [List.length_map, Array.length_toList]; omega)
    · obtain ⟨j, hj, rfl⟩ := mem_getD hy
      rw [List.length_map, Array.length_toList] at hj
      rw [← numAt_eq]; exact h2 j (by omega)
  · refine ⟨.int _, H, I.kept hk, ⟨_, rfl⟩, q0 ?_⟩
    have e0 : ys.toList = [] := List.length_eq_zero_iff.mp (by rw [Array.length_toList]; exact hn)
    rw [e0]; rfl
def maxDefD : Dt → Dt → Option Dt
  | .list xs, .int d => (intsOf xs).map fun ns => .int (if ns = [] then d else maxI ns)
  | _, _ => none
theorem sem_maxDef {σ : St} {H : Hp} {Q : VK} {ρ : Rho} {F : Hp} {u w : V} {x y z : Dt} (hh : Holds c ρ F σ H) (ru : RP c F H u x) (rw' : Rp c.K F w y) (hz : maxDefD x y = some z) (q : ∀ w F' H', Same F F' → Kept ρ F H ρ F' H' → Holds c ρ F' σ H' → Rp c.K F' w z → Q w H') : rMaxDef c.K [u] [w] H Q := by
  unfold maxDefD at hz
  split at hz
  · rename_i xs d
    cases hi : intsOf xs with
    | none => rw [hi] at hz; cases hz
    | some ns =>
      rw [hi] at hz
      cases hz
      obtain rfl := intsOf_eq hi
      obtain ⟨a, vs, rfl, e1, e2⟩ := ru.lst hh.sub
      rw [e2.ints] at e1
      cases rw'
      refine ⟨a, ns, d, rfl, rfl, SqL.of e1, fun e => ?_, fun m hm h => ?_⟩
      · subst e
        exact flat hh q (.int _)
      · have ne : ns ≠ [] := fun e => by subst e; cases hm
        obtain ⟨h1, h2⟩ := maxI_spec ne
        have : maxI ns = m := Int.le_antisymm (h _ h1) (h2 m hm)
        have z := flat hh q (.int _)
        rw [if_neg ne, this] at z
        exact z
  · cases hz
theorem k_maxDef (hc : X.calm = true) (hK : X.K = c.K) (hg : Gl X "max") (hm : X.mg "max" = none) (he : KP X c n W e me) (hf : KE X c True W f mf)
    (h1 : backTo pos (starEach [e] X.env) = (false, eval e X.env) :: backTo pos (starEach [] X.env) := by rfl) (h2 : (backTo pos (starEach [e] X.env)).any (·.1) = false := by rfl)
    (h3 : (backToKw pos (keywordEach [⟨some "default", f, kpos⟩] X.env)).all (·.1.isSome) = true := by rfl) (h4 : (backToKw pos (keywordEach [⟨some "default", f, kpos⟩] X.env)).any (·.1.isNone) = false := by rfl)
    (h5 : (backToKw pos (keywordEach [⟨some "default", f, kpos⟩] X.env)).filterMap (·.1) = [Str.ofString "default"] := by rfl) (h6 : starEach [e] X.env = (false, eval e X.env) :: starEach [] X.env := by rfl) :
    KE X c n W (.Call (.Name "max" p) [e] [⟨some "default", f, kpos⟩] pos) (eOp maxDefD me mf) :=
  peImp (pe_callBK (cr_maxDef hc) hg hm (by decide +kernel) (pa_cons he pa_nil h6) (pk_cons hf pk_nil) (by decide) (by decide) h1 h2 h3 h4 h5) fun σ H Q ⟨ρ, F, h, k⟩ => by
    refine ⟨ρ, F, h, ?_⟩
    unfold eOp bindM at k
    cases ha : me ρ with
    | no => simp only [ha] at k
    | er x ρ1 => simp only [ha] at k ⊢; exact k
    | ok x ρ1 =>
      simp only [ha] at k ⊢
      intro v F1 H1 s1 n1 h1 r1
      refine ⟨ρ1, F1, h1, ?_⟩
      cases hb : mf ρ1 with
      | no => simp only [hb] at k
      | er x ρ2 => simp only [hb] at k ⊢; exact k.later s1
      | ok y ρ2 =>
        simp only [hb] at k ⊢
        intro u F2 H2 s2 n2 h2 r2
        have g2 := n2 trivial
        unfold ofO at k
        cases hf : maxDefD x y with
        | none => simp only [hf] at k
        | some z =>
          simp only [hf] at k
          rw [hK]
          exact sem_maxDef h2 (r1.mono s2 g2.sH) r2 hf fun w F3 H3 s3 g3 h3 r3 => k w F3 H3 (s1.trans (s2.trans s3)) (fun hn => (n1 hn).trans (g2.trans g3)) h3 r3
/-! ### tuple.index, list.index, of texts -/
def tixD : Dt → Dt → Option Dt
  | .tuple xs, .str z => (strsOf xs).bind fun ys => (ys.findIdx? fun y => decide (y = z)).map fun j => .int j
  | _, _ => none
def lixD : Dt → Dt → Option Dt
  | .list xs, .str z => (strsOf xs).bind fun ys => (ys.findIdx? fun y => decide (y = z)).map fun j => .int j
  | _, _ => none
theorem find_is {ys : List Str} {z : Str} {j : Nat} (h : (ys.findIdx? fun y => decide (y = z)) = some j) : ys[j]? = some z ∧ ∀ m, m < j → ys[m]? ≠ some z := by
  obtain ⟨hj, h1, h2⟩ := List.findIdx?_eq_some_iff_getElem.mp h
  rw [decide_eq_true_eq] at h1
  refine ⟨by rw [List.getElem?_eq_getElem hj, h1], fun m hm e => h2 m hm ?_⟩
  have hm2 : m < ys.length := Nat.lt_trans hm hj
  rw [List.getElem?_eq_getElem hm2] at e
  rw [decide_eq_true_eq]
  exact Option.some.inj e
/-- a constant tuple's index -/
theorem tix_some {x y z : Dt} (h : tixD x y = some z) : ∃ (ys : List Str) (w : Str) (j : Nat), x = .tuple (ys.map .str) ∧ y = .str w ∧ (ys.findIdx? fun y => decide (y = w)) = some j ∧ z = .int j := by
  unfold tixD at h
  split at h
  · rename_i xs w
    cases hs : strsOf xs with
    | none => rw [hs] at h; cases h
    | some ys =>
      rw [hs] at h
      simp only [Option.bind_some] at h
      cases hj : ys.findIdx? fun y => decide (y = w) with
      | none => rw [hj] at h; cases h
      | some j => rw [hj] at h; cases h; exact ⟨ys, w, j, by rw [strsOf_eq hs], rfl, hj, rfl⟩
  · cases h
theorem lix_some {x y z : Dt} (h : lixD x y = some z) : ∃ (ys : List Str) (w : Str) (j : Nat), x = .list (ys.map .str) ∧ y = .str w ∧ (ys.findIdx? fun y => decide (y = w)) = some j ∧ z = .int j := by
  unfold lixD at h
  split at h
  · rename_i xs w
    cases hs : strsOf xs with
    | none => rw [hs] at h; cases h
    | some ys =>
      rw [hs] at h
      simp only [Option.bind_some] at h
      cases hj : ys.findIdx? fun y => decide (y = w) with
      | none => rw [hj] at h; cases h
      | some j => rw [hj] at h; cases h; exact ⟨ys, w, j, by rw [strsOf_eq hs], rfl, hj, rfl⟩
  · cases h
theorem k_tix {a : Addr} {ob : Obj} {d : Dt} (hK : X.K = c.K) (ho : PE X o (tC (.ref a))) (hl : X.K.lookup a = some ob) (hc : ob.cls = .type "tuple") (hd : ob.dict = none) (r : ∀ F, Rp c.K F (.ref a) d) (he : KE X c n W e me)
    (h1 : attributeBase o "index" X.env (eval o X.env) = eval o X.env := by rfl)
    (h2 : ((backTo pos (starEach [e] X.env)).all (fun x => !x.1) && (backToKw pos (keywordEach [] X.env)).all (fun x => x.1.isSome) && decide ([e].length + ([] : List Keyword).length + (if ([] : List Keyword).isEmpty then 0 else 1) < 30)) = true := by rfl)
    (h3 : (apos.endLine == pos.line) = true := by rfl) (h4 : starEach [e] X.env = (false, eval e X.env) :: starEach [] X.env := by rfl) (h5 : (backTo pos (starEach [] X.env)).any (·.1) = false := by rfl) :
    KE X c n W (.Call (.Attribute o "index" apos) [e] [] pos) (eOp tixD (eC d) me) :=
  peImp (pe_bm PySem.F.plainAttrs_tuple PySem.F.slot_tuple_index PySem.F.type_tuple_index mt_tup_index ho (pa_cons he pa_nil h4) h1 h2 h3 h4 h5) fun σ H Q ⟨ρ, F, h, k⟩ => by
    refine ⟨.inr (.inl ⟨rfl, ob, hl, hc, hd⟩), ρ, F, h, ?_⟩
    unfold eOp eC bindM at k
    simp only at k
    cases hb : me ρ with
    | no => simp only [hb] at k
    | er x ρ2 => simp only [hb] at k ⊢; exact k
    | ok y ρ2 =>
      simp only [hb] at k ⊢
      intro u F2 H2 s2 n2 h2 r2
      unfold ofO at k
      cases hf : tixD d y with
      | none => simp only [hf] at k
      | some z =>
        simp only [hf] at k
        obtain ⟨ys, w, j, rfl, rfl, hj, rfl⟩ := tix_some hf
        have r0 := r F2
        generalize hL : ys.map PyData.str = L at r0
        cases r0 with
        | @tup _ vs _ e1 r1 =>
          rw [← hL] at r1
          rw [r1.strs] at e1
          cases r2
          obtain ⟨q1, q2⟩ := find_is hj
          exact ⟨a, ys, w, j, rfl, rfl, by rw [hK]; exact h2.sub.sqT e1, q1, q2, k _ F2 H2 s2 n2 h2 (.int _)⟩
def eLix (mo me : Mo Dt) : Mo Dt := bindM mo fun x => match x with
  | .list xs => bindM me fun y => ofO (lixD (.list xs) y)
  | _ => fun _ => .no
/-- a list's index -/
theorem k_lix (hK : X.K = c.K) (ho : KE X c n W o mo) (he : KE X c True W e me)
    (h1 : attributeBase o "index" X.env (eval o X.env) = eval o X.env := by rfl)
    (h2 : ((backTo pos (starEach [e] X.env)).all (fun x => !x.1) && (backToKw pos (keywordEach [] X.env)).all (fun x => x.1.isSome) && decide ([e].length + ([] : List Keyword).length + (if ([] : List Keyword).isEmpty then 0 else 1) < 30)) = true := by rfl)
    (h3 : (apos.endLine == pos.line) = true := by rfl) (h4 : starEach [e] X.env = (false, eval e X.env) :: starEach [] X.env := by rfl) (h5 : (backTo pos (starEach [] X.env)).any (·.1) = false := by rfl) :
    KE X c n W (.Call (.Attribute o "index" apos) [e] [] pos) (eLix mo me) :=
  peImp (pe_bm PySem.F.plainAttrs_list PySem.F.slot_list_index PySem.F.type_list_index mt_index ho (pa_cons he pa_nil h4) h1 h2 h3 h4 h5) fun σ H Q ⟨ρ, F, h, k⟩ => by
    refine ⟨ρ, F, h, ?_⟩
    unfold eLix bindM at k
    cases ha : mo ρ with
    | no => simp only [ha] at k
    | er x ρ1 => simp only [ha] at k ⊢; exact k
    | ok x ρ1 =>
      simp only [ha] at k ⊢
      intro v F1 H1 s1 n1 h1 r1
      cases x with
      | list xs =>
        simp only at k
        cases r1 with
        | @lst a vs _ e1 r1 =>
          refine ⟨.inl ⟨rfl, vs, by rw [hK]; exact SqL.of (h1.sub.lst e1)⟩, ρ1, F1, h1, ?_⟩
          cases hb : me ρ1 with
          | no => simp only [hb] at k
          | er y ρ2 => simp only [hb] at k ⊢; exact k.later s1
          | ok y ρ2 =>
            simp only [hb] at k ⊢
            intro u F2 H2 s2 n2 h2 r2
            have g2 := n2 trivial
            unfold ofO at k
            cases hf : lixD (.list xs) y with
            | none => simp only [hf] at k
            | some z =>
              simp only [hf] at k
              obtain ⟨ys, w, j, ex, rfl, hj, rfl⟩ := lix_some hf
              cases ex
              rw [r1.strs] at e1
              cases r2
              obtain ⟨q1, q2⟩ := find_is hj
              refine ⟨a, ys.map V.str, .str w, j, .str w, rfl, rfl, SqL.of (h2.sub.lst (s2 _ _ e1)), rfl, ?_, by rw [List.getElem?_map, q1]; rfl, by simp [eqV], fun m z' hm hz => ?_, k _ F2 H2 (s1.trans s2) (fun hn => (n1 hn).trans g2) h2 (.int _)⟩
              · rw [List.all_map, List.all_eq_true]; intro _ _; rfl
              · rw [List.getElem?_map] at hz
                cases hy : ys[m]? with
                | none => rw [hy] at hz; cases hz
                | some t =>
                  rw [hy] at hz
                  cases hz
                  have : t ≠ w := fun e => q2 m hm (by rw [hy, e])
                  simp [eqV, this]
      | _ => simp only at k
end
end DL

set_option Elab.async false
set_option linter.all false
set_option maxRecDepth 100000
namespace DL
open PySem PySem.Spec L2
open PyProof.Rows hiding St
/-! ### targets within targets -/
def tsNil : List Dt → Rho → Option Rho
  | [], ρ => some ρ
  | _ :: _, _ => none
def tsCons (T : Dt → Rho → Option Rho) (U : List Dt → Rho → Option Rho) : List Dt → Rho → Option Rho
  | [], _ => none
  | d :: ds, ρ => (T d ρ).bind (U ds)
def tgX (U : List Dt → Rho → Option Rho) : Dt → Rho → Option Rho := fun d ρ => match d with
  | .tuple ds => U ds ρ
  | _ => none
structure SemGs (c : Cd) (k : Nat) (u : TGs) (is : List Nat) (U : List Dt → Rho → Option Rho) : Prop where
  len : ∀ ds ρ ρ', U ds ρ = some ρ' → ds.length = k
  run : ∀ ρ F σ H vs ds ρ' (Q : St → Hp → Prop), Holds c ρ F σ H → RpA c.K F vs ds → U ds ρ = some ρ' → (∀ σ', Holds c ρ' F σ' H → (∀ vs : List Nat, (∀ k ∈ is, k ∈ vs) → wipe σ' vs = wipe σ vs) → Q σ' H) → u vs σ H Q
section
variable {c : Cd} {g : TG} {u : TGs} {is js : List Nat} {T : Dt → Rho → Option Rho} {U : List Dt → Rho → Option Rho} {k : Nat}
theorem sems_nil : SemGs c 0 gNil [] tsNil := by
  refine ⟨fun ds ρ ρ' h => ?_, fun ρ F σ H vs ds ρ' Q h r e q => ?_⟩
  · cases ds with
    | nil => rfl
    | cons _ _ => cases h
  · cases r with
    | nil => cases e; exact ⟨rfl, q _ h fun _ _ => rfl⟩
    | cons _ _ => cases e
theorem sems_cons (S : SemG c g is T) (Z : SemGs c k u js U) : SemGs c (k + 1) (gCons g u) (is ++ js) (tsCons T U) := by
  refine ⟨fun ds ρ ρ' h => ?_, fun ρ F σ H vs ds ρ' Q h r e q => ?_⟩
  · cases ds with
    | nil => cases h
    | cons d ds =>
      obtain ⟨ρ1, _, h2⟩ := Option.bind_eq_some_iff.mp h
      rw [List.length_cons, Z.len _ _ _ h2]
  · cases r with
    | nil => cases e
    | cons a t =>
      obtain ⟨ρ1, h1, h2⟩ := Option.bind_eq_some_iff.mp e
      refine ⟨_, _, rfl, S ρ F σ H _ _ ρ1 _ h a h1 fun σ1 hh hw => ?_⟩
      exact Z.run ρ1 F σ1 H _ _ ρ' Q hh t h2 fun σ2 h3 hw2 => q σ2 h3 fun vs hv => by
        rw [hw2 vs fun k hk => hv k (List.mem_append_right _ hk), hw vs fun k hk => hv k (List.mem_append_left _ hk)]
theorem sem_tupX (Z : SemGs c k u is U) : SemG c (gTup c.K k u) is (tgX U) := by
  intro ρ F σ H v d ρ' Q h r e q
  unfold tgX at e
  cases d with
  | tuple ds =>
    cases r with
    | tup e1 t => exact ⟨_, _, rfl, h.sub.sqT e1, by rw [t.len, Z.len _ _ _ e], Z.run ρ F σ H _ _ ρ' Q h t e q⟩
  | _ => cases e
end
end DL

set_option Elab.async false
set_option linter.all false
set_option maxRecDepth 100000
namespace DL
open PySem PySem.Spec L2
open PyProof.Rows hiding St
section
variable {X : Cx} {c : Cd} {n : Prop} {W : WX} {o e : Expr} {apos pos : Pos} {mo me : Mo Dt}
theorem rpa_strs {K : PySem.W.Frag} {F : Hp} : ∀ l : List Str, RpA K F (l.map V.str) (l.map PyData.str)
  | [] => .nil
  | x :: l => .cons (.str x) (rpa_strs l)
/-- text.split(sep) -/
def splitD (s : Str) : Dt → Option (List Dt)
  | .str y => if (y.length == 0) = false ∧ s.length + 2 ≤ sizeLine then some ((Txt.split s y).map .str) else none
  | _ => none
theorem sem_split : SemMF c (fun x xs H Q => ∃ a b, x = V.str a ∧ xs = [V.str b] ∧ (b.length == 0) = false ∧ a.length + 2 ≤ sizeLine ∧ rNewStrs (Txt.split a b) H Q) splitD := by
  intro ρ F σ H s u y z Q hh ry hf q
  unfold splitD at hf
  split at hf
  · split at hf
    · rename_i hz
      cases hf
      refine ⟨s, _, rfl, by rw [ry.str], hz.1, hz.2, fun p hp => ?_⟩
      exact newL hh q (rpa_strs _) p hp
    · cases hf
  · cases hf
theorem kf_split (ho : KE X c n W o mo) (he : KP X c True W e me)
    (h1 : starEach [e] X.env = [(false, eval e X.env)] := by rfl) (h2 : attributeBase o "split" X.env (eval o X.env) = eval o X.env := by rfl) (h3 : (apos.endLine == pos.line) = true := by rfl) :
    KF X c n W (.Call (.Attribute o "split" apos) [e] [] pos) (eM1F splitD mo me) := kf_m1 sem_split PySem.F.slot_str_split PySem.F.type_str_split mt_split ho he h1 h2 h3
/-- text.index(sign) that is there -/
def sixD (s : Str) : Dt → Option Dt
  | .str y => match Builtin.Str.occurrences s y 0 s.length 1 with
    | i :: _ => some (.int (i : Nat))
    | [] => none
  | _ => none
theorem sem_six : SemM c (fun x xs H Q => ∃ a b i rest, x = V.str a ∧ xs = [V.str b] ∧ Builtin.Str.occurrences a b 0 a.length 1 = i :: rest ∧ Q (V.int (i : Nat)) H) sixD := by
  intro ρ F σ H s u y z Q hh ry hf q
  unfold sixD at hf
  split at hf
  · split at hf
    · rename_i i rest ho
      cases hf
      exact ⟨s, _, i, rest, rfl, by rw [ry.str], ho, flat hh q (.int _)⟩
    · cases hf
  · cases hf
theorem k_six (ho : KE X c n W o mo) (he : KP X c True W e me)
    (h1 : starEach [e] X.env = [(false, eval e X.env)] := by rfl) (h2 : attributeBase o "index" X.env (eval o X.env) = eval o X.env := by rfl) (h3 : (apos.endLine == pos.line) = true := by rfl) :
    KE X c n W (.Call (.Attribute o "index" apos) [e] [] pos) (eM1 sixD mo me) := k_m1 sem_six PySem.F.slot_str_index PySem.F.type_str_index mt_sindex ho he h1 h2 h3
end
end DL

set_option Elab.async false
set_option linter.all false
set_option maxRecDepth 100000
namespace DL
open PySem PySem.Spec L2
open PyProof.Rows hiding St
/-! ### own lists lent to a def for its call -/
def noLN : Nat → Dt → Bool
  | _, .none => true
  | _, .bool _ => true
  | _, .int _ => true
  | _, .str _ => true
  | n + 1, .tuple xs => xs.all (noLN n)
  | _, _ => false
/-- data without lists -/
abbrev noL : Dt → Bool := noLN 6
/-- lists dropped -/
def LessL (F F' : Hp) : Prop := ∀ b o, F b = some o → F' b = some o ∨ ∃ xs, o = .lst xs
theorem LessL.sqt {K : PySem.W.Frag} {F F' : Hp} (s : LessL F F') {a : Addr} {xs : List V} (h : SqT K F a xs) : SqT K F' a xs := by
  rcases h with (h | ⟨o, h⟩) | h
  · rcases s _ _ h with q | ⟨_, q⟩
    · exact .inl (.inl q)
    · cases q
  · rcases s _ _ h with q | ⟨_, q⟩
    · exact .inl (.inr ⟨o, q⟩)
    · cases q
  · exact .inr h
theorem noL_all {K : PySem.W.Frag} {F F' : Hp} {n : Nat} (ih : ∀ d v, noLN n d = true → Rp K F v d → Rp K F' v d) : ∀ {vs : List V} {ds : List Dt}, ds.all (noLN n) = true → RpA K F vs ds → RpA K F' vs ds
  | _, [], _, h => by cases h; exact .nil
  | _, d :: ds, p, h => by
    rw [List.all_cons, Bool.and_eq_true] at p
    cases h with
    | cons a b => exact .cons (ih _ _ p.1 a) (noL_all ih p.2 b)
theorem noL_rp {K : PySem.W.Frag} {F F' : Hp} (s : LessL F F') : ∀ (n : Nat) (d : Dt) (v : V), noLN n d = true → Rp K F v d → Rp K F' v d
  | _, .none, _, _, h => by cases h; exact .non
  | _, .bool b, _, _, h => by cases h; exact .bl b
  | _, .int i, _, _, h => by cases h; exact .int i
  | _, .str x, _, _, h => by cases h; exact .str x
  | 0, .list ds, _, p, _ => by simp [noLN] at p
  | _ + 1, .list ds, _, p, _ => by simp [noLN] at p
  | 0, .dict ds, _, p, _ => by simp [noLN] at p
  | _ + 1, .dict ds, _, p, _ => by simp [noLN] at p
  | 0, .tuple ds, _, p, _ => by simp [noLN] at p
  | n + 1, .tuple ds, _, p, h => by
    cases h with
    | tup a b => exact .tup (s.sqt a) (noL_all (fun d v => noL_rp s n d v) (by simpa [noLN] using p) b)
/-- F with the lent lists vs frozen -/
noncomputable def lent (F H : Hp) (vs : List V) : Hp := fun b => match F b with
  | some o => some o
  | none => match H b with
    | some (.lst ws) => open Classical in if V.ref b ∈ vs then some (.lst ws) else none
    | _ => none
/-- .. and given back -/
noncomputable def back (F F' : Hp) (vs : List V) : Hp := fun b => match F b with
  | some o => some o
  | none => open Classical in if V.ref b ∈ vs ∧ ∃ ws, F' b = some (.lst ws) then none else F' b
section
variable {F H F' : Hp} {vs : List V} {K : PySem.W.Frag}
theorem lent_le : Same F (lent F H vs) := fun b o e => by unfold lent; rw [e]
section
variable {K : PySem.W.Frag} {P : Program} {w : World} {cv : Array Value → NestedKey → Option Int}
theorem lent_subL (s : Sub K P w cv F H) : ∀ b o, lent F H vs b = some o → NoM o → H b = some o := fun b o e n => by
  unfold lent at e
  cases hF : F b with
  | some z => rw [hF] at e; cases e; exact s.at' _ _ hF n
  | none =>
    rw [hF] at e
    simp only at e
    split at e
    · rename_i ws hH
      split at e
      · cases e; exact hH
      · cases e
    · cases e
theorem lent_at {b : Addr} {ws : List V} (s : Sub K P w cv F H) (hb : V.ref b ∈ vs) (e : H b = some (.lst ws)) : lent F H vs b = some (.lst ws) := by
  unfold lent
  cases hF : F b with
  | some z =>
    cases z with
    | tbl ps => obtain ⟨xs, y, _⟩ := s.ca b ps hF; rw [y] at e; cases e
    | _ => rw [s.at' _ _ hF trivial] at e; exact e
  | none => simp only [e]; rw [if_pos hb]
theorem lent_off {b : Addr} {o : HO} (hF : F b = none) (e : lent F H vs b = some o) : V.ref b ∈ vs ∧ ∃ ws, o = .lst ws := by
  unfold lent at e
  rw [hF] at e
  simp only at e
  split at e
  · split at e
    · rename_i hb
      cases e; exact ⟨hb, _, rfl⟩
    · cases e
  · cases e
theorem lent_sub (s : Sub K P w cv F H) : Sub K P w cv (lent F H vs) H := by
  refine ⟨lent_subL s, fun b ps e => ?_⟩
  cases hF : F b with
  | some z =>
    have : lent F H vs b = some z := by unfold lent; rw [hF]
    rw [e] at this; cases this
    obtain ⟨xs, y, z⟩ := s.ca b ps hF
    exact ⟨xs, y, z.mono lent_le⟩
  | none =>
    obtain ⟨_, ws, q⟩ := lent_off hF e
    cases q
theorem lent_sM {H' : Hp} (s : SameM (lent F H vs) H H') : SameM F H H' := by
  refine ⟨fun b o e q => s.kp b o e ?_, s.al⟩
  rcases q with q | q
  · exact .inl q
  · by_cases z : ∃ φ, o = .ext φ
    · obtain ⟨φ, rfl⟩ := z
      refine .inr ?_
      unfold lent
      rw [q]
      simp only [e]
    · exact .inl fun φ h => z ⟨φ, h⟩
theorem lent_rp {c : Cd} (s : CSub c F H) : ∀ {us : List V} {ds : List Dt}, (∀ u ∈ us, u ∈ vs) → Paired (RP c F H) us ds → RpA c.K (lent F H vs) us ds
  | _, _, _, .nil => .nil
  | u :: us, d :: ds, m, .cons r t => by
    refine .cons ?_ (lent_rp s (fun u hu => m u (List.mem_cons_of_mem _ hu)) t)
    rcases r with r | ⟨a, ws, es, rfl, rfl, e3, e4⟩
    · exact rpMono lent_le r
    · exact .lst (lent_at s (m _ List.mem_cons_self) e3) (rpaMono lent_le e4)
theorem back_le : Same F (back F F' vs) := fun b o e => by unfold back; rw [e]
theorem back_sub (s : Same F F') : Same (back F F' vs) F' := fun b o e => by
  unfold back at e
  cases hF : F b with
  | some z => rw [hF] at e; cases e; exact s _ _ hF
  | none =>
    rw [hF] at e
    simp only at e
    split at e
    · cases e
    · exact e
theorem back_less (s : Same F F') : LessL F' (back F F' vs) := fun b o e => by
  unfold back
  cases hF : F b with
  | some z => rw [s _ _ hF] at e; exact .inl e
  | none =>
    simp only
    split
    · rename_i h
      obtain ⟨_, ws, h⟩ := h
      rw [h] at e; cases e; exact .inr ⟨_, rfl⟩
    · exact .inl e
mutual
theorem nkeyLess {F F' : Hp} (s : LessL F F') : ∀ {k : NestedKey} {v : V}, NKey K F v k → NKey K F' v k
  | .none, _, h => by cases h; exact .non
  | .num i, _, h => by cases h; exact .int i
  | .text x, _, h => by cases h; exact .str x
  | .tup ks, _, h => by
    cases h with
    | tup a r => exact .tup (s.sqt a) (nkeysLess s r)
theorem nkeysLess {F F' : Hp} (s : LessL F F') : ∀ {ks : List NestedKey} {vs : List V}, NKeys K F vs ks → NKeys K F' vs ks
  | [], _, h => by cases h; exact .nil
  | k :: ks, _, h => by
    cases h with
    | cons a t => exact .cons (nkeyLess s a) (nkeysLess s t)
end
theorem back_Sub {F F' H' : Hp} {vs : List V} (s : Same F F') (h : Sub K P w cv F' H') : Sub K P w cv (back F F' vs) H' := by
  have sb := back_sub (vs := vs) s
  refine ⟨fun b o e n => h.at' b o (sb b o e) n, fun b ps e => ?_⟩
  obtain ⟨xs, y, z⟩ := h.ca b ps (sb b _ e)
  exact ⟨xs, y, fun x hx => ⟨nkeyLess (back_less s) (z x hx).1, (z x hx).2⟩⟩
end
theorem back_new (s : Same (lent F H vs) F') (nw : NewB (lent F H vs) H F') : NewB F H (back F F' vs) := fun b o e => by
  cases hF : F b with
  | some z => unfold back at e; rw [hF] at e; exact .inl e
  | none =>
    have e' := back_sub (lent_le.trans s) _ _ e
    rcases nw b o e' with q | q
    · obtain ⟨hb, ws, rfl⟩ := lent_off hF q
      unfold back at e
      rw [hF] at e
      simp only at e
      rw [if_pos ⟨hb, ws, e'⟩] at e
      cases e
    · exact .inr q
end
/-- a call that lends own lists: what comes back holds no list, or is a fresh list of such -/
def eCallB (G : List Dt → Fo) (ms : Mo (List Dt)) : Mo Vl := bindM ms fun ds ρ => match G ds with
  | .ok d => if noL d = true then .ok (.z d) ρ else .no
  | .fr es => if es.all noL = true then .ok (.f es) ρ else .no
  | .er x => .er x ρ
  | .no => .no
def eVz (m : Mo Vl) : Mo Dt := bindM m fun x ρ => match x with
  | .z d => .ok d ρ
  | .f ds => .ok (.list ds) ρ
section
variable {c : Cd} {X : Cx} {n : Prop} {W : WX} {ms : Mo (List Dt)} {mv : Mo Vl} {e : Expr} {es : List Expr} {pos p : Pos} {G : List Dt → Fo} {x : Str} {k : Nat} {f : Addr} {fd : FuncData} {ps : List Str}
theorem Holds.addfrz {ρ : Rho} {F' H' : Hp} {σ : St} {p : Addr} {vs : List V} (h' : Holds c ρ F' σ H') (f0 : F' p = none) (h0 : c.H0 p = none) (fr : Free ρ σ p) (hp : H' p = some (.lst vs)) : Holds c ρ (upd F' p (.lst vs)) σ H' := by
  have sF : Same F' (upd F' p (.lst vs)) := same_upd f0
  refine ⟨h'.base, h'.f0.trans sF, h'.sub.freeze hp f0 trivial, fun b z q => ?_, h'.len, fun j t q => ?_, h'.ap⟩
  · by_cases hb : b = p
    · subst hb; exact .inr h0
    · rw [upd_ne hb] at q; exact h'.new _ _ q
  · have z := h'.sl j t q
    cases t with
    | un => trivial
    | ex x => exact z
    | va d => obtain ⟨v, z1, z2⟩ := z; exact ⟨v, z1, rpMono sF z2⟩
    | ml es =>
      obtain ⟨b, ws, z1, z2, z3, z4, z5⟩ := z
      have nb : b ≠ p := fun e => fr j _ q rfl (e ▸ z1)
      exact ⟨b, ws, z1, by rw [upd_ne nb]; exact z2, z3, z4, rpaMono sF z5⟩
    | md es =>
      obtain ⟨b, ws, z1, z2, z3, z4, z5⟩ := z
      have nb : b ≠ p := fun e => fr j _ q rfl (e ▸ z1)
      exact ⟨b, ws, z1, by rw [upd_ne nb]; exact z2, z3, z4, KvAll.mono sF z5⟩
    | mn es =>
      obtain ⟨b, ws, z1, z2, z3, z4, z5⟩ := z
      have nb : b ≠ p := fun e => fr j _ q rfl (e ▸ z1)
      exact ⟨b, ws, z1, by rw [upd_ne nb]; exact z2, z3, z4, NvAll.mono sF z5⟩
theorem vz_lift {σ : St} {H : Hp} {Q : VK} (hh : lift RE c n W (eVz mv) σ H Q) : liftV c n W mv σ H Q := by
  obtain ⟨ρ, F, h, k⟩ := hh
  refine ⟨ρ, F, h, ?_⟩
  unfold eVz bindM at k
  cases hm : mv ρ with
  | no => simp only [hm] at k
  | er x ρ1 => simp only [hm] at k ⊢; exact k
  | ok y ρ1 =>
    simp only [hm] at k ⊢
    cases y with
    | z d => exact k
    | f ds =>
      simp only at k
      intro p vs F' H' s hn h' f0 h0 fr hp r
      have sF : Same F' (upd F' p (.lst vs)) := same_upd f0
      exact k (.ref p) (upd F' p (.lst vs)) H' (s.trans sF) (fun z => ⟨(hn z).1.sH, (hn z).1.e, fun b o q => by
        by_cases hb : b = p
        · subst hb; exact .inr (hn z).2
        · rw [upd_ne hb] at q; exact (hn z).1.nw b o q⟩) (h'.addfrz f0 h0 fr hp) (.lst upd_same (rpaMono sF r))
theorem kvz (h : KV X c n W e mv) : KE X c n W e (eVz mv) := peImp h fun _ _ _ q => vz_lift q
theorem callB_lift (hxr : ∀ x cls dd F F', LessL F F' → c.xr x cls dd F → c.xr x cls dd F') {σ : St} {H : Hp} {Q : VK} (h : liftV c n W (eCallB G ms) σ H Q) : tCallSD (spOf c.K c.P c.w c.cv c.xr G) [] (WE W) (liftB c n W ms) σ H Q := by
  obtain ⟨ρ, F, h, k⟩ := h
  refine ⟨ρ, F, h, ?_⟩
  unfold eCallB bindM at k
  cases hm : ms ρ with
  | no => simp only [hm] at k
  | er x ρ1 => simp only [hm] at k ⊢; exact k
  | ok ds ρ1 =>
    simp only [hm] at k ⊢
    intro vs F1 H1 s1 n1 h1 r1
    refine ⟨lent F1 H1 vs, ds, lent_sub h1.sub, by rw [List.append_nil]; exact lent_rp h1.sub (fun _ q => q) r1, ?_⟩
    cases hg : G ds with
    | no => simp only [hg] at k
    | ok d =>
      simp only [hg] at k ⊢
      by_cases hd : noL d = true
      · rw [if_pos hd] at k
        intro v F' H' sH sF sub new r
        have sb := back_sub (vs := vs) (lent_le.trans sF)
        have nw := back_new sF new
        exact k v (back F1 F' vs) H' (s1.trans back_le) (fun hn => (n1 hn).trans ⟨lent_sM sH, rfl, nw⟩) (h1.grow back_le (lent_sM sH) (back_Sub (lent_le.trans sF) sub) nw) (noL_rp (back_less (lent_le.trans sF)) 6 d v hd r)
      · rw [if_neg hd] at k; exact k.elim
    | er x =>
      simp only [hg] at k ⊢
      exact fun cls dd F' H' sH sF sub new xx => k cls dd (back F1 F' vs) H' (s1.trans back_le) (h1.grow back_le (lent_sM sH) (back_Sub (lent_le.trans sF) sub) (back_new sF new)) (hxr x cls dd F' _ (back_less (lent_le.trans sF)) xx)
    | fr ws =>
      simp only [hg] at k ⊢
      by_cases hd : ws.all noL = true
      · rw [if_pos hd] at k
        intro p us F' H' sH sF sub new f0 h0 hp r
        have sb := back_sub (vs := vs) (lent_le.trans sF)
        have nw := back_new sF new
        have fb : back F1 F' vs p = none := by
          cases q : back F1 F' vs p with
          | none => rfl
          | some o => rw [sb _ _ q] at f0; cases f0
        exact k p us (back F1 F' vs) H' (s1.trans back_le) (fun hn => ⟨(n1 hn).trans ⟨lent_sM sH, rfl, nw⟩, (n1 hn).sH.free h0⟩) (h1.grow back_le (lent_sM sH) (back_Sub (lent_le.trans sF) sub) nw) fb (h1.h0 h0) (h1.free h0) hp (noL_all (fun d v => noL_rp (back_less (lent_le.trans sF)) 6 d v) hd r)
      · rw [if_neg hd] at k; exact k.elim
theorem kv_callB (hxr : ∀ x cls dd F F', LessL F F' → c.xr x cls dd F → c.xr x cls dd F') (F : FnOk X.prog X.w X.K X.mg X.base (L2.CX X.prog X.w) k f fd ps (spOf c.K c.P c.w c.cv c.xr G)) (hr : Room k X.A) (hg : Gl X x) (hm : X.mg x = some (.ref f)) (hk : PySem.W.keepIn X.K (.ref f) = true) (hb : Binds X.K fd ps []) (hx : ∀ σ, PassesAt (L2.CX X.prog X.w) X σ (WE W σ))
  (ha : KB X c n W (e :: es) ms) (hdb : (x == ("__debug__" : Str)) = false := by decide) (he : starEach (e :: es) X.env = (false, eval e X.env) :: starEach es X.env := by rfl) (hpl : (backTo pos (starEach es X.env)).any (·.1) = false := by rfl) :
    KV X c n W (.Call (.Name x p) (e :: es) [] pos) (eCallB G ms) := peImp (pe_callSD F hr hg hm hk hb .nil hx ha hdb he hpl) fun _ _ _ h => callB_lift hxr h
end
end DL

set_option Elab.async false
set_option linter.all false
set_option maxRecDepth 100000
/-! enumerate of a text -/
namespace L2
open PySem PySem.Spec PyProof.Rows
def Ites (x : Str) : It :=
  ⟨fun i _ => i < x.cps.size, fun i H v H' => ∃ T c, v = .ref T ∧ H T = none ∧ x.cps[i]? = some c ∧ H' = upd H T (.tup [.int (i : Nat), .str ⟨#[c]⟩]), fun i _ => x.cps.size ≤ i⟩
theorem turn_enumS {P : Program} {w : World} {K : PySem.W.Frag} {elts : List Expr} {kk : Nat} {tpos : Pos} (x : Str) (t : Tok) (e it : Addr) :
    Turn P w K (.Tuple elts kk tpos) (Ites x) [e, it] e (fun i h => (∃ old, IsEnum h e it ((i : Nat) : Int) old) ∧ h.IsStrIter it (strIterType x) x t i ∧ e ≠ it ∧ i ≤ x.cps.size) where
  mem := by simp
  obj := fun i h st b hb => by
    obtain ⟨⟨old, he⟩, ⟨o, ho, hc, hd⟩, _⟩ := st
    have e' : b = e ∨ b = it := by simpa using hb
    rcases e' with z | z
    · rw [z]; exact ⟨_, he, fun v q => nomatch q⟩
    · rw [z]; exact ⟨o, ho, fun v q => by rw [hd] at q; cases q⟩
  keep := fun i h h' st k => let ⟨⟨old, he⟩, ⟨o, ho, r⟩, hne, hle⟩ := st; ⟨⟨old, k e (by simp) _ he⟩, ⟨o, k it (by simp) o ho, r⟩, hne, hle⟩
  item := by
    intro X hP hw hK hc i pins s σ H E I hf st hg
    subst hP hw hK
    obtain ⟨⟨old, he⟩, hit, hne, hle⟩ := st
    have hel : e < s.heap.objs.size := Heap.lt_size he
    have hil : it < s.heap.objs.size := by obtain ⟨_, q, _⟩ := hit; exact Heap.lt_size q
    have hin1 : X.A.in1.handled = none := I.ok.hd hc
    refine wpAny_pyNext_enum_itemD (Draws.text hin1 it x t) he hit hg hne (by simp; exact hne) fun u h' tk hu ho hit' hT hsz hk => ?_
    obtain ⟨cc, tu, hcx, rfl⟩ := hu
    refine ⟨_, rfl, wpAny_letOwnedTupleGo_enum (s := { s with heap := h', toks := tk + 1 }) ho fun h'' he' sb => ?_⟩
    have hT2 : h''.get? s.heap.objs.size = some { cls := .type "tuple", data := .seq #[.int i tk, .str ⟨#[cc]⟩ tu] } := (sb.2 _ (Nat.ne_of_gt hel)).trans hT
    have new : ObjOk X.prog X.w (upd H s.heap.objs.size (.tup [.int (i : Nat), .str ⟨#[cc]⟩])) h'' s.heap.objs.size (.tup [.int (i : Nat), .str ⟨#[cc]⟩]) :=
      ⟨by show 2 ≤ sizeLine; decide, [.int i tk, .str ⟨#[cc]⟩ tu], (.cons ⟨tk, rfl⟩ (.cons ⟨tu, rfl⟩ .nil)), ⟨_, hT2, rfl, _, rfl⟩⟩
    have I1 : Inv X pins σ (upd H s.heap.objs.size (.tup [.int (i : Nat), .str ⟨#[cc]⟩])) { s with heap := h'', toks := tk + 1 } :=
      I.turnedNew (ch := [e, it]) (fun b ob hb q => (sb.2 b (fun z => hb (by simp [z]))).trans (hk b ob (fun z => hb (by simp [z])) (fun z => hb (by simp [z])) q)) hf (Nat.le_refl _) new
    refine ⟨.ref s.heap.objs.size, _, I1, rfl, ⟨_, cc, rfl, I.hok.fresh (Nat.le_refl _), hcx, rfl⟩, ⟨⟨.str ⟨#[cc]⟩ tu, ?_⟩, ?_, hne, hg⟩, fun b hb => ?_⟩
    · have e1 : ((i + 1 : Nat) : Int) = (i : Int) + 1 := by omega
      rw [e1]; exact he'
    · obtain ⟨o, q, r⟩ := hit'
      exact ⟨o, (sb.2 it (Ne.symm hne)).trans q, r⟩
    · have hb' : b < s.heap.objs.size := by
        have e' : b = e ∨ b = it := by simpa using hb
        rcases e' with z | z
        · rw [z]; exact hel
        · rw [z]; exact hil
      rw [upd_ne (Nat.ne_of_lt hb')]
      exact (hf b hb).1
  done := by
    intro X hP hw hK hc i pins s σ H E I hf st hg
    subst hP hw hK
    obtain ⟨⟨old, he⟩, hit, hne, hle⟩ := st
    have hg1 : x.cps.size ≤ i := hg
    have hg' : i = x.cps.size := by omega
    subst hg'
    obtain ⟨f0, f1, f2, f3, f4, f5⟩ := hf it (by simp)
    have hin1 : X.A.in1.handled = none := I.ok.hd hc
    exact wpAny_pyNext_enum_endD (Draws.text hin1 it x t) he hit fun h' eb => ⟨rfl, I.turned (t' := s.toks) (fun b o hb q => eb b o hb q) f0 f1 f3 f4 f5⟩
  self := fun A i s Q E st h => let ⟨⟨_, he⟩, _⟩ := st; wpAny_pyIter_enum he h
def iEnumS (ta : TA) : TI := fun σ H R => ta σ H fun vs H1 => ∃ x, vs = [.str x] ∧ R (Ites x) H1
theorem pi_enumS {X : Cx} {e : Expr} {ta : TA} {p pos tpos : Pos} {elts : List Expr} {kk : Nat} (hg : Gl X "enumerate") (hm : X.mg "enumerate" = none) (ha : PA X [e] ta) (hs : starEach [e] X.env = [(false, eval e X.env)] := by rfl) :
    PI X (.Tuple elts kk tpos) (.Call (.Name "enumerate" p) [e] [] pos) (iEnumS ta) := by
  refine ⟨fun pins s σ H R I h => ?_⟩
  refine Call_ (ld_blt I hg hm boot_enumerate (PyProof.Rows.callWith_type1 (thn (ha.run pos pins s σ H _ I h) fun us s1 ⟨vs, H1, I1, r1, q1⟩ => ?_) hs rfl))
  obtain ⟨x, ex, q⟩ := q1
  subst ex
  cases r1 with
  | cons r rr =>
    cases rr
    obtain ⟨t, rfl⟩ := r
    refine call_enumerate_str fun h' he hit hsz hk => wpAny_pyIter_enum he ?_
    have I2 : Inv X pins σ H1 { s1 with heap := h' } := I1.kept (t' := s1.toks) hk
    refine ⟨s1.heap.objs.size + 1, [s1.heap.objs.size + 1, s1.heap.objs.size], _, _, H1, rfl, I2, turn_enumS x t (s1.heap.objs.size + 1) s1.heap.objs.size, ⟨⟨.none, he⟩, hit, Nat.succ_ne_self _, Nat.zero_le _⟩, fun b hb => ?_, q⟩
    have e' : b = s1.heap.objs.size + 1 ∨ b = s1.heap.objs.size := by simpa using hb
    have hle : s1.heap.objs.size ≤ b := by
      rcases e' with z | z
      · rw [z]; exact Nat.le_add_right _ _
      · rw [z]; exact Nat.le_refl _
    exact I1.fpOk hle (I1.hok.fresh hle)
end L2
namespace DL
open PySem PySem.Spec L2
open PyProof.Rows hiding St
section
variable {X : Cx} {c : Cd} {n : Prop} {W : WX} {ms : Mo (List Dt)}
theorem signsD_len (x : Str) : (signsD x).length = x.cps.size := by simp [signsD]
theorem jok_enumS {x : Str} {F : Hp} : JOk c (Ites x) F (enD 0 (signsD x)) where
  go := fun i H s hi => by rw [enD_len, signsD_len] at hi; exact hi
  stop := fun i H s hi => by rw [enD_len, signsD_len] at hi; exact hi
  yld := fun i ρ F1 σ H v H' s1 hh hi y => by
    obtain ⟨T, k, rfl, nT, hk, rfl⟩ := y
    have sF : Same F1 (upd F1 T (.tup [.int (i : Nat), .str ⟨#[k]⟩])) := same_upd (hh.fp nT)
    have hd : (signsD x)[i]? = some (.str ⟨#[k]⟩) := by simp [signsD, hk]
    refine ⟨_, _, by have q := enD_get (signsD x) 0 i _ hd; rw [Nat.zero_add] at q; exact q, sF, Kept.alloc nT, hh.alloc nT, .tup (SqT.of upd_same) (.cons (.int _) (.cons (.str _) .nil))⟩
/-- enumerate of a list or of a text -/
def enAD : List Dt → Option (List Dt)
  | [.list ds] => some (enD 0 ds)
  | [.str x] => some (enD 0 (signsD x))
  | _ => none
theorem enAD_some {ds zs : List Dt} (h : enAD ds = some zs) : (∃ xs, ds = [.list xs] ∧ zs = enD 0 xs) ∨ ∃ x, ds = [.str x] ∧ zs = enD 0 (signsD x) := by
  unfold enAD at h
  split at h
  · cases h; exact .inl ⟨_, rfl, rfl⟩
  · cases h; exact .inr ⟨_, rfl, rfl⟩
  · cases h
theorem i_enumA {a : Expr} {p pos tpos : Pos} {elts : List Expr} {kk : Nat} (hK : X.K = c.K) (hg : Gl X "enumerate") (hm : X.mg "enumerate" = none) (ha : KA X c n W [a] ms) (hs : starEach [a] X.env = [(false, eval a X.env)] := by rfl) :
    KI X c n W (.Tuple elts kk tpos) (.Call (.Name "enumerate" p) [a] [] pos) (eBF enAD ms) := ⟨fun pins s σ H R I hq => by
  obtain ⟨ρ, F, h, q⟩ := hq
  unfold eBF bindM at q
  cases hm' : ms ρ with
  | no => simp only [hm'] at q
  | er x ρ1 =>
    refine (pi_enum hg hm ha hs).run pins s σ H R I ⟨ρ, F, h, ?_⟩
    simp only [hm'] at q ⊢; exact q
  | ok ds ρ1 =>
    simp only [hm'] at q
    unfold ofO at q
    cases hz : enAD ds with
    | none => simp only [hz] at q
    | some zs =>
      simp only [hz] at q
      rcases enAD_some hz with ⟨xs, rfl, rfl⟩ | ⟨x, rfl, rfl⟩
      · refine (pi_enum hg hm ha hs).run pins s σ H R I ⟨ρ, F, h, ?_⟩
        simp only [hm']
        intro vs F1 H1 s1 n1 h1 r1
        cases r1 with
        | cons r t =>
          cases t
          cases r with
          | lst e r => exact ⟨_, _, rfl, SqL.of (h1.sub.lst e), by rw [hK]; exact q _ F1 H1 s1 n1 h1 (jok_enum e r)⟩
      · refine (pi_enumS hg hm ha hs).run pins s σ H R I ⟨ρ, F, h, ?_⟩
        simp only [hm']
        intro vs F1 H1 s1 n1 h1 r1
        cases r1 with
        | cons r t =>
          cases t
          cases r
          exact ⟨_, rfl, q _ F1 H1 s1 n1 h1 jok_enumS⟩⟩
end
end DL

set_option Elab.async false
set_option linter.all false
set_option maxRecDepth 100000
/-! zip of three lists -/
namespace L2
open PySem PySem.Spec PyProof.Rows
def Itz3 (K : PySem.W.Frag) (a b c : Addr) : It :=
  ⟨fun i H => ∃ (xs ys zs : List V) (x y z : V), SqL K H a xs ∧ SqL K H b ys ∧ SqL K H c zs ∧ xs[i]? = some x ∧ ys[i]? = some y ∧ zs[i]? = some z,
    fun i H v H' => ∃ T x y z, v = .ref T ∧ H T = none ∧ H' = upd H T (.tup [x, y, z]) ∧ (∀ xs, SqL K H a xs → xs[i]? = some x) ∧ (∀ ys, SqL K H b ys → ys[i]? = some y) ∧ ∀ zs, SqL K H c zs → zs[i]? = some z,
    fun i H => ∃ xs ys zs : List V, SqL K H a xs ∧ SqL K H b ys ∧ SqL K H c zs ∧ (xs.length ≤ i ∨ ys.length ≤ i ∨ zs.length ≤ i)⟩
theorem drawsX {prog : Program} {w : World} {A : Around} (hh : A.handled = none) (it l : Addr) (hne : l ≠ it) (items : Array Value) (i : Nat) :
    Draws prog w A it [it, l] (max items.size i) (fun k v => items[k]? = some v) (fun j h => h.IsListIter it l j ∧ h.IsList l items ∧ (items.size ≤ i → j = i)) where
  live := fun _ _ st => let ⟨o, ho, _⟩ := st.1; ⟨o, ho⟩
  frame := fun _ _ _ st hk => ⟨st.1.at fun o e => hk it (by simp) o e, st.2.1.at fun o e => hk l (by simp) o e, st.2.2⟩
  item := fun j s Q E hj st hQ => by
    have hlt : j < items.size := by
      by_cases q : items.size ≤ i
      · have := st.2.2 q; omega
      · omega
    refine (Draws.list hh it l hne items).item j s Q E hlt ⟨st.1, st.2.1⟩ fun x h' tk hP hS hb => hQ x h' tk hP ⟨hS.1, hS.2, fun q => by have := st.2.2 q; omega⟩ hb
  done := fun s Q E st hE => by
    refine wpAny_nextOf_list_end hh st.1 st.2.1 (by simp; exact Nat.le_max_left ..) hE
theorem turn_zip3 {P : Program} {w : World} {K : PySem.W.Frag} {elts : List Expr} {kk : Nat} {tpos : Pos} {a b c z TI TO i1 i2 i3 : Addr} (D : ZipSep3 z TI TO i1 i2 i3 [i1, a] [i2, b] [i3, c]) :
    Turn P w K (.Tuple elts kk tpos) (Itz3 K a b c) [z, TI, TO, i1, i2, i3] z (fun i h => IsZip h z TI TO .none ∧ IsTupOf3 h TI (.ref i1) (.ref i2) (.ref i3) ∧ (∃ x y u, IsTupOf3 h TO x y u) ∧ h.IsListIter i1 a i ∧ h.IsListIter i2 b i ∧ h.IsListIter i3 c i) where
  mem := by simp
  obj := fun i h st q hc => by
    obtain ⟨hz, hTI, ⟨x, y, u, hTO⟩, ⟨o1, e1, _, d1⟩, ⟨o2, e2, _, d2⟩, ⟨o3, e3, _, d3⟩⟩ := st
    have e' : q = z ∨ q = TI ∨ q = TO ∨ q = i1 ∨ q = i2 ∨ q = i3 := by simpa using hc
    rcases e' with q | q | q | q | q | q
    · rw [q]; exact ⟨_, hz, fun v q => nomatch q⟩
    · rw [q]; exact ⟨_, hTI, fun v q => nomatch q⟩
    · rw [q]; exact ⟨_, hTO, fun v q => nomatch q⟩
    · rw [q]; exact ⟨o1, e1, fun v q => by rw [d1] at q; cases q⟩
    · rw [q]; exact ⟨o2, e2, fun v q => by rw [d2] at q; cases q⟩
    · rw [q]; exact ⟨o3, e3, fun v q => by rw [d3] at q; cases q⟩
  keep := fun i h h' st k => by
    obtain ⟨hz, hTI, ⟨x, y, u, hTO⟩, h1, h2, h3⟩ := st
    exact ⟨k z (by simp) _ hz, k TI (by simp) _ hTI, ⟨x, y, u, k TO (by simp) _ hTO⟩, h1.at fun o q => k i1 (by simp) o q, h2.at fun o q => k i2 (by simp) o q, h3.at fun o q => k i3 (by simp) o q⟩
  item := by
    intro X hP hw hK hc i pins s σ H E I hf st hg
    subst hP hw hK
    obtain ⟨hz, hTI, ⟨x0, y0, u0, hTO⟩, h1, h2, h3⟩ := st
    obtain ⟨xs, ys, zs, x, y, v, hqx, hqy, hqz, hx, hy, hv⟩ := hg
    obtain ⟨its, rv, p, _⟩ := I.list hqx
    obtain ⟨its2, rv2, p2, _⟩ := I.list hqy
    obtain ⟨its3, rv3, p3, _⟩ := I.list hqz
    obtain ⟨u, hu, ru⟩ := rv.get hx
    obtain ⟨u2, hu2, ru2⟩ := rv2.get hy
    obtain ⟨u3, hu3, ru3⟩ := rv3.get hv
    have hzl : z < s.heap.objs.size := Heap.lt_size hz
    have hin1 : X.A.in1.handled = none := I.ok.hd hc
    have n1 : a ≠ i1 := fun e => by
      obtain ⟨o, q, c, d⟩ := h1
      obtain ⟨o', q', c', _⟩ := p.isList
      rw [e, q] at q'
      cases q'
      rw [c] at c'
      simp at c'
    have n2 : b ≠ i2 := fun e => by
      obtain ⟨o, q, c, d⟩ := h2
      obtain ⟨o', q', c', _⟩ := p2.isList
      rw [e, q] at q'
      cases q'
      rw [c] at c'
      simp at c'
    have n3 : c ≠ i3 := fun e => by
      obtain ⟨o, q, c, d⟩ := h3
      obtain ⟨o', q', c', _⟩ := p3.isList
      rw [e, q] at q'
      cases q'
      rw [c] at c'
      simp at c'
    have lt1 : i < its.toArray.size := by have := (List.getElem?_eq_some_iff.mp hu).1; simpa using this
    have lt2 : i < its2.toArray.size := by have := (List.getElem?_eq_some_iff.mp hu2).1; simpa using this
    have lt3 : i < its3.toArray.size := by have := (List.getElem?_eq_some_iff.mp hu3).1; simpa using this
    refine wpAny_pyNext_zipD3_item D (Draws.list hin1 i1 a n1 its.toArray) (Draws.list hin1 i2 b n2 its2.toArray) (Draws.list hin1 i3 c n3 its3.toArray) hz hTI hTO ⟨h1, p.isList⟩ ⟨h2, p2.isList⟩ ⟨h3, p3.isList⟩ lt1 lt2 lt3 fun w1 w2 w3 h' tk y1 y2 y3 z' TO' st1 st2 st3 hT hsz hk => ?_
    have e1 : w1 = u := by have : its[i]? = some w1 := by simpa using y1
                           rw [hu] at this; cases this; rfl
    have e2 : w2 = u2 := by have : its2[i]? = some w2 := by simpa using y2
                            rw [hu2] at this; cases this; rfl
    have e3 : w3 = u3 := by have : its3[i]? = some w3 := by simpa using y3
                            rw [hu3] at this; cases this; rfl
    subst e1 e2 e3
    refine ⟨_, rfl, wpAny_letOwnedTupleGo_zip (s := { s with heap := h', toks := tk }) z' fun h'' z'' sb => ?_⟩
    have hT2 : h''.get? s.heap.objs.size = some { cls := .type "tuple", data := .seq #[w1, w2, w3] } := (sb.2 _ (Nat.ne_of_gt hzl)).trans hT
    have new : ObjOk X.prog X.w (upd H s.heap.objs.size (.tup [x, y, v])) h'' s.heap.objs.size (.tup [x, y, v]) :=
      ⟨by show 3 ≤ sizeLine; decide, [w1, w2, w3], .cons ru (.cons ru2 (.cons ru3 .nil)), ⟨_, hT2, rfl, _, rfl⟩⟩
    have I1 : Inv X pins σ (upd H s.heap.objs.size (.tup [x, y, v])) { s with heap := h'', toks := tk } :=
      I.turnedNew (t' := tk) (ch := [z, TI, TO, i1, i2, i3]) (fun c o hb q => (sb.2 c (fun q' => hb (by simp [q']))).trans (hk c o (fun q' => hb (by simp [q'])) (fun q' => hb (by simp [q'])) (fun q' => hb (by simp [q'])) (fun q' => hb (by simp [q'])) (fun q' => hb (by simp [q'])) q)) hf (Nat.le_refl _) new
    refine ⟨.ref s.heap.objs.size, _, I1, rfl, ⟨_, x, y, v, rfl, I.hok.fresh (Nat.le_refl _), rfl, fun l hl => by rw [I.list_inj hl hqx]; exact hx, fun l hl => by rw [I.list_inj hl hqy]; exact hy, fun l hl => by rw [I.list_inj hl hqz]; exact hv⟩, ⟨z'', ?_, ⟨w1, w2, w3, ?_⟩, ?_, ?_, ?_⟩, fun q hcm => ?_⟩
    · exact (sb.2 _ D.TIz).trans (hk _ _ D.TIz D.TITO D.TIi1 D.TIi2 D.TIi3 hTI)
    · exact (sb.2 _ D.TOz).trans TO'
    · exact st1.1.at fun o q => (sb.2 _ (Ne.symm D.zi1)).trans q
    · exact st2.1.at fun o q => (sb.2 _ (Ne.symm D.zi2)).trans q
    · exact st3.1.at fun o q => (sb.2 _ (Ne.symm D.zi3)).trans q
    · have hlt : q < s.heap.objs.size := by
        have e' : q = z ∨ q = TI ∨ q = TO ∨ q = i1 ∨ q = i2 ∨ q = i3 := by simpa using hcm
        rcases e' with q | q | q | q | q | q
        · rw [q]; exact hzl
        · rw [q]; exact Heap.lt_size hTI
        · rw [q]; exact Heap.lt_size hTO
        · rw [q]; obtain ⟨_, e1, _⟩ := h1; exact Heap.lt_size e1
        · rw [q]; obtain ⟨_, e2, _⟩ := h2; exact Heap.lt_size e2
        · rw [q]; obtain ⟨_, e3, _⟩ := h3; exact Heap.lt_size e3
      rw [upd_ne (Nat.ne_of_lt hlt)]
      exact (hf q hcm).1
  done := by
    intro X hP hw hK hc i pins s σ H E I hf st hg
    subst hP hw hK
    obtain ⟨hz, hTI, ⟨x0, y0, u0, hTO⟩, h1, h2, h3⟩ := st
    obtain ⟨xs, ys, zs, hqx, hqy, hqz, hend⟩ := hg
    obtain ⟨its, rv, p, _⟩ := I.list hqx
    obtain ⟨its2, rv2, p2, _⟩ := I.list hqy
    obtain ⟨its3, rv3, p3, _⟩ := I.list hqz
    have l1 := rv.length
    have l2 := rv2.length
    have l3 := rv3.length
    have hin1 : X.A.in1.handled = none := I.ok.hd hc
    have n1 : a ≠ i1 := fun e => by
      obtain ⟨o, q, c, d⟩ := h1
      obtain ⟨o', q', c', _⟩ := p.isList
      rw [e, q] at q'
      cases q'
      rw [c] at c'
      simp at c'
    have n2 : b ≠ i2 := fun e => by
      obtain ⟨o, q, c, d⟩ := h2
      obtain ⟨o', q', c', _⟩ := p2.isList
      rw [e, q] at q'
      cases q'
      rw [c] at c'
      simp at c'
    have n3 : c ≠ i3 := fun e => by
      obtain ⟨o, q, c, d⟩ := h3
      obtain ⟨o', q', c', _⟩ := p3.isList
      rw [e, q] at q'
      cases q'
      rw [c] at c'
      simp at c'
    refine wpAny_pyNext_zipD3_end D (drawsX hin1 i1 a n1 its.toArray i) (drawsX hin1 i2 b n2 its2.toArray i) (drawsX hin1 i3 c n3 its3.toArray i) hz hTI hTO ⟨h1, p.isList, fun _ => rfl⟩ ⟨h2, p2.isList, fun _ => rfl⟩ ⟨h3, p3.isList, fun _ => rfl⟩ (Nat.le_max_right ..) (Nat.le_max_right ..) (Nat.le_max_right ..) (by simp; omega) fun h' tk hk => ⟨rfl, I.turnedL (t' := tk) (ch := [z, TI, TO, i1, i2, i3]) (fun c o hb q =>
      hk c o (fun q' => hb (by simp [q'])) (fun q' => hb (by simp [q'])) (fun q' => hb (by simp [q'])) (fun q' => hb (by simp [q'])) (fun q' => hb (by simp [q'])) q) hf⟩
  self := fun A i s Q E st h => wpAny_pyIter_zip st.1 h
end L2
namespace L2
open PySem PySem.Spec PyProof.Rows
def iZip3 (K : PySem.W.Frag) (ta : TA) : TI := fun σ H R => ta σ H fun vs H1 => ∃ a b c xs ys zs, vs = [.ref a, .ref b, .ref c] ∧ SqL K H1 a xs ∧ SqL K H1 b ys ∧ SqL K H1 c zs ∧ R (Itz3 K a b c) H1
theorem pi_zip3 {X : Cx} {e e2 e3 : Expr} {ta : TA} {p pos tpos : Pos} {elts : List Expr} {kk : Nat} (hg : Gl X "zip") (hm : X.mg "zip" = none) (ha : PA X [e, e2, e3] ta)
    (hs : starEach [e, e2, e3] X.env = (false, eval e X.env) :: starEach [e2, e3] X.env := by rfl) (hpl : (backTo pos (starEach [e2, e3] X.env)).any (·.1) = false := by rfl) :
    PI X (.Tuple elts kk tpos) (.Call (.Name "zip" p) [e, e2, e3] [] pos) (iZip3 X.K ta) := by
  refine ⟨fun pins s σ H R I h => ?_⟩
  refine Call_ (ld_blt I hg hm PyProof.Rows.boot_zip (PyProof.Rows.callWith_type1 (thn (ha.run pos pins s σ H _ I h) fun us s1 ⟨vs, H1, I1, r1, q1⟩ => ?_) hs hpl))
  obtain ⟨a, b, c, xs, ys, zs, ex, hqx, hqy, hqz, q⟩ := q1
  subst ex
  cases r1 with
  | cons r rr =>
    cases rr with
    | cons r' rr =>
      cases rr with
      | cons r'' rr =>
        cases rr
        cases r
        cases r'
        cases r''
        obtain ⟨its, rv, p1, _⟩ := I1.list hqx
        obtain ⟨its2, rv2, p2, _⟩ := I1.list hqy
        obtain ⟨its3, rv3, p3, _⟩ := I1.list hqz
        have la : a < s1.heap.objs.size := p1.lt
        have lb : b < s1.heap.objs.size := p2.lt
        have lc : c < s1.heap.objs.size := p3.lt
        refine zip_begins3 (begins_list a its.toArray) (begins_list b its2.toArray) (begins_list c its3.toArray) p1.isList p2.isList p3.isList fun h' hz hTI hTO h1 h2 h3 hsz hk => wpAny_pyIter_zip hz ?_
        have I2 : Inv X pins σ H1 { s1 with heap := h' } := I1.kept (t' := s1.toks) hk
        have D := zip_sep3 (N := s1.heap.objs.size) (fp1 := [a]) (fp2 := [b]) (fp3 := [c]) (by simpa using la) (by simpa using lb) (by simpa using lc)
        refine ⟨s1.heap.objs.size + 5, [s1.heap.objs.size + 5, s1.heap.objs.size + 3, s1.heap.objs.size + 4, s1.heap.objs.size, s1.heap.objs.size + 1, s1.heap.objs.size + 2], _, _, H1, rfl, I2, turn_zip3 D, ⟨hz, hTI, ⟨_, _, _, hTO⟩, ⟨_, h1, rfl, rfl⟩, ⟨_, h2, rfl, rfl⟩, ⟨_, h3, rfl, rfl⟩⟩, fun c hcm => ?_, q⟩
        have e' : c = s1.heap.objs.size + 5 ∨ c = s1.heap.objs.size + 3 ∨ c = s1.heap.objs.size + 4 ∨ c = s1.heap.objs.size ∨ c = s1.heap.objs.size + 1 ∨ c = s1.heap.objs.size + 2 := by simpa using hcm
        have hle : s1.heap.objs.size ≤ c := by
          rcases e' with z | z | z | z | z | z
          · rw [z]; exact Nat.le_add_right _ _
          · rw [z]; exact Nat.le_add_right _ _
          · rw [z]; exact Nat.le_add_right _ _
          · rw [z]; exact Nat.le_refl _
          · rw [z]; exact Nat.le_add_right _ _
          · rw [z]; exact Nat.le_add_right _ _
        exact I1.fpOk hle (I1.hok.fresh hle)
/-! x[::-1] of a list or a tuple -/
theorem fm_congr {α β : Type} {f g : α → Option β} : ∀ {l : List α}, (∀ x ∈ l, f x = g x) → l.filterMap f = l.filterMap g
  | [], _ => rfl
  | x :: l, h => by
    rw [List.filterMap_cons, List.filterMap_cons, h x List.mem_cons_self, fm_congr fun y hy => h y (List.mem_cons_of_mem _ hy)]
theorem getItem_tuple_rev {prog : Program} {w : World} {A : Around} {E : Value → Shared → Prop} {s : Shared} {t sl : Addr} {items : Array Value} {vs : Value} {Q : Value → Shared → Prop} (ht : IsTup s.heap t items) (hs : s.heap.IsSliceOf sl .none .none vs) (ps : IsPart vs (some (-1)))
    (h : Q (.ref s.heap.objs.size) { s with heap := s.heap.push { cls := .type "tuple", data := .seq items.toList.reverse.toArray } })
    (hsz : items.size ≤ sizeLine) : wpAny (model prog w) A (getItem (.ref t) (.ref sl)) Q E s := by
  have htake : sizeOk (.seq items.toList.reverse.toArray) := by
    show items.toList.reverse.toArray.size ≤ sizeLine
    rw [List.size_toArray, List.length_reverse, Array.length_toList]
    exact hsz
  obtain ⟨os, hos, hcs, hds⟩ := id hs
  have hTs : s.TypeIs (.ref sl) "slice" := ⟨os, hos, hcs⟩
  unfold getItem
  try with_reducible refine wpAny_holding ?_
  first | refine wpAny_bind (wpAny_pure ?_) | skip
  refine wpAny_bind (wpAny_sequenceKey ht.typeIs (by decide) ?_)
  refine wpAny_bind (wpAny_callSpecial?_slot (name := Str.ofString "__getitem__") ht.typeIs PyProof.Rows.slot_tuple_getitem
    (wpAny_call_entry PyProof.Rows.slot_tuple_getitem ht.typeIs PyProof.Rows.entry_tuple_getitem ?_ (PyProof.Rows.args_tuple_getitem _ _)))
  show wpAny _ _ (Builtin.Tuple.tupleItemsOf (.ref t) >>= _) _ _ s
  refine wpAny_bind (tupleItemsOf_ ht ?_)
  refine wpAny_bind (wpAny_typeOf hTs ?_)
  rw [if_pos (by decide)]
  refine wpAny_bind ?_
  unfold Builtin.Slice.sliceApplied Builtin.Slice.sliceFields
  refine wpAny_bind (wpAny_bind (wpAny_field hos hds (x := .none) rfl (wpAny_bind (wpAny_field hos hds (x := .none) rfl (wpAny_bind (wpAny_field hos hds (x := vs) rfl (wpAny_pure ?_)))))))
  refine wpAny_bind (HT.slicePart_ ps ?_)
  show wpAny _ _ (if ((-1 : Int) == 0) = true then _ else _) _ _ s
  rw [if_neg (by decide)]
  refine wpAny_bind (HT.slicePart_ .none (wpAny_bind (HT.slicePart_ .none (wpAny_bind (wpAny_pure ?_)))))
  have e1 : Builtin.Slice.sliceAdjust none none (-1) ((items.size : Nat) : Int) = (((items.size : Nat) : Int) - 1, -1) := rfl
  have e2 : Builtin.Slice.slicePlaces (((items.size : Nat) : Int) - 1) (-1) (-1) = items.size := by
    unfold Builtin.Slice.slicePlaces
    rw [if_neg (by decide)]
    split
    · rw [show (-(-1 : Int)) = 1 by decide, Int.ediv_one]; omega
    · omega
  show wpAny _ _ (match Builtin.Slice.sliceAdjust none none (-1) ((items.size : Nat) : Int) with | (lo, hi) => pure (lo, (-1 : Int), Builtin.Slice.slicePlaces lo hi (-1))) _ _ s
  rw [e1]
  show wpAny _ _ (pure ((((items.size : Nat) : Int) - 1), (-1 : Int), Builtin.Slice.slicePlaces (((items.size : Nat) : Int) - 1) (-1) (-1))) _ _ s
  rw [e2]
  refine wpAny_pure ?_
  show wpAny _ _ (if ((((items.size : Nat) : Int) - 1) == 0 && (-1 : Int) == 1 && items.size == items.size) = true then _ else _) _ _ s
  rw [if_neg (by simp)]
  have e3 : ((List.range items.size).filterMap fun (m : Nat) => items[((((items.size : Nat) : Int) - 1) + (m : Int) * (-1)).toNat]?).toArray = items.toList.reverse.toArray := by
    rw [← PySem.W.krv_pick]
    unfold slicePick
    rw [PySem.W.krv_bounds]
    show _ = ((sliceRange ((items.size : Int) - 1) (-1) (-1)).filterMap (items[·]?)).toArray
    rw [PySem.W.krv_sliceRange, List.filterMap_map]
    congr 1
    refine fm_congr fun m hm => ?_
    show items[_]? = items[items.size - 1 - m]?
    congr 1
    have := List.mem_range.mp hm
    omega
  rw [e3]
  first
    | exact wpAny_bind (m := Builtin.Tuple.tupleExact _) (wpAny_newObj_type (wpAny_pure ⟨_, rfl, wpAny_pure h⟩) htake)
    | exact wpAny_bind (m := Builtin.Tuple.tupleExact _) (wpAny_newObj_type (wpAny_bind (wpAny_pure (wpAny_pure ⟨_, rfl, wpAny_pure h⟩))) htake)
    | exact wpAny_bind (wpAny_bind (m := Builtin.Tuple.tupleExact _) (wpAny_newObj_type (wpAny_pure (wpAny_pure ⟨_, rfl, wpAny_pure h⟩)) htake))
    | exact wpAny_bind (wpAny_bind (m := Builtin.Tuple.tupleExact _) (wpAny_newObj_type (wpAny_pure ⟨_, rfl, wpAny_pure h⟩) htake))
def tRevT (K : PySem.W.Frag) (te : TE) : TE := fun σ H Q => te σ H fun x H1 => ∃ a xs, x = .ref a ∧ SqT K H1 a xs ∧ ∀ p, H1 p = none → Q (.ref p) (upd H1 p (.tup xs.reverse))
theorem pe_revT {X : Cx} {e : Expr} {te : TE} {k : Nat} {p1 p2 p3 pos : Pos} (he : PE X e te) : PE X (.Subscript e (.Slice none none (some (.UnaryOp .USub (.Constant (.int 1) k p1) p2)) p3) pos) (tRevT X.K te) := by
  refine ⟨fun pins s σ H Q I h => ?_⟩
  refine Subscript_ (thn (he.run pins s σ H _ I h) fun v s1 ⟨x, H1, I1, r1, q1⟩ => ?_)
  obtain ⟨a, xs, ex, hx, q⟩ := q1
  subst ex
  cases r1
  have hst : PO X (some (.UnaryOp .USub (.Constant (.int 1) k p1) p2)) (tPart (tUn (rU fun i => .int (-i)) (tC (.int 1)))) := po_some (pe_un un_neg pe_int)
  refine wpAny_Slice (thn (po_none.run pins s1 σ H1 (fun o H2 => o = none ∧ H2 = H1) I1 ⟨rfl, rfl⟩) fun vl s2 ⟨l, H2, I2, pl, el, e2⟩ => ?_)
  subst el e2
  refine thn (po_none.run pins s2 σ H2 (fun o H3 => o = none ∧ H3 = H2) I2 ⟨rfl, rfl⟩) fun vu s3 ⟨u, H3, I3, pu, eu, e3⟩ => ?_
  subst eu e3
  refine thn (hst.run pins s3 σ H3 (fun o H4 => o = some (-1) ∧ H4 = H3) I3 ⟨1, rfl, -1, rfl, rfl, rfl⟩) fun vs s4 ⟨o, H4, I4, ps, eo, e4⟩ => ?_
  subst eo e4
  have evl : vl = .none := by cases pl; rfl
  have evu : vu = .none := by cases pu; rfl
  subst evl evu
  have I5 : Inv X pins σ H4 { s4 with heap := s4.heap.push { cls := .type "slice", data := .fields #[.none, .none, vs] } } := I4.kept (t' := s4.toks) fun b ob q => Heap.get?_push_of_some _ q
  obtain ⟨its, r, ht, hz⟩ := I5.tuple hx
  have hlen := r.length
  show wpAny (model X.prog X.w) X.A (subscriptTail e (.Slice none none (some (.UnaryOp .USub (.Constant (.int 1) k p1) p2)) p3) (.ref a) (.ref s4.heap.objs.size)) (EP X pins σ Q) X.xe { s4 with heap := s4.heap.push { cls := .type "slice", data := .fields #[.none, .none, vs] } }
  refine tail_any (ops := [.ref a, .ref s4.heap.objs.size]) ht.typeIs (PyProof.Rows.slot_tuple_getitem.lookup) ?_ (by with_unfolding_all rfl)
  refine getItem_tuple_rev ht (Heap.IsSliceOf.new _ .none .none vs) ps ?_ (by rw [List.size_toArray]; omega)
  refine ⟨.ref _, _, I5.laid (t' := s4.toks) (o := .tup xs.reverse) (fun b ob q => Heap.get?_push_of_some _ q) (Nat.le_refl _) ?_, rfl, q _ (I5.hok.fresh (Nat.le_refl _))⟩
  exact ⟨by rw [List.length_reverse]; exact hz, _, r.reverse, IsTup.new _ _⟩
end L2

namespace DL
open PySem PySem.Spec L2
open PyProof.Rows hiding St
section
variable {X : Cx} {c : Cd} {n : Prop} {W : WX} {ms : Mo (List Dt)} {m : Mo Dt} {e : Expr}
/-! reversed slices -/
def revD : Dt → Option Dt
  | .list xs => some (.list xs.reverse)
  | .tuple xs => some (.tuple xs.reverse)
  | _ => none
def revL : Dt → Option (List Dt)
  | .list xs => some xs.reverse
  | _ => none
def eRev (m : Mo Dt) : Mo Dt := bindM m fun x => ofO (revD x)
def eRevF (m : Mo Dt) : Mo (List Dt) := bindM m fun x => ofO (revL x)
theorem RpA.rev {K : PySem.W.Frag} {F : Hp} : ∀ {vs : List V} {ds : List Dt}, RpA K F vs ds → RpA K F vs.reverse ds.reverse
  | _, _, .nil => .nil
  | _, _, .cons a t => by
    rw [List.reverse_cons, List.reverse_cons]
    exact (RpA.rev t).app (.cons a .nil)
variable {k : Nat} {p1 p2 p3 pos : Pos}
theorem k_rev (hK : X.K = c.K) (he : KP X c n W e m) : KE X c n W (.Subscript e (.Slice none none (some (.UnaryOp .USub (.Constant (.int 1) k p1) p2)) p3) pos) (eRev m) := ⟨fun pins s σ H Q I hq => by
  obtain ⟨ρ, F, h, q⟩ := hq
  unfold eRev bindM at q
  cases hm : m ρ with
  | no => simp only [hm] at q
  | er x ρ1 =>
    refine (pe_revL he).run pins s σ H Q I ⟨ρ, F, h, ?_⟩
    simp only [hm] at q ⊢; exact q
  | ok x ρ1 =>
    simp only [hm] at q
    unfold ofO at q
    cases x with
    | list xs =>
      simp only [revD] at q
      refine (pe_revL he).run pins s σ H Q I ⟨ρ, F, h, ?_⟩
      simp only [hm]
      intro v F1 H1 s1 n1 h1 r1
      obtain ⟨a, vs, rfl, e, r⟩ := r1.lst h1.sub
      exact ⟨a, vs, rfl, SqL.of e, newZ h1 (fun w F' H' sf kk h' rr => q w F' H' (s1.trans sf) (fun hn => (n1 hn).trans kk) h' rr) r.rev⟩
    | tuple xs =>
      simp only [revD] at q
      refine (pe_revT he).run pins s σ H Q I ⟨ρ, F, h, ?_⟩
      simp only [hm]
      intro v F1 H1 s1 n1 h1 r1
      obtain ⟨a, vs, rfl, e, r⟩ := r1.tup
      refine ⟨a, vs, rfl, by rw [hK]; exact h1.sub.sqT e, fun p hp => ?_⟩
      have sF : Same F1 (upd F1 p (.tup vs.reverse)) := same_upd (h1.fp hp)
      exact q (.ref p) _ _ (s1.trans sF) (fun hn => (n1 hn).trans (Kept.alloc hp)) (h1.alloc hp) (.tup (SqT.of upd_same) (rpaMono sF r.rev))
    | _ => simp only [revD] at q⟩
theorem kf_rev (he : KP X c n W e m) : KF X c n W (.Subscript e (.Slice none none (some (.UnaryOp .USub (.Constant (.int 1) k p1) p2)) p3) pos) (eRevF m) := peImp (pe_revL he) fun σ H Q ⟨ρ, F, h, q⟩ => by
  refine ⟨ρ, F, h, ?_⟩
  unfold eRevF bindM at q
  cases hm : m ρ with
  | no => simp only [hm] at q
  | er x ρ1 => simp only [hm] at q ⊢; exact q
  | ok x ρ1 =>
    simp only [hm] at q ⊢
    intro v F1 H1 s1 n1 h1 r1
    unfold ofO at q
    cases x with
    | list xs =>
      simp only [revL] at q
      obtain ⟨a, vs, rfl, e, r⟩ := r1.lst h1.sub
      exact ⟨a, vs, rfl, SqL.of e, newL h1 (fun p vs F' H' sf sh h' a b d e r => q p vs F' H' (s1.trans sf) (fun hn => ⟨(n1 hn).trans sh.1, (n1 hn).sH.free sh.2⟩) h' a b d e r) r.rev⟩
    | _ => simp only [revL] at q
/-! zip of three -/
def zip3 : List Dt → List Dt → List Dt → List Dt
  | x :: xs, y :: ys, z :: zs => .tuple [x, y, z] :: zip3 xs ys zs
  | _, _, _ => []
theorem zip3_get : ∀ (xs ys zs : List Dt) (i : Nat) (x y z : Dt), xs[i]? = some x → ys[i]? = some y → zs[i]? = some z → (zip3 xs ys zs)[i]? = some (.tuple [x, y, z])
  | [], _, _, i, x, y, z, h, _, _ => by simp at h
  | _ :: _, [], _, i, x, y, z, _, h, _ => by simp at h
  | _ :: _, _ :: _, [], i, x, y, z, _, _, h => by simp at h
  | a :: xs, b :: ys, d :: zs, 0, x, y, z, h1, h2, h3 => by simp at h1 h2 h3; subst h1 h2 h3; rfl
  | a :: xs, b :: ys, d :: zs, i + 1, x, y, z, h1, h2, h3 => by
    have := zip3_get xs ys zs i x y z (by simpa using h1) (by simpa using h2) (by simpa using h3)
    simpa [zip3] using this
theorem zip3_len : ∀ (xs ys zs : List Dt), (zip3 xs ys zs).length = min xs.length (min ys.length zs.length)
  | [], _, _ => by simp [zip3]
  | _ :: _, [], _ => by simp [zip3]
  | _ :: _, _ :: _, [] => by simp [zip3]
  | a :: xs, b :: ys, d :: zs => by
    simp only [zip3, List.length_cons, zip3_len xs ys zs]
    omega
theorem jok_zip3 {a b d : Addr} {F : Hp} {vs ws us : List V} {ds es fs : List Dt} (h : F a = some (.lst vs)) (r : RpA c.K F vs ds) (h' : F b = some (.lst ws)) (r' : RpA c.K F ws es) (h'' : F d = some (.lst us)) (r'' : RpA c.K F us fs) : JOk c (Itz3 c.K a b d) F (zip3 ds es fs) where
  go := fun i H s hi => by
    rw [zip3_len] at hi
    obtain ⟨v, hv, _⟩ := r.get (List.getElem?_eq_getElem (show i < ds.length by omega))
    obtain ⟨w, hw, _⟩ := r'.get (List.getElem?_eq_getElem (show i < es.length by omega))
    obtain ⟨u, hu, _⟩ := r''.get (List.getElem?_eq_getElem (show i < fs.length by omega))
    exact ⟨vs, ws, us, v, w, u, SqL.of (s.lst h), SqL.of (s.lst h'), SqL.of (s.lst h''), hv, hw, hu⟩
  stop := fun i H s hi => ⟨vs, ws, us, SqL.of (s.lst h), SqL.of (s.lst h'), SqL.of (s.lst h''), by rw [zip3_len] at hi; rw [r.len, r'.len, r''.len]; omega⟩
  yld := fun i ρ F1 σ H x H' s1 hh hi y => by
    obtain ⟨T, v, w, u, rfl, nT, rfl, y, y', y''⟩ := y
    have e := y vs (SqL.of ((hh.sub.l.pre s1).lst h))
    have e' := y' ws (SqL.of ((hh.sub.l.pre s1).lst h'))
    have e'' := y'' us (SqL.of ((hh.sub.l.pre s1).lst h''))
    obtain ⟨d1, hd, rd⟩ := r.getV e
    obtain ⟨d2, hd', rd'⟩ := r'.getV e'
    obtain ⟨d3, hd'', rd''⟩ := r''.getV e''
    have sF : Same F1 (upd F1 T (.tup [v, w, u])) := same_upd (hh.fp nT)
    refine ⟨_, _, zip3_get ds es fs i d1 d2 d3 hd hd' hd'', sF, Kept.alloc nT, hh.alloc nT, .tup (SqT.of upd_same) (.cons (rpMono (s1.trans sF) rd) (.cons (rpMono (s1.trans sF) rd') (.cons (rpMono (s1.trans sF) rd'') .nil)))⟩
def zip3D : List Dt → Option (List Dt)
  | [.list xs, .list ys, .list zs] => some (zip3 xs ys zs)
  | _ => none
theorem zip3D_some {ds zs : List Dt} (h : zip3D ds = some zs) : ∃ xs ys us, ds = [.list xs, .list ys, .list us] ∧ zs = zip3 xs ys us := by
  unfold zip3D at h
  split at h
  · cases h; exact ⟨_, _, _, rfl, rfl⟩
  · cases h
theorem i_zip3 {a b d : Expr} {p pos tpos : Pos} {elts : List Expr} {kk : Nat} (hK : X.K = c.K) (hg : Gl X "zip") (hm : X.mg "zip" = none) (ha : KA X c n W [a, b, d] ms) (hs : starEach [a, b, d] X.env = (false, eval a X.env) :: starEach [b, d] X.env := by rfl) (hpl : (backTo pos (starEach [b, d] X.env)).any (·.1) = false := by rfl) :
    KI X c n W (.Tuple elts kk tpos) (.Call (.Name "zip" p) [a, b, d] [] pos) (eBF zip3D ms) := piImp (pi_zip3 hg hm ha hs hpl) fun σ H R ⟨ρ, F, h, q⟩ => by
  refine ⟨ρ, F, h, ?_⟩
  unfold eBF bindM at q
  cases hm : ms ρ with
  | no => simp only [hm] at q
  | er x ρ1 => simp only [hm] at q ⊢; exact q
  | ok ds ρ1 =>
    simp only [hm] at q ⊢
    intro vs F1 H1 s1 n1 h1 r1
    unfold ofO at q
    cases hz : zip3D ds with
    | none => simp only [hz] at q
    | some zs =>
      simp only [hz] at q
      obtain ⟨xs, ys, us, rfl, rfl⟩ := zip3D_some hz
      cases r1 with
      | cons r t =>
        cases t with
        | cons r' t' =>
          cases t' with
          | cons r'' t'' =>
            cases t''
            cases r with
            | lst e r =>
              cases r' with
              | lst e' r' =>
                cases r'' with
                | lst e'' r'' => exact ⟨_, _, _, _, _, _, rfl, SqL.of (h1.sub.lst e), SqL.of (h1.sub.lst e'), SqL.of (h1.sub.lst e''), by rw [hK]; exact q _ F1 H1 s1 n1 h1 (jok_zip3 e r e' r' e'' r'')⟩
/-! range with a step -/
def rgC (lo st : Int) (k : Nat) : List Dt := (List.range k).map fun (i : Nat) => .int (lo + (i : Int) * st)
theorem rgC_len (lo st : Int) (k : Nat) : (rgC lo st k).length = k := by simp [rgC]
theorem jok_rangeC {lo st : Int} {k : Nat} {F : Hp} : JOk c (Itc lo st k) F (rgC lo st k) where
  go := fun i H s hi => by rw [rgC_len] at hi; exact hi
  stop := fun i H s hi => by rw [rgC_len] at hi; exact hi
  yld := fun i ρ F1 σ H x H' s1 hh hi y => by
    obtain ⟨rfl, rfl⟩ := y
    rw [rgC_len] at hi
    exact ⟨.int (lo + (i : Int) * st), F1, by simp [rgC, hi], Same.refl _, Kept.refl, hh, .int _⟩
/-- range(i, j, -1); range(i, j, k) upwards -/
def rg3D : List Dt → Option (List Dt)
  | [.int i, .int j, .int k] => if small62 i ∧ small62 j ∧ k = -1 then some (rgC i (-1) (i - j).toNat) else none
  | _ => none
theorem rg3D_some {ds zs : List Dt} (h : rg3D ds = some zs) : ∃ i j, ds = [.int i, .int j, .int (-1)] ∧ small62 i ∧ small62 j ∧ zs = rgC i (-1) (i - j).toNat := by
  unfold rg3D at h
  split at h
  · split at h
    · rename_i hh; obtain ⟨h1, h2, rfl⟩ := hh; cases h; exact ⟨_, _, rfl, h1, h2, rfl⟩
    · cases h
  · cases h
theorem i_range3 {tg a b d : Expr} {p pos : Pos} (hg : Gl X "range") (hm : X.mg "range" = none) (ha : KA X c n W [a, b, d] ms) (hs : starEach [a, b, d] X.env = (false, eval a X.env) :: starEach [b, d] X.env := by rfl) (hpl : (backTo pos (starEach [b, d] X.env)).any (·.1) = false := by rfl) :
    KI X c n W tg (.Call (.Name "range" p) [a, b, d] [] pos) (eBF rg3D ms) := piImp (pi_range3 hg hm ha hs hpl) fun σ H R ⟨ρ, F, h, q⟩ => by
  refine ⟨ρ, F, h, ?_⟩
  unfold eBF bindM at q
  cases hm : ms ρ with
  | no => simp only [hm] at q
  | er x ρ1 => simp only [hm] at q ⊢; exact q
  | ok ds ρ1 =>
    simp only [hm] at q ⊢
    intro vs F1 H1 s1 n1 h1 r1
    unfold ofO at q
    cases hz : rg3D ds with
    | none => simp only [hz] at q
    | some zs =>
      simp only [hz] at q
      obtain ⟨i, j, rfl, hi, hj, rfl⟩ := rg3D_some hz
      cases r1 with
      | cons r t =>
        cases t with
        | cons r' t' =>
          cases t' with
          | cons r'' t'' =>
            cases t''
            cases r
            cases r'
            cases r''
            exact ⟨i, j, -1, _, rfl, RgC.neg hi.1 hi.2 hj.1 hj.2, q _ F1 H1 s1 n1 h1 jok_rangeC⟩
/-! any, all of a list of truths -/
def boolsOf : List Dt → Option (List Bool)
  | [] => some []
  | .bool i :: r => (boolsOf r).map (i :: ·)
  | _ => none
theorem boolsOf_eq : ∀ {ds : List Dt} {ns : List Bool}, boolsOf ds = some ns → ds = ns.map .bool
  | [], ns, h => by cases h; rfl
  | d :: ds, ns, h => by
    cases d with
    | bool i =>
      simp only [boolsOf] at h
      cases e : boolsOf ds with
      | none => rw [e] at h; cases h
      | some ms => rw [e] at h; cases h; rw [boolsOf_eq e]; rfl
    | _ => simp [boolsOf] at h
theorem boolsOf_map : ∀ ns : List Bool, boolsOf (ns.map .bool) = some ns
  | [] => rfl
  | n :: ns => by simp only [List.map_cons, boolsOf, boolsOf_map ns]; rfl
def anyD : List Dt → Option Dt
  | [.list ds] => (boolsOf ds).map fun bs => .bool (bs.any id)
  | _ => none
def allD : List Dt → Option Dt
  | [.list ds] => (boolsOf ds).map fun bs => .bool (bs.all id)
  | _ => none
theorem sem_any : SemB c (rAny c.K) anyD := by
  intro ρ F σ H vs ds z Q hh r hf q
  unfold anyD at hf
  split at hf
  · rename_i ds
    cases e : boolsOf ds with
    | none => rw [e] at hf; cases hf
    | some bs =>
      rw [e] at hf
      cases hf
      obtain ⟨v, rfl, rv⟩ := pr1 r
      obtain ⟨a, us, rfl, e1, r1⟩ := rv.lst hh.sub
      rw [boolsOf_eq e] at r1
      rw [r1.bools] at e1
      exact ⟨a, bs, rfl, SqL.of e1, flat hh q (.bl _)⟩
  · cases hf
theorem sem_all : SemB c (rAll c.K) allD := by
  intro ρ F σ H vs ds z Q hh r hf q
  unfold allD at hf
  split at hf
  · rename_i ds
    cases e : boolsOf ds with
    | none => rw [e] at hf; cases hf
    | some bs =>
      rw [e] at hf
      cases hf
      obtain ⟨v, rfl, rv⟩ := pr1 r
      obtain ⟨a, us, rfl, e1, r1⟩ := rv.lst hh.sub
      rw [boolsOf_eq e] at r1
      rw [r1.bools] at e1
      exact ⟨a, bs, rfl, SqL.of e1, flat hh q (.bl _)⟩
  · cases hf
end
end DL

set_option Elab.async false
set_option linter.all false
set_option maxRecDepth 100000
/-! exceptions: raised, caught -/
namespace L2
open PySem PySem.Spec PyProof.Rows
section
variable {X : Cx} {o e : Expr} {es : List Expr} {to te : TE} {ta : TA} {f : Str} {p p' p1 p2 pos : Pos}
/-- M.__init__(self, ..), M an own exception class without own __init__ -/
theorem pe_clsinit {y : Str} {CM : Addr} {mc : Value} {pl : Sem Bool} (hg : Gl X y) (hm : X.mg y = some (.ref CM)) (r : ClX.CRead X.K CM mc) (vV : PySem.W.findCls X.K (.ref CM) mc "__init__" = some (.val (.builtin "ValueError.__init__"))) (ha : PA X (e :: es) ta)
    (hc : eval (.Call (.Attribute (.Name y p1) "__init__" p2) (e :: es) [] pos) X.env = (do
      let ov ← eval (.Name y p1) X.env
      standAt p2.atName
      let (f, first) ← holding [ov] (getMethod ov "__init__" pl)
      callWith pos f first (backTo pos (starEach (e :: es) X.env)) (backToKw pos (keywordEach [] X.env))) := by rfl)
    (hdb : (y == ("__debug__" : Str)) = false := by decide)
    (he : starEach (e :: es) X.env = (false, eval e X.env) :: starEach es X.env := by rfl) (hpl : (backTo pos (starEach es X.env)).any (·.1) = false := by rfl) :
    PE X (.Call (.Attribute (.Name y p1) "__init__" p2) (e :: es) [] pos) (tVeI X.K ta) := by
  refine ⟨fun pins s σ H Q I h => ?_⟩
  refine PySem.W.methodCall_KW (ld_glob I hg hm ?_ hdb) hc
  refine PySem.W.method_cls I.kIn r.ga ?_
  refine PySem.W.cls_value I.kIn r.rd vV (by decide +kernel) ?_
  show wpAny _ _ (callWith pos (Value.builtin "ValueError.__init__") [] (backTo pos (starEach (e :: es) X.env)) []) _ _ _
  refine PyProof.Rows.callWith_method1 (thn (ha.run pos pins _ σ H _ (I.tok _) h) fun us s1 ⟨vs, H1, I1, r1, a, C, ws, ev, hl, T, ea, q⟩ => ?_) he hpl
  subst ev
  cases r1 with
  | @cons _ u0 _ ur ra rw' =>
    obtain rfl : u0 = Value.ref a := ra
    have hlen : ur.length ≤ sizeLine := by
      rw [← Paired.length rw', sizeLine_eq]
      omega
    exact oinit_ok T I1 ea hlen fun s' J => ⟨.non, H1, J, rfl, q⟩
end
end L2
namespace DL
open PySem PySem.Spec L2
open PyProof.Rows hiding St
/-- an exception of an own class: its field, where it has one, stands in its dict -/
def XR (K : PySem.W.Frag) (mg : Str → Option Value) (cs : List Str) (x : Ex) (cls : Value) (dd : Option Addr) (F : Hp) : Prop :=
  x.cls ∈ cs ∧ ∃ C, mg x.cls = some (.ref C) ∧ cls = .ref C ∧ ((x.fs = [] ∧ dd = none) ∨ ∃ f d a v, x.fs = [(f, d)] ∧ dd = some a ∧ F a = some (.xd [(f, v)]) ∧ Rp K F v d ∧ noL d = true)
theorem XR.less {K : PySem.W.Frag} {mg : Str → Option Value} {cs : List Str} : ∀ x cls dd F F', LessL F F' → XR K mg cs x cls dd F → XR K mg cs x cls dd F' := by
  intro x cls dd F F' s ⟨h1, C, h2, h3, h4⟩
  refine ⟨h1, C, h2, h3, ?_⟩
  rcases h4 with h | ⟨f, d, a, v, e1, e2, e3, e4, e5⟩
  · exact .inl h
  · refine .inr ⟨f, d, a, v, e1, e2, ?_, noL_rp s 6 d v e5 e4, e5⟩
    rcases s _ _ e3 with q | ⟨_, q⟩
    · exact q
    · cases q
/-! ### a compare whose first operand is frozen: the second may freeze an own list -/
section
variable {X : Cx} {c : Cd} {n : Prop} {W : WX} {ma mb : Mo Dt} {a b : Expr} {pos : Pos} {r : R2} {f : Dt → Dt → Option Dt}
theorem op_lift2 (S : SemOp c r f) {σ : St} {H : Hp} {Q : VK} (h : lift RE c n W (eOp f ma mb) σ H Q) : tOp r (lift RE c n W ma) (lift RP c n W mb) σ H Q := by
  obtain ⟨ρ, F, h, k⟩ := h
  refine ⟨ρ, F, h, ?_⟩
  unfold eOp bindM at k
  cases ha : ma ρ with
  | no => simp only [ha] at k
  | er x ρ1 => simp only [ha] at k ⊢; exact k
  | ok x ρ1 =>
    simp only [ha] at k ⊢
    intro v F1 H1 s1 n1 h1 r1
    refine ⟨ρ1, F1, h1, ?_⟩
    cases hb : mb ρ1 with
    | no => simp only [hb] at k
    | er x ρ1 => simp only [hb] at k ⊢; exact k.later s1
    | ok y ρ2 =>
      simp only [hb] at k ⊢
      intro u F2 H2 s2 n2 h2 r2
      unfold ofO at k
      cases hf : f x y with
      | none => simp only [hf] at k
      | some z =>
        simp only [hf] at k
        exact S ρ2 F2 σ H2 v u x y z Q h2 (.inl (rpMono s2 r1)) r2 hf fun w F3 H3 s3 g3 h3 r3 => k w F3 H3 (s1.trans (s2.trans s3)) (fun hn => (n1 hn).trans ((n2 hn).trans g3)) h3 r3
theorem k_ne2 (hu : X.A.units + 64 < cLine) (hK : X.K = c.K) (ha : KE X c n W a ma) (hb : KP X c n W b mb) : KE X c n W (.Compare a [.NotEq] [b] pos) (eOp neD ma mb) :=
  peImp (pe_cmpR (op_neP hu) ha hb (nomark _)) fun _ _ _ h => op_lift2 (by rw [hK]; exact sem_ne) h
theorem k_eq2 (hu : X.A.units + 64 < cLine) (hK : X.K = c.K) (ha : KE X c n W a ma) (hb : KP X c n W b mb) : KE X c n W (.Compare a [.Eq] [b] pos) (eOp eqD ma mb) :=
  peImp (pe_cmpR (op_eqP hu) ha hb (nomark _)) fun _ _ _ h => op_lift2 (by rw [hK]; exact sem_eq) h
theorem t_ne2 (hu : X.A.units + 64 < cLine) (hK : X.K = c.K) (ha : KE X c n W a ma) (hb : KP X c n W b mb) : KT X c n W (.Compare a [.NotEq] [b] pos) (tOf (eOp neD ma mb)) :=
  ptImp (pt_cmpR (op_neP hu) ha hb (nomark _)) fun _ _ _ h => tb_lift (fun _ _ _ h => op_lift2 (by rw [hK]; exact sem_ne) h) h
theorem t_eq2 (hu : X.A.units + 64 < cLine) (hK : X.K = c.K) (ha : KE X c n W a ma) (hb : KP X c n W b mb) : KT X c n W (.Compare a [.Eq] [b] pos) (tOf (eOp eqD ma mb)) :=
  ptImp (pt_cmpR (op_eqP hu) ha hb (nomark _)) fun _ _ _ h => tb_lift (fun _ _ _ h => op_lift2 (by rw [hK]; exact sem_eq) h) h
end
/-! ### raise -/
def sRaise0 (x : Str) : Mo Fl := fun ρ => .er ⟨x, []⟩ ρ
def sRaise1 (x f : Str) (ms : Mo (List Dt)) : Mo Fl := bindM ms fun ds ρ => match ds with
  | [d] => if noL d = true then .er ⟨x, [(f, d)]⟩ ρ else .no
  | _ => .no
/-- what a class without own __init__ must have -/
structure Exc0 (K : PySem.W.Frag) (mg : Str → Option Value) (x : Str) (C : Addr) : Prop where
  gP : mg x = some (.ref C)
  xP : PySem.W.excIn K C [.type "ValueError", .type "Exception", .type "BaseException", .type "object"] "ValueError.__new__" = true
  kP : PySem.W.keepIn K (.ref C) = true
  bP : PySem.W.subIn K (.ref C) (.type "BaseException") = some true
  tP : PySem.W.typeIn K (.ref C) = some (.type "type")
section
variable {X : Cx} {c : Cd} {W : WX} {cs : List Str}
theorem s_raise0 {x m : Str} {C : Addr} {j : Nat} {p p2 pos pos2 : Pos} (hc : X.calm = true) (tk : Takes X W) (hxr : c.xr = XR X.K X.mg cs) (T : Exc0 X.K X.mg x C) (hx : x ∈ cs) (hg : Gl X x) (hdb : (x == ("__debug__" : Str)) = false := by decide) :
    KS X c W (.Raise (some (.Call (.Name x p) [.Constant (.str m) j p2] [] pos)) none pos2) (sRaise0 x) :=
  psImp (ps_raise hc tk (pmk_own PySem.F.excBase_ValueError T.xP T.gP T.kP (raises_own T.bP T.tP) hg hdb)) fun D σ H ⟨ρ, F, h, q⟩ =>
    q _ none σ F H (Same.refl _) h (by rw [hxr]; exact ⟨hx, C, T.gP, rfl, .inl ⟨rfl, rfl⟩⟩)
end
/-! ### an own __init__ that keeps one field -/
def spInit (C : Addr) (f : Str) : Sp := fun vs H Q _ => ∃ a v, vs = [.ref a, v] ∧ H a = some (exo a C none) ∧ ∀ d, H d = none → d ≠ a → Q .non (upd (upd H d (exd d [(f, v)])) a (exo a C (some d)))
/-- what a class with such an __init__ must have; CM: the class above, whose __init__ is asked -/
structure Exc1 (K : PySem.W.Frag) (mg : Str → Option Value) (x f y : Str) (C CM fI : Addr) (mc : Value) : Prop where
  gP : mg x = some (.ref C)
  gM : mg y = some (.ref CM)
  T : OexC K C
  no : PySem.W.findIn K (.ref C) f = some none
  iC : PySem.W.findIn K (.ref C) "__init__" = some (some (.ref fI))
  tI : PySem.W.typeIn K (.ref fI) = some (.type "function")
  rd : ClX.CRead K CM mc
  vV : PySem.W.findCls K (.ref CM) mc "__init__" = some (.val (.builtin "ValueError.__init__"))
theorem oex_of {K : PySem.W.Frag} {C : Addr} (h1 : PySem.W.findIn K (.ref C) "__setattr__" = some (some (.builtin "object.__setattr__"))) (h2 : PySem.W.subIn K (.ref C) (.type "BaseException") = some true) (h3 : PySem.W.typeIn K (.ref C) = some (.type "type")) (h4 : PySem.W.keepIn K (.ref C) = true)
    (h5 : ∃ nm q N bs bm sn sub ab col dd k0 k1 k2 k3 k5, K.lookup C = some (excClassObj nm q C N bs bm true sn sub ab col dd k0 k1 k2 k3 k5 "ValueError.__new__") ∧ PySem.HandSPX.refsVE bm = true) : OexC K C := ⟨h5, h1, h2, h3, h4⟩
section
variable {X : Cx} {c : Cd} {W : WX} {cs : List Str} {ms : Mo (List Dt)}
theorem init_ok {P : Program} {w : World} {K : PySem.W.Frag} {mg : Str → Option Value} {base : Heap} {x f y qual : Str} {C CM fI : Addr} {mc : Value} {fd : FuncData} {st : Stmt} {N : List Str} {k : Nat} {m : Str} (T : Exc1 K mg x f y C CM fI mc) (Fn : Fun K "__init__" qual st fI fd)
    (S : FnScope N N (defScope st)) (hN : N.length = 2)
    (hb : ∀ (cdv : Value) (A : Around) (outer : List Env) (s : Shared) (H : Hp) (E : XK), PSs (cxOf (L2.CX P w) P w K mg base N qual (defScope st) fI cdv A outer s H E) (defBody st)
      (fun D σ H => tVeI K (tCons (tVar 0) (tCons (tC (.str m)) tNil)) σ H fun _ H1 => tOst K f (tVar 0) (tVar 1) D σ H1)) : FnOk P w K mg base (L2.CX P w) (k + 1) fI fd N (spInit C f) :=
  Fn.okX S (fun vs H Q E ⟨a, v, e, _⟩ => by rw [e, hN]; rfl) fun cdv A outer s H vs Q E hr ⟨a, v, e, ea, q⟩ => ⟨_, hb cdv A outer s H E, by
    subst e
    have z : L2.start N [.ref a, v] = [some (.ref a), some v] := by unfold L2.start; simp [hN]
    rw [z]
    refine ⟨.ref a, rfl, a, C, [.str m], rfl, by simp, T.T, ea, v, rfl, .ref a, rfl, a, C, rfl, T.T, T.no, .inl ⟨ea, fun d h1 h2 => q d h1 h2⟩⟩⟩
theorem s_raise1 {x f y : Str} {C CM fI : Addr} {mc : Value} {k : Nat} {fd : FuncData} {ps : List Str} {e : Expr} {p pos pos2 : Pos} (hc : X.calm = true) (tk : Takes X W) (hxr : c.xr = XR X.K X.mg cs) (hK : X.K = c.K) (T : Exc1 X.K X.mg x f y C CM fI mc) (hx : x ∈ cs) (hg : Gl X x)
    (F1 : FnOk X.prog X.w X.K X.mg X.base (L2.CX X.prog X.w) k fI fd ps (spInit C f)) (hr : Room (k + 1) X.A) (hb : Binds X.K fd ps []) (hp : Passes (L2.CX X.prog X.w) X (fun _ _ _ => False)) (ha : KA X c False W [e] ms) (hdb : (x == ("__debug__" : Str)) = false := by decide)
    (he : starEach [e] X.env = (false, eval e X.env) :: starEach [] X.env := by rfl) (hpl : (backTo pos (starEach [] X.env)).any (·.1) = false := by rfl) :
    KS X c W (.Raise (some (.Call (.Name x p) [e] [] pos)) none pos2) (sRaise1 x f ms) :=
  psImp (ps_raise hc tk (pmk_oex T.T T.iC T.tI F1 hr hb .nil hp hg T.gP ha hdb he hpl)) fun D σ H ⟨ρ, F, h, q⟩ => by
    refine ⟨ρ, F, h, ?_⟩
    unfold sRaise1 bindM at q
    cases hm : ms ρ with
    | no => rw [hm] at q; exact q.elim
    | er x ρ1 => rw [hm] at q; exact LxS.lx q
    | ok ds ρ1 =>
      rw [hm] at q
      simp only at q ⊢
      intro vs F1 H1 s1 _ h1 r
      match ds, r, q with
      | [d], .cons rv .nil, q =>
        rename_i v
        simp only at q
        by_cases hn : noL d = true
        · rw [if_pos hn] at q
          refine ⟨by simp, fun a ha => ?_⟩
          refine ⟨a, v, rfl, upd_same, fun d' h1' h2' => ⟨rfl, d', [(f, v)], upd_same, ?_, ?_, ?_⟩⟩
          · rw [upd_ne h2', upd_same]
          · rw [upd_ne h2'] at h1'; exact h1'
          · have hd : H1 d' = none := by rw [upd_ne h2'] at h1'; exact h1'
            have eH : upd (del (upd (upd (upd H1 a (exo a C none)) d' (exd d' [(f, v)])) a (exo a C (some d'))) a) d' (.xd [(f, v)]) = upd H1 d' (.xd [(f, v)]) := by
              funext b
              by_cases hb : b = d'
              · rw [hb, upd_same, upd_same]
              · rw [upd_ne hb, upd_ne hb]
                by_cases hba : b = a
                · rw [hba, del_same, ha]
                · rw [del_ne hba, upd_ne hba, upd_ne hb, upd_ne hba]
            rw [eH]
            have sF : Same F1 (upd F1 d' (.xd [(f, v)])) := same_upd (h1.fp hd)
            exact q _ _ σ _ _ (s1.trans sF) (h1.alloc hd) (by rw [hxr]; exact ⟨hx, C, T.gP, rfl, .inr ⟨f, d, d', v, rfl, rfl, upd_same, by rw [hK]; exact rpMono sF rv, hn⟩⟩)
        · rw [if_neg hn] at q; exact q.elim
      | [], _, q => exact q.elim
      | _ :: _ :: _, _, q => exact q.elim
end
/-! ### try .. except, no name -/
def sTry (ct : Ex → Bool) (mb mh : Mo Fl) : Mo Fl := fun ρ => match mb ρ with
  | .er x ρ1 => if ct x = true then (match mh ρ1 with
    | .er _ _ => .no
    | r => r) else .er x ρ1
  | r => r
section
variable {X : Cx} {c : Cd} {W : WX} {mb mh : Mo Fl} {x : Str} {cc : Value} {body suite : List Stmt} {b₀ : Stmt} {np pos pos' : Pos} {ct : Ex → Bool}
theorem s_try (hs : X.stack = X.env :: X.outer) (hf : X.env.frame = some X.env.locals) (hc : Names X x cc) (tk : Takes X W) (hm : ∀ x cls dd F, c.xr x cls dd F → PySem.W.exmOne X.K cls cc = some (ct x))
    (hb : ∀ (W' : WX) (pn : List (Addr × Obj)) (xe : Value → Shared → Prop), Takes (X.tr pn xe) W' → PassesOwn (model X.prog X.w) X.A X.env xe → KSs (X.tr pn xe) c W' body mb)
    (hsu : ∀ (a : Addr) (oe : Obj) (cls : Value) (d : Option Addr) (pn : List (Addr × Obj)), Zc cls d oe → (∃ vs, oe.data = .fields vs) → KSs (X.suite a ((a, oe) :: pn)) c (fun _ _ _ _ => False) (b₀ :: suite) mh) :
    KS X c W (.Try body [.ExceptHandler (some (.Name x np)) none (b₀ :: suite) pos'] [] [] pos) (sTry ct mb mh) :=
  psImp (ps_try_only (tb := fun W' => liftS c W' mb) (ts := fun _ _ _ => liftS c (fun _ _ _ _ => False) mh) hs hf hc tk hb hsu) fun D σ H ⟨ρ, F, h, q⟩ => by
    refine ⟨ρ, F, h, ?_⟩
    unfold sTry at q
    cases he : mb ρ with
    | no => rw [he] at q; exact q.elim
    | ok fl ρ1 => rw [he] at q; exact q
    | er y ρ1 =>
      rw [he] at q
      simp only at q
      intro cls dd σ' F' H' s h' xx
      refine ⟨ct y, hm y cls dd F' xx, fun e a na => ⟨ρ1, F', h', ?_⟩, fun e => ?_⟩
      · rw [if_pos e] at q
        cases hh : mh ρ1 with
        | no => rw [hh] at q; exact q.elim
        | er _ _ => rw [hh] at q; exact q.elim
        | ok fl ρ2 => rw [hh] at q; exact FlOk.later q s
      · rw [if_neg (by rw [e]; exact Bool.false_ne_true)] at q
        exact q cls dd σ' F' H' s h' xx
end
end DL

set_option Elab.async false
set_option linter.all false
set_option maxRecDepth 100000
namespace DL
open PySem PySem.Spec L2
open PyProof.Rows hiding St
/-! list(range(..)) -/
def lr1 (m : Mo Dt) : Mo (List Dt) := bindM m fun x ρ => match x with
  | .int j => if small62 j ∧ j.toNat ≤ 16777216 then .ok (rgD 0 j.toNat) ρ else .no
  | _ => .no
def lr2 (ma mb : Mo Dt) : Mo (List Dt) := bindM ma fun x => bindM mb fun y ρ => match x, y with
  | .int i, .int j => if small62 i ∧ small62 j ∧ (j - i).toNat ≤ 16777216 then .ok (rgD i (j - i).toNat) ρ else .no
  | _, _ => .no
theorem rpa_rg {K : PySem.W.Frag} {F : Hp} {a b : Int} : RpA K F (rgV a b) (rgD a (b - a).toNat) := by
  unfold rgV rgD
  have h : ∀ l : List Nat, RpA K F (l.map fun i => V.int (a + (i : Nat))) (l.map fun (i : Nat) => PyData.int (a + (i : Int))) := fun l => by
    induction l with
    | nil => exact .nil
    | cons x l ih => exact .cons (.int _) ih
  exact h _
theorem newR {c : Cd} {ρ : Rho} {F : Hp} {σ : St} {H : Hp} {zs : List Dt} {Q : VK} {vs : List V} (h : Holds c ρ F σ H) (q : NewL c ρ F σ H zs Q) (r : RpA c.K F vs zs) : ∀ p, H p = none → Q (.ref p) (upd H p (.lst vs)) := fun p hp => newL h q r p hp
section
variable {X : Cx} {c : Cd} {n : Prop} {W : WX} {m ma mb : Mo Dt} {a b : Expr} {p p2 pos pos2 : Pos}
theorem kf_listRg1 (hc : X.calm = true) (hg : Gl X "list") (hm : X.mg "list" = none) (hg2 : Gl X "range") (hm2 : X.mg "range" = none) (ha : KE X c n W a m)
    (n1 : starEach [.Call (.Name "range" p2) [a] [] pos2] X.env = (false, eval (.Call (.Name "range" p2) [a] [] pos2) X.env) :: starEach [] X.env := by rfl) (na : starEach [a] X.env = (false, eval a X.env) :: starEach [] X.env := by rfl) :
    KF X c n W (.Call (.Name "list" p) [.Call (.Name "range" p2) [a] [] pos2] [] pos) (lr1 m) := peImp (pe_listRg hc hg hm (prg_1 hg2 hm2 ha na) n1) fun σ H Q ⟨ρ, F, h, k⟩ => by
  refine ⟨ρ, F, h, ?_⟩
  unfold lr1 bindM at k
  cases hx : m ρ with
  | no => simp only [hx] at k
  | er x ρ1 => simp only [hx] at k ⊢; exact k
  | ok x ρ1 =>
    simp only [hx] at k ⊢
    intro v F1 H1 s1 n1 h1 r1
    cases x with
    | int j =>
      simp only at k
      by_cases hj : small62 j ∧ j.toNat ≤ 16777216
      · rw [if_pos hj] at k
        obtain ⟨⟨j1, j2⟩, j3⟩ := hj
        cases r1
        refine ⟨j, rfl, ⟨by omega, by omega, j1, j2, by omega⟩, ?_⟩
        have e : rgD 0 j.toNat = rgD 0 (j - 0).toNat := by rw [Int.sub_zero]
        refine newR h1 (fun p vs F' H' s3 g h' f0 h0 fr hp r => k p vs F' H' (s1.trans s3) (fun hn => ⟨(n1 hn).trans g.1, (n1 hn).sH.free g.2⟩) h' f0 h0 fr hp r) ?_
        rw [e]
        exact rpa_rg
      · rw [if_neg hj] at k; exact k.elim
    | _ => exact k.elim
theorem kf_listRg2 (hc : X.calm = true) (hg : Gl X "list") (hm : X.mg "list" = none) (hg2 : Gl X "range") (hm2 : X.mg "range" = none) (ha : KE X c n W a ma) (hb : KE X c n W b mb)
    (n1 : starEach [.Call (.Name "range" p2) [a, b] [] pos2] X.env = (false, eval (.Call (.Name "range" p2) [a, b] [] pos2) X.env) :: starEach [] X.env := by rfl) (na : starEach [a, b] X.env = (false, eval a X.env) :: starEach [b] X.env := by rfl)
    (nb : starEach [b] X.env = (false, eval b X.env) :: starEach [] X.env := by rfl) (hpl : (backTo pos2 (starEach [b] X.env)).any (·.1) = false := by rfl) :
    KF X c n W (.Call (.Name "list" p) [.Call (.Name "range" p2) [a, b] [] pos2] [] pos) (lr2 ma mb) := peImp (pe_listRg hc hg hm (prg_2 hg2 hm2 ha hb na nb hpl) n1) fun σ H Q ⟨ρ, F, h, k⟩ => by
  refine ⟨ρ, F, h, ?_⟩
  unfold lr2 bindM at k
  cases hx : ma ρ with
  | no => simp only [hx] at k
  | er x ρ1 => simp only [hx] at k ⊢; exact k
  | ok x ρ1 =>
    simp only [hx] at k ⊢
    intro v F1 H1 s1 n1 h1 r1
    refine ⟨ρ1, F1, h1, ?_⟩
    cases hy : mb ρ1 with
    | no => simp only [hy] at k
    | er x ρ1 => simp only [hy] at k ⊢; exact k.later s1
    | ok y ρ2 =>
      simp only [hy] at k ⊢
      intro u F2 H2 s2 n2 h2 r2
      cases x with
      | int i =>
        cases y with
        | int j =>
          simp only at k
          by_cases hj : small62 i ∧ small62 j ∧ (j - i).toNat ≤ 16777216
          · rw [if_pos hj] at k
            obtain ⟨⟨i1, i2⟩, ⟨j1, j2⟩, j3⟩ := hj
            cases r1
            cases r2
            refine ⟨i, j, rfl, rfl, ⟨i1, i2, j1, j2, by omega⟩, ?_⟩
            exact newR h2 (fun p vs F' H' s3 g h' f0 h0 fr hp r => k p vs F' H' (s1.trans (s2.trans s3)) (fun hn => ⟨((n1 hn).trans (n2 hn)).trans g.1, ((n1 hn).trans (n2 hn)).sH.free g.2⟩) h' f0 h0 fr hp r) rpa_rg
          · rw [if_neg hj] at k; exact k.elim
        | _ => exact k.elim
      | _ => exact k.elim
end
end DL

set_option Elab.async false
set_option linter.all false
set_option maxRecDepth 100000
namespace DL
open PySem PySem.Spec L2
open PyProof.Rows hiding St
/-! try: .. except X as e: y = e.f -/
def sTryFld (ct : Ex → Bool) (i j : Nat) (f : Str) (mb : Mo Fl) : Mo Fl := fun ρ => match mb ρ with
  | .er x ρ1 => if ct x = true then (match x.fs with
    | [(g, d)] => if g = f ∧ i < ρ1.length then .ok .nx ((ρ1.set j (.va d)).set i .un) else .no
    | _ => .no) else .er x ρ1
  | r => r
section
variable {X : Cx} {c : Cd} {W : WX} {mb : Mo Fl} {x n y f : Str} {C : Addr} {cs : List Str} {body : List Stmt} {np pos pos' p1 p2 p3 p4 : Pos} {ct : Ex → Bool} {i j : Nat}
theorem s_tryFld (hs : X.stack = X.env :: X.outer) (hf : X.env.frame = some X.env.locals) (hN : X.N.Nodup) (hi : X.N[i]? = some n) (hln : X.env.kindOf n = some .local) (hj : X.N[j]? = some y) (hlj : Loc X.env.scope y) (hij : i ≠ j) (hc : Names X x (.ref C)) (tk : Takes X W) (hK : X.K = c.K) (hxr : c.xr = XR X.K X.mg cs)
    (hm : ∀ x cls dd F, c.xr x cls dd F → PySem.W.exmOne X.K cls (.ref C) = some (ct x)) (hct : ∀ z : Ex, ct z = true → X.mg z.cls = some (.ref C)) (T : XfC X.K C) (hno : PySem.W.findIn X.K (.ref C) f = some none)
    (hv : Vis X.env.scope n) (hd : (n == ("__debug__" : Str)) = false) (hcd : (n == ("__classdict__" : Str)) = false)
    (hw : swapsWith (.Attribute (.Name n p1) f p2) (some (.Name y p3)) p4.line X.env = pure false) (hfn : X.fn y = true ∨ X.env.scope.names.lookup y = some .local)
    (hab : attributeBase (.Name n p1) f X.env (eval (.Name n p1) X.env) = eval (.Name n p1) X.env)
    (hb : ∀ (W' : WX) (pn : List (Addr × Obj)) (xe : Value → Shared → Prop), Takes (X.tr pn xe) W' → PassesOwn (model X.prog X.w) X.A X.env xe → KSs (X.tr pn xe) c W' body mb) :
    KS X c W (.Try body [.ExceptHandler (some (.Name x np)) (some n) [.Assign [.Name y p3] (.Attribute (.Name n p1) f p2) p4] pos'] [] [] pos) (sTryFld ct i j f mb) :=
  psImp (ps_try_as (tb := fun W' => liftS c W' mb) (ts := fun a cls d => tAsg (tXf a cls d C f (tVar i)) (gName j)) hs hf hN hi hln hc tk hb
    (fun a oe cls d pn hz hfi => pss_one (ps_set (X := X.suite a ((a, oe) :: pn)) hN hj hlj (pe_xf T hno hz hfi (pe_var (X := X.suite a ((a, oe) :: pn)) hi hv hd hcd) hab) hw hfn))) fun D σ H ⟨ρ, F, h, q⟩ => by
    refine ⟨ρ, F, h, ?_⟩
    unfold sTryFld at q
    cases he : mb ρ with
    | no => rw [he] at q; exact q.elim
    | ok fl ρ1 => rw [he] at q; exact q
    | er z ρ1 =>
      rw [he] at q
      simp only at q
      intro cls dd σ' F' H' s h' xx
      refine ⟨ct z, hm z cls dd F' xx, fun e a na => ?_, fun e => ?_⟩
      · rw [if_pos e] at q
        have xx' := xx
        rw [hxr] at xx'
        obtain ⟨_, C', hC, hcl, hfs⟩ := xx'
        have hCC := hct z e
        rw [hC] at hCC
        cases hCC
        rcases hfs with ⟨e1, _⟩ | ⟨g, d, a', v, e1, e2, e3, e4, _⟩
        · rw [e1] at q; exact q.elim
        · rw [e1] at q
          simp only at q
          by_cases hg : g = f ∧ i < ρ1.length
          · rw [if_pos hg] at q
            obtain ⟨hg, hi1⟩ := hg
            subst hg
            have hil : i < σ'.length := h'.len ▸ hi1
            refine ⟨.ref a, by rw [List.getElem?_set_self hil], rfl, hcl, a', [(g, v)], v, e2, h'.sub.at' _ _ e3 trivial, by simp [List.lookup], ?_⟩
            have hv' : Rp c.K F' v d := by rw [← hK]; exact e4
            have h2 := (h'.setva (i := j) hv').wipe1 i
            have e6 : ((σ'.set i (some (V.ref a))).set j (some v)).set i none = (σ'.set j (some v)).set i none := by
              rw [List.set_comm _ _ hij, List.set_set]
            show D.nx (((σ'.set i (some (V.ref a))).set j (some v)).set i none) H'
            rw [e6]
            exact q _ F' H' s h2
          · rw [if_neg hg] at q; exact q.elim
      · rw [if_neg (by rw [e]; exact Bool.false_ne_true)] at q
        exact q cls dd σ' F' H' s h' xx
end
end DL

set_option Elab.async false
set_option linter.all false
set_option maxRecDepth 100000
namespace DL
open PySem PySem.Spec L2
open PyProof.Rows hiding St
/-! try: .. except X as e: any suite that may look at e -/
def noExS : Sl → Bool
  | .ex _ => false
  | _ => true
def sTryAs (ct : Ex → Bool) (i : Nat) (mb mh : Mo Fl) : Mo Fl := fun ρ => match mb ρ with
  | .er x ρ1 => if ct x = true then (if i < ρ1.length ∧ ρ1.all noExS = true then (match mh (ρ1.set i (.ex x)) with
    | .ok fl ρ2 => if (ρ2.set i .un).all noExS = true then .ok fl (ρ2.set i .un) else .no
    | _ => .no) else .no) else .er x ρ1
  | r => r
/-- what is known of the caught exception, at a -/
def inE (c : Cd) (a : Addr) (x : Ex) (F : Hp) : Cd := { c with F0 := F, px := fun b y => b = a ∧ y = x }
theorem slok_conv {c c' : Cd} {F H : Hp} {o : Option (Option V)} {s : Sl} (hK : c.K = c'.K) (hH : c.H0 = c'.H0) (hP : c.P = c'.P) (hw : c.w = c'.w) (hn : noExS s = true) (h : SlOk c F H o s) : SlOk c' F H o s := by
  cases s with
  | ex x => cases hn
  | un => trivial
  | va d => obtain ⟨v, e1, e2⟩ := h; exact ⟨v, e1, hK ▸ e2⟩
  | ml ds => obtain ⟨a, vs, e1, e2, e3, e4, e5⟩ := h; exact ⟨a, vs, e1, e2, hH ▸ e3, e4, hK ▸ e5⟩
  | md ds => obtain ⟨a, vs, e1, e2, e3, e4, e5⟩ := h; exact ⟨a, vs, e1, e2, hH ▸ e3, e4, hK ▸ e5⟩
  | mn ds => obtain ⟨a, vs, e1, e2, e3, e4, e5⟩ := h; exact ⟨a, vs, e1, e2, hH ▸ e3, hP ▸ hw ▸ e4, hK ▸ e5⟩
section
variable {c : Cd} {ρ : Rho} {F H : Hp} {σ : St} {a : Addr} {x : Ex} {i : Nat}
theorem Holds.intoE (h : Holds c ρ F σ H) (hi : i < ρ.length) (hn : ρ.all noExS = true) : Holds (inE c a x F) (ρ.set i (.ex x)) F (σ.set i (some (.ref a))) H := by
  have hil : i < σ.length := h.len ▸ hi
  have nj : ∀ (j : Nat) s, (ρ.set i (.ex x))[j]? = some s → s.own = true → i ≠ j := fun j s e w z => by
    subst z
    rw [List.getElem?_set_self hi] at e
    cases e
    cases w
  refine ⟨h.base.up h.f0, Same.refl _, h.sub, fun b o e => .inl e, by simp [h.len], fun j s e => ?_, fun j k s t b e1 e2 w1 w2 s1 s2 => ?_⟩
  · by_cases q : i = j
    · subst q
      rw [List.getElem?_set_self hi] at e
      cases e
      exact ⟨a, by rw [List.getElem?_set_self hil], rfl, rfl⟩
    · rw [List.getElem?_set_ne q] at e ⊢
      exact slok_conv (c := c) rfl rfl rfl rfl (List.all_eq_true.mp hn _ (List.mem_of_getElem? e)) (h.sl j s e)
  · have n1 := nj j s e1 w1
    have n2 := nj k t e2 w2
    rw [List.getElem?_set_ne n1] at e1 s1
    rw [List.getElem?_set_ne n2] at e2 s2
    exact h.ap j k s t b e1 e2 w1 w2 s1 s2
theorem Holds.outE {F' : Hp} {ρ0 : Rho} {σ0 : St} {H0' : Hp} (h0 : Holds c ρ0 F σ0 H0') (h : Holds (inE c a x F) ρ F' σ H) (hn : (ρ.set i .un).all noExS = true) : Holds c (ρ.set i .un) F' (σ.set i none) H := by
  have h1 := h.wipe1 i
  refine ⟨h1.base.down h0.new, h0.f0.trans h1.f0, h1.sub, fun b o e => ?_, h1.len, fun j s e => slok_conv (c := inE c a x F) rfl rfl rfl rfl (List.all_eq_true.mp hn _ (List.mem_of_getElem? e)) (h1.sl j s e), h1.ap⟩
  rcases h1.new b o e with q | q
  · exact h0.new b o q
  · exact .inr q
end
section
variable {X : Cx} {c : Cd} {W : WX} {mb mh : Mo Fl} {x n : Str} {cc : Value} {body suite : List Stmt} {b₀ : Stmt} {np pos pos' : Pos} {ct : Ex → Bool} {i : Nat}
theorem s_tryAs (hs : X.stack = X.env :: X.outer) (hf : X.env.frame = some X.env.locals) (hN : X.N.Nodup) (hi : X.N[i]? = some n) (hln : X.env.kindOf n = some .local) (hc : Names X x cc) (tk : Takes X W)
    (hm : ∀ x cls dd F, c.xr x cls dd F → PySem.W.exmOne X.K cls cc = some (ct x))
    (hb : ∀ (W' : WX) (pn : List (Addr × Obj)) (xe : Value → Shared → Prop), Takes (X.tr pn xe) W' → PassesOwn (model X.prog X.w) X.A X.env xe → KSs (X.tr pn xe) c W' body mb)
    (hsu : ∀ (a : Addr) (oe : Obj) (cls : Value) (d : Option Addr) (pn : List (Addr × Obj)) (z : Ex) (F : Hp), Zc cls d oe → (∃ vs, oe.data = .fields vs) → c.xr z cls d F → ct z = true → KSs (X.suite a ((a, oe) :: pn)) (inE c a z F) (fun _ _ _ _ => False) (b₀ :: suite) mh) :
    KS X c W (.Try body [.ExceptHandler (some (.Name x np)) (some n) (b₀ :: suite) pos'] [] [] pos) (sTryAs ct i mb mh) :=
  psImp (ps_try_as (tb := fun W' => liftS c W' mb) (ts := fun a cls d D σ H => ∃ z F, c.xr z cls d F ∧ ct z = true ∧ liftS (inE c a z F) (fun _ _ _ _ => False) mh D σ H) hs hf hN hi hln hc tk hb
    (fun a oe cls d pn hz hfi => ⟨fun pins s σ H D I ⟨z, F, h1, h2, h3⟩ => (hsu a oe cls d pn z F hz hfi h1 h2).run pins s σ H D I h3⟩)) fun D σ H ⟨ρ, F, h, q⟩ => by
    refine ⟨ρ, F, h, ?_⟩
    unfold sTryAs at q
    cases he : mb ρ with
    | no => rw [he] at q; exact q.elim
    | ok fl ρ1 => rw [he] at q; exact q
    | er z ρ1 =>
      rw [he] at q
      simp only at q
      intro cls dd σ' F' H' s h' xx
      refine ⟨ct z, hm z cls dd F' xx, fun e a na => ?_, fun e => ?_⟩
      · rw [if_pos e] at q
        by_cases hg : i < ρ1.length ∧ ρ1.all noExS = true
        · rw [if_pos hg] at q
          refine ⟨z, F', xx, e, ρ1.set i (.ex z), F', h'.intoE hg.1 hg.2, ?_⟩
          cases hh : mh (ρ1.set i (.ex z)) with
          | no => rw [hh] at q; exact q.elim
          | er _ _ => rw [hh] at q; exact q.elim
          | ok fl ρ2 =>
            rw [hh] at q
            simp only at q
            by_cases h2 : (ρ2.set i .un).all noExS = true
            · rw [if_pos h2] at q
              cases fl with
              | nx => exact fun σ2 F2 H2 s2 h3 => q _ F2 H2 (s.trans s2) (h'.outE h3 h2)
              | bk => exact fun σ2 F2 H2 s2 h3 => q _ F2 H2 (s.trans s2) (h'.outE h3 h2)
              | ct => exact fun σ2 F2 H2 s2 h3 => q _ F2 H2 (s.trans s2) (h'.outE h3 h2)
              | rt d => exact fun v σ2 F2 H2 s2 h3 r => q v _ F2 H2 (s.trans s2) (h'.outE h3 h2) r
              | ro ds => exact fun p vs σ2 F2 H2 s2 h3 f0 h0 hp r => q p vs _ F2 H2 (s.trans s2) (h'.outE h3 h2) f0 h0 hp r
            · rw [if_neg h2] at q; exact q.elim
        · rw [if_neg hg] at q; exact q.elim
      · rw [if_neg (by rw [e]; exact Bool.false_ne_true)] at q
        exact q cls dd σ' F' H' s h' xx
end
end DL

set_option Elab.async false
set_option linter.all false
set_option maxRecDepth 100000
/-! isinstance of a caught exception; a def that is handed the caught exception -/
namespace L2
open PySem PySem.Spec PyProof.Rows
def rIsP (K : PySem.W.Frag) (a : Addr) (oe : Obj) : List V → Hp → VK → Prop := fun xs H Q => ∃ (D : Addr) (d : Option Addr) (c : V) (cv : Value) (b : Bool), Zc (.ref D) d oe ∧ ExcC K D ∧ xs = [.ref a, c] ∧ (∀ u, RelV c u → u = cv) ∧ PySem.W.kitOne K (.ref D) cv = some b ∧
  (∀ dd, d = some dd → ∃ fs, H dd = some (.xd fs)) ∧ Q (.bl b) H
theorem call_isP {X : Cx} {a : Addr} {oe : Obj} (hp : (a, oe) ∈ X.pn) (hf : ∃ vs, oe.data = .fields vs) : CallR X (.builtin "isinstance") (rIsP X.K a oe) := by
  intro pins s σ H xs us Q I r h
  obtain ⟨D, d, c, cv, b, hz, C, rfl, hcv, e, hdd, q⟩ := h
  cases r with
  | cons rx rr =>
    cases rr with
    | cons rt rr =>
      cases rr
      cases rx
      have ec := hcv _ rt
      subst ec
      obtain ⟨hget, _⟩ := I.pin (a, oe) (List.mem_append.mpr (.inl hp))
      obtain ⟨vs, hv⟩ := hf
      have hcl : (PySem.W.clsIn X.K D).isSome = true := by
        obtain ⟨cd, hc, _⟩ := PySem.W.any_some C.hd
        rw [hc]; rfl
      have J : ∃ od, PySem.W.InstAt s.heap a oe D od := by
        cases d with
        | none =>
          refine ⟨none, ?_⟩
          obtain ⟨oc, od, oda, osl⟩ := oe
          obtain ⟨h1, h2⟩ := hz
          dsimp only at h1 h2 hv
          subst h1 h2 hv
          exact ⟨hget, rfl, rfl, trivial⟩
        | some dd =>
          obtain ⟨fs, hx⟩ := hdd dd rfl
          have ho : ObjOk X.prog X.w H s.heap dd (.xd fs) := I.hok dd _ hx
          obtain ⟨mA, hns, hr⟩ := ho
          obtain ⟨od, ho, hl⟩ := lookIn_ns hns
          exact ⟨some od, hget, hz.1, by unfold PySem.W.notCls; rw [hv] <;> rfl, by rw [hz.2]; exact ho⟩
      obtain ⟨od, J⟩ := J
      exact PySem.W.kia_one (PySem.W.kitx_exc hcl C.hg C.hk C.hs C.ha C.hn C.ht C.hm) I.kIn J e (fun z => nomatch z) fun tk => ⟨.bl b, H, I.kept (t' := tk) fun _ _ z => z, rfl, q⟩
end L2
namespace DL
open PySem PySem.Spec L2
open PyProof.Rows hiding St
/-- the context holds the caught exception at a, and what c says of it -/
structure CaughtAt (X : Cx) (c : Cd) (cs : List Str) (a : Addr) (oe : Obj) (cls : Value) (d : Option Addr) : Prop where
  pin : (a, oe) ∈ X.pn
  hz : Zc cls d oe
  hf : ∃ vs, oe.data = .fields vs
  px : ∀ b y, c.px b y → b = a ∧ XR X.K X.mg cs y cls d c.F0
def eIsE (it : Ex → Bool) (i : Nat) : Mo Dt := fun ρ => match ρ[i]? with
  | some (.ex x) => .ok (.bool (it x)) ρ
  | _ => .no
section
variable {X : Cx} {c : Cd} {n : Prop} {W : WX} {cs : List Str} {a : Addr} {oe : Obj} {cls cv : Value} {d : Option Addr} {v2 : V} {it : Ex → Bool} {i : Nat} {e e2 : Expr} {p pos : Pos}
theorem k_isE (ca : CaughtAt X c cs a oe cls d) (hg : Gl X "isinstance") (hm : X.mg "isinstance" = none) (he : PE X e (tVar i)) (h2 : PE X e2 (tC v2)) (hv2 : ∀ u, RelV v2 u → u = cv)
    (hit : ∀ y F, XR X.K X.mg cs y cls d F → ∃ D, cls = .ref D ∧ ExcC X.K D ∧ PySem.W.kitOne X.K (.ref D) cv = some (it y))
    (s1 : starEach [e, e2] X.env = (false, eval e X.env) :: starEach [e2] X.env := by rfl) (s2 : starEach [e2] X.env = (false, eval e2 X.env) :: starEach [] X.env := by rfl) (hpl : (backTo pos (starEach [e2] X.env)).any (·.1) = false := by rfl) :
    KE X c n W (.Call (.Name "isinstance" p) [e, e2] [] pos) (eIsE it i) :=
  peImp (pe_callB (call_isP ca.pin ca.hf) hg hm (by decide +kernel) (pa_cons he (pa_cons h2 pa_nil s2) s1) (by decide) (by decide) s1 hpl) fun σ H Q ⟨ρ, F, h, k⟩ => by
    unfold eIsE at k
    cases hr : ρ[i]? with
    | none => simp only [hr] at k
    | some sl =>
      cases sl with
      | ex y =>
        simp only [hr] at k
        obtain ⟨b, e1, e3⟩ := h.sl i _ hr
        obtain ⟨rfl, xx⟩ := ca.px b y e3
        obtain ⟨D, rfl, eD, ek⟩ := hit y _ xx
        refine ⟨.ref b, e1, D, d, v2, cv, it y, ca.hz, eD, rfl, hv2, ek, fun dd hd => ?_, k _ F H (Same.refl _) (fun _ => Kept.refl) h (.bl _)⟩
        obtain ⟨_, C, _, _, hfs⟩ := xx
        rcases hfs with ⟨_, e5⟩ | ⟨f, dt, a', v, _, e5, e6, _, _⟩
        · rw [hd] at e5; cases e5
        · rw [hd] at e5
          cases e5
          exact ⟨[(f, v)], h.sub.at' _ _ (h.f0 _ _ e6) trivial⟩
      | _ => simp only [hr] at k
end
/-! ### a def that is handed the caught exception -/
structure PinZ (outer : List Env) (H : Hp) (s : Shared) (p : Addr × Obj) : Prop where
  get : s.heap.get? p.1 = some p.2
  free : H p.1 = none
  nofs : p.1 ∉ frs outer
  nocell : ∀ v, p.2.data ≠ .cell v
structure RoomZ (k : Nat) (A : Around) : Prop where
  dp : A.depth + 3 * k + 5 < recursionLimit
  un : A.units + 16 * k + 200 < cLine
end DL

set_option Elab.async false
set_option linter.all false
set_option maxRecDepth 100000
/-! a def that is handed the caught exception: its promise, its call -/
namespace L2
open PySem PySem.Spec PyProof.Rows
structure FnZ (P : Program) (w : World) (K : PySem.W.Frag) (mg : Str → Option Value) (base : Heap) (CX : CXT) (k : Nat) (f : Addr) (fd : FuncData) (ps : List Str) (sp : Addr × Obj → Sp) : Prop where
  len : ∀ p vs H Q E, sp p vs H Q E → vs.length = ps.length
  run : ∀ (A : Around) (outer : List Env) (s : Shared) (H : Hp) (args : Args) (us : List Value) (vs : List V) (Q : VK) (E : XK) (p : Addr × Obj), L2H.RoomH k A → L2H.PinOk outer H s p → Env0 P w K mg base A outer s H → BindsTo s fd args (ps.zip us) → Vals vs us → sp p vs H Q E →
    codeAny (model P w) A (.call (.ref f) args) (CR CX outer P w H s Q E) s
theorem fn_ofZ {CX : CXT} {P : Program} {w : World} {K : PySem.W.Frag} {mg : Str → Option Value} {base : Heap} {k : Nat} {f : Addr} {name qual : Str} {params : Arguments} {body : List Stmt} {scope : Scope} {dV kV doc pm cdv ct oc : Value} {an od : Option Addr}
    {osl : Array (Option Value)} {N ps : List Str} {sp : Addr × Obj → Sp} (lk : K.lookup f = some ⟨oc, od, .func (PySem.W.fnOf name qual params body scope dV kV doc pm an cdv ct), osl⟩) (hcd : PySem.W.codeIn K cdv qual = true) (S : FnScope N ps scope)
    (len : ∀ p vs H Q E, sp p vs H Q E → vs.length = ps.length)
    (hbody : ∀ (A : Around) (outer : List Env) (s : Shared) (H : Hp) (vs : List V) (Q : VK) (E : XK) (p : Addr × Obj), L2H.RoomH k (A.deeper (envOfC qual scope s.heap.objs.size f cdv)) → sp p vs H Q E →
      ∃ t, PSs (L2H.cxH CX P w K mg base N qual scope f cdv A outer s H E p) body t ∧ t { nx := fun _ H' => Q .non H', rt := Q } (L2.start N vs) H) :
    FnZ P w K mg base CX (k + 1) f (PySem.W.fnOf name qual params body scope dV kV doc pm an cdv ct) ps sp := by
  refine ⟨len, fun A outer s H args us vs Q E p hr hpin e0 hb r hsp => ?_⟩
  have hl := len _ _ _ _ _ hsp
  have KX : K.In s.heap := e0.mod.kin.keeps fun b o e => (e0.bs b o e).1
  have lim : s.heap.NoLimit := e0.mod.nolimit.keeps fun b o e => (e0.bs b o e).1
  have hkind : ∀ y ∈ ps.zip us, scope.names.lookup y.1 = some .local ∨ (scope.names.lookup y.1 = some .cell ∧ ((cellsFrom (s.heap.objs.size + 1) scope.names []).lookup y.1).isSome = true) := fun ⟨n, v⟩ hy => by
    rcases S.par n (List.of_mem_zip hy).1 with q | q
    · exact .inl q
    · exact .inr ⟨q, PySem.W.cellsFrom_some _ _ _ (.inl q)⟩
  refine codeAny_call_function hr.depth (KX _ _ lk) rfl S.co S.gen rfl (PySem.W.codeRec_of KX hcd) (hb _ _ _ _ ?_)
  refine wpAny_newFunctionEnv_cells S.kind hkind fun env he s1 x => ?_
  subst he
  refine ⟨lim.keeps x.toInCall.keep, codeAny_func ?_⟩
  obtain ⟨t, ht, hq⟩ := hbody A outer s H vs Q E p (hr.deeper _) hsp
  have I : Inv (L2H.cxH CX P w K mg base N qual scope f cdv A outer s H E p) [] (L2.start N vs) H s1 := L2H.inv_startH S hpin e0 hl r x
  refine wpAny_mono (ht.run [] s1 (L2.start N vs) H _ I hq) (fun fl s' hs => ?_) fun e s' hs => hs
  have fin : ∀ {σ' : St} {H' : Hp} {v : V} {u : Value}, Inv (L2H.cxH CX P w K mg base N qual scope f cdv A outer s H E p) [] σ' H' s' → RelV v u → Q v H' → CE outer P w H s Q u s' :=
    fun {σ' H' v u} J rv q => ⟨v, H', J.os, J.bare, J.base, J.hok, rv, q⟩
  cases fl with
  | ret u =>
    obtain ⟨v, σ', H', J, rv, q⟩ := hs
    exact fin J rv q
  | next =>
    obtain ⟨σ', H', J, q⟩ := hs
    exact fin (v := V.non) (u := Value.none) J rfl q
  | brk =>
    obtain ⟨_, _, _, q⟩ := hs
    exact False.elim q
  | cont =>
    obtain ⟨_, _, _, q⟩ := hs
    exact False.elim q
section
variable {X : Cx} {CX : CXT} {k : Nat} {f C : Addr} {fd : FuncData} {ps : List Str} {sp : Addr × Obj → Sp} {E : St → XK} {x m : Str} {q pos apos : Pos} {e o : Expr} {es : List Expr} {ta : TE} {t : TA} {p : Addr × Obj}
theorem run_fnZ {pins : List (Addr × Obj)} {σ : St} {H : Hp} {s : Shared} {Q : VK} {us : List Value} {vs : List V} (F : FnZ X.prog X.w X.K X.mg X.base CX k f fd ps sp) (hr : L2H.RoomH k X.A) (hp : p ∈ X.pn) (hb : Binds X.K fd ps []) (hx : PassesAt CX X σ (E σ))
    (I : Inv X pins σ H s) (r : Vals vs us) (h : sp p vs H Q (E σ)) : wpAny (model X.prog X.w) X.A (call (.ref f) us) (EP X pins σ Q) X.xe s := by
  have hl : us.length = ps.length := by rw [← r.length]; exact F.len _ _ _ _ _ h
  have b := hb s us I.kIn (by rw [List.append_nil]; exact hl)
  rw [List.append_nil] at b
  have P1 := I.pin p (List.mem_append_left _ hp)
  have hpin : L2H.PinOk X.stack H s p := ⟨P1.1, P1.2.1, fun hm => (List.mem_cons.mp (I.stkSub p.1 hm)).elim P1.2.2.1 P1.2.2.2.1, P1.2.2.2.2⟩
  refine wpAny_call (codeAny_mono (F.run X.A X.stack s H ⟨us, []⟩ us vs Q (E σ) p hr hpin I.env0 b r h) fun r s' hq => ?_)
  cases r with
  | error e => exact hx pins H s e s' I hq
  | ok fl =>
    cases fl with
    | ret u => exact I.after hq
    | next => exact False.elim hq
    | brk => exact False.elim hq
    | cont => exact False.elim hq
theorem pe_callZ (F : FnZ X.prog X.w X.K X.mg X.base CX k f fd ps sp) (hr : L2H.RoomH k X.A) (hp : p ∈ X.pn) (hg : Gl X x) (hm : X.mg x = some (.ref f)) (hk : PySem.W.keepIn X.K (.ref f) = true) (hb : Binds X.K fd ps []) (hx : ∀ σ, PassesAt CX X σ (E σ))
    (ha : PA X (e :: es) t) (hdb : (x == ("__debug__" : Str)) = false := by decide) (he : starEach (e :: es) X.env = (false, eval e X.env) :: starEach es X.env := by rfl) (hpl : (backTo pos (starEach es X.env)).any (·.1) = false := by rfl) :
    PE X (.Call (.Name x q) (e :: es) [] pos) (tCallS (sp p) E t) := by
  refine ⟨fun pins s σ H Q I h => ?_⟩
  refine wpAny_Call_Name_kw (ld_glob I hg hm ?_ hdb)
  refine PySem.W.callWith_K (h₀ := X.base) I.ok.mod.kin hk (thn (ha.run pos pins s σ H _ I h) fun us s1 ⟨vs, H1, I1, r, q⟩ => ⟨I1.kIn, ?_⟩) he hpl
  exact run_fnZ F hr hp hb (hx σ) I1 r q
end
end L2
namespace DL
open PySem PySem.Spec L2
open PyProof.Rows hiding St
theorem XR.mono {K : PySem.W.Frag} {mg : Str → Option Value} {cs : List Str} {x : Ex} {cls : Value} {dd : Option Addr} {F F' : Hp} (s : Same F F') : XR K mg cs x cls dd F → XR K mg cs x cls dd F' := by
  intro ⟨h1, C, h2, h3, h4⟩
  refine ⟨h1, C, h2, h3, ?_⟩
  rcases h4 with h | ⟨f, d, a, v, e1, e2, e3, e4, e5⟩
  · exact .inl h
  · exact .inr ⟨f, d, a, v, e1, e2, s _ _ e3, rpMono s e4, e5⟩
def spE (K : PySem.W.Frag) (P : Program) (w : World) (cv : Array Value → NestedKey → Option Int) (mg : Str → Option Value) (cs : List Str) (G : Ex → Fo) : Addr × Obj → Sp := fun p vs H Q E => ∃ F x cls d, vs = [.ref p.1] ∧ Sub K P w cv F H ∧ Zc cls d p.2 ∧ (∃ vs, p.2.data = .fields vs) ∧ XR K mg cs x cls d F ∧ match G x with
  | .ok dt => ∀ v F' H', SameM F H H' → Same F F' → Sub K P w cv F' H' → NewB F H F' → Rp K F' v dt → Q v H'
  | _ => False
def runE (k : Nat) (m : Mo Fl) (x : Ex) : Fo := match m (.ex x :: List.replicate (k - 1) .un) with
  | .ok (.rt d) _ => .ok d
  | .ok .nx _ => .ok .none
  | _ => .no
theorem start_holdsE {K : PySem.W.Frag} {P : Program} {w : World} {cv : Array Value → NestedKey → Option Int} {xr : Ex → Value → Option Addr → Hp → Prop} {F H : Hp} {N : List Str} {a : Addr} {x : Ex} (s : Sub K P w cv F H) (hN : 1 ≤ N.length) : Holds ⟨K, H, F, xr, fun b y => b = a ∧ y = x, P, w, cv⟩ (.ex x :: List.replicate (N.length - 1) .un) F (L2.start N [.ref a]) H := by
  have e : L2.start N [V.ref a] = some (.ref a) :: List.replicate (N.length - 1) none := by unfold L2.start; simp
  rw [e]
  refine ⟨SameM.refl, Same.refl _, s, fun b o q => .inl q, by simp, fun j t q => ?_, fun j k t u b q1 _ w1 _ _ _ => ?_⟩
  · cases j with
    | zero => cases q; exact ⟨a, rfl, rfl, rfl⟩
    | succ j =>
      rw [List.getElem?_cons_succ, List.getElem?_replicate] at q
      split at q
      · cases q; trivial
      · cases q
  · cases j with
    | zero => cases q1; cases w1
    | succ j =>
      rw [List.getElem?_cons_succ, List.getElem?_replicate] at q1
      split at q1
      · cases q1; cases w1
      · cases q1
theorem fn_okZ {P : Program} {w : World} {K : PySem.W.Frag} {mg : Str → Option Value} {base : Heap} {x qual : Str} {st : Stmt} {f : Addr} {fd : FuncData} {N ps : List Str} {k a : Nat} {cs : List Str} {m : Mo Fl} (hN : N.length = a) (ha : 1 ≤ a) (hp : ps.length = 1) (Fn : Fun K x qual st f fd) (S : FnScope N ps (defScope st))
    (hb : ∀ (cdv : Value) (A : Around) (outer : List Env) (s : Shared) (H F0 : Hp) (E : XK) (p : Addr × Obj) (y : Ex) (cls : Value) (d : Option Addr), L2H.RoomH k (A.deeper (envOfC qual (defScope st) s.heap.objs.size f cdv)) →
      CaughtAt (L2H.cxH (L2.CX P w) P w K mg base N qual (defScope st) f cdv A outer s H E p) ⟨K, H, F0, XR K mg cs, fun b z => b = p.1 ∧ z = y, P, w, cv⟩ cs p.1 p.2 cls d →
      KSs (L2H.cxH (L2.CX P w) P w K mg base N qual (defScope st) f cdv A outer s H E p) ⟨K, H, F0, XR K mg cs, fun b z => b = p.1 ∧ z = y, P, w, cv⟩ (fun _ _ _ _ => False) (defBody st) m) :
    FnZ P w K mg base (L2.CX P w) (k + 1) f fd ps (spE K P w cv mg cs (runE a m)) := by
  obtain ⟨oc, od, kV, doc, pm, an, cdv, ct, osl, rfl, lk, hcd⟩ := Fn.ex
  refine fn_ofZ lk hcd S (fun p vs H Q E ⟨F, y, cls, d, e, _⟩ => by rw [e, hp]; rfl) fun A outer s H vs Q E p hr ⟨F, y, cls, d, e, sF, hz, hf, xx, q⟩ => ?_
  subst e
  refine ⟨_, hb cdv A outer s H F E p y cls d hr ⟨List.mem_singleton.mpr rfl, hz, hf, fun b z hbz => ⟨hbz.1, by rw [hbz.2]; exact xx⟩⟩, ?_⟩
  refine ⟨_, F, start_holdsE sF (by omega), ?_⟩
  have nw : ∀ {σ' : St} {ρ' : Rho} {F' H' : Hp}, Holds ⟨K, H, F, XR K mg cs, fun b z => b = p.1 ∧ z = y, P, w, cv⟩ ρ' F' σ' H' → NewB F H F' := fun h b o q => h.new b o q
  unfold runE at q
  rw [hN]
  cases hm : m (.ex y :: List.replicate (a - 1) .un) with
  | no => rw [hm] at q; exact q.elim
  | er x ρ' => rw [hm] at q; exact q.elim
  | ok fl ρ' =>
    rw [hm] at q
    cases fl with
    | nx => exact fun σ' F' H' s' h' => q .non F' H' h'.base s' h'.sub (nw h') .non
    | rt d => exact fun v σ' F' H' s' h' r' => q v F' H' h'.base s' h'.sub (nw h') r'
    | ro es => exact q.elim
    | bk => exact q.elim
    | ct => exact q.elim
/-- such a call in an except suite -/
def eCallE (G : Ex → Fo) (i : Nat) : Mo Dt := fun ρ => match ρ[i]? with
  | some (.ex x) => (match G x with
    | .ok d => .ok d ρ
    | _ => .no)
  | _ => .no
section
variable {X : Cx} {c : Cd} {n : Prop} {W : WX} {cs : List Str} {a : Addr} {oe : Obj} {cls : Value} {d : Option Addr} {i k : Nat} {e : Expr} {p pos : Pos} {f : Addr} {fd : FuncData} {ps : List Str} {G : Ex → Fo} {x : Str}
theorem k_callE (ca : CaughtAt X c cs a oe cls d) (hK : X.K = c.K) (F : FnZ X.prog X.w X.K X.mg X.base (L2.CX X.prog X.w) k f fd ps (spE c.K c.P c.w c.cv X.mg cs G)) (hr : L2H.RoomH k X.A) (hg : Gl X x) (hm : X.mg x = some (.ref f)) (hk : PySem.W.keepIn X.K (.ref f) = true) (hb : Binds X.K fd ps [])
    (he : PE X e (tVar i)) (hdb : (x == ("__debug__" : Str)) = false := by decide) (s1 : starEach [e] X.env = (false, eval e X.env) :: starEach [] X.env := by rfl) (hpl : (backTo pos (starEach [] X.env)).any (·.1) = false := by rfl) :
    KE X c n W (.Call (.Name x p) [e] [] pos) (eCallE G i) :=
  peImp (pe_callZ (E := fun _ _ _ _ => False) F hr ca.pin hg hm hk hb (fun σ => passNo σ) (pa_cons he pa_nil s1) hdb s1 hpl) fun σ H Q ⟨ρ, F0, h, k0⟩ => by
    unfold eCallE at k0
    cases hr : ρ[i]? with
    | none => simp only [hr] at k0
    | some sl =>
      cases sl with
      | ex y =>
        simp only [hr] at k0
        obtain ⟨b, e1, e3⟩ := h.sl i _ hr
        obtain ⟨rfl, xx⟩ := ca.px b y e3
        refine ⟨.ref b, e1, F0, y, cls, d, rfl, h.sub, ca.hz, ca.hf, (show XR c.K X.mg cs y cls d F0 from hK ▸ xx.mono h.f0), ?_⟩
        cases hg : G y with
        | ok dt =>
          simp only [hg] at k0 ⊢
          intro v F' H' s2 sF sub nb r
          exact k0 v F' H' sF (fun _ => ⟨s2, rfl, nb⟩) (h.grow sF s2 sub nb) r
        | _ => simp only [hg] at k0
      | _ => simp only [hr] at k0
end
end DL

set_option Elab.async false
set_option linter.all false
set_option maxRecDepth 100000
/-! count and index in a list of truths -/
namespace L2
open PySem PySem.Spec PyProof.Rows
def rCountV (K : PySem.W.Frag) : V → List V → Hp → VK → Prop := fun x xs H Q => ∃ (a : Addr) (ys : List V) (y : V), x = V.ref a ∧ xs = [y] ∧ SqL K H a ys ∧ flatV y = true ∧ ys.all flatV = true ∧ Q (.int (ys.countP (fun z => eqV z y) : Nat)) H
theorem countU {y : V} : ∀ {ys : List V} {us : List Value}, Vals ys us → ys.all flatV = true → us.countP (eqU y) = ys.countP (fun z => eqV z y)
  | _, _, .nil, _ => rfl
  | _, _, .cons r t, h => by
    rw [List.all_cons, Bool.and_eq_true] at h
    rw [List.countP_cons, List.countP_cons, countU t h.2, eqU_of r h.1]
theorem mt_countV {X : Cx} : MtR X "list.count" (rCountV X.K) := by
  intro pins s σ H x xs v us Q I rx rxs h
  obtain ⟨a, ys, y, rfl, rfl, hs, fy, fys, q⟩ := h
  cases rx
  cases rxs with
  | cons ry rt =>
    rename_i uy ut
    cases rt
    obtain ⟨its, rv, ⟨⟨cls, dd, data, sl⟩, n, ho, hc, hdn, hd⟩, hlen⟩ := I.list hs
    simp only at hc hd
    subst hc hd
    refine call_meets PySem.F.slot_list_count ⟨_, ho, rfl⟩ PySem.F.entry_list_count (PySem.F.args_list_count_2 _ _)
      (SeqAt.list_countAt a its.toArray n dd sl uy (eqU y)) ⟨ho, fun u' hu' => mem_eqAt ry fy rv fys u' (by simpa using hu'), ?_⟩
    have ec : its.toArray.toList.countP (eqU y) = ys.countP (fun z => eqV z y) := countU rv fys
    refine ⟨.int (ys.countP (fun z => eqV z y) : Nat), H, I.tok _, ⟨s.toks, ?_⟩, q⟩
    show Value.int ((its.toArray.toList.countP (eqU y) : Nat) : Int) s.toks = Value.int ((ys.countP (fun z => eqV z y) : Nat) : Int) s.toks
    rw [ec]
end L2
namespace DL
open PySem PySem.Spec L2
open PyProof.Rows hiding St
theorem flat_bls (bs : List Bool) : (bs.map V.bl).all flatV = true := by
  rw [List.all_map, List.all_eq_true]
  intro x _
  rfl
/-- count of a truth in a list of truths; its first place -/
def eBl (f : List Bool → Bool → Option Dt) (mo me : Mo Dt) : Mo Dt := bindM mo fun x => match x with
  | .list xs => bindM me fun y ρ => match boolsOf xs, y with
    | some bs, .bool b => ofO (f bs b) ρ
    | _, _ => .no
  | _ => fun _ => .no
def cntB (bs : List Bool) (b : Bool) : Option Dt := some (.int (bs.countP (fun z => eqV (.bl z) (.bl b)) : Nat))
def ixB (bs : List Bool) (b : Bool) : Option Dt := (bs.findIdx? fun z => eqV (.bl z) (.bl b)).map fun j => .int (j : Nat)
section
variable {X : Cx} {c : Cd} {n : Prop} {W : WX} {mo me : Mo Dt} {o e : Expr} {apos pos : Pos}
theorem k_cntB (hK : X.K = c.K) (ho : KE X c n W o mo) (he : KE X c True W e me)
    (h1 : attributeBase o "count" X.env (eval o X.env) = eval o X.env := by rfl)
    (h2 : ((backTo pos (starEach [e] X.env)).all (fun x => !x.1) && (backToKw pos (keywordEach [] X.env)).all (fun x => x.1.isSome) && decide ([e].length + ([] : List Keyword).length + (if ([] : List Keyword).isEmpty then 0 else 1) < 30)) = true := by rfl)
    (h3 : (apos.endLine == pos.line) = true := by rfl) (h4 : starEach [e] X.env = (false, eval e X.env) :: starEach [] X.env := by rfl) (h5 : (backTo pos (starEach [] X.env)).any (·.1) = false := by rfl) :
    KE X c n W (.Call (.Attribute o "count" apos) [e] [] pos) (eBl cntB mo me) :=
  peImp (pe_bm PySem.F.plainAttrs_list PySem.F.slot_list_count PySem.F.type_list_count mt_countV ho (pa_cons he pa_nil h4) h1 h2 h3 h4 h5) fun σ H Q ⟨ρ, F, h, k⟩ => by
    refine ⟨ρ, F, h, ?_⟩
    unfold eBl bindM at k
    cases ha : mo ρ with
    | no => simp only [ha] at k
    | er x ρ1 => simp only [ha] at k ⊢; exact k
    | ok x ρ1 =>
      simp only [ha] at k ⊢
      intro v F1 H1 s1 n1 h1 r1
      cases x with
      | list xs =>
        simp only at k
        cases r1 with
        | @lst a vs _ e1 r1 =>
          refine ⟨.inl ⟨rfl, vs, by rw [hK]; exact SqL.of (h1.sub.lst e1)⟩, ρ1, F1, h1, ?_⟩
          cases hb : me ρ1 with
          | no => simp only [hb] at k
          | er y ρ2 => simp only [hb] at k ⊢; exact k.later s1
          | ok y ρ2 =>
            simp only [hb] at k ⊢
            intro u F2 H2 s2 n2 h2 r2
            have g2 := n2 trivial
            cases hbs : boolsOf xs with
            | none => simp only [hbs] at k
            | some bs =>
              cases y with
              | bool b =>
                simp only [hbs] at k
                unfold ofO at k
                cases hf : cntB bs b with
                | none => simp only [hf] at k
                | some z =>
                  simp only [hf] at k
                  have ex := boolsOf_eq hbs
                  subst ex
                  cases r2
                  rw [r1.bools] at e1
                  have hs2 : SqL X.K H2 a (bs.map V.bl) := SqL.of (h2.sub.lst (s2 _ _ e1))
                  cases hf
                  have ec : (bs.map V.bl).countP (fun z => eqV z (.bl b)) = bs.countP (fun z => eqV (.bl z) (.bl b)) := by rw [List.countP_map]; rfl
                  exact ⟨a, bs.map V.bl, .bl b, rfl, rfl, hs2, rfl, flat_bls bs, by rw [ec]; exact k _ F2 H2 (s1.trans s2) (fun hn => (n1 hn).trans g2) h2 (.int _)⟩
              | _ => simp only [hbs] at k
      | _ => exact k.elim
theorem k_ixB (hK : X.K = c.K) (ho : KE X c n W o mo) (he : KE X c True W e me)
    (h1 : attributeBase o "index" X.env (eval o X.env) = eval o X.env := by rfl)
    (h2 : ((backTo pos (starEach [e] X.env)).all (fun x => !x.1) && (backToKw pos (keywordEach [] X.env)).all (fun x => x.1.isSome) && decide ([e].length + ([] : List Keyword).length + (if ([] : List Keyword).isEmpty then 0 else 1) < 30)) = true := by rfl)
    (h3 : (apos.endLine == pos.line) = true := by rfl) (h4 : starEach [e] X.env = (false, eval e X.env) :: starEach [] X.env := by rfl) (h5 : (backTo pos (starEach [] X.env)).any (·.1) = false := by rfl) :
    KE X c n W (.Call (.Attribute o "index" apos) [e] [] pos) (eBl ixB mo me) :=
  peImp (pe_bm PySem.F.plainAttrs_list PySem.F.slot_list_index PySem.F.type_list_index mt_index ho (pa_cons he pa_nil h4) h1 h2 h3 h4 h5) fun σ H Q ⟨ρ, F, h, k⟩ => by
    refine ⟨ρ, F, h, ?_⟩
    unfold eBl bindM at k
    cases ha : mo ρ with
    | no => simp only [ha] at k
    | er x ρ1 => simp only [ha] at k ⊢; exact k
    | ok x ρ1 =>
      simp only [ha] at k ⊢
      intro v F1 H1 s1 n1 h1 r1
      cases x with
      | list xs =>
        simp only at k
        cases r1 with
        | @lst a vs _ e1 r1 =>
          refine ⟨.inl ⟨rfl, vs, by rw [hK]; exact SqL.of (h1.sub.lst e1)⟩, ρ1, F1, h1, ?_⟩
          cases hb : me ρ1 with
          | no => simp only [hb] at k
          | er y ρ2 => simp only [hb] at k ⊢; exact k.later s1
          | ok y ρ2 =>
            simp only [hb] at k ⊢
            intro u F2 H2 s2 n2 h2 r2
            have g2 := n2 trivial
            cases hbs : boolsOf xs with
            | none => simp only [hbs] at k
            | some bs =>
              cases y with
              | bool b =>
                simp only [hbs] at k
                unfold ofO at k
                cases hf : ixB bs b with
                | none => simp only [hf] at k
                | some z =>
                  simp only [hf] at k
                  have ex := boolsOf_eq hbs
                  subst ex
                  cases r2
                  rw [r1.bools] at e1
                  have hs2 : SqL X.K H2 a (bs.map V.bl) := SqL.of (h2.sub.lst (s2 _ _ e1))
                  unfold ixB at hf
                  cases hj : bs.findIdx? fun z => eqV (.bl z) (.bl b) with
                  | none => rw [hj] at hf; cases hf
                  | some j =>
                    rw [hj] at hf
                    cases hf
                    obtain ⟨hl, q1, q2⟩ := List.findIdx?_eq_some_iff_getElem.mp hj
                    refine ⟨a, bs.map V.bl, .bl b, j, .bl bs[j], rfl, rfl, hs2, rfl, flat_bls bs, by rw [List.getElem?_map, List.getElem?_eq_getElem hl]; rfl, q1, fun m z' hm hz => ?_, k _ F2 H2 (s1.trans s2) (fun hn => (n1 hn).trans g2) h2 (.int _)⟩
                    rw [List.getElem?_map, List.getElem?_eq_getElem (Nat.lt_trans hm hl)] at hz
                    cases hz
                    simpa using q2 m hm
              | _ => simp only [hbs] at k
      | _ => exact k.elim
end
end DL

set_option Elab.async false
set_option linter.all false
set_option maxRecDepth 100000
namespace DL
open PySem PySem.Spec L2
open PyProof.Rows hiding St
theorem roomH_mark {k : Nat} {A : Around} {x : Option Value} (r : Room k A) : L2H.RoomH k (A.mark x) := ⟨r.dp, r.un⟩
theorem roomH_units {k : Nat} {A : Around} (r : L2H.RoomH k A) : A.units + 64 < cLine := by have := r.un; omega
section
variable {X : Cx} {c : Cd} {W : WX} {mb mh : Mo Fl} {x n : Str} {cc : Value} {body suite : List Stmt} {b₀ : Stmt} {np pos pos' : Pos} {ct : Ex → Bool} {i : Nat} {cs : List Str}
theorem s_tryE (hs : X.stack = X.env :: X.outer) (hf : X.env.frame = some X.env.locals) (hN : X.N.Nodup) (hi : X.N[i]? = some n) (hln : X.env.kindOf n = some .local) (hc : Names X x cc) (tk : Takes X W) (hxr : c.xr = XR X.K X.mg cs)
    (hm : ∀ x cls dd F, c.xr x cls dd F → PySem.W.exmOne X.K cls cc = some (ct x))
    (hb : ∀ (W' : WX) (pn : List (Addr × Obj)) (xe : Value → Shared → Prop), Takes (X.tr pn xe) W' → PassesOwn (model X.prog X.w) X.A X.env xe → KSs (X.tr pn xe) c W' body mb)
    (hsu : ∀ (a : Addr) (oe : Obj) (cls : Value) (d : Option Addr) (pn : List (Addr × Obj)) (z : Ex) (F : Hp), Zc cls d oe → (∃ vs, oe.data = .fields vs) → CaughtAt (X.suite a ((a, oe) :: pn)) (inE c a z F) cs a oe cls d → KSs (X.suite a ((a, oe) :: pn)) (inE c a z F) (fun _ _ _ _ => False) (b₀ :: suite) mh) :
    KS X c W (.Try body [.ExceptHandler (some (.Name x np)) (some n) (b₀ :: suite) pos'] [] [] pos) (sTryAs ct i mb mh) :=
  s_tryAs hs hf hN hi hln hc tk hm hb fun a oe cls d pn z F hz hfi hx _ => hsu a oe cls d pn z F hz hfi ⟨List.mem_cons_self, hz, hfi, fun b y hby => ⟨hby.1, by rw [hby.2, ← hxr]; exact hx⟩⟩
end
/-- e.f in an except suite -/
def eFldE (cn f : Str) (i : Nat) : Mo Dt := fun ρ => match ρ[i]? with
  | some (.ex x) => if x.cls = cn then (match x.fs with
    | [(g, d)] => if g = f then .ok d ρ else .no
    | _ => .no) else .no
  | _ => .no
section
variable {X : Cx} {c : Cd} {n : Prop} {W : WX} {cs : List Str} {a C : Addr} {oe : Obj} {cls : Value} {d : Option Addr} {i : Nat} {e : Expr} {pn : List (Addr × Obj)} {cn f : Str} {pos : Pos}
theorem k_fldE (ca : CaughtAt (X.suite a ((a, oe) :: pn)) c cs a oe cls d) (hK : X.K = c.K) (hC : X.mg cn = some (.ref C)) (T : XfC X.K C) (hno : PySem.W.findIn X.K (.ref C) f = some none) (he : PE (X.suite a ((a, oe) :: pn)) e (tVar i))
    (hb : attributeBase e f X.env (eval e X.env) = eval e X.env := by rfl) : KE (X.suite a ((a, oe) :: pn)) c n W (.Attribute e f pos) (eFldE cn f i) :=
  peImp (pe_xf T hno ca.hz ca.hf he hb) fun σ H Q ⟨ρ, F, h, k⟩ => by
    unfold eFldE at k
    cases hr : ρ[i]? with
    | none => simp only [hr] at k
    | some sl =>
      cases sl with
      | ex y =>
        simp only [hr] at k
        by_cases hcn : y.cls = cn
        · rw [if_pos hcn] at k
          obtain ⟨b, e1, e3⟩ := h.sl i _ hr
          obtain ⟨rfl, _, C', q1, q2, q3⟩ := ca.px b y e3
          rw [hcn] at q1
          have q1' : X.mg cn = some (.ref C') := q1
          rw [hC] at q1'
          cases q1'
          rcases q3 with ⟨e5, _⟩ | ⟨g, dt, a', v, e5, e6, e7, e8, _⟩
          · rw [e5] at k; exact k.elim
          · rw [e5] at k
            simp only at k
            by_cases hg : g = f
            · rw [if_pos hg] at k
              subst hg
              exact ⟨.ref b, e1, rfl, q2, a', [(g, v)], v, e6, h.sub.at' _ _ (h.f0 _ _ e7) trivial, by simp [List.lookup], k v F H (Same.refl _) (fun _ => Kept.refl) h (show Rp c.K F v dt from hK ▸ rpMono h.f0 e8)⟩
            · rw [if_neg hg] at k; exact k.elim
        · rw [if_neg hcn] at k; exact k.elim
      | _ => simp only [hr] at k
end
end DL

set_option Elab.async false
set_option linter.all false
set_option maxRecDepth 100000
/-! dict(pairs) -/
namespace DL
open PySem PySem.Spec L2
open PyProof.Rows hiding St
def pairsK : List Dt → Option (List (Key × Dt))
  | [] => some []
  | .tuple [k, v] :: ds => (keyD k).bind fun q => (pairsK ds).map ((q, v) :: ·)
  | _ => none
def mergeD (kvs : List (Key × Dt)) : List (Key × Dt) := kvs.foldl (fun acc kv => putD acc kv.1 kv.2) []
def eDPairs (m : Mo Dt) : Mo (List (Key × Dt)) := bindM m fun x ρ => match x with
  | .list xs => (match pairsK xs with
    | some kvs => .ok (mergeD kvs) ρ
    | none => .no)
  | _ => .no
theorem merge_kv {K : PySem.W.Frag} {F : Hp} : ∀ {more : List (Key × V)} {ms : List (Key × Dt)} {ks : List (Key × V)} {kvs : List (Key × Dt)}, KvAll K F more ms → KvAll K F ks kvs →
    KvAll K F (more.foldl (fun acc kv => putK acc kv.1 kv.2) ks) (ms.foldl (fun acc kv => putD acc kv.1 kv.2) kvs)
  | _, _, _, _, .nil, h => h
  | p :: more, q :: ms, ks, kvs, .cons r t, h => by
    rw [List.foldl_cons, List.foldl_cons]
    refine merge_kv t ?_
    rw [r.1]
    exact h.put q.1 r.2
theorem pairs_vals {K : PySem.W.Frag} {P : Program} {w : World} {cv : Array Value → NestedKey → Option Int} {F H : Hp} (s : Sub K P w cv F H) : ∀ {vs : List V} {ds : List Dt} {kvs : List (Key × Dt)}, RpA K F vs ds → pairsK ds = some kvs →
    ∃ (ps : List Addr) (more : List (Key × V)), vs = ps.map V.ref ∧ Paired (fun p kv => SqT K H p [kV kv.1, kv.2]) ps more ∧ KvAll K F more kvs
  | _, [], _, .nil, h => by cases h; exact ⟨[], [], rfl, .nil, .nil⟩
  | v :: vs, d :: ds, kvs, .cons a t, h => by
    cases d with
    | tuple xs =>
      match xs, h, a with
      | [k, w], h, a =>
        unfold pairsK at h
        cases hk : keyD k with
        | none => rw [hk] at h; cases h
        | some q =>
          rw [hk] at h
          cases hp : pairsK ds with
          | none => rw [hp] at h; cases h
          | some rest =>
            rw [hp] at h
            cases h
            obtain ⟨ps, more, rfl, p2, p3⟩ := pairs_vals s t hp
            cases a with
            | @tup b ys _ e r =>
              cases r with
              | cons r1 r2 =>
                cases r2 with
                | cons r2 r3 =>
                  cases r3
                  rename_i v1 v2
                  have ek := key_rp r1 hk
                  subst ek
                  exact ⟨b :: ps, (q, v2) :: more, rfl, .cons (s.sqT e) p2, .cons ⟨rfl, r2⟩ p3⟩
      | [], h, _ => cases h
      | [_], h, _ => cases h
      | _ :: _ :: _ :: _, h, _ => cases h
    | _ => cases h
section
variable {X : Cx} {c : Cd} {n : Prop} {W : WX} {m : Mo Dt} {e : Expr} {p pos : Pos}
theorem kd_pairs (hc : X.calm = true) (hK : X.K = c.K) (hg : Gl X "dict") (hm : X.mg "dict" = none) (he : KE X c n W e m) (h4 : starEach [e] X.env = (false, eval e X.env) :: starEach [] X.env := by rfl) (hpl : (backTo pos (starEach [] X.env)).any (·.1) = false := by rfl) :
    KD X c n W (.Call (.Name "dict" p) [e] [] pos) (eDPairs m) :=
  peImp (pe_callTy (call_dictP hc) hg hm (by decide +kernel) (pa_cons he pa_nil h4) (by decide) (by decide) h4 hpl) fun σ H Q ⟨ρ, F, h, k⟩ => by
    refine ⟨ρ, F, h, ?_⟩
    unfold eDPairs bindM at k
    cases hx : m ρ with
    | no => simp only [hx] at k
    | er x ρ1 => simp only [hx] at k ⊢; exact k
    | ok x ρ1 =>
      simp only [hx] at k ⊢
      intro v F1 H1 s1 n1 h1 r1
      cases x with
      | list xs =>
        simp only at k
        cases hp : pairsK xs with
        | none => simp only [hp] at k
        | some kvs =>
          simp only [hp] at k
          cases r1 with
          | @lst a vs _ e1 r1 =>
            obtain ⟨ps, more, rfl, p2, p3⟩ := pairs_vals h1.sub r1 hp
            refine ⟨a, ps, more, rfl, by rw [hK]; exact SqL.of (h1.sub.lst e1), by rw [hK]; exact p2, fun q hq => ?_⟩
            exact k q (mergeK [] more) F1 _ s1 (fun hn => ⟨(n1 hn).trans (Kept.allocN hq), (n1 hn).sH.free hq⟩) (h1.allocN hq) (h1.fp hq) (h1.h0 hq) (h1.free hq) upd_same (merge_kv p3 .nil)
      | _ => exact k.elim
end
end DL

set_option Elab.async false
set_option linter.all false
set_option maxRecDepth 100000
/-! try: y = d[k] except KeyError: raise X(..) from None -/
namespace L2
open PySem PySem.Spec PyProof.Rows
section
variable {X : Cx} {W : WX} {o i : Expr} {td ty : TE} {pos : Pos}
theorem pe_dgetXN (hc : X.calm = true) (hu : X.A.units + 1 < cLine) (tk : L2N.Takes X W) (ho : PE X o td) (hi : PE X i ty) (hs : NoSl i) : PE X (.Subscript o i pos) (tDGetX W td ty) := by
  refine ⟨fun pins s σ H Q I h => ?_⟩
  refine subD_of PySem.F.slot_dict_getitem.lookup hs (thn (ho.run pins s σ H _ I h) fun u s1 ⟨x, H1, I1, rx, q1⟩ => thn (hi.run pins s1 σ H1 _ I1 q1) fun iv s2 ⟨y, H2, I2, ry, a, ov, ex, g, qs, qn⟩ => ?_)
  subst ex
  obtain rfl : u = Value.ref a := rx
  refine ⟨dict_typeIs I2 g, ?_⟩
  cases ov with
  | some v => exact d_getItem hu I2 g ry fun w' s3 I3 rw' => ⟨v, H2, I3, rw', qs v rfl⟩
  | none => exact d_missing hu (I2.ok.hd hc) I2 g ry fun h' e t' ne => L2N.takes_newN (t' := t') tk I2 ne (qn rfl)
end
section
variable {X : Cx} {C : Addr} {bmB : List Value} {B newId initId : String}
theorem pmk5_own {x m : Str} {j : Nat} {p p2 pos : Pos} (F : ExcBaseFacts B newId initId bmB) (q : PySem.W.excIn X.K C bmB newId = true) (gC : X.mg x = some (.ref C)) (kC : PySem.W.keepIn X.K (.ref C) = true) (r : Raises X (.ref C)) (hg : Gl X x)
    (hdb : (x == ("__debug__" : Str)) = false := by decide) : L2H.PMk5 X (.Call (.Name x p) [.Constant (.str m) j p2] [] pos) (fun _ H Q => Q (.ref C) none H) := by
  intro pins s σ H Q I h
  refine wpAny_Call_Name_kw (ld_glob I hg gC ?_ hdb)
  have ha : PA X [.Constant (.str m) j p2] (tCons (tC (.str m)) tNil) := pa_cons pe_str pa_nil
  refine PySem.W.callWith_K (h₀ := X.base) I.ok.mod.kin kC (thn (ha.run pos pins s σ H (fun vs H1 => vs = [V.str m] ∧ H = H1) I ⟨rfl, rfl⟩) fun us s1 hh => ?_)
  obtain ⟨vs, H1, I1, r1, ev, eH⟩ := hh
  subst ev
  rw [← eH] at I1
  refine ⟨I1.kIn, ?_⟩
  cases r1 with
  | cons ru rn =>
    rename_i u us'
    cases rn
    show wpAny _ _ (call (.ref C) [u]) _ _ _
    obtain ⟨bm, N, nm, qn, bs, hdct, sn, sub, ab, col, dd, k0, k1, k2, k3, k5, mN, hC, hN, hni, T⟩ := exc_obj I1.kIn q
    refine wpAny_call_exc_subT F T hC hN hni (fun h' e hm => ?_) (by show 1 ≤ sizeLine; rw [sizeLine_eq]; omega)
    exact L2H.mk_of5 I1 hm r h (I1.hok.gone hm.new)
end
end L2
namespace DL
open PySem PySem.Spec L2
open PyProof.Rows hiding St
def sTryKey (yi di ki : Nat) (cn : Str) : Mo Fl := fun ρ => match ρ[di]?, ρ[ki]? with
  | some (.md kvs), some (.va k) => (match keyD k with
    | some q => (match valD kvs q with
      | some d => .ok .nx (ρ.set yi (.va d))
      | none => .er ⟨cn, []⟩ ρ)
    | none => .no)
  | _, _ => .no
section
variable {X : Cx} {c : Cd} {W : WX} {cs : List Str} {y dn kn x m : Str} {yi di ki j j2 : Nat} {C : Addr} {p p2 p3 p4 p5 p6 p7 np cp cp2 rp pos pos' : Pos}
theorem s_tryKey (hs : X.stack = X.env :: X.outer) (hf : X.env.frame = some X.env.locals) (hcalm : X.calm = true) (hu : X.A.units + 64 < cLine) (hN : X.N.Nodup) (hy : X.N[yi]? = some y) (hyl : Loc X.env.scope y) (hyf : X.fn y = true ∨ X.env.scope.names.lookup y = some .local)
    (hd' : X.N[di]? = some dn) (hdv : Vis X.env.scope dn) (hk' : X.N[ki]? = some kn) (hkv : Vis X.env.scope kn)
    (hKE : Names X "KeyError" (.type "KeyError")) (hpa : ∀ hd : Option Value, PassesOwnAt (model X.prog X.w) (X.A.mark hd) X.A X.env X.xe) (tk : L2.Takes X W) (hxr : c.xr = XR X.K X.mg cs) (T : Exc0 X.K X.mg x C) (hx : x ∈ cs) (hg : Gl X x)
    (hw : swapsWith (.Subscript (.Name dn p5) (.Name kn p6) p7) (some (.Name y p3)) p4.line X.env = pure false)
    (q1 : (dn == ("__debug__" : Str)) = false := by decide) (q2 : (dn == ("__classdict__" : Str)) = false := by decide) (q3 : (kn == ("__debug__" : Str)) = false := by decide) (q4 : (kn == ("__classdict__" : Str)) = false := by decide) (q5 : (x == ("__debug__" : Str)) = false := by decide) :
    KS X c W (.Try [.Assign [.Name y p3] (.Subscript (.Name dn p5) (.Name kn p6) p7) p4] [.ExceptHandler (some (.Name "KeyError" np)) none [.Raise (some (.Call (.Name x p) [.Constant (.str m) j p2] [] cp)) (some (.Constant .none j2 cp2)) rp] pos'] [] [] pos) (sTryKey yi di ki x) :=
  psImp (L2H.ps_try_onlyX (tb := fun W' => tAsg (tDGetX W' (tVar di) (tVar ki)) (gName yi)) (ts := fun _ _ _ _ σ H => W (.ref C) none σ H) hs hf hKE hpa tk
    (fun W' pn xe tkN _ _ => pss_one (ps_set (X := X.tr pn xe) hN hy hyl (pe_dgetXN (X := X.tr pn xe) hcalm (by show X.A.units + 1 < cLine; omega) tkN (pe_var (X := X.tr pn xe) hd' hdv q1 q2) (pe_var (X := X.tr pn xe) hk' hkv q3 q4) (fun _ _ => rfl)) hw hyf))
    (fun a oe cls d pn hz hfi tkS hot => pss_one (L2H.ps_raiseHN hot tkS (pmk5_own (X := L2H.suiteX X a ((a, oe) :: pn)) PySem.F.excBase_ValueError T.xP T.gP T.kP (raises_own T.bP T.tP) hg q5)))) fun D σ H ⟨ρ, F, h, q⟩ => by
    unfold sTryKey at q
    cases hr : ρ[di]? with
    | none => rw [hr] at q; exact q.elim
    | some sl =>
      cases sl with
      | md kvs =>
        cases hr2 : ρ[ki]? with
        | none => rw [hr, hr2] at q; exact q.elim
        | some sl2 =>
          cases sl2 with
          | va k =>
            rw [hr, hr2] at q
            simp only at q
            obtain ⟨pd, ks, e1, e2, e3, e4, e5⟩ := h.sl di _ hr
            obtain ⟨v, e6, e7⟩ := h.sl ki _ hr2
            cases hkd : keyD k with
            | none => rw [hkd] at q; exact q.elim
            | some kq =>
              rw [hkd] at q
              simp only at q
              have ev := key_rp e7 hkd
              subst ev
              refine ⟨_, e1, _, e6, pd, ?_⟩
              rcases e5.val kq with ⟨z1, z2⟩ | ⟨v, d', z1, z2, z3⟩
              · rw [z2] at q
                exact ⟨none, rfl, z1 ▸ DGet.k e4, (fun v hv => by cases hv), fun _ d => ⟨true, exm_KE, (fun _ a ha => q _ none σ F H (Same.refl _) h (by rw [hxr]; exact ⟨hx, C, T.gP, rfl, .inl ⟨rfl, rfl⟩⟩)), fun hb => by cases hb⟩⟩
              · rw [z2] at q
                exact ⟨some v, rfl, z1 ▸ DGet.k e4, (fun v' hv => by cases hv; exact q _ F H (Same.refl _) (h.setva z3)), fun hn => by cases hn⟩
          | _ => rw [hr, hr2] at q; exact q.elim
      | _ => rw [hr] at q; cases hr2 : ρ[ki]? <;> rw [hr2] at q <;> exact q.elim
end
end DL

set_option Elab.async false
set_option linter.all false
set_option maxRecDepth 100000
/-! o.replace("a", "b") within a display whose first item has given out a token -/
namespace DL
open PySem PySem.Spec L2
open PyProof.Rows hiding St
/-- behind it a token is out -/
def PEg (X : Cx) (e : Expr) (t : TE) : Prop := ∀ (pins : List (Addr × Obj)) (s : Shared) (σ : St) (H : Hp) (Q : VK), Inv X pins σ H s → t σ H Q → wpAny (model X.prog X.w) X.A (eval e X.env) (fun v s1 => 1 ≤ s1.toks ∧ EP X pins σ Q v s1) X.xe s
section
variable {X : Cx} {c : Cd} {n : Prop} {W : WX} {a o e : Expr} {es : List Expr} {ma m : Mo Dt} {ms : Mo (List Dt)} {y z : Str} {j k : Nat} {c0 c1 cp pos apos : Pos} {te ta tb : TE} {r : R2} {t t' : TA} {op : Operator}
theorem peg_op (ho : OpR X (binaryOp op) r) (ha : PE X a ta) (hb : ∀ σ H Q, tb σ H Q → Q (.str y) H) : PEg X (.BinOp a op (.Constant (.str y) j cp) pos) (tOp r ta tb) := by
  intro pins s σ H Q I h
  refine wpAny_BinOp (thn (ha.run pins s σ H _ I h) fun v s1 ⟨x, H1, I1, r1, q1⟩ => Calls.Constant_str ?_)
  exact wpAny_mono (PySem.wpAny_toks_of (n := 1) (by show 1 ≤ s1.toks + 1; omega) (ho pins { s1 with toks := s1.toks + 1 } σ H1 x (.str y) v (.str y s1.toks) Q (I1.tok _) r1 ⟨_, rfl⟩ (hb _ _ _ q1))) (fun _ _ z => z) (fun _ _ z => z.2)
theorem pa_tok (ha : PEg X e te) (hr : PAT X es t) (hs : starEach (e :: es) X.env = (false, eval e X.env) :: starEach es X.env := by rfl) : PA X (e :: es) (tCons te t) := by
  refine ⟨fun pos pins s σ H Q I h => ?_⟩
  rw [hs]
  show wpAny _ _ (spliced ((false, eval e X.env) :: backTo pos (starEach es X.env))) _ _ s
  refine Calls.spliced_cons (thn (ha pins s σ H _ I h) fun v s1 q => ?_)
  obtain ⟨hk, x, H1, I1, r1, q1⟩ := q
  exact thn (hr pos pins s1 σ H1 _ hk I1 q1) fun us s2 ⟨xs, H2, I2, r2, q2⟩ => ⟨x :: xs, H2, I2, .cons r1 r2, q2⟩
theorem cons_lift {σ : St} {H : Hp} {Q : List V → Hp → Prop} (h : liftA c n W (eCons m ms) σ H Q) : tCons (lift RE c n W m) (liftA c n W ms) σ H Q := by
  obtain ⟨ρ, F, h, k⟩ := h
  refine ⟨ρ, F, h, ?_⟩
  unfold eCons bindM at k
  cases hm : m ρ with
  | no => simp only [hm] at k
  | er x ρ1 => simp only [hm] at k ⊢; exact k
  | ok x ρ1 =>
    simp only [hm] at k ⊢
    intro v F1 H1 s1 n1 h1 r1
    refine ⟨ρ1, F1, h1, ?_⟩
    cases hb : ms ρ1 with
    | no => simp only [hb] at k
    | er x ρ1 => simp only [hb] at k ⊢; exact k.later s1
    | ok xs ρ2 =>
      simp only [hb] at k ⊢
      intro vs F2 H2 s2 n2 h2 r2
      exact k (v :: vs) F2 H2 (s1.trans s2) (fun hn => (n1 hn).trans (n2 hn)) h2 (.cons (rpMono s2 r1) r2)
theorem patImp (h : PAT X es t) (k : ∀ σ H Q, t' σ H Q → t σ H Q) : PAT X es t' := fun pos pins s σ H Q h0 I q => h pos pins s σ H Q h0 I (k _ _ _ q)
theorem a_tok (ha : PEg X e (lift RE c n W m)) (hr : PAT X es (liftA c n W ms)) (hs : starEach (e :: es) X.env = (false, eval e X.env) :: starEach es X.env := by rfl) : KA X c n W (e :: es) (eCons m ms) :=
  paImp (pa_tok ha hr hs) fun σ H Q q => cons_lift q
theorem at_cons (ha : PET X e (lift RE c n W m)) (hr : PAT X es (liftA c n W ms)) (hs : starEach (e :: es) X.env = (false, eval e X.env) :: starEach es X.env := by rfl) : PAT X (e :: es) (liftA c n W (eCons m ms)) :=
  patImp (pat_cons ha hr hs) fun σ H Q q => cons_lift q
theorem at_nil : PAT X [] (liftA c n W eNil) := patImp pat_nil fun σ H Q ⟨ρ, F, h, k⟩ => k [] F H (Same.refl _) (fun _ => Kept.refl) h .nil
theorem kg_add (ha : KP X c n W a ma) : PEg X (.BinOp a .Add (.Constant (.str y) j cp) pos) (lift RE c n W (eOp addD ma (eC (.str y)))) := fun pins s σ H Q I q =>
  peg_op (op_add.or (op_add_str.or op_cat)) ha (tb := lift RP c True W (eC (.str y))) (fun σ H Q ⟨ρ, F, h, k⟩ => k _ F H (Same.refl _) (fun _ => Kept.refl) h (.inl (.str y))) pins s σ H Q I (op_lift sem_add q)
/-- o.replace(y, z) of two written texts -/
def eReplC (y z : Str) (m : Mo Dt) : Mo Dt := bindM m fun x ρ => match x with
  | .str s => if s.length + (s.length + 1) * z.length ≤ 16777216 then .ok (.str (Txt.replace s y z)) ρ else .no
  | _ => .no
theorem ket_repl (ho : KE X c n W o m) (hyz : (y == z) = false := by decide)
    (hst : starEach [.Constant (.str y) j c0, .Constant (.str z) k c1] X.env = [(false, eval (.Constant (.str y) j c0) X.env), (false, eval (.Constant (.str z) k c1) X.env)] := by rfl)
    (hbase : attributeBase o "replace" X.env (eval o X.env) = eval o X.env := by rfl) (hline : (apos.endLine == pos.line) = true := by rfl) :
    PET X (.Call (.Attribute o "replace" apos) [.Constant (.str y) j c0, .Constant (.str z) k c1] [] pos) (lift RE c n W (eReplC y z m)) := fun pins s σ H Q h0 I q =>
  CwR.pet_replC ho hyz hst hbase hline pins s σ H Q h0 I (by
    obtain ⟨ρ, F, h, k⟩ := q
    refine ⟨ρ, F, h, ?_⟩
    unfold eReplC bindM at k
    cases hm : m ρ with
    | no => simp only [hm] at k
    | er x ρ1 => simp only [hm] at k ⊢; exact k
    | ok x ρ1 =>
      simp only [hm] at k ⊢
      intro v F1 H1 s1 n1 h1 r1
      cases x with
      | str s =>
        cases r1
        simp only at k
        by_cases hz : s.length + (s.length + 1) * z.length ≤ 16777216
        · rw [if_pos hz] at k
          exact ⟨s, rfl, hz, k _ F1 H1 s1 n1 h1 (.str _)⟩
        · rw [if_neg hz] at k; exact k.elim
      | _ => simp only at k)
/-- a if t else b, each a fresh list or frozen -/
def eIfV (t : Mo Bool) (ma mb : Mo Vl) : Mo Vl := bindM t fun b => if b = true then ma else mb
theorem kv_if {b t : Expr} {m1 : Mo Bool} {va vb : Mo Vl} (ht : KT X c n W t m1) (ha : KV X c n W a va) (hb : KV X c n W b vb) : KV X c n W (.IfExp t a b pos) (eIfV m1 va vb) := peImp (pe_ifExp ht ha hb) fun σ H Q ⟨ρ, F, h, k⟩ => by
  refine ⟨ρ, F, h, ?_⟩
  unfold eIfV bindM at k
  cases hm : m1 ρ with
  | no => simp only [hm] at k
  | er x ρ1 => simp only [hm] at k ⊢; exact k
  | ok b ρ1 =>
    simp only [hm] at k ⊢
    intro F1 H1 s1 n1 h1
    have go : ∀ mv : Mo Vl, (match mv ρ1 with
        | .ok (.z d) ρ' => ∀ v F' H', Same F F' → (n → Kept ρ F H ρ' F' H') → Holds c ρ' F' σ H' → Rp c.K F' v d → Q v H'
        | .ok (.f ds) ρ' => ∀ p vs F' H', Same F F' → (n → Kept ρ F H ρ' F' H' ∧ H p = none) → Holds c ρ' F' σ H' → F' p = none → c.H0 p = none → Free ρ' σ p → H' p = some (.lst vs) → RpA c.K F' vs ds → Q (.ref p) H'
        | .er x ρ' => Lx c W x ρ' F σ
        | .no => False) → liftV c n W mv σ H1 Q := by
      intro mv k
      refine ⟨ρ1, F1, h1, ?_⟩
      cases hb : mv ρ1 with
      | no => simp only [hb] at k
      | er x ρ1 => simp only [hb] at k ⊢; exact k.later s1
      | ok y ρ2 =>
        cases y with
        | z d =>
          simp only [hb] at k ⊢
          exact fun v2 F2 H2 s2 n2 h2 r2 => k v2 F2 H2 (s1.trans s2) (fun hn => (n1 hn).trans (n2 hn)) h2 r2
        | f ds =>
          simp only [hb] at k ⊢
          exact fun p vs F2 H2 s2 n2 h2 z1 z2 z3 z4 z5 => k p vs F2 H2 (s1.trans s2) (fun hn => ⟨(n1 hn).trans (n2 hn).1, (n1 hn).sH.free (n2 hn).2⟩) h2 z1 z2 z3 z4 z5
    cases b with
    | true => simp only [if_true] at k ⊢; exact go va k
    | false => simp only [Bool.false_eq_true, if_false] at k ⊢; exact go vb k
end
end DL

set_option Elab.async false
set_option linter.all false
set_option maxRecDepth 100000
/-! a form's index; xs.insert(i, x) -/
namespace L2
open PySem PySem.Spec PyProof.Rows
section
variable {X : Cx} {o e : Expr} {to te : TE} {apos pos : Pos}
theorem tupK_is {pins : List (Addr × Obj)} {σ : St} {H : Hp} {s : Shared} {p : Addr} {xs : List V} (I : Inv X pins σ H s) (h : DL.TupK X.K H p xs) : s.TypeIs (.ref p) "tuple" ∧ ∃ ob, s.heap.get? p = some ob ∧ ob.dict = none := by
  rcases h with ⟨o, z1, z2, e⟩ | ⟨_, o, e, z2, z1⟩
  · have q : ObjOk X.prog X.w H s.heap p (.frz o (.tup xs)) := I.hok p _ e
    exact ⟨⟨o, q.1, z2⟩, o, q.1, z1⟩
  · exact ⟨⟨o, I.kIn p o e, z2⟩, o, I.kIn p o e, z1⟩
theorem intsAre : ∀ {ns : List Int} {us : List Value}, Vals (ns.map V.int) us → PyProof.Rows.IntsAre us ns
  | [], _, r => by cases r; exact .nil
  | n :: ns, _, r => by
    cases r with
    | cons a t => obtain ⟨k, rfl⟩ := a; exact .cons n k (intsAre t)
def tFix (K : PySem.W.Frag) (to te : TE) : TE := fun σ H Q => to σ H fun x H1 => ∃ (p : Addr) (ns : List Int), x = .ref p ∧ DL.TupK K H1 p (ns.map V.int) ∧ te σ H1 fun y H2 => ∃ k, y = .int k ∧ DL.TupK K H2 p (ns.map V.int) ∧ k ∈ ns ∧ Q (.int (ns.idxOf k : Nat)) H2
theorem pe_fix (ho : PE X o to) (he : PE X e te)
    (hs : starEach [e] X.env = [(false, eval e X.env)] := by rfl) (hbase : attributeBase o "index" X.env (eval o X.env) = eval o X.env := by rfl) (hline : (apos.endLine == pos.line) = true := by rfl) :
    PE X (.Call (.Attribute o "index" apos) [e] [] pos) (tFix X.K to te) := by
  refine ⟨fun pins s σ H Q I h => ?_⟩
  refine PySem.Call_method1 hbase hs hline (thn (ho.run pins s σ H _ I h) fun v s1 ⟨x, H1, I1, r1, p, ns, ex, tk, q1⟩ => ?_)
  subst ex
  cases r1
  obtain ⟨h1, ob, h2, h3⟩ := tupK_is I1 tk
  refine ⟨"tuple", "tuple.index", PySem.F.plainAttrs_tuple, PySem.F.slot_tuple_index, PySem.F.type_tuple_index, h1, (fun a ea => by cases ea; exact ⟨ob, h2, h3⟩), Calls.callWith_builtin rfl (Calls.evalArgs_plain (Calls.spliced_cons ?_))⟩
  refine thn (he.run pins s1 σ H1 _ I1 q1) fun u s2 ⟨y, H2, I2, r2, k, ey, tk2, hk, q2⟩ => Calls.spliced_nil ?_
  subst ey
  obtain ⟨t, rfl⟩ := r2
  obtain ⟨its, rv, pl, hz⟩ := I2.tuple tk2.sq
  exact PySem.SeqAt.tuple_index_ints pl (intsAre rv) hk ⟨.int (ns.idxOf k : Nat), H2, I2.tok _, ⟨_, rfl⟩, q2⟩
end
end L2
namespace DL
open PySem PySem.Spec L2
open PyProof.Rows hiding St
/-- form.index(k) -/
def fixD (a b c d e : Int) : Dt → Option Dt
  | .int k => if k ∈ [a, b, c, d, e] then some (.int ([a, b, c, d, e].idxOf k : Nat)) else none
  | _ => none
def frm5 : Dt → Option (Int × Int × Int × Int × Int)
  | .dict [(.bool true, .tuple [.int a, .int b, .int c, .int d, .int e])] => some (a, b, c, d, e)
  | _ => none
theorem frm5_some {x : Dt} {q : Int × Int × Int × Int × Int} (h : frm5 x = some q) : x = fmD q.1 q.2.1 q.2.2.1 q.2.2.2.1 q.2.2.2.2 := by
  unfold frm5 at h
  split at h
  · cases h; rfl
  · cases h
def eFix (mo me : Mo Dt) : Mo Dt := bindM mo fun x => match frm5 x with
  | some (a, b, c, d, e) => bindM me fun y => ofO (fixD a b c d e y)
  | none => fun _ => .no
section
variable {X : Cx} {c : Cd} {n : Prop} {W : WX} {o e : Expr} {mo me mk : Mo Dt} {apos pos : Pos}
theorem TupK.up {K : PySem.W.Frag} {P : Program} {w : World} {cv : Array Value → NestedKey → Option Int} {F H : Hp} {a : Addr} {xs : List V} (s : Sub K P w cv F H) (h : TupK K F a xs) : TupK K H a xs := by
  rcases h with ⟨o, z1, z2, e⟩ | h
  · exact .inl ⟨o, z1, z2, s.at' _ _ e trivial⟩
  · exact .inr h
theorem k_fix (hK : X.K = c.K) (ho : KE X c n W o mo) (he : KE X c n W e me)
    (hs : starEach [e] X.env = [(false, eval e X.env)] := by rfl) (hbase : attributeBase o "index" X.env (eval o X.env) = eval o X.env := by rfl) (hline : (apos.endLine == pos.line) = true := by rfl) :
    KE X c n W (.Call (.Attribute o "index" apos) [e] [] pos) (eFix mo me) := peImp (pe_fix ho he hs hbase hline) fun σ H Q ⟨ρ, F, h, k⟩ => by
  refine ⟨ρ, F, h, ?_⟩
  unfold eFix bindM at k
  cases ha : mo ρ with
  | no => simp only [ha] at k
  | er x ρ1 => simp only [ha] at k ⊢; exact k
  | ok x ρ1 =>
    simp only [ha] at k ⊢
    intro v F1 H1 s1 n1 h1 r1
    cases hx : frm5 x with
    | none => simp only [hx] at k
    | some q5 =>
      obtain ⟨a, b, cc, d, e'⟩ := q5
      have ex := frm5_some hx
      subst ex
      simp only [hx] at k
      obtain ⟨p, vs, rfl, tk, rr, a', b', c', d', e2, q1, q2⟩ := RP.frm (H := H1) (.inl r1)
      cases q1
      subst q2
      refine ⟨p, [a, b, cc, d, e'], rfl, hK ▸ tk.up h1.sub, ρ1, F1, h1, ?_⟩
      cases hb : me ρ1 with
      | no => simp only [hb] at k
      | er y ρ2 => simp only [hb] at k ⊢; exact k.later s1
      | ok y ρ2 =>
        simp only [hb] at k ⊢
        intro u F2 H2 s2 n2 h2 r2
        unfold ofO at k
        cases hf : fixD a b cc d e' y with
        | none => simp only [hf] at k
        | some z =>
          simp only [hf] at k
          unfold fixD at hf
          split at hf
          · split at hf
            · rename_i kk hk
              cases hf
              cases r2
              exact ⟨kk, rfl, hK ▸ (tupkMono s2 tk).up h2.sub, hk, k _ F2 H2 (s1.trans s2) (fun hn => (n1 hn).trans (n2 hn)) h2 (.int _)⟩
            · cases hf
          · cases hf
/-- xs.insert(i, x) of an own list -/
def sInsert (i : Nat) (mk me : Mo Dt) : Mo Fl := fun ρ => match ρ[i]? with
  | some (.ml _) => bindM mk (fun k => bindM me fun d ρ1 => match k, ρ1[i]? with
    | .int z, some (.ml ds) => if ds.length < sizeLine ∧ 0 ≤ z ∧ z < 2 ^ 63 then .ok .nx (ρ1.set i (.ml (ds.take z.toNat ++ [d] ++ ds.drop z.toNat))) else .no
    | _, _ => .no) ρ
  | _ => .no
theorem s_insert {i : Nat} {e1 e2 : Expr} (ho : PE X o (tVar i)) (ha : KA X c n W [e1, e2] (eCons mk (eCons me eNil))) (hs : swapsWith (.Call (.Attribute o "insert" apos) [e1, e2] [] cpos) none pos.line X.env = pure false := by rfl)
    (h1 : attributeBase o "insert" X.env (eval o X.env) = eval o X.env := by rfl) (h3 : (apos.endLine == cpos.line) = true := by rfl)
    (h4 : starEach (e1 :: [e2]) X.env = (false, eval e1 X.env) :: starEach [e2] X.env := by rfl) (h2 : (((((backTo cpos (starEach (e1 :: [e2]) X.env)).all fun x => !x.fst) && (backToKw cpos (keywordEach [] X.env)).all fun x => x.fst.isSome) && decide (((e1 :: [e2]).length + ([] : List Keyword).length + if ([] : List Keyword).isEmpty = true then 0 else 1) < 30)) = true) := by rfl)
    (h5 : ((backTo cpos (starEach [e2] X.env)).any fun x => x.fst) = false := by rfl) : KS X c W (.Expr (.Call (.Attribute o "insert" apos) [e1, e2] [] cpos) pos) (sInsert i mk me) :=
  psImp (ps_expr (pe_bm PySem.F.plainAttrs_list PySem.F.slot_list_insert PySem.F.type_list_insert mt_insert ho ha h1 h2 h3 h4 h5) hs) fun D σ H ⟨ρ, F, h, q⟩ => by
    unfold sInsert bindM at q
    cases hr : ρ[i]? with
    | none => rw [hr] at q; exact q.elim
    | some s =>
      rw [hr] at q
      cases s with
      | ml ds0 =>
        obtain ⟨a, vs0, e1, e2, e3, e4, e5⟩ := h.sl i _ hr
        refine ⟨_, e1, .inl ⟨rfl, vs0, SqL.of e4⟩, ρ, F, h, ?_⟩
        unfold eCons eNil bindM
        cases hm : mk ρ with
        | no => simp only [hm] at q; exact q.elim
        | er x ρ1 => simp only [hm] at q ⊢; exact LxS.lx q
        | ok k ρ0 =>
          simp only [hm] at q ⊢
          cases hm2 : me ρ0 with
          | no => simp only [hm2] at q; exact q.elim
          | er x ρ1 => simp only [hm2] at q ⊢; exact LxS.lx q
          | ok d ρ1 =>
            simp only [hm2] at q ⊢
            intro vs F1 H1 s1 _ h1 r1
            cases r1 with
            | cons rk rt =>
              cases rt with
              | cons rd rn =>
                cases rn
                cases k with
                | int z =>
                  cases rk
                  cases hr1 : ρ1[i]? with
                  | none => simp only [hr1] at q; exact q.elim
                  | some s1' =>
                    cases s1' with
                    | ml ds =>
                      simp only [hr1] at q
                      obtain ⟨a', vs, e1', e2', e3', e4', e5'⟩ := h1.sl i _ hr1
                      rw [e1] at e1'
                      cases e1'
                      by_cases hz : ds.length < sizeLine ∧ 0 ≤ z ∧ z < 2 ^ 63
                      · rw [if_pos hz] at q
                        refine ⟨a, vs, z, _, rfl, rfl, e4', by rw [e5'.len]; exact hz.1, hz.2.1, hz.2.2, ?_⟩
                        exact q σ F1 _ s1 (h1.write (i := i) hr1 rfl (s' := .ml (ds.take z.toNat ++ [d] ++ ds.drop z.toNat)) rfl e1 ⟨a, _, rfl, e2', e3', upd_same, ((e5'.take _).app (.cons rd .nil)).app (e5'.drop _)⟩)
                      · rw [if_neg hz] at q; exact q.elim
                    | _ => simp only [hr1] at q; exact q.elim
                | _ => simp only at q; exact q.elim
      | _ => exact q.elim
end
end DL
namespace L2
open PySem PySem.Spec PyProof.Rows
theorem op_mulS01 {X : Cx} : OpR X (binaryOp .Mult) (fun x y H Q => ∃ (z : Str) (n : Int), x = .str z ∧ y = .int n ∧ ((n = 0 ∧ Q (.str Str.empty) H) ∨ (n = 1 ∧ Q (.str z) H))) := by
  intro pins s σ H x y v u Q I rx ry h
  obtain ⟨z, n, rfl, rfl, h⟩ := h
  obtain ⟨t, rfl⟩ := rx
  obtain ⟨t', rfl⟩ := ry
  rcases h with ⟨rfl, q⟩ | ⟨rfl, q⟩
  · refine SB.mul ⟨by decide, fun h => absurd (by decide) h, fun h => absurd (by decide) h⟩ fun t' k => ⟨.str Str.empty, H, I.tok _, ⟨t', ?_⟩, q⟩
    unfold Txt.mul
    rw [if_pos (by decide)]
  · refine SB.mul ⟨by decide, fun _ h => by simp at h, fun _ h => by simp at h⟩ fun t' k => ⟨.str z, H, I.tok _, ⟨t', ?_⟩, q⟩
    unfold Txt.mul
    rw [if_neg (by decide), if_pos (by simp)]
end L2
namespace DL
open PySem PySem.Spec L2
open PyProof.Rows hiding St
def mulSD : Dt → Dt → Option Dt
  | .str z, .int n => if n = 0 then some (.str Str.empty) else if n = 1 then some (.str z) else none
  | _, _ => none
def addSD : Dt → Dt → Option Dt
  | .str i, .str j => if i.length + j.length ≤ sizeLine then some (.str (i ++ j)) else none
  | _, _ => none
section
variable {X : Cx} {c : Cd} {n : Prop} {W : WX} {a b : Expr} {ma mb : Mo Dt} {pos : Pos}
theorem sem_mulS : SemOp c (fun x y H Q => ∃ (z : Str) (n : Int), x = .str z ∧ y = .int n ∧ ((n = 0 ∧ Q (.str Str.empty) H) ∨ (n = 1 ∧ Q (.str z) H))) mulSD := by
  intro ρ F σ H v u x y z Q hh rx ry hf q
  unfold mulSD at hf
  split at hf
  · rename_i s k
    split at hf
    · rename_i h0; cases hf; exact ⟨s, k, rx.str, ry.int, .inl ⟨h0, flat hh q (.str _)⟩⟩
    · split at hf
      · rename_i h1; cases hf; exact ⟨s, k, rx.str, ry.int, .inr ⟨h1, flat hh q (.str _)⟩⟩
      · cases hf
  · cases hf
theorem k_mulS (ha : KP X c n W a ma) (hb : KP X c True W b mb) : KE X c n W (.BinOp a .Mult b pos) (eOp mulSD ma mb) := k_bin op_mulS01 sem_mulS ha hb
theorem ip_addS : PIp X .Add (fun x y H Q => ∃ i j, x = .str i ∧ y = .str j ∧ i.length + j.length ≤ sizeLine ∧ Q (.str (i ++ j)) H) := fun pins s σ H x y v u Q I rx ry h => iop_add_str pins s σ H x y v u Q I rx ry h
theorem sem_ipAddS : SemIp c (fun x y H Q => ∃ i j, x = .str i ∧ y = .str j ∧ i.length + j.length ≤ sizeLine ∧ Q (.str (i ++ j)) H) addSD := by
  intro ρ F σ H v u x y z Q h rx ry hf q
  unfold addSD at hf
  split at hf
  · split at hf
    · cases hf; cases rx; cases ry; exact ⟨_, _, rfl, rfl, by assumption, q _ (.str _)⟩
    · cases hf
  · cases hf
end
end DL

set_option Elab.async false
set_option linter.all false
set_option maxRecDepth 100000
/-! own dicts whose keys are nested tuples -/
namespace DL
open PySem PySem.Spec L2
open PyProof.Rows hiding St
mutual
/-- a key, as data -/
def nkD : Dt → Option NestedKey
  | .none => some .none
  | .int i => some (.num i)
  | .str x => some (.text x)
  | .tuple ds => (nkL ds).map .tup
  | _ => none
def nkL : List Dt → Option (List NestedKey)
  | [] => some []
  | d :: ds => (nkD d).bind fun k => (nkL ds).map (k :: ·)
end
mutual
theorem nkD_data : ∀ {d : Dt} {k : NestedKey}, nkD d = some k → k.data = d
  | .none, _, h => by simp [nkD] at h; subst h; rfl
  | .int i, _, h => by simp [nkD] at h; subst h; rfl
  | .str x, _, h => by simp [nkD] at h; subst h; rfl
  | .bool b, _, h => by simp [nkD] at h
  | .list ds, _, h => by simp [nkD] at h
  | .dict ds, _, h => by simp [nkD] at h
  | .tuple ds, k, h => by
    simp only [nkD, Option.map_eq_some_iff] at h
    obtain ⟨ks, h1, rfl⟩ := h
    simp only [NestedKey.data, nkL_data h1]
theorem nkL_data : ∀ {ds : List Dt} {ks : List NestedKey}, nkL ds = some ks → NestedKey.datas ks = ds
  | [], _, h => by simp [nkL] at h; subst h; rfl
  | d :: ds, ks, h => by
    simp only [nkL, Option.bind_eq_some_iff, Option.map_eq_some_iff] at h
    obtain ⟨k, h1, ks', h2, rfl⟩ := h
    simp only [NestedKey.datas, nkD_data h1, nkL_data h2]
end
mutual
theorem nkD_rp {K : PySem.W.Frag} {F : Hp} : ∀ {d : Dt} {k : NestedKey} {v : V}, nkD d = some k → Rp K F v d → NKey K F v k
  | .none, _, _, h, r => by simp [nkD] at h; subst h; cases r; exact .non
  | .int i, _, _, h, r => by simp [nkD] at h; subst h; cases r; exact .int i
  | .str x, _, _, h, r => by simp [nkD] at h; subst h; cases r; exact .str x
  | .bool b, _, _, h, _ => by simp [nkD] at h
  | .list ds, _, _, h, _ => by simp [nkD] at h
  | .dict ds, _, _, h, _ => by simp [nkD] at h
  | .tuple ds, k, v, h, r => by
    simp only [nkD, Option.map_eq_some_iff] at h
    obtain ⟨ks, h1, rfl⟩ := h
    cases r with
    | tup e t => exact .tup e (nkL_rp h1 t)
theorem nkL_rp {K : PySem.W.Frag} {F : Hp} : ∀ {ds : List Dt} {ks : List NestedKey} {vs : List V}, nkL ds = some ks → RpA K F vs ds → NKeys K F vs ks
  | [], _, _, h, r => by simp [nkL] at h; subst h; cases r; exact .nil
  | d :: ds, ks, vs, h, r => by
    simp only [nkL, Option.bind_eq_some_iff, Option.map_eq_some_iff] at h
    obtain ⟨k, h1, ks', h2, rfl⟩ := h
    cases r with
    | cons a t => exact .cons (nkD_rp h1 a) (nkL_rp h2 t)
end
def keyN (d : Dt) : Option NestedKey := match d with
  | .tuple ds => (match nkD (.tuple ds) with
    | some k => if k.depth ≤ 8 then some k else none
    | none => none)
  | _ => none
theorem keyN_some {d : Dt} {k : NestedKey} (h : keyN d = some k) : k.depth ≤ 8 ∧ nkD d = some k ∧ ∃ ds, d = .tuple ds := by
  unfold keyN at h
  split at h
  · split at h
    · rename_i k' hk
      split at h
      · cases h; exact ⟨by assumption, hk, _, rfl⟩
      · cases h
    · cases h
  · cases h
def valN (kvs : List (NestedKey × Dt)) (k : NestedKey) : Option Dt := (kvs.find? fun kv => decide (kv.1 = k)).map (·.2)
def putN (kvs : List (NestedKey × Dt)) (k : NestedKey) (d : Dt) : List (NestedKey × Dt) := if (valN kvs k).isSome = true then kvs.map (fun kv => if kv.1 = k then (kv.1, d) else kv) else kvs ++ [(k, d)]
theorem NvAll.val {K : PySem.W.Frag} {F : Hp} : ∀ {xs : List NEnt} {kvs : List (NestedKey × Dt)}, NvAll K F xs kvs → ∀ k, (atKey xs k = none ∧ valN kvs k = none) ∨ ∃ p v d, atKey xs k = some p ∧ valN kvs k = some d ∧ RelV v p.2 ∧ Rp K F v d
  | _, _, .nil, k => .inl ⟨rfl, rfl⟩
  | p :: xs, q :: kvs, .cons a t, k => by
    obtain ⟨e, _, _, _, v, r1, r2⟩ := a
    by_cases h : p.1 = k
    · refine .inr ⟨p.2, v, q.2, ?_, ?_, r1, r2⟩
      · unfold atKey; rw [List.find?_cons_of_pos (by rw [decide_eq_true_eq]; exact h)]; rfl
      · unfold valN; rw [List.find?_cons_of_pos (by rw [decide_eq_true_eq, ← e]; exact h)]; rfl
    · have h2 : ¬ q.1 = k := by rw [← e]; exact h
      have e1 : atKey (p :: xs) k = atKey xs k := by unfold atKey; rw [List.find?_cons_of_neg (by rw [decide_eq_true_eq]; exact h)]
      have e2 : valN (q :: kvs) k = valN kvs k := by unfold valN; rw [List.find?_cons_of_neg (by rw [decide_eq_true_eq]; exact h2)]
      rw [e1, e2]
      exact NvAll.val t k
theorem NvAll.keys {K : PySem.W.Frag} {F : Hp} : ∀ {xs : List NEnt} {kvs : List (NestedKey × Dt)}, NvAll K F xs kvs → KeysAt K F xs
  | _, _, .nil => fun x hx => nomatch hx
  | p :: xs, q :: kvs, .cons a t => fun x hx => by
    rcases List.mem_cons.mp hx with rfl | hx
    · exact ⟨a.2.2.2.1, a.2.1⟩
    · exact NvAll.keys t x hx
theorem KeysAt.sub {K : PySem.W.Frag} {P : Program} {w : World} {cv : Array Value → NestedKey → Option Int} {F H : Hp} {xs : List NEnt} (s : Sub K P w cv F H) (h : KeysAt K F xs) : KeysAt K H xs := fun x hx => ⟨nkeySub s (h x hx).1, (h x hx).2⟩
theorem NvAll.put {K : PySem.W.Frag} {F : Hp} {xs : List NEnt} {kvs : List (NestedKey × Dt)} (h : NvAll K F xs kvs) {k : NestedKey} {b : Addr} {r : Value} {v : V} {d : Dt} (hd : k.depth ≤ 8) (hr : Rp K F (.ref b) k.data) (hk : NKey K F (.ref b) k) (rv : RelV v r) (rd : Rp K F v d) : NvAll K F (storedH xs k b r) (putN kvs k d) := by
  unfold storedH putN
  have e : (atKey xs k).isSome = (valN kvs k).isSome := by
    rcases h.val k with ⟨z1, z2⟩ | ⟨p, v, d, z1, z2, _⟩ <;> rw [z1, z2] <;> rfl
  rw [e]
  by_cases g : (valN kvs k).isSome = true
  · rw [if_pos g, if_pos g]
    clear g e
    induction h with
    | nil => exact .nil
    | @cons p q xs kvs a t ih =>
      rw [List.map_cons, List.map_cons]
      refine .cons ?_ ih
      obtain ⟨a1, a2, a3, a4, a5⟩ := a
      unfold putAt
      by_cases z : p.1 = k
      · rw [if_pos z, if_pos (a1 ▸ z)]; exact ⟨a1, a2, a3, a4, v, rv, rd⟩
      · rw [if_neg z, if_neg (a1 ▸ z)]; exact ⟨a1, a2, a3, a4, a5⟩
  · rw [if_neg g, if_neg g]
    clear g e
    induction h with
    | nil => exact .cons ⟨rfl, hd, hr, hk, v, rv, rd⟩ .nil
    | cons a t ih => exact .cons a ih
theorem NvAll.len {K : PySem.W.Frag} {F : Hp} {xs : List NEnt} {kvs : List (NestedKey × Dt)} (h : NvAll K F xs kvs) : xs.length = kvs.length := Paired.length h
section
variable {X : Cx} {c : Cd} {n : Prop} {W : WX} {e a o : Expr} {pos : Pos} {i : Nat} {mk me : Mo Dt}
/-- name = {} -/
def sNewN (i : Nat) : Mo Fl := fun ρ => .ok .nx (ρ.set i (.mn []))
theorem s_newN {x : Str} {pos' dpos : Pos} (hP : X.prog = c.P) (hw : X.w = c.w) (hN : X.N.Nodup) (hi : X.N[i]? = some x) (hx : Loc X.env.scope x) (hs : swapsWith (.Dict [] [] dpos) (some (.Name x pos')) pos.line X.env = pure false := by rfl) (hf : X.fn x = true ∨ X.env.scope.names.lookup x = some .local := by first | exact .inl rfl | exact .inr rfl | assumption) :
    KS X c W (.Assign [.Name x pos'] (.Dict [] [] dpos) pos) (sNewN i) := psImp (ps_set hN hi hx pe_dnewN hs hf) fun D σ H ⟨ρ, F, h, q⟩ p hp => by
  rw [hP, hw]
  exact q _ F _ (Same.refl _) ((h.allocN hp).setown (s := .mn []) rfl (h.free hp) ⟨p, [], rfl, h.fp hp, h.h0 hp, upd_same, .nil⟩)
def slN? (ρ : Rho) (i : Nat) : Option (List (NestedKey × Dt)) := match ρ[i]? with
  | some (.mn kvs) => some kvs
  | _ => none
theorem slN_some {ρ : Rho} {i : Nat} {kvs : List (NestedKey × Dt)} (h : slN? ρ i = some kvs) : ρ[i]? = some (.mn kvs) := by
  unfold slN? at h
  split at h
  · cases h; assumption
  · cases h
/-- key in name -/
def eNIn (g : Bool → Bool) (i : Nat) (mk : Mo Dt) : Mo Dt := bindM mk fun k ρ => match keyN k, slN? ρ i with
  | some q, some kvs => .ok (.bool (g (valN kvs q).isSome)) ρ
  | _, _ => .no
theorem nin_lift {g : Bool → Bool} (hP : X.prog = c.P) (hw : X.w = c.w) (hK : X.K = c.K) {σ : St} {H : Hp} {Q : VK} (h : lift RE c n W (eNIn g i mk) σ H Q) : tDInN X g (lift RE c n W mk) (tVar i) σ H Q := by
  obtain ⟨ρ, F, h, k⟩ := h
  refine ⟨ρ, F, h, ?_⟩
  unfold eNIn bindM at k
  cases hm : mk ρ with
  | no => simp only [hm] at k
  | er x ρ1 => simp only [hm] at k ⊢; exact k
  | ok d ρ1 =>
    simp only [hm] at k ⊢
    intro v F1 H1 s1 n1 h1 r1
    cases hk : keyN d with
    | none => simp only [hk] at k
    | some q =>
      cases hs : slN? ρ1 i with
      | none => simp only [hk, hs] at k
      | some kvs =>
        simp only [hk, hs] at k
        obtain ⟨a, xs, e1, e2, e3, e4, e5⟩ := h1.sl i _ (slN_some hs)
        obtain ⟨kd, ke, ds, rfl⟩ := keyN_some hk
        have nk := nkD_rp ke r1
        cases r1 with
        | @tup b _ _ eb rb =>
          refine ⟨_, e1, a, xs, q, b, rfl, ⟨by rw [hP, hw]; exact e4, hK ▸ e5.keys.sub h1.sub, rfl, hK ▸ nkeySub h1.sub nk, kd⟩, ?_⟩
          have : (atKey xs q).isSome = (valN kvs q).isSome := by
            rcases e5.val q with ⟨z1, z2⟩ | ⟨p, v, d, z1, z2, _⟩ <;> rw [z1, z2] <;> rfl
          rw [this]
          exact k _ F1 H1 s1 n1 h1 (.bl _)
theorem k_inN (hu : X.A.units + 64 < cLine) (hP : X.prog = c.P) (hw : X.w = c.w) (hK : X.K = c.K) (he : KE X c n W a mk) (ho : PE X o (tVar i)) (h1 : behindInMarks .In o = false := by first | exact nobehind _ (by decide) (by decide) | rfl) : KE X c n W (.Compare a [.In] [o] pos) (eNIn id i mk) :=
  peImp (pe_cmp (pc_dinN hu he ho) h1) fun _ _ _ h => nin_lift hP hw hK h
theorem k_ninN (hu : X.A.units + 64 < cLine) (hP : X.prog = c.P) (hw : X.w = c.w) (hK : X.K = c.K) (he : KE X c n W a mk) (ho : PE X o (tVar i)) (h1 : behindInMarks .NotIn o = false := by first | exact nobehind _ (by decide) (by decide) | rfl) : KE X c n W (.Compare a [.NotIn] [o] pos) (eNIn not i mk) :=
  peImp (pe_cmp (pc_dninN hu he ho) h1) fun _ _ _ h => nin_lift hP hw hK h
theorem t_inN (hu : X.A.units + 64 < cLine) (hP : X.prog = c.P) (hw : X.w = c.w) (hK : X.K = c.K) (he : KE X c n W a mk) (ho : PE X o (tVar i)) (h1 : behindInMarks .In o = false := by first | exact nobehind _ (by decide) (by decide) | rfl) : KT X c n W (.Compare a [.In] [o] pos) (tOf (eNIn id i mk)) :=
  ptImp (pt_cmp (pc_dinN hu he ho) h1) fun _ _ _ h => tb_lift (fun _ _ _ h => nin_lift hP hw hK h) h
theorem t_ninN (hu : X.A.units + 64 < cLine) (hP : X.prog = c.P) (hw : X.w = c.w) (hK : X.K = c.K) (he : KE X c n W a mk) (ho : PE X o (tVar i)) (h1 : behindInMarks .NotIn o = false := by first | exact nobehind _ (by decide) (by decide) | rfl) : KT X c n W (.Compare a [.NotIn] [o] pos) (tOf (eNIn not i mk)) :=
  ptImp (pt_cmp (pc_dninN hu he ho) h1) fun _ _ _ h => tb_lift (fun _ _ _ h => nin_lift hP hw hK h) h
/-- name[key] -/
def eNGet (i : Nat) (mk : Mo Dt) : Mo Dt := fun ρ => match slN? ρ i with
  | some kvs => bindM mk (fun k ρ1 => match (keyN k).bind (valN kvs) with
    | some d => .ok d ρ1
    | none => .no) ρ
  | none => .no
theorem k_nget (hu : X.A.units + 64 < cLine) (hP : X.prog = c.P) (hw : X.w = c.w) (hK : X.K = c.K) (ho : PE X o (tVar i)) (he : KE X c True W a mk) (hs : NoSl a) : KE X c n W (.Subscript o a pos) (eNGet i mk) := peImp (pe_dgetN hu ho he hs) fun σ H Q ⟨ρ, F, h, k⟩ => by
  unfold eNGet bindM at k
  cases hs : slN? ρ i with
  | none => simp only [hs] at k
  | some kvs =>
    simp only [hs] at k
    obtain ⟨p, xs, e1, e2, e3, e4, e5⟩ := h.sl i _ (slN_some hs)
    refine ⟨_, e1, ρ, F, h, ?_⟩
    cases hm : mk ρ with
    | no => simp only [hm] at k
    | er x ρ1 => simp only [hm] at k ⊢; exact k
    | ok d ρ1 =>
      simp only [hm] at k ⊢
      intro v F1 H1 s1 n1 h1 r1
      have g1 := n1 trivial
      obtain rfl := g1.e
      cases hk : keyN d with
      | none => rw [hk] at k; exact k.elim
      | some q =>
        rw [hk] at k
        obtain ⟨kd, ke, ds, rfl⟩ := keyN_some hk
        have nk := nkD_rp ke r1
        obtain ⟨p', xs', e1', e2', e3', e4', e5'⟩ := h1.sl i _ (slN_some hs)
        rw [e1] at e1'
        cases e1'
        rcases e5'.val q with ⟨z1, z2⟩ | ⟨pp, v, d', z1, z2, z3, z4⟩
        · simp only [Option.bind_some, z2] at k
        · simp only [Option.bind_some, z2] at k
          cases r1 with
          | @tup b _ _ eb rb =>
            exact ⟨p, xs', q, b, pp, v, rfl, ⟨by rw [hP, hw]; exact e4', hK ▸ e5'.keys.sub h1.sub, rfl, hK ▸ nkeySub h1.sub nk, kd⟩, z1, z3, k v F1 H1 s1 (fun _ => g1) h1 z4⟩
/-- name[key] = e -/
def sNPut (i : Nat) (mk me : Mo Dt) : Mo Fl := bindM me fun d ρ1 => match slN? ρ1 i with
  | some kvs => bindM mk (fun k ρ2 => match keyN k with
    | some q => if kvs.length < sizeLine then .ok .nx (ρ2.set i (.mn (putN kvs q d))) else .no
    | none => .no) ρ1
  | none => .no
theorem s_nput {pos' : Pos} (hu : X.A.units + 64 < cLine) (hP : X.prog = c.P) (hw : X.w = c.w) (hK : X.K = c.K) (ho : PE X o (tVar i)) (hk : KE X c True W a mk) (he : KE X c n W e me) (hs : swapsWith e (some (.Subscript o a pos')) pos.line X.env = pure false := by rfl) :
    KS X c W (.Assign [.Subscript o a pos'] e pos) (DL.sNPut i mk me) := psImp (ps_dputN hu ho hk he hs) fun D σ H ⟨ρ, F, h, q⟩ => by
  refine ⟨ρ, F, h, ?_⟩
  unfold DL.sNPut bindM at q
  cases hm : me ρ with
  | no => simp only [hm] at q; exact q.elim
  | er x ρ1 => simp only [hm] at q ⊢; exact LxS.lx q
  | ok d ρ1 =>
    simp only [hm] at q ⊢
    intro v F1 H1 s1 _ h1 r1
    cases hr : slN? ρ1 i with
    | none => simp only [hr] at q; exact q.elim
    | some kvs =>
      simp only [hr] at q
      obtain ⟨p, xs0, e1, e20, e30, e40, e50⟩ := h1.sl i _ (slN_some hr)
      refine ⟨_, e1, ρ1, F1, h1, ?_⟩
      cases hk : mk ρ1 with
      | no => simp only [hk] at q; exact q.elim
      | er x ρ2 => simp only [hk] at q ⊢; exact LxS.lx (LxS.later q s1)
      | ok k ρ2 =>
        simp only [hk] at q ⊢
        intro w F2 H2 s2 n2 h2 r2
        have g2 := n2 trivial
        obtain rfl := g2.e
        obtain ⟨p', xs, e1', e2, e3, e4, e5⟩ := h2.sl i _ (slN_some hr)
        rw [e1] at e1'
        cases e1'
        cases hq : keyN k with
        | none => simp only [hq] at q; exact q.elim
        | some y =>
          simp only [hq] at q
          obtain ⟨kd, ke, ds, rfl⟩ := keyN_some hq
          have nk := nkD_rp ke r2
          by_cases hl : kvs.length < sizeLine
          · rw [if_pos hl] at q
            cases r2 with
            | @tup b _ _ eb rb =>
              refine ⟨p, xs, y, b, rfl, ⟨by rw [hP, hw]; exact e4, hK ▸ e5.keys.sub h2.sub, rfl, hK ▸ nkeySub h2.sub nk, kd⟩, by rw [e5.len]; exact hl, fun r rr => ?_⟩
              have rk : Rp c.K F2 (.ref b) y.data := by rw [nkD_data ke]; exact .tup eb rb
              exact q σ F2 _ (s1.trans s2) (h2.write (i := i) (slN_some hr) rfl (s' := .mn (putN kvs y d)) rfl e1 ⟨p, _, rfl, e2, e3, by rw [hP, hw]; exact upd_same, e5.put kd rk nk rr (rpMono s2 r1)⟩)
          · rw [if_neg hl] at q; exact q.elim
end
end DL
namespace DL
open PySem PySem.Spec L2
open PyProof.Rows hiding St
section
variable {X : Cx} {o e f : Expr} {td ty tx : TE} {apos cpos : Pos}
def tDGet2N (X : Cx) (td ty tx : TE) : TE := fun σ H Q => td σ H fun x H1 => ∃ a xs0, x = .ref a ∧ H1 a = some (dnO X.prog X.w a xs0) ∧ ty σ H1 fun y H2 => tx σ H2 fun z H3 => ∃ xs k b, AtN X H3 a y xs k b ∧ ((atKey xs k = none ∧ Q z H3) ∨ ∃ p v, atKey xs k = some p ∧ RelV v p.2 ∧ Q v H3)
theorem pe_dget2N (hu : X.A.units + 64 < cLine) (ho : PE X o td) (he : PE X e ty) (hf : PE X f tx) (m : M2 X o "get" apos e f cpos) : PE X (.Call (.Attribute o "get" apos) [e, f] [] cpos) (tDGet2N X td ty tx) := by
  refine ⟨fun pins s σ H Q I h => ?_⟩
  refine wpAny_Call_method m.base m.few m.line PySem.F.plainAttrs_dict PySem.F.slot_dict_get PySem.F.type_dict_get (thn (ho.run pins s σ H _ I h) fun u s1 ⟨x, H1, I1, rx, a, xs0, ex, d, q1⟩ => ?_)
  subst ex
  obtain rfl : u = Value.ref a := rx
  obtain ⟨z0, ob, es, ep, g1, g2, g3, g4⟩ := dnO_of I1.hok d
  refine ⟨⟨ob, g1, g2.1⟩, fun b q => by cases q; exact ⟨ob, g1, g2.2.1⟩, ?_⟩
  rw [m.trees]
  refine Calls.callWith_builtin rfl (Calls.evalArgs_plain (Calls.spliced_cons (thn (he.run pins s1 σ H1 _ I1 q1) fun iv s2 ⟨y, H2, I2, ry, q2⟩ =>
    Calls.spliced_cons (thn (hf.run pins s2 σ H2 _ I2 q2) fun fv s3 ⟨z, H3, I3, rz, xs, k, b, ⟨e1, e2, ey, e4, e5⟩, q3⟩ => Calls.spliced_nil ?_))))
  subst ey
  obtain rfl : iv = Value.ref b := ry
  have dd := dn_dict I3 e1 e2
  refine call_meetsIn PySem.F.slot_dict_get dd.typeIs PySem.F.entry_dict_get (PySem.F.args_dict_get_3 _ _ _) (meetsH_dict_get_default (nestedKind X.prog X.w) a b (dnO_of I3.hok e1).1.2.1 fv) ⟨room8 hu, k, xs, ⟨nkey_is I3 e4 rfl, e5⟩, dd, ?_⟩
  rcases q3 with ⟨q4, q5⟩ | ⟨p, v, q4, q5, q6⟩
  · rw [q4]; exact ⟨z, H3, I3.tok _, rz, q5⟩
  · rw [q4]; exact ⟨v, H3, I3.tok _, q5, q6⟩
end
section
variable {X : Cx} {c : Cd} {n : Prop} {W : WX} {o e f : Expr} {apos cpos : Pos} {i : Nat} {mk me : Mo Dt}
/-- name.get(key, x) -/
def eNGet2 (i : Nat) (mk me : Mo Dt) : Mo Dt := fun ρ => match slN? ρ i with
  | some _ => bindM mk (fun k => bindM me fun d ρ1 => match keyN k, slN? ρ1 i with
    | some q, some kvs => .ok ((valN kvs q).getD d) ρ1
    | _, _ => .no) ρ
  | none => .no
theorem k_nget2 (hu : X.A.units + 64 < cLine) (hP : X.prog = c.P) (hw : X.w = c.w) (hK : X.K = c.K) (ho : PE X o (tVar i)) (he : KE X c n W e mk) (hf : KE X c n W f me) (m : M2 X o "get" apos e f cpos) :
    KE X c n W (.Call (.Attribute o "get" apos) [e, f] [] cpos) (eNGet2 i mk me) := peImp (pe_dget2N hu ho he hf m) fun σ H Q ⟨ρ, F, h, k⟩ => by
  unfold eNGet2 bindM at k
  cases hs : slN? ρ i with
  | none => simp only [hs] at k
  | some kvs0 =>
    simp only [hs] at k
    obtain ⟨p, xs0, e1, e2, e3, e4, e5⟩ := h.sl i _ (slN_some hs)
    refine ⟨_, e1, p, xs0, rfl, by rw [hP, hw]; exact e4, ρ, F, h, ?_⟩
    cases hm : mk ρ with
    | no => simp only [hm] at k
    | er x ρ1 => simp only [hm] at k ⊢; exact k
    | ok kd ρ1 =>
      simp only [hm] at k ⊢
      intro v F1 H1 s1 n1 h1 r1
      refine ⟨ρ1, F1, h1, ?_⟩
      cases hm2 : me ρ1 with
      | no => simp only [hm2] at k
      | er x ρ2 => simp only [hm2] at k ⊢; exact k.later s1
      | ok d ρ2 =>
        simp only [hm2] at k ⊢
        intro u F2 H2 s2 n2 h2 r2
        cases hk : keyN kd with
        | none => simp only [hk] at k
        | some q =>
          cases hs2 : slN? ρ2 i with
          | none => simp only [hk, hs2] at k
          | some kvs =>
            simp only [hk, hs2] at k
            obtain ⟨p', xs, e1', e2', e3', e4', e5'⟩ := h2.sl i _ (slN_some hs2)
            rw [e1] at e1'
            cases e1'
            obtain ⟨kdd, ke, ds, rfl⟩ := keyN_some hk
            have nk := nkD_rp ke (rpMono s2 r1)
            cases r1 with
            | @tup b _ _ eb rb =>
              refine ⟨xs, q, b, ⟨by rw [hP, hw]; exact e4', hK ▸ e5'.keys.sub h2.sub, rfl, hK ▸ nkeySub h2.sub nk, kdd⟩, ?_⟩
              rcases e5'.val q with ⟨z1, z2⟩ | ⟨pp, v, d', z1, z2, z3, z4⟩
              · rw [z2] at k
                exact .inl ⟨z1, k _ F2 H2 (s1.trans s2) (fun hn => (n1 hn).trans (n2 hn)) h2 r2⟩
              · rw [z2] at k
                exact .inr ⟨pp, v, z1, z3, k _ F2 H2 (s1.trans s2) (fun hn => (n1 hn).trans (n2 hn)) h2 z4⟩
end
end DL

set_option Elab.async false
set_option linter.all false
set_option maxRecDepth 100000
namespace DL
open PySem PySem.Spec L2
open PyProof.Rows hiding St
/-! ### what a mirror comes to -/
def Ok {α : Type} (m : Mo α) (ρ : Rho) (Q : α → Rho → Prop) (E : Ex → Rho → Prop) : Prop := match m ρ with
  | .ok a ρ' => Q a ρ'
  | .er x ρ' => E x ρ'
  | .no => False
def okO {α : Type} (o : Option α) (Q : α → Prop) : Prop := match o with
  | some a => Q a
  | none => False
def slV (o : Option Sl) (Q : Dt → Prop) : Prop := match o with
  | none => False
  | some (.un) => False
  | some (.va d) => Q d
  | some (.ml _) => False
  | some (.md _) => False
  | some (.mn _) => False
  | some (.ex _) => False
def slP (o : Option Sl) (Q : Dt → Prop) : Prop := match o with
  | none => False
  | some (.un) => False
  | some (.va d) => Q d
  | some (.ml ds) => Q (.list ds)
  | some (.md _) => False
  | some (.mn _) => False
  | some (.ex _) => False
def slZ (o : Option Sl) (Q : Dt → Prop) (R : List Dt → Prop) : Prop := match o with
  | none => False
  | some (.un) => False
  | some (.va d) => Q d
  | some (.ml ds) => R ds
  | some (.md _) => False
  | some (.mn _) => False
  | some (.ex _) => False
def slM (o : Option Sl) (R : List Dt → Prop) : Prop := match o with
  | none => False
  | some (.un) => False
  | some (.va _) => False
  | some (.ml ds) => R ds
  | some (.md _) => False
  | some (.mn _) => False
  | some (.ex _) => False
def isB (x : Dt) (Q : Bool → Prop) : Prop := match x with
  | .bool b => Q b
  | _ => False
def isI (x : Dt) (Q : Int → Prop) : Prop := match x with
  | .int b => Q b
  | _ => False
def isS (x : Dt) (Q : Str → Prop) : Prop := match x with
  | .str b => Q b
  | _ => False
def isL (x : Dt) (Q : List Dt → Prop) : Prop := match x with
  | .list b => Q b
  | _ => False
def itO (x : Dt) (Q : List Dt → Prop) : Prop := match x with
  | .list ds => Q ds
  | .tuple ds => Q ds
  | .str z => Q (signsD z)
  | _ => False
def isVl (x : Vl) (Q : Dt → Prop) (R : List Dt → Prop) : Prop := match x with
  | .z d => Q d
  | .f ds => R ds
def nxF (fl : Fl) (P R : Prop) : Prop := match fl with
  | .nx => P
  | _ => R
def endF (fl : Fl) (Q : Dt → Prop) (QF : List Dt → Prop) : Prop := match fl with
  | .nx => Q .none
  | .rt d => Q d
  | .ro ds => QF ds
  | _ => False
def okR (fo : Fo) (Q : Dt → Prop) (QF : List Dt → Prop) (E : Ex → Prop) : Prop := match fo with
  | .ok d => Q d
  | .fr ds => QF ds
  | .er x => E x
  | .no => False
abbrev noE : Ex → Rho → Prop := fun _ _ => False
abbrev noX : Ex → Prop := fun _ => False
section
variable {α β : Type} {ρ : Rho} {E : Ex → Rho → Prop} {m ma mb mc : Mo Dt} {ms : Mo (List Dt)} {mt m1 m2 : Mo Bool} {s1 s2 : Mo Fl} {i j : Nat} {Q : Dt → Rho → Prop} {QL : List Dt → Rho → Prop} {QB : Bool → Rho → Prop} {QS : Fl → Rho → Prop}
theorem okO_some {a : α} {Q : α → Prop} : okO (some a) Q ↔ Q a := Iff.rfl
theorem slV_va {d : Dt} {Q : Dt → Prop} : slV (some (.va d)) Q ↔ Q d := Iff.rfl
theorem slP_va {d : Dt} {Q : Dt → Prop} : slP (some (.va d)) Q ↔ Q d := Iff.rfl
theorem slP_ml {d : List Dt} {Q : Dt → Prop} : slP (some (.ml d)) Q ↔ Q (.list d) := Iff.rfl
theorem slZ_va {d : Dt} {Q : Dt → Prop} {R : List Dt → Prop} : slZ (some (.va d)) Q R ↔ Q d := Iff.rfl
theorem slZ_ml {d : List Dt} {Q : Dt → Prop} {R : List Dt → Prop} : slZ (some (.ml d)) Q R ↔ R d := Iff.rfl
theorem slM_ml {d : List Dt} {R : List Dt → Prop} : slM (some (.ml d)) R ↔ R d := Iff.rfl
theorem isB_b {b : Bool} {Q : Bool → Prop} : isB (.bool b) Q ↔ Q b := Iff.rfl
theorem isI_i {b : Int} {Q : Int → Prop} : isI (.int b) Q ↔ Q b := Iff.rfl
theorem isS_s {b : Str} {Q : Str → Prop} : isS (.str b) Q ↔ Q b := Iff.rfl
theorem isL_l {b : List Dt} {Q : List Dt → Prop} : isL (.list b) Q ↔ Q b := Iff.rfl
theorem itO_l {b : List Dt} {Q : List Dt → Prop} : itO (.list b) Q ↔ Q b := Iff.rfl
theorem itO_t {b : List Dt} {Q : List Dt → Prop} : itO (.tuple b) Q ↔ Q b := Iff.rfl
theorem itO_s {b : Str} {Q : List Dt → Prop} : itO (.str b) Q ↔ Q (signsD b) := Iff.rfl
theorem isVl_z {d : Dt} {Q : Dt → Prop} {R : List Dt → Prop} : isVl (.z d) Q R ↔ Q d := Iff.rfl
theorem isVl_f {d : List Dt} {Q : Dt → Prop} {R : List Dt → Prop} : isVl (.f d) Q R ↔ R d := Iff.rfl
theorem nxF_nx {P R : Prop} : nxF .nx P R ↔ P := Iff.rfl
theorem nxF_rt {P R : Prop} {d : Dt} : nxF (.rt d) P R ↔ R := Iff.rfl
theorem nxF_ro {P R : Prop} {d : List Dt} : nxF (.ro d) P R ↔ R := Iff.rfl
theorem nxF_bk {P R : Prop} : nxF .bk P R ↔ R := Iff.rfl
theorem nxF_ct {P R : Prop} : nxF .ct P R ↔ R := Iff.rfl
theorem endF_nx {Q : Dt → Prop} {R : List Dt → Prop} : endF .nx Q R ↔ Q .none := Iff.rfl
theorem endF_rt {Q : Dt → Prop} {R : List Dt → Prop} {d : Dt} : endF (.rt d) Q R ↔ Q d := Iff.rfl
theorem endF_ro {Q : Dt → Prop} {R : List Dt → Prop} {d : List Dt} : endF (.ro d) Q R ↔ R d := Iff.rfl
theorem okR_ok {d : Dt} {Q : Dt → Prop} {R : List Dt → Prop} {E : Ex → Prop} : okR (.ok d) Q R E ↔ Q d := Iff.rfl
theorem okR_fr {d : List Dt} {Q : Dt → Prop} {R : List Dt → Prop} {E : Ex → Prop} : okR (.fr d) Q R E ↔ R d := Iff.rfl
theorem okR_er {d : Ex} {Q : Dt → Prop} {R : List Dt → Prop} {E : Ex → Prop} : okR (.er d) Q R E ↔ E d := Iff.rfl
theorem g_bind {m : Mo α} {f : α → Mo β} {Q : β → Rho → Prop} : Ok (bindM m f) ρ Q E ↔ Ok m ρ (fun a ρ' => Ok (f a) ρ' Q E) E := by
  unfold Ok bindM
  cases m ρ <;> exact Iff.rfl
theorem g_imp {m : Mo α} {Q Q' : α → Rho → Prop} {E E' : Ex → Rho → Prop} (h : Ok m ρ Q E) (k : ∀ a ρ', Q a ρ' → Q' a ρ') (kE : ∀ a ρ', E a ρ' → E' a ρ') : Ok m ρ Q' E' := by
  unfold Ok at h ⊢
  cases hm : m ρ with
  | ok a r => rw [hm] at h; exact k _ _ h
  | er a r => rw [hm] at h; exact kE _ _ h
  | no => rw [hm] at h; exact h
theorem g_ok {a : α} {Q : α → Rho → Prop} : Ok (fun ρ => .ok a ρ) ρ Q E ↔ Q a ρ := Iff.rfl
theorem g_ofO {o : Option α} {Q : α → Rho → Prop} : Ok (ofO o) ρ Q E ↔ okO o fun a => Q a ρ := by
  unfold Ok ofO okO
  cases o <;> exact Iff.rfl
theorem g_var : Ok (eVar i) ρ Q E ↔ slV ρ[i]? fun d => Q d ρ := by
  unfold Ok eVar slV
  rcases ρ[i]? with _ | (_ | _ | _ | _ | _ | _) <;> exact Iff.rfl
theorem g_peek : Ok (ePeek i) ρ Q E ↔ slP ρ[i]? fun d => Q d ρ := by
  unfold Ok ePeek slP
  rcases ρ[i]? with _ | (_ | _ | _ | _ | _ | _) <;> exact Iff.rfl
theorem g_frz : Ok (eFrz i) ρ Q E ↔ slZ ρ[i]? (fun d => Q d ρ) fun ds => Q (.list ds) (ρ.set i (.va (.list ds))) := by
  unfold Ok eFrz slZ
  rcases ρ[i]? with _ | (_ | _ | _ | _ | _ | _) <;> exact Iff.rfl
theorem g_C {d : Dt} : Ok (eC d) ρ Q E ↔ Q d ρ := Iff.rfl
theorem g_op {f : Dt → Dt → Option Dt} : Ok (eOp f ma mb) ρ Q E ↔ Ok ma ρ (fun x ρ1 => Ok mb ρ1 (fun y ρ2 => okO (f x y) fun z => Q z ρ2) E) E := by
  unfold eOp
  simp only [g_bind, g_ofO]
theorem g_opF {f : Dt → Dt → Option (List Dt)} : Ok (eOpF f ma mb) ρ QL E ↔ Ok ma ρ (fun x ρ1 => Ok mb ρ1 (fun y ρ2 => okO (f x y) fun z => QL z ρ2) E) E := by
  unfold eOpF
  simp only [g_bind, g_ofO]
theorem g_tOf : Ok (tOf m) ρ QB E ↔ Ok m ρ (fun x ρ' => isB x fun b => QB b ρ') E := by
  unfold tOf
  rw [g_bind]
  unfold Ok isB
  cases m ρ with
  | ok a r => cases a <;> exact Iff.rfl
  | _ => exact Iff.rfl
theorem g_B {g : List Dt → Option Dt} : Ok (eB g ms) ρ Q E ↔ Ok ms ρ (fun ds ρ' => okO (g ds) fun z => Q z ρ') E := by
  unfold eB
  simp only [g_bind, g_ofO]
theorem g_BF {g : List Dt → Option (List Dt)} : Ok (eBF g ms) ρ QL E ↔ Ok ms ρ (fun ds ρ' => okO (g ds) fun z => QL z ρ') E := by
  unfold eBF
  simp only [g_bind, g_ofO]
theorem g_nil : Ok eNil ρ QL E ↔ QL [] ρ := Iff.rfl
theorem g_cons : Ok (eCons m ms) ρ QL E ↔ Ok m ρ (fun x ρ1 => Ok ms ρ1 (fun xs ρ2 => QL (x :: xs) ρ2) E) E := by
  unfold eCons
  simp only [g_bind, g_ok]
theorem ok_ite {c : Prop} [Decidable c] {m1 m2 : Mo α} {Q : α → Rho → Prop} : Ok (if c then m1 else m2) ρ Q E ↔ if c then Ok m1 ρ Q E else Ok m2 ρ Q E := by
  by_cases h : c <;> simp [h]
theorem ok_rif {c : Prop} [Decidable c] {a : α} {Q : α → Rho → Prop} : Ok (fun ρ => if c then .ok a ρ else .no) ρ Q E ↔ c ∧ Q a ρ := by
  unfold Ok
  by_cases h : c <;> simp [h]
theorem g_tup : Ok (eTup ms) ρ Q E ↔ Ok ms ρ (fun xs ρ' => xs.length ≤ 1000 ∧ Q (.tuple xs) ρ') E := by
  unfold eTup
  simp only [g_bind, ok_rif]
theorem g_lst : Ok (eLst ms) ρ QL E ↔ Ok ms ρ (fun xs ρ' => xs.length ≤ 1000 ∧ QL xs ρ') E := by
  unfold eLst
  simp only [g_bind, ok_rif]
theorem g_fz : Ok (eFz ms) ρ Q E ↔ Ok ms ρ (fun xs ρ' => Q (.list xs) ρ') E := by
  simp only [eFz, Ok]
  cases ms ρ <;> exact Iff.rfl
theorem g_call {G : List Dt → Fo} : Ok (eCall G ms) ρ Q E ↔ Ok ms ρ (fun ds ρ' => okR (G ds) (fun d => Q d ρ') (fun es => Q (.list es) ρ') fun x => E x ρ') E := by
  unfold eCall
  rw [g_bind]
  refine iff_of_eq (congrArg (fun z => Ok ms ρ z E) ?_)
  funext ds ρ'
  unfold Ok okR
  cases G ds <;> rfl
theorem g_callF {G : List Dt → Fo} : Ok (eCallF G ms) ρ QL E ↔ Ok ms ρ (fun ds ρ' => okR (G ds) (fun d => False) (fun es => QL es ρ') fun x => E x ρ') E := by
  unfold eCallF
  rw [g_bind]
  refine iff_of_eq (congrArg (fun z => Ok ms ρ z E) ?_)
  funext ds ρ'
  unfold Ok okR
  cases G ds <;> rfl
theorem g_callV {G : List Dt → Fo} {QV : Vl → Rho → Prop} : Ok (eCallV G ms) ρ QV E ↔ Ok ms ρ (fun ds ρ' => okR (G ds) (fun d => QV (.z d) ρ') (fun es => QV (.f es) ρ') fun x => E x ρ') E := by
  unfold eCallV
  rw [g_bind]
  refine iff_of_eq (congrArg (fun z => Ok ms ρ z E) ?_)
  funext ds ρ'
  unfold Ok okR
  cases G ds <;> rfl
theorem g_callF0 {G : List Dt → Fo} : Ok (eCallF0 G) ρ QL E ↔ okR (G []) (fun d => False) (fun es => QL es ρ) fun x => False := by
  simp only [eCallF0, Ok, okR]
  cases G [] <;> exact Iff.rfl
/-! statements -/
theorem g_seq : Ok (sSeq s1 s2) ρ QS E ↔ Ok s1 ρ (fun fl ρ' => nxF fl (Ok s2 ρ' QS E) (QS fl ρ')) E := by
  simp only [sSeq, Ok, nxF]
  cases s1 ρ with
  | ok fl r => cases fl <;> exact Iff.rfl
  | _ => exact Iff.rfl
theorem g_next : Ok sNext ρ QS E ↔ QS .nx ρ := Iff.rfl
theorem g_set : Ok (sSet i m) ρ QS E ↔ Ok m ρ (fun d ρ' => QS .nx (ρ'.set i (.va d))) E := by
  unfold sSet
  exact g_bind
theorem g_setF : Ok (sSetF i ms) ρ QS E ↔ Ok ms ρ (fun d ρ' => QS .nx (ρ'.set i (.ml d))) E := by
  unfold sSetF
  exact g_bind
theorem g_setV {mv : Mo Vl} : Ok (sSetV i mv) ρ QS E ↔ Ok mv ρ (fun x ρ' => isVl x (fun d => QS .nx (ρ'.set i (.va d))) fun ds => QS .nx (ρ'.set i (.ml ds))) E := by
  unfold sSetV
  rw [g_bind]
  refine iff_of_eq (congrArg (fun z => Ok mv ρ z E) ?_)
  funext x ρ'
  cases x <;> rfl
theorem g_drop : Ok (sDrop m) ρ QS E ↔ Ok m ρ (fun _ ρ' => QS .nx ρ') E := by
  unfold sDrop
  exact g_bind
theorem g_ret : Ok (sRet m) ρ QS E ↔ Ok m ρ (fun d ρ' => QS (.rt d) ρ') E := by
  unfold sRet
  exact g_bind
theorem g_retF : Ok (sRetF ms) ρ QS E ↔ Ok ms ρ (fun d ρ' => QS (.ro d) ρ') E := by
  unfold sRetF
  exact g_bind
theorem g_retV {mv : Mo Vl} : Ok (sRetV mv) ρ QS E ↔ Ok mv ρ (fun x ρ' => isVl x (fun d => QS (.rt d) ρ') fun ds => QS (.ro ds) ρ') E := by
  unfold sRetV
  rw [g_bind]
  refine iff_of_eq (congrArg (fun z => Ok mv ρ z E) ?_)
  funext x ρ'
  cases x <;> rfl
theorem g_retO : Ok (sRetO i) ρ QS E ↔ slZ ρ[i]? (fun d => QS (.rt d) ρ) fun ds => QS (.ro ds) (ρ.set i .un) := by
  unfold Ok sRetO slZ
  rcases ρ[i]? with _ | (_ | _ | _ | _ | _ | _) <;> exact Iff.rfl
theorem g_if : Ok (sIf mt s1 s2) ρ QS E ↔ Ok mt ρ (fun b ρ' => if b = true then Ok s1 ρ' QS E else Ok s2 ρ' QS E) E := by
  unfold sIf
  simp only [g_bind, ok_ite]
theorem g_append : Ok (sAppend i m) ρ QS E ↔ slM ρ[i]? fun _ => Ok m ρ (fun d ρ1 => slM ρ1[i]? fun ds => ds.length < sizeLine ∧ QS .nx (ρ1.set i (.ml (ds ++ [d])))) E := by
  show Ok (fun ρ => sAppend i m ρ) ρ QS E ↔ _
  unfold sAppend
  rcases h : ρ[i]? with _ | (_ | _ | _ | _ | _ | _)
  · unfold Ok; simp only [h]; exact Iff.rfl
  · unfold Ok; simp only [h]; exact Iff.rfl
  · unfold Ok; simp only [h]; exact Iff.rfl
  · rw [slM_ml]
    have : ∀ f : Dt → Mo Fl, Ok (fun ρ => match ρ[i]? with | some (.ml _) => bindM m f ρ | _ => .no) ρ QS E ↔ Ok (bindM m f) ρ QS E := fun f => by unfold Ok; simp only [h]
    refine (this _).trans ?_
    rw [g_bind]
    refine iff_of_eq (congrArg (fun z => Ok m ρ z E) ?_)
    funext d ρ1
    dsimp only [Ok, slM]
    rcases ρ1[i]? with _ | (_ | _ | ds | _ | _ | _)
    · rfl
    · rfl
    · rfl
    · by_cases h : ds.length < sizeLine <;> simp [h]
    · rfl
    · rfl
    · rfl
  · unfold Ok; simp only [h]; exact Iff.rfl
  · unfold Ok; simp only [h]; exact Iff.rfl
  · unfold Ok; simp only [h]; exact Iff.rfl
theorem g_extend : Ok (sExtend i m) ρ QS E ↔ slM ρ[i]? fun _ => Ok m ρ (fun d ρ1 => slM ρ1[i]? fun ds => isL d fun es => ds.length + es.length ≤ sizeLine ∧ QS .nx (ρ1.set i (.ml (ds ++ es)))) E := by
  show Ok (fun ρ => sExtend i m ρ) ρ QS E ↔ _
  unfold sExtend
  rcases h : ρ[i]? with _ | (_ | _ | _ | _ | _ | _)
  · unfold Ok; simp only [h]; exact Iff.rfl
  · unfold Ok; simp only [h]; exact Iff.rfl
  · unfold Ok; simp only [h]; exact Iff.rfl
  · rw [slM_ml]
    have : ∀ f : Dt → Mo Fl, Ok (fun ρ => match ρ[i]? with | some (.ml _) => bindM m f ρ | _ => .no) ρ QS E ↔ Ok (bindM m f) ρ QS E := fun f => by unfold Ok; simp only [h]
    refine (this _).trans ?_
    rw [g_bind]
    refine iff_of_eq (congrArg (fun z => Ok m ρ z E) ?_)
    funext d ρ1
    dsimp only [Ok, slM]
    rcases ρ1[i]? with _ | (_ | _ | ds | _ | _ | _)
    · rfl
    · rfl
    · rfl
    · cases d with
      | list es => by_cases h : ds.length + es.length ≤ sizeLine <;> simp [h, isL]
      | _ => rfl
    · rfl
    · rfl
    · rfl
  · unfold Ok; simp only [h]; exact Iff.rfl
  · unfold Ok; simp only [h]; exact Iff.rfl
  · unfold Ok; simp only [h]; exact Iff.rfl
theorem g_to {T : Dt → Rho → Option Rho} : Ok (sTo T m) ρ QS E ↔ Ok m ρ (fun d ρ' => okO (T d ρ') fun ρ1 => QS .nx ρ1) E := by
  unfold sTo
  rw [g_bind]
  refine iff_of_eq (congrArg (fun z => Ok m ρ z E) ?_)
  funext d ρ'
  dsimp only [Ok, okO]
  cases T d ρ' <;> rfl
def two (ds : List Dt) (R : Dt → Dt → Prop) : Prop := match ds with
  | [a, b] => R a b
  | _ => False
theorem two_ok {a b : Dt} {R : Dt → Dt → Prop} : two [a, b] R ↔ R a b := Iff.rfl
theorem g_par : Ok (sPar i j ms) ρ QS E ↔ Ok ms ρ (fun ds ρ' => two ds fun d e => QS .nx ((ρ'.set i (.va d)).set j (.va e))) E := by
  unfold sPar
  rw [g_bind]
  refine iff_of_eq (congrArg (fun z => Ok ms ρ z E) ?_)
  funext d ρ'
  unfold Ok two
  rcases d with _ | ⟨a, _ | ⟨b, _ | _⟩⟩ <;> rfl
theorem g_aug {f : Dt → Dt → Option Dt} : Ok (sAug i f m) ρ QS E ↔ slV ρ[i]? fun x => Ok m ρ (fun y ρ1 => okO (f x y) fun z => QS .nx (ρ1.set i (.va z))) E := by
  show Ok (fun ρ => sAug i f m ρ) ρ QS E ↔ _
  unfold sAug
  rcases h : ρ[i]? with _ | (_ | x | _ | _ | _ | _)
  · unfold Ok; simp only [h]; exact Iff.rfl
  · unfold Ok; simp only [h]; exact Iff.rfl
  · rw [slV_va]
    have : ∀ g : Dt → Dt → Mo Fl, Ok (fun ρ => match ρ[i]? with | some (.va x) => bindM m (g x) ρ | _ => .no) ρ QS E ↔ Ok (bindM m (g x)) ρ QS E := fun g => by unfold Ok; simp only [h]
    refine (this fun x y ρ1 => match f x y with | some z => .ok .nx (ρ1.set i (.va z)) | none => .no).trans ?_
    rw [g_bind]
    refine iff_of_eq (congrArg (fun z => Ok m ρ z E) ?_)
    funext d ρ1
    dsimp only [Ok, okO]
    cases f x d <;> rfl
  · unfold Ok; simp only [h]; exact Iff.rfl
  · unfold Ok; simp only [h]; exact Iff.rfl
  · unfold Ok; simp only [h]; exact Iff.rfl
  · unfold Ok; simp only [h]; exact Iff.rfl
/-! iterators, slices, tests -/
theorem g_any : Ok (iAny m) ρ QL E ↔ Ok m ρ (fun x ρ' => itO x fun ds => QL ds ρ') E := by
  unfold iAny
  rw [g_bind]
  refine iff_of_eq (congrArg (fun z => Ok m ρ z E) ?_)
  funext x ρ'
  cases x <;> rfl
theorem g_noP {QP : Option Int → Rho → Prop} : Ok eNoP ρ QP E ↔ QP none ρ := Iff.rfl
theorem g_part {QP : Option Int → Rho → Prop} : Ok (ePart m) ρ QP E ↔ Ok m ρ (fun x ρ' => isI x fun i => QP (some i) ρ') E := by
  unfold ePart
  rw [g_bind]
  refine iff_of_eq (congrArg (fun z => Ok m ρ z E) ?_)
  funext x ρ'
  cases x <;> rfl
variable {ml mh : Mo (Option Int)}
theorem g_sl : Ok (eSl m ml mh) ρ Q E ↔ Ok m ρ (fun x ρ1 => Ok ml ρ1 (fun l ρ2 => Ok mh ρ2 (fun h ρ3 => okO (slD x l h) fun z => Q z ρ3) E) E) E := by
  unfold eSl
  simp only [g_bind, g_ofO]
theorem g_slF : Ok (eSlF m ml mh) ρ QL E ↔ Ok m ρ (fun x ρ1 => Ok ml ρ1 (fun l ρ2 => Ok mh ρ2 (fun h ρ3 => okO (slL x l h) fun z => QL z ρ3) E) E) E := by
  unfold eSlF
  simp only [g_bind, g_ofO]
theorem g_isI {T : String} : Ok (eIsI T m) ρ Q E ↔ Ok m ρ (fun x ρ' => okO (isIn T x) fun z => Q z ρ') E := by
  unfold eIsI
  simp only [g_bind, g_ofO]
theorem g_m1 {f : Str → Dt → Option Dt} : Ok (eM1 f ma mb) ρ Q E ↔ Ok ma ρ (fun x ρ1 => isS x fun s => Ok mb ρ1 (fun y ρ2 => okO (f s y) fun z => Q z ρ2) E) E := by
  unfold eM1
  rw [g_bind]
  refine iff_of_eq (congrArg (fun z => Ok ma ρ z E) ?_)
  funext x ρ'
  cases x <;> first | (refine propext ?_; exact g_bind.trans (by simp only [g_ofO]; exact Iff.rfl)) | rfl
theorem g_tAnd : Ok (tAndM m1 m2) ρ QB E ↔ Ok m1 ρ (fun b ρ' => if b = true then Ok m2 ρ' QB E else QB false ρ') E := by
  unfold tAndM
  simp only [g_bind, ok_ite, g_ok]
theorem g_tOr : Ok (tOrM m1 m2) ρ QB E ↔ Ok m1 ρ (fun b ρ' => if b = true then QB true ρ' else Ok m2 ρ' QB E) E := by
  unfold tOrM
  simp only [g_bind, ok_ite, g_ok]
theorem g_tNot : Ok (tNotM m1) ρ QB E ↔ Ok m1 ρ (fun b ρ' => QB (!b) ρ') E := by
  unfold tNotM
  simp only [g_bind, g_ok]
theorem g_and : Ok (eAndM ma mb) ρ Q E ↔ Ok ma ρ (fun x ρ' => isB x fun b => if b = true then Ok mb ρ' Q E else Q (.bool false) ρ') E := by
  unfold eAndM
  rw [g_bind]
  refine iff_of_eq (congrArg (fun z => Ok ma ρ z E) ?_)
  funext x ρ'
  cases x <;> first | (refine propext ?_; exact ok_ite) | rfl
theorem g_or : Ok (eOrM ma mb) ρ Q E ↔ Ok ma ρ (fun x ρ' => isB x fun b => if b = true then Q (.bool true) ρ' else Ok mb ρ' Q E) E := by
  unfold eOrM
  rw [g_bind]
  refine iff_of_eq (congrArg (fun z => Ok ma ρ z E) ?_)
  funext x ρ'
  cases x <;> first | (refine propext ?_; exact ok_ite) | rfl
theorem g_not : Ok (eNotM ma) ρ Q E ↔ Ok ma ρ (fun x ρ' => isB x fun b => Q (.bool (!b)) ρ') E := by
  unfold eNotM
  rw [g_bind]
  refine iff_of_eq (congrArg (fun z => Ok ma ρ z E) ?_)
  funext x ρ'
  cases x <;> rfl
theorem g_neg : Ok (eNeg ma) ρ Q E ↔ Ok ma ρ (fun x ρ' => isI x fun b => Q (.int (-b)) ρ') E := by
  unfold eNeg
  rw [g_bind]
  refine iff_of_eq (congrArg (fun z => Ok ma ρ z E) ?_)
  funext x ρ'
  cases x <;> rfl
theorem g_eif : Ok (eIf mt ma mb) ρ Q E ↔ Ok mt ρ (fun b ρ' => if b = true then Ok ma ρ' Q E else Ok mb ρ' Q E) E := by
  unfold eIf
  simp only [g_bind, ok_ite]
theorem g_tru : Ok tYesM ρ QB E ↔ QB true ρ := Iff.rfl
/-! loops -/
theorem g_for {mi : Mo (List Dt)} {T : Dt → Rho → Option Rho} {b : Mo Fl} : Ok (sFor mi T b) ρ QS E ↔ Ok mi ρ (fun ds ρ' => Ok (sLoop T b ds) ρ' QS E) E := by
  unfold sFor
  rw [g_bind]
def stepF (I : Rho → Prop) (QS : Fl → Rho → Prop) (fl : Fl) (ρ' : Rho) : Prop := match fl with
  | .nx => I ρ'
  | .ct => I ρ'
  | .bk => QS .nx ρ'
  | r => QS r ρ'
theorem stepF_nx {I : Rho → Prop} : stepF I QS .nx ρ ↔ I ρ := Iff.rfl
theorem stepF_ct {I : Rho → Prop} : stepF I QS .ct ρ ↔ I ρ := Iff.rfl
theorem stepF_bk {I : Rho → Prop} : stepF I QS .bk ρ ↔ QS .nx ρ := Iff.rfl
theorem stepF_rt {I : Rho → Prop} {d : Dt} : stepF I QS (.rt d) ρ ↔ QS (.rt d) ρ := Iff.rfl
theorem stepF_ro {I : Rho → Prop} {d : List Dt} : stepF I QS (.ro d) ρ ↔ QS (.ro d) ρ := Iff.rfl
theorem loop_inv {T : Dt → Rho → Option Rho} {b : Mo Fl} : ∀ {ds : List Dt} {ρ : Rho} (I : Nat → Rho → Prop), I 0 ρ →
    (∀ k d ρ, ds[k]? = some d → I k ρ → okO (T d ρ) fun ρ1 => Ok b ρ1 (stepF (I (k + 1)) QS) E) → (∀ ρ, I ds.length ρ → QS .nx ρ) → Ok (sLoop T b ds) ρ QS E
  | [], ρ, I, h0, _, he => he ρ h0
  | d :: ds, ρ, I, h0, hs, he => by
    have h1 := hs 0 d ρ rfl h0
    unfold okO at h1
    unfold Ok sLoop
    cases hT : T d ρ with
    | none => rw [hT] at h1; exact h1.elim
    | some ρ1 =>
      rw [hT] at h1
      simp only at h1 ⊢
      unfold Ok at h1
      have nxt : ∀ ρ2, I 1 ρ2 → Ok (sLoop T b ds) ρ2 QS E := fun ρ2 h => loop_inv (ds := ds) (fun k => I (k + 1)) h (fun k d ρ hk => hs (k + 1) d ρ (by simpa using hk)) he
      cases hb : b ρ1 with
      | no => rw [hb] at h1; exact h1.elim
      | er x ρ2 => rw [hb] at h1; simp only; exact h1
      | ok fl ρ2 =>
        rw [hb] at h1
        cases fl with
        | nx => exact nxt ρ2 h1
        | ct => exact nxt ρ2 h1
        | bk => exact h1
        | rt d => exact h1
        | ro d => exact h1
theorem g_comp {mi : Mo (List Dt)} {own : List Nat} {T : Dt → Rho → Option Rho} {t : Mo Bool} {e : Mo Dt} : Ok (eComp mi own T t e) ρ QL E ↔ Ok mi ρ (fun ds ρ' => okO (cL T t e (wipeR ρ' own) ds) fun ys => ds.length ≤ sizeLine ∧ QL ys ρ') E := by
  unfold eComp
  rw [g_bind]
  refine iff_of_eq (congrArg (fun z => Ok mi ρ z E) ?_)
  funext ds ρ'
  dsimp only [Ok, okO]
  cases cL T t e (wipeR ρ' own) ds with
  | none => rfl
  | some ys => by_cases h : ds.length ≤ sizeLine <;> simp [h]
theorem cL_filter {T : Dt → Rho → Option Rho} {t : Mo Bool} {e : Mo Dt} {f : Dt → Dt} {p : Dt → Bool} : ∀ {ds : List Dt}, (∀ d ∈ ds, okO (T d ρ) fun ρ1 => Ok t ρ1 (fun b _ => b = p d) noE ∧ (p d = true → Ok e ρ1 (fun y _ => y = f d) noE)) → cL T t e ρ ds = some ((ds.filter p).map f)
  | [], _ => rfl
  | d :: ds, h => by
    have h1 := h d List.mem_cons_self
    have ih := cL_filter (ds := ds) fun d hd => h d (List.mem_cons_of_mem _ hd)
    unfold cL
    unfold okO at h1
    cases hT : T d ρ with
    | none => rw [hT] at h1; exact h1.elim
    | some ρ1 =>
      rw [hT] at h1
      simp only at h1 ⊢
      obtain ⟨a, b⟩ := h1
      unfold Ok at a
      cases ht : t ρ1 with
      | no => rw [ht] at a; exact a.elim
      | er x ρ2 => rw [ht] at a; exact a.elim
      | ok c ρ2 =>
        rw [ht] at a
        simp only at a ⊢
        subst a
        cases hp : p d with
        | false => simp only [ih, List.filter_cons, hp]; simp
        | true =>
          have b := b hp
          unfold Ok at b
          cases he : e ρ1 with
          | no => rw [he] at b; exact b.elim
          | er x ρ2 => rw [he] at b; exact b.elim
          | ok y ρ2 =>
            rw [he] at b
            simp only at b ⊢
            subst b
            simp [ih, List.filter_cons, hp]
theorem cL_map {T : Dt → Rho → Option Rho} {t : Mo Bool} {e : Mo Dt} {f : Dt → Dt} {ds : List Dt} (h : ∀ d ∈ ds, okO (T d ρ) fun ρ1 => Ok t ρ1 (fun b _ => b = true) noE ∧ Ok e ρ1 (fun y _ => y = f d) noE) : cL T t e ρ ds = some (ds.map f) := by
  have z := cL_filter (p := fun _ => true) (f := f) (T := T) (t := t) (e := e) (ρ := ρ) (ds := ds) fun d hd => by
    have q := h d hd
    unfold okO at q ⊢
    cases hT : T d ρ with
    | none => rw [hT] at q; exact q
    | some ρ1 => rw [hT] at q; exact ⟨q.1, fun _ => q.2⟩
  rw [z, List.filter_eq_self.mpr fun _ _ => rfl]
/-! a def -/
theorem g_run {k p : Nat} {mm : Mo Fl} {ds : List Dt} {Q : Dt → Prop} {QF : List Dt → Prop} {E : Ex → Prop} : okR (runF k p mm ds) Q QF E ↔ ds.length = p ∧ Ok mm (ds.map .va ++ List.replicate (k - ds.length) .un) (fun fl _ => endF fl Q QF) fun x _ => E x := by
  unfold runF okR Ok endF
  by_cases h : ds.length = p
  · rw [if_pos h]
    simp only [h, true_and]
    cases mm (ds.map .va ++ List.replicate (k - p) .un) with
    | ok fl r => cases fl <;> exact Iff.rfl
    | _ => exact Iff.rfl
  · rw [if_neg h]
    simp [h]
theorem okR_val {fo : Fo} {P : Dt → Prop} (h : okR fo P (fun _ => False) noX) : ∃ d, fo = .ok d ∧ P d := by
  cases fo with
  | ok d => exact ⟨d, rfl, h⟩
  | _ => exact h.elim
theorem okR_lst {fo : Fo} {P : List Dt → Prop} (h : okR fo (fun _ => False) P noX) : ∃ d, fo = .fr d ∧ P d := by
  cases fo with
  | fr d => exact ⟨d, rfl, h⟩
  | _ => exact h.elim
theorem okR_eq {fo : Fo} {d : Dt} (h : okR fo (fun z => z = d) (fun _ => False) noX) : fo = .ok d := by
  obtain ⟨_, e, rfl⟩ := okR_val h
  exact e
theorem okR_eqF {fo : Fo} {d : List Dt} (h : okR fo (fun _ => False) (fun z => z = d) noX) : fo = .fr d := by
  obtain ⟨_, e, rfl⟩ := okR_lst h
  exact e
/-! data -/
theorem addInt (i j : Int) : addD (.int i) (.int j) = some (.int (i + j)) := rfl
theorem subInt (i j : Int) : subD (.int i) (.int j) = some (.int (i - j)) := rfl
theorem ltInt (i j : Int) : ltD (.int i) (.int j) = some (.bool (decide (i < j))) := rfl
theorem cmpInt (p : Int → Int → Bool) (i j : Int) : cmpI p (.int i) (.int j) = some (.bool (p i j)) := rfl
theorem mulInt {i j : Int} {Q : Dt → Prop} : okO (mulD (.int i) (.int j)) Q ↔ CMulW i j ∧ Q (.int (i * j)) := by
  unfold mulD okO; by_cases h : CMulW i j <;> simp [h]
theorem modInt {i j : Int} {Q : Dt → Prop} : okO (modD (.int i) (.int j)) Q ↔ 0 < j ∧ Q (.int (i % j)) := by
  unfold modD okO; by_cases h : 0 < j <;> simp [h]
theorem divInt {i j : Int} {Q : Dt → Prop} : okO (fdivD (.int i) (.int j)) Q ↔ CDivW i j ∧ Q (.int (i / j)) := by
  unfold fdivD okO; by_cases h : CDivW i j <;> simp [h]
theorem powInt {i j : Int} {Q : Dt → Prop} : okO (powD (.int i) (.int j)) Q ↔ CPow i j ∧ Q (.int (i ^ j.toNat)) := by
  unfold powD okO; by_cases h : CPow i j <;> simp [h]
theorem shlInt {i j : Int} {Q : Dt → Prop} : okO (shlD (.int i) (.int j)) Q ↔ CPow i j ∧ Q (.int (i * 2 ^ j.toNat)) := by
  unfold shlD okO; by_cases h : CPow i j <;> simp [h]
theorem shrInt {i j : Int} {Q : Dt → Prop} : okO (shrD (.int i) (.int j)) Q ↔ 0 ≤ j ∧ Q (.int (i / 2 ^ j.toNat)) := by
  unfold shrD okO; by_cases h : 0 ≤ j <;> simp [h]
theorem eqInt (i j : Int) : eqD (.int i) (.int j) = some (.bool (decide (i = j))) := by
  unfold eqD
  rw [if_pos ⟨rfl, rfl⟩]
  simp only [PyData.eqv]
  by_cases h : i = j <;> simp [h]
theorem neInt (i j : Int) : neD (.int i) (.int j) = some (.bool (!decide (i = j))) := by
  unfold neD
  rw [if_pos ⟨rfl, rfl⟩]
  simp only [PyData.eqv]
  by_cases h : i = j <;> simp [h]
theorem lenScr (ns : List Int) : lenD [.dict [(.none, .list (ns.map .int))]] = some (.int ns.length) := by simp [lenD]
theorem lenLst (ns : List Dt) : lenD [.list ns] = some (.int ns.length) := rfl
theorem lenTup (ns : List Dt) : lenD [.tuple ns] = some (.int ns.length) := rfl
theorem idxScr (ns : List Int) (i : Int) : idxD (.dict [(.none, .list (ns.map .int))]) (.int i) = atI (ns.map .int) i := rfl
theorem idxLst (ns : List Dt) (i : Int) : idxD (.list ns) (.int i) = atI ns i := rfl
theorem idxTup (ns : List Dt) (i : Int) : idxD (.tuple ns) (.int i) = atI ns i := rfl
end
end DL

set_option Elab.async false
set_option linter.all false
set_option maxRecDepth 100000
namespace DL
open PySem PySem.Spec L2
open PyProof.Rows hiding St
theorem atI_in {α : Type} (xs : List α) (k : Int) (h0 : 0 ≤ k) (h1 : k < xs.length) : atI xs k = xs[k.toNat]? := by
  obtain ⟨n, rfl⟩ := Int.eq_ofNat_of_zero_le h0
  have : n < xs.length := by omega
  rw [List.getElem?_eq_getElem (by simpa using this)]
  exact atI_nat (by simpa using List.getElem?_eq_getElem this)
theorem atI_ints (ns : List Int) (k : Int) (h0 : 0 ≤ k) (h1 : k < ns.length) : ∃ c, atI (ns.map PyData.int) k = some (.int c) ∧ ns[k.toNat]? = some c := by
  rw [atI_in _ k h0 (by simpa using h1)]
  have h2 : k.toNat < ns.length := by omega
  exact ⟨ns[k.toNat], by simp [h2], by simp [h2]⟩
theorem log2_le {x : Nat} {n : Nat} (h : x < 2 ^ n) (hn : 0 < n) : x.log2 < n := by
  by_cases e : x = 0
  · subst e; simpa using hn
  · exact (Nat.log2_lt e).mpr h
theorem cmul {i j : Int} (hi : i.natAbs < 2 ^ 200) (hj : j.natAbs < 2 ^ 200) : CMulW i j := by
  have a := log2_le hi (by decide)
  have b := log2_le hj (by decide)
  unfold CMulW
  omega
theorem cdiv {i j : Int} (h0 : 0 < j) (hj : j < 2 ^ 200) : CDivW i j := ⟨h0, by
  have b := log2_le (x := j.natAbs) (n := 200) (by omega) (by decide)
  omega⟩
end DL
namespace DL
open PySem PySem.Spec L2
open PyProof.Rows hiding St
theorem leT_total : PySem.W.TotalLe leT := PySem.W.sortLe_total _ _ _
theorem leT_anti {a b : Dt} (h1 : leT a b = true) (h2 : leT b a = true) : PySem.W.keyToks a = PySem.W.keyToks b := by
  unfold leT PySem.W.dataLe PySem.W.sortLe at h1 h2
  simp only [cond_false, Bool.not_eq_true'] at h1 h2
  exact (listOrd itemOrd).total _ _ h2 h1
theorem sort_perm {l1 l2 : List Dt} (h : l1.Perm l2) (inj : ∀ a ∈ l1, ∀ b ∈ l1, PySem.W.keyToks a = PySem.W.keyToks b → a = b) : l1.mergeSort leT = l2.mergeSort leT := by
  have p1 := List.mergeSort_perm l1 leT
  have p2 := List.mergeSort_perm l2 leT
  refine List.Perm.eq_of_pairwise (le := fun a b => leT a b = true) ?_ (PySem.W.sort_pairwise leT_total l1) (PySem.W.sort_pairwise leT_total l2) (p1.trans (h.trans p2.symm))
  intro a b ha hb h1 h2
  exact inj a (p1.mem_iff.mp ha) b (h.mem_iff.mpr (p2.mem_iff.mp hb)) (leT_anti h1 h2)
/-- (number, text) -/
abbrev ns2 (x : Int × Str) : Dt := .tuple [.int x.1, .str x.2]
theorem ns2_inj {x y : Int × Str} (h : PySem.W.keyToks (ns2 x) = PySem.W.keyToks (ns2 y)) : x = y := by
  obtain ⟨a, b⟩ := x
  obtain ⟨c, d⟩ := y
  simp [PySem.W.keyToks, PySem.W.keyToksAll] at h
  obtain ⟨rfl, h⟩ := h
  have : b = d := Str.ext' h
  rw [this]
theorem ns2_sorts (l : List (Int × Str)) : Sorts (l.map ns2) := by
  refine ⟨?_, .inl ?_, ?_⟩
  · intro a ha b hb
    obtain ⟨x, _, rfl⟩ := List.mem_map.mp ha
    obtain ⟨y, _, rfl⟩ := List.mem_map.mp hb
    rfl
  · intro a ha
    obtain ⟨x, _, rfl⟩ := List.mem_map.mp ha
    exact ⟨_, _, rfl⟩
  · intro a ha
    obtain ⟨x, _, rfl⟩ := List.mem_map.mp ha
    rfl
theorem sort_is {ds : List Dt} {Q : List Dt → Prop} (h : Sorts ds) : okO (sortD [.list ds]) Q ↔ Q (ds.mergeSort leT) := by
  unfold sortD okO
  simp only [h, if_true]
theorem eqv_ok {x y : Dt} (hx : okD x = true) (e : x = y) : neD x y = some (.bool false) := by
  subst e
  unfold neD
  rw [if_pos ⟨hx, hx⟩, PySem.SeqAt.eqv_refl_plain x (okN_plain _ _ hx).1]
  rfl
end DL
namespace DL
open PySem PySem.Spec L2
open PyProof.Rows hiding St
theorem okD_ints (L : List Int) : okD (.list (L.map .int)) = true := by
  show (L.map PyData.int).all (okN 11) = true
  rw [List.all_map, List.all_eq_true]
  intro x _
  rfl
theorem ne_nil (L : List Int) : neD (.list (L.map .int)) (.list []) = some (.bool (!decide (L = []))) := by
  unfold neD
  rw [if_pos ⟨okD_ints L, rfl⟩]
  cases L <;> rfl
theorem eqStr (x y : Str) : eqD (.str x) (.str y) = some (.bool (decide (x = y))) := by
  unfold eqD
  rw [if_pos ⟨rfl, rfl⟩]
  simp only [PyData.eqv]
  by_cases h : x = y <;> simp [h]
theorem sum_ints (L : List Int) : sumD [.list (L.map .int)] = some (.int L.sum) := by
  show (intsOf (L.map .int)).map _ = _
  rw [intsOf_map]; rfl
theorem cut_take {α : Type} (xs : List α) {m : Int} (h : 0 ≤ m) : DL.cutD xs none (some m) = xs.take m.toNat := by
  unfold DL.cutD
  simp only [HT.sIx, if_neg (show ¬ m < 0 by omega), Nat.sub_zero, List.drop_zero]
  by_cases q : m.toNat ≤ xs.length
  · rw [Nat.min_eq_left q]
  · rw [Nat.min_eq_right (by omega), List.take_of_length_le (by omega), List.take_of_length_le (by omega)]
theorem sl_lst (xs : List Dt) {m : Int} (h : 0 ≤ m) : slD (.list xs) none (some m) = some (.list (xs.take m.toNat)) := by
  show some (PyData.list (DL.cutD xs none (some m))) = _
  rw [cut_take xs h]
theorem ne_same {x : Dt} (hx : okD x = true) : neD x x = some (.bool false) := eqv_ok hx rfl
theorem okD_texts {l : List Dt} (h : ∀ d ∈ l, ∃ s, d = .str s) : okD (.list l) = true := by
  show l.all (okN 11) = true
  rw [List.all_eq_true]
  intro x hx
  obtain ⟨s, rfl⟩ := h x hx
  rfl
section
variable {ρ : Rho} {E : Ex → Rho → Prop} {QS : Fl → Rho → Prop} {Q : Dt → Rho → Prop} {QL : List Dt → Rho → Prop}
theorem loop_nil {T : Dt → Rho → Option Rho} {b : Mo Fl} : Ok (sLoop T b []) ρ QS E ↔ QS .nx ρ := Iff.rfl
theorem loop_cons {T : Dt → Rho → Option Rho} {b : Mo Fl} {d : Dt} {ds : List Dt} : Ok (sLoop T b (d :: ds)) ρ QS E ↔ okO (T d ρ) fun ρ1 => Ok b ρ1 (stepF (fun ρ2 => Ok (sLoop T b ds) ρ2 QS E) QS) E := by
  have e : sLoop T b (d :: ds) ρ = (match T d ρ with | none => .no | some ρ1 => match b ρ1 with | .ok .nx ρ2 => sLoop T b ds ρ2 | .ok .ct ρ2 => sLoop T b ds ρ2 | .ok .bk ρ2 => .ok .nx ρ2 | r => r) := rfl
  generalize sLoop T b ds = L at e ⊢
  unfold Ok okO
  rw [e]
  cases T d ρ with
  | none => exact Iff.rfl
  | some ρ1 =>
    dsimp only
    cases b ρ1 with
    | ok fl ρ2 => cases fl <;> exact Iff.rfl
    | _ => exact Iff.rfl
/-- a while loop, one step -/
theorem while_step {t : Mo Bool} {b : Mo Fl} {k : Nat} : Ok (sWhile t b (k + 1)) ρ QS E ↔ Ok t ρ (fun c ρ1 => if c = true then Ok b ρ1 (stepF (fun ρ2 => Ok (sWhile t b k) ρ2 QS E) QS) E else QS .nx ρ1) E := by
  have e : sWhile t b (k + 1) ρ = (match t ρ with | .ok true ρ1 => (match b ρ1 with | .ok .nx ρ2 => sWhile t b k ρ2 | .ok .ct ρ2 => sWhile t b k ρ2 | .ok .bk ρ2 => .ok .nx ρ2 | r => r) | .ok false ρ1 => .ok .nx ρ1 | .er x ρ1 => .er x ρ1 | .no => .no) := rfl
  generalize sWhile t b k = L at e ⊢
  unfold Ok
  rw [e]
  cases t ρ with
  | ok c ρ1 =>
    cases c with
    | true =>
      dsimp only
      rw [if_pos rfl]
      cases b ρ1 with
      | ok fl ρ2 => cases fl <;> exact Iff.rfl
      | _ => exact Iff.rfl
    | false => exact Iff.rfl
  | _ => exact Iff.rfl
theorem g_iseq {m : Mo Dt} : Ok (iSeq m) ρ QL E ↔ Ok m ρ (fun x ρ' => isL x fun ds => QL ds ρ') E := by
  unfold iSeq
  rw [g_bind]
  refine iff_of_eq (congrArg (fun z => Ok m ρ z E) ?_)
  funext x ρ'
  cases x <;> rfl
theorem g_chain {f f' : Dt → Dt → Option Dt} {ma mb mc : Mo Dt} : Ok (eChain f f' ma mb mc) ρ Q E ↔ Ok ma ρ (fun x ρ1 => Ok mb ρ1 (fun y ρ2 => okO (f x y) fun z => isB z fun b => if b = true then Ok mc ρ2 (fun w ρ3 => okO (f' y w) fun v => Q v ρ3) E else Q (.bool false) ρ2) E) E := by
  unfold eChain
  rw [g_bind]
  refine iff_of_eq (congrArg (fun z => Ok ma ρ z E) ?_)
  funext x ρ1
  refine propext (g_bind.trans (iff_of_eq (congrArg (fun z => Ok mb ρ1 z E) ?_)))
  funext y ρ2
  cases f x y with
  | none => rfl
  | some z =>
    cases z with
    | bool b =>
      cases b with
      | true => exact propext (g_bind.trans (by simp only [g_ofO]; exact Iff.rfl))
      | false => rfl
    | _ => rfl
end
theorem g_setIx {i : Nat} {mk me : Mo Dt} {ρ : Rho} {E : Ex → Rho → Prop} {QS : Fl → Rho → Prop} : Ok (sSetIx i mk me) ρ QS E ↔ Ok me ρ (fun d ρ1 => slM ρ1[i]? fun ds => Ok mk ρ1 (fun k ρ2 => isI k fun z => okO (ixN ds.length z) fun j => QS .nx (ρ2.set i (.ml (ds.set j d)))) E) E := by
  unfold sSetIx
  rw [g_bind]
  refine iff_of_eq (congrArg (fun z => Ok me ρ z E) ?_)
  funext d ρ1
  rcases h : ρ1[i]? with _ | (_ | _ | ds | _ | _ | _)
  · unfold Ok slM; simp only [h]
  · unfold Ok slM; simp only [h]
  · unfold Ok slM; simp only [h]
  · rw [slM_ml]
    have e : ∀ g : List Dt → Dt → Mo Fl, Ok (fun ρ => match ρ1[i]? with | some (.ml ds) => bindM mk (g ds) ρ1 | _ => .no) ρ1 QS E ↔ Ok (bindM mk (g ds)) ρ1 QS E := fun g => by unfold Ok; simp only [h]
    refine propext ((e fun ds k ρ2 => match k with | .int z => (match ixN ds.length z with | some j => .ok .nx (ρ2.set i (.ml (ds.set j d))) | none => .no) | _ => .no).trans (g_bind.trans (iff_of_eq (congrArg (fun z => Ok mk ρ1 z E) ?_))))
    funext k ρ2
    cases k with
    | int z =>
      unfold Ok isI okO
      dsimp only
      cases ixN ds.length z <;> rfl
    | _ => rfl
  · unfold Ok slM; simp only [h]
  · unfold Ok slM; simp only [h]
  · unfold Ok slM; simp only [h]
theorem neStr (x y : Str) : neD (.str x) (.str y) = some (.bool (!decide (x = y))) := by
  unfold neD
  rw [if_pos ⟨rfl, rfl⟩]
  simp only [PyData.eqv]
  by_cases h : x = y <;> simp [h]
/-- == [] -/
theorem eqNil {l : List Dt} (h : okD (.list l) = true) : eqD (.list l) (.list []) = some (.bool l.isEmpty) := by
  unfold eqD
  rw [if_pos ⟨h, rfl⟩]
  cases l <;> rfl
theorem neNil {l : List Dt} (h : okD (.list l) = true) : neD (.list l) (.list []) = some (.bool (!l.isEmpty)) := by
  unfold neD
  rw [if_pos ⟨h, rfl⟩]
  cases l <;> rfl
end DL

set_option Elab.async false
set_option linter.all false
set_option maxRecDepth 100000
namespace DL
open PySem PySem.Spec L2
open PyProof.Rows hiding St
/-- Ok, shut: whnf does not run the mirror -/
structure Done {α : Type} (m : Mo α) (ρ : Rho) (Q : α → Rho → Prop) (E : Ex → Rho → Prop) : Prop where
  h : Ok m ρ Q E
section
variable {ρ : Rho} {E : Ex → Rho → Prop} {QS : Fl → Rho → Prop} {Q : Dt → Rho → Prop} {QL : List Dt → Rho → Prop} {mo me ma mb : Mo Dt}
theorem g_lix : Ok (eLix mo me) ρ Q E ↔ Ok mo ρ (fun x ρ1 => isL x fun ds => Ok me ρ1 (fun y ρ2 => okO (lixD (.list ds) y) fun z => Q z ρ2) E) E := by
  unfold eLix
  rw [g_bind]
  refine iff_of_eq (congrArg (fun z => Ok mo ρ z E) ?_)
  funext x ρ'
  cases x <;> first | (refine propext ?_; exact g_bind.trans (by simp only [g_ofO]; exact Iff.rfl)) | rfl
theorem g_m1F {f : Str → Dt → Option (List Dt)} : Ok (eM1F f ma mb) ρ QL E ↔ Ok ma ρ (fun x ρ1 => isS x fun s => Ok mb ρ1 (fun y ρ2 => okO (f s y) fun z => QL z ρ2) E) E := by
  unfold eM1F
  rw [g_bind]
  refine iff_of_eq (congrArg (fun z => Ok ma ρ z E) ?_)
  funext x ρ'
  cases x <;> first | (refine propext ?_; exact g_bind.trans (by simp only [g_ofO]; exact Iff.rfl)) | rfl
theorem g_callB {G : List Dt → Fo} {ms : Mo (List Dt)} {QV : Vl → Rho → Prop} : Ok (eCallB G ms) ρ QV E ↔ Ok ms ρ (fun ds ρ' => okR (G ds) (fun d => noL d = true ∧ QV (.z d) ρ') (fun es => es.all noL = true ∧ QV (.f es) ρ') fun x => E x ρ') E := by
  unfold eCallB
  rw [g_bind]
  refine iff_of_eq (congrArg (fun z => Ok ms ρ z E) ?_)
  funext ds ρ'
  unfold Ok okR
  cases G ds with
  | ok d => dsimp only; by_cases h : noL d = true <;> simp [h]
  | fr d => dsimp only; by_cases h : d.all noL = true <;> simp only [h, if_true, if_false, true_and, false_and]; simp
  | _ => rfl
theorem g_vz {mv : Mo Vl} : Ok (eVz mv) ρ Q E ↔ Ok mv ρ (fun x ρ' => isVl x (fun d => Q d ρ') fun ds => Q (.list ds) ρ') E := by
  unfold eVz
  rw [g_bind]
  refine iff_of_eq (congrArg (fun z => Ok mv ρ z E) ?_)
  funext x ρ'
  cases x <;> rfl
def slK (o : Option Sl) (R : List (Key × Dt) → Prop) : Prop := match o with
  | none => False
  | some (.un) => False
  | some (.va _) => False
  | some (.ml _) => False
  | some (.md kvs) => R kvs
  | some (.mn _) => False
  | some (.ex _) => False
theorem slK_md {d : List (Key × Dt)} {R : List (Key × Dt) → Prop} : slK (some (.md d)) R ↔ R d := Iff.rfl
theorem g_setD {i : Nat} {m : Mo (List (Key × Dt))} : Ok (sSetD i m) ρ QS E ↔ Ok m ρ (fun d ρ' => QS .nx (ρ'.set i (.md d))) E := by
  unfold sSetD
  exact g_bind
theorem g_dnew {QD : List (Key × Dt) → Rho → Prop} : Ok eDNew ρ QD E ↔ QD [] ρ := Iff.rfl
theorem g_din {g : Bool → Bool} {i : Nat} {mk : Mo Dt} : Ok (eDIn g i mk) ρ Q E ↔ Ok mk ρ (fun k ρ' => okO (keyD k) fun q => slK ρ'[i]? fun kvs => Q (.bool (g (valD kvs q).isSome)) ρ') E := by
  unfold eDIn
  rw [g_bind]
  refine iff_of_eq (congrArg (fun z => Ok mk ρ z E) ?_)
  funext k ρ'
  unfold Ok okO slK slD?
  cases keyD k with
  | none => rfl
  | some q => dsimp only; rcases h : ρ'[i]? with _ | (_ | _ | _ | _ | _ | _) <;> simp only
theorem g_dget {i : Nat} {mk : Mo Dt} : Ok (eDGet i mk) ρ Q E ↔ slK ρ[i]? fun kvs => Ok mk ρ (fun k ρ1 => okO ((keyD k).bind (valD kvs)) fun d => Q d ρ1) E := by
  unfold eDGet slK slD?
  rcases h : ρ[i]? with _ | (_ | _ | _ | kvs | _ | _)
  · unfold Ok; simp only [h]
  · unfold Ok; simp only [h]
  · unfold Ok; simp only [h]
  · unfold Ok; simp only [h]
  · refine Iff.trans (b := Ok (bindM mk fun k ρ1 => match (keyD k).bind (valD kvs) with | some d => .ok d ρ1 | none => .no) ρ Q E) ?_ (g_bind.trans (iff_of_eq (congrArg (fun z => Ok mk ρ z E) ?_)))
    · unfold Ok; simp only [h]; try exact Iff.rfl
    · funext k ρ1
      unfold Ok okO
      cases (keyD k).bind (valD kvs) <;> rfl
  · unfold Ok; simp only [h]
  · unfold Ok; simp only [h]
theorem g_dput {i : Nat} {mk me : Mo Dt} : Ok (DL.sDPut i mk me) ρ QS E ↔ Ok me ρ (fun d ρ1 => slK ρ1[i]? fun kvs => Ok mk ρ1 (fun k ρ2 => okO (keyD k) fun q => kvs.length < sizeLine ∧ QS .nx (ρ2.set i (.md (putD kvs q d)))) E) E := by
  unfold DL.sDPut
  rw [g_bind]
  refine iff_of_eq (congrArg (fun z => Ok me ρ z E) ?_)
  funext d ρ1
  unfold slK slD?
  rcases h : ρ1[i]? with _ | (_ | _ | _ | kvs | _ | _)
  · unfold Ok; simp only [h]
  · unfold Ok; simp only [h]
  · unfold Ok; simp only [h]
  · unfold Ok; simp only [h]
  · refine propext (Iff.trans (b := Ok (bindM mk fun k ρ2 => match keyD k with | some q => if kvs.length < sizeLine then .ok .nx (ρ2.set i (.md (putD kvs q d))) else .no | none => .no) ρ1 QS E) ?_ (g_bind.trans (iff_of_eq (congrArg (fun z => Ok mk ρ1 z E) ?_))))
    · unfold Ok; simp only [h]; try exact Iff.rfl
    · funext k ρ2
      unfold Ok okO
      cases keyD k with
      | none => rfl
      | some q => dsimp only; by_cases hz : kvs.length < sizeLine <;> simp [hz]
  · unfold Ok; simp only [h]
  · unfold Ok; simp only [h]
theorem g_pop {i : Nat} {mk : Mo Dt} : Ok (ePop i mk) ρ Q E ↔ slM ρ[i]? fun ds => Ok mk ρ (fun k ρ1 => isI k fun z => (-(2 ^ 63) ≤ z ∧ z < 2 ^ 63) ∧ okO (seqIndex? z ds.length) fun j => okO ds[j]? fun d => Q d (ρ1.set i (.ml (ds.eraseIdx j)))) E := by
  unfold slM
  rcases h : ρ[i]? with _ | (_ | _ | ds | _ | _ | _)
  · unfold Ok ePop; simp only [h]
  · unfold Ok ePop; simp only [h]
  · unfold Ok ePop; simp only [h]
  · refine Iff.trans (b := Ok (bindM mk fun k ρ1 => match k with | .int z => if -(2 ^ 63) ≤ z ∧ z < 2 ^ 63 then (match seqIndex? z ds.length with | some j => (match ds[j]? with | some d => .ok d (ρ1.set i (.ml (ds.eraseIdx j))) | none => .no) | none => .no) else .no | _ => .no) ρ Q E) ?_ (g_bind.trans (iff_of_eq (congrArg (fun z => Ok mk ρ z E) ?_)))
    · unfold Ok ePop; simp only [h]; try exact Iff.rfl
    · funext k ρ1
      cases k with
      | int z =>
        unfold Ok isI okO
        dsimp only
        by_cases hz : -(2 ^ 63) ≤ z ∧ z < 2 ^ 63
        · rw [if_pos hz]
          simp only [hz, and_self, true_and]
          cases seqIndex? z ds.length with
          | none => rfl
          | some j =>
            dsimp only
            cases ds[j]? <;> rfl
        · rw [if_neg hz]
          simp only [hz, false_and]
      | _ => rfl
  · unfold Ok ePop; simp only [h]
  · unfold Ok ePop; simp only [h]
  · unfold Ok ePop; simp only [h]
theorem keyStr (x : Str) : keyD (.str x) = some (.inr x) := rfl
theorem keyInt (x : Int) : keyD (.int x) = some (.inl x) := rfl
theorem rg1_ok {j : Int} (h : small62 j) : rg1D [.int j] = some (rgD 0 j.toNat) := if_pos h
theorem rg1N (k : Nat) (h : k ≤ 1000000) : rg1D [.int (k : Int)] = some (rgD 0 k) := by
  rw [rg1_ok (by unfold small62; omega)]
  rfl
theorem rg2_ok {i j : Int} (h1 : small62 i) (h2 : small62 j) : rg2D [.int i, .int j] = some (rgD i (j - i).toNat) := if_pos ⟨h1, h2⟩
end
end DL

set_option Elab.async false
set_option linter.all false
set_option maxRecDepth 100000
namespace DL
open PySem PySem.Spec L2
open PyProof.Rows hiding St
/-! ### sizes -/
def Sz (k : Nat) (x : Int) : Prop := x.natAbs < 2 ^ k
theorem Sz.mono {j k : Nat} {x : Int} (h : Sz j x) (hk : j ≤ k) : Sz k x := Nat.lt_of_lt_of_le h (Nat.pow_le_pow_right (by decide) hk)
theorem Sz.mul {j k : Nat} {x y : Int} (h : Sz j x) (h' : Sz k y) : Sz (j + k) (x * y) := by
  unfold Sz at *
  rw [Int.natAbs_mul, Nat.pow_add]
  exact Nat.mul_lt_mul'' h h'
theorem Sz.add {k : Nat} {x y : Int} (h : Sz k x) (h' : Sz k y) : Sz (k + 1) (x + y) := by
  unfold Sz at *
  have := Int.natAbs_add_le x y
  rw [Nat.pow_succ]
  omega
theorem Sz.sub {k : Nat} {x y : Int} (h : Sz k x) (h' : Sz k y) : Sz (k + 1) (x - y) := by
  unfold Sz at *
  have : (x - y).natAbs ≤ x.natAbs + y.natAbs := by omega
  rw [Nat.pow_succ]
  omega
theorem Sz.le {k : Nat} {x y : Int} (h : Sz k y) (e : x.natAbs ≤ y.natAbs) : Sz k x := Nat.lt_of_le_of_lt e h
theorem Sz.log {k : Nat} {x : Int} (h : Sz k x) : x.natAbs.log2 ≤ k := by
  by_cases e : x.natAbs = 0
  · rw [e]; exact Nat.zero_le _
  · exact Nat.le_of_lt ((Nat.log2_lt e).mpr h)
theorem Sz.cmul {j k : Nat} {x y : Int} (h : Sz j x) (h' : Sz k y) (e : j + k ≤ 900000) : CMulW x y := by
  have := h.log
  have := h'.log
  unfold CMulW
  omega
theorem Sz.cdiv {k : Nat} {x y : Int} (h : Sz k y) (h0 : 0 < y) (e : k ≤ 8999) : CDivW x y := ⟨h0, by have := h.log; omega⟩
theorem Sz.lit {k : Nat} {x : Int} (h : x.natAbs < 2 ^ k) : Sz k x := h
theorem Sz.fuel {k : Nat} {x : Int} (h : Sz k x) (e : k ≤ 20000) : x.natAbs < fuelN := Nat.lt_of_lt_of_le h (Nat.pow_le_pow_right (by decide) e)
theorem Sz.one : Sz 1 1 := by unfold Sz; decide
/-! ### fractions -/
def pr (t b : Int) : Dt := .tuple [.int t, .int b]
def low (t b : Int) : Rat := (t : Rat) / (b : Rat)
def frD (q : Rat) : Dt := pr q.num q.den
def FSz (k : Nat) (q : Rat) : Prop := Sz k q.num ∧ Sz k (q.den : Int)
theorem FSz.mono {j k : Nat} {q : Rat} (h : FSz j q) (hk : j ≤ k) : FSz k q := ⟨h.1.mono hk, h.2.mono hk⟩
theorem low_self (q : Rat) : low q.num q.den = q := by
  unfold low
  rw [← Rat.divInt_eq_div]
  exact Rat.num_divInt_den q
theorem den_pos (q : Rat) : 0 < (q.den : Int) := by have := q.den_pos; omega
theorem low_num {t b : Int} (hb : 0 < b) : (low t b).num = t / (Int.gcd t b : Int) := by
  unfold low
  rw [← Rat.divInt_eq_div, Rat.num_divInt, Int.sign_eq_one_of_pos hb, Int.one_mul, Int.gcd_comm]
theorem low_den {t b : Int} (hb : 0 < b) : ((low t b).den : Int) = b / (Int.gcd t b : Int) := by
  unfold low
  rw [← Rat.divInt_eq_div, Rat.den_divInt, if_neg (by omega), Int.gcd_comm]
  rw [Int.natCast_ediv]
  congr 1
  omega
theorem gcd_pos {t b : Int} (hb : 0 < b) : 0 < (Int.gcd t b : Int) := by
  have : 0 < Int.gcd t b := Int.gcd_pos_of_ne_zero_right _ (by omega)
  omega
theorem gcd_le {t b : Int} (hb : 0 < b) : (Int.gcd t b : Int) ≤ b := Int.le_of_dvd hb (Int.gcd_dvd_right ..)
theorem low_frD {t b : Int} (hb : 0 < b) : frD (low t b) = pr (t / (Int.gcd t b : Int)) (b / (Int.gcd t b : Int)) := by
  unfold frD
  rw [low_num hb, low_den hb]
theorem abs_ediv_le (t g : Int) (hg : 0 < g) (hd : g ∣ t) : (t / g).natAbs ≤ t.natAbs := by
  obtain ⟨c, rfl⟩ := hd
  rw [Int.mul_ediv_cancel_left _ (by omega), Int.natAbs_mul]
  exact Nat.le_mul_of_pos_left _ (by omega)
theorem low_sz {k : Nat} {t b : Int} (hb : 0 < b) (ht : Sz k t) (hs : Sz k b) : FSz k (low t b) := by
  refine ⟨?_, ?_⟩
  · rw [low_num hb]; exact ht.le (abs_ediv_le _ _ (gcd_pos hb) (Int.gcd_dvd_left ..))
  · rw [low_den hb]; exact hs.le (abs_ediv_le _ _ (gcd_pos hb) (Int.gcd_dvd_right ..))
theorem cast_pos {b : Int} (hb : 0 < b) : (0 : Rat) < (b : Rat) := Rat.intCast_pos.mpr hb
theorem cast_ne {b : Int} (hb : 0 < b) : (b : Rat) ≠ 0 := Rat.ne_of_gt (cast_pos hb)
theorem low_mul {a b c d : Int} (hb : 0 < b) (hd : 0 < d) : low (a * c) (b * d) = low a b * low c d := by
  have := cast_ne hb
  have := cast_ne hd
  unfold low
  rw [Rat.intCast_mul, Rat.intCast_mul]
  grind
theorem low_div {a b c d : Int} (hb : 0 < b) (hc : 0 < c) (hd : 0 < d) : low (a * d) (b * c) = low a b / low c d := by
  have := cast_ne hb
  have := cast_ne hc
  have := cast_ne hd
  unfold low
  rw [Rat.intCast_mul, Rat.intCast_mul]
  grind
theorem low_lt {a b c d : Int} (hb : 0 < b) (hd : 0 < d) : low a b < low c d ↔ a * d < c * b := by
  unfold low
  have h1 := cast_pos hb
  have h2 := cast_pos hd
  rw [Rat.div_lt_iff h1, ← Rat.intCast_lt_intCast, Rat.intCast_mul, Rat.intCast_mul, ← Rat.mul_lt_mul_right h2]
  have : (c : Rat) / d * b * d = c * b := by
    have := cast_ne hd
    grind
  rw [this]
theorem low_int (a : Int) : low a 1 = (a : Rat) := by
  unfold low
  rw [show ((1 : Int) : Rat) = 1 from rfl]
  grind
theorem mul_sz {j k : Nat} {p q : Rat} (h : FSz j p) (h' : FSz k q) : FSz (j + k) (p * q) := by
  have e := low_mul (a := p.num) (b := p.den) (c := q.num) (d := q.den) (den_pos p) (den_pos q)
  rw [low_self, low_self] at e
  rw [← e]
  exact low_sz (Int.mul_pos (den_pos p) (den_pos q)) (h.1.mul h'.1) (h.2.mul h'.2)
theorem num_pos {q : Rat} (h : 0 < q) : 0 < q.num := by
  have := (Rat.lt_iff 0 q).mp h
  simpa using this
theorem div_sz {j k : Nat} {p q : Rat} (hq : 0 < q) (h : FSz j p) (h' : FSz k q) : FSz (j + k) (p / q) := by
  have e := low_div (a := p.num) (b := p.den) (c := q.num) (d := q.den) (den_pos p) (num_pos hq) (den_pos q)
  rw [low_self, low_self] at e
  rw [← e]
  exact low_sz (Int.mul_pos (den_pos p) (num_pos hq)) (h.1.mul h'.2) (h.2.mul h'.1)
theorem frD_ok (q : Rat) : okD (frD q) = true := rfl
theorem idx0 (t b : Int) : idxD (pr t b) (.int 0) = some (.int t) := rfl
theorem idx1 (t b : Int) : idxD (pr t b) (.int 1) = some (.int b) := rfl
theorem frD_inj {p q : Rat} (h : frD p = frD q) : p = q := by
  unfold frD pr at h
  simp only [PyData.tuple.injEq, List.cons.injEq, PyData.int.injEq, and_true] at h
  exact Rat.ext h.1 (by omega)
theorem sem_lt_true (q : Rat) : okD (pr q.num q.den) = true := rfl
end DL

set_option Elab.async false
set_option linter.all false
set_option maxRecDepth 100000
namespace DL
open PySem PySem.Spec L2
open PyProof.Rows hiding St
/-! ### texts by their signs -/
abbrev sgS (c : Nat) : Str := ⟨#[c]⟩
def wS (w : List Nat) : Str := ⟨w.toArray⟩
theorem wS_inj {v w : List Nat} : wS v = wS w ↔ v = w := ⟨fun h => by
  have := congrArg (fun s : Str => s.cps.toList) h
  simpa [wS] using this, fun h => by rw [h]⟩
theorem sgS_w (c : Nat) : sgS c = wS [c] := rfl
theorem wS_len (w : List Nat) : (wS w).length = w.length := by simp [wS, Str.length]
theorem tl_wS (w : List Nat) : TL.tl (wS w) = w := rfl
theorem wS_app (v w : List Nat) : wS v ++ wS w = wS (v ++ w) := TL.ext_tl (by rw [TL.tl_append]; rfl)
theorem signs_w (w : List Nat) : signsD (wS w) = w.map fun c => .str (sgS c) := by simp [signsD, wS]
theorem joinL_nil : ∀ l : List (List Nat), TL.joinL [] l = l.flatten
  | [] => rfl
  | [p] => by simp [TL.joinL]
  | p :: q :: r => by simp [TL.joinL, joinL_nil (q :: r)]
theorem join0 (l : List (List Nat)) : Txt.join (Str.ofString "") (l.map wS) = wS l.flatten := by
  refine TL.ext_tl ?_
  rw [TL.join_eq, TL.tl_join]
  show TL.joinL [] _ = _
  rw [joinL_nil, tl_wS, List.map_map]
  congr 1
  exact List.map_id' l
theorem joinD_signs (l : List Nat) (h : l.length ≤ 100000) : joinD (Str.ofString "") (.list (l.map fun c => .str (sgS c))) = some (.str (wS l)) := by
  have e : (l.map fun c => PyData.str (sgS c)) = ((l.map fun c => wS [c]).map PyData.str) := by rw [List.map_map]; rfl
  unfold joinD
  rw [e]
  simp only
  rw [strsOf_map]
  simp only [Option.bind_some]
  have e2 : (l.map fun c => wS [c]) = (l.map fun c => [c]).map wS := by rw [List.map_map]; rfl
  have hs : ((l.map fun c => wS [c]).map fun x => x.length).sum = l.length := by
    rw [List.map_map]
    show (l.map fun c => (wS [c]).length).sum = _
    have : (l.map fun c => (wS [c]).length) = l.map fun _ => 1 := List.map_congr_left fun c _ => rfl
    rw [this]
    clear e e2 h this
    induction l with
    | nil => rfl
    | cons x l ih => simp [ih]; omega
  have hl : (Str.ofString "").length = 0 := by decide +kernel
  rw [hs, hl, if_pos (by omega), e2, join0]
  congr 3
  clear e e2 h hs hl
  induction l with
  | nil => rfl
  | cons x l ih => simp [ih]
/-! words, a blank between -/
abbrev blk : Str := Str.ofString " "
theorem tl_blk : TL.tl blk = [32] := by decide +kernel
def txS (W : List (List Nat)) : Str := wS (TL.joinL [32] W)
theorem tx_join (W : List (List Nat)) : Txt.join blk (W.map wS) = txS W := by
  refine TL.ext_tl ?_
  rw [TL.join_eq, TL.tl_join, tl_blk, List.map_map]
  show _ = TL.joinL [32] W
  congr 1
  exact List.map_id' W
theorem splitD_tx (W : List (List Nat)) (h0 : W ≠ []) (h : ∀ w ∈ W, 32 ∉ w) (hz : (TL.joinL [32] W).length ≤ 100000) : splitD (txS W) (.str blk) = some (W.map fun w => .str (wS w)) := by
  have e := TL.split_join (y := blk) (s := 32) (S := []) tl_blk (by decide +kernel) (parts := W.map wS) (by simpa using h0) (fun p hp => by
    obtain ⟨w, hw, rfl⟩ := List.mem_map.mp hp
    exact h w hw)
  rw [tx_join] at e
  unfold splitD
  simp only
  have hb : (blk.length == 0) = false := by decide +kernel
  have hl : (txS W).length = (TL.joinL [32] W).length := wS_len _
  rw [if_pos ⟨hb, by rw [hl, sizeLine_eq]; omega⟩, e, List.map_map]
  rfl
theorem joinL_snoc (S w : List Nat) (c : Nat) : ∀ W : List (List Nat), TL.joinL S (W ++ [w ++ [c]]) = TL.joinL S (W ++ [w]) ++ [c]
  | [] => rfl
  | [v] => by simp [TL.joinL]
  | v :: u :: W => by
    have := joinL_snoc S w c (u :: W)
    simp only [List.cons_append, TL.joinL] at this ⊢
    rw [this]
    simp
theorem joinL_new (S w v : List Nat) : ∀ W : List (List Nat), TL.joinL S (W ++ [w] ++ [v]) = TL.joinL S (W ++ [w]) ++ S ++ v
  | [] => by simp [TL.joinL]
  | [u] => by simp [TL.joinL]
  | u :: x :: W => by
    have := joinL_new S w v (x :: W)
    simp only [List.cons_append, TL.joinL] at this ⊢
    rw [this]
    simp
theorem addStr (x y : Str) : addD (.str x) (.str y) = if x.length + y.length ≤ sizeLine then some (.str (x ++ y)) else none := rfl
theorem addS {x y : Str} {Q : Dt → Prop} : okO (addD (.str x) (.str y)) Q ↔ x.length + y.length ≤ sizeLine ∧ Q (.str (x ++ y)) := by
  rw [addStr]; by_cases h : x.length + y.length ≤ sizeLine <;> simp [h, okO]
theorem addL {x y : List Dt} {Q : Dt → Prop} : okO (addD (.list x) (.list y)) Q ↔ x.length + y.length ≤ sizeLine ∧ Q (.list (x ++ y)) := by
  show okO (if x.length + y.length ≤ sizeLine then some (.list (x ++ y)) else none) Q ↔ _
  by_cases h : x.length + y.length ≤ sizeLine <;> simp [h, okO]
theorem catLL {x y : List Dt} {Q : List Dt → Prop} : okO (catL (.list x) (.list y)) Q ↔ x.length + y.length ≤ sizeLine ∧ Q (x ++ y) := by
  show okO (if x.length + y.length ≤ sizeLine then some (x ++ y) else none) Q ↔ _
  by_cases h : x.length + y.length ≤ sizeLine <;> simp [h, okO]
/-- [x] * int(b) -/
theorem mulB (x : Dt) (b : Bool) : mulD (.list [x]) (.int (if b = true then 1 else 0)) = some (.list (if b = true then [x] else [])) := by
  cases b <;> rfl
theorem mulP (x : Dt) (p : Prop) [Decidable p] : mulD (.list [x]) (.int (if p then 1 else 0)) = some (.list (if p then [x] else [])) := by
  by_cases h : p
  · rw [if_pos h, if_pos h]; rfl
  · rw [if_neg h, if_neg h]; rfl
theorem intB (b : Bool) : intD [.bool b] = some (.int (if b = true then 1 else 0)) := rfl
theorem enD_at {ds : List Dt} {n : Nat} {d : Dt} (h : (enD 0 ds)[n]? = some d) : ∃ y, ds[n]? = some y ∧ d = .tuple [.int (n : Int), y] := by
  have hl : n < ds.length := by
    have := (List.getElem?_eq_some_iff.mp h).1
    rwa [enD_len] at this
  have := enD_get ds 0 n ds[n] (List.getElem?_eq_getElem hl)
  rw [this] at h
  cases h
  exact ⟨_, List.getElem?_eq_getElem hl, by simp⟩
theorem rgD0 (n : Nat) : rgD 0 n = (List.range n).map fun (i : Nat) => PyData.int (i : Int) := by
  unfold rgD
  refine List.map_congr_left fun i _ => ?_
  simp
theorem rgD_at {lo : Int} {k n : Nat} {d : Dt} (h : (rgD lo k)[n]? = some d) : n < k ∧ d = .int (lo + (n : Int)) := by
  have hn : n < k := by
    have := (List.getElem?_eq_some_iff.mp h).1
    simpa [rgD] using this
  refine ⟨hn, ?_⟩
  simp [rgD, hn] at h
  exact h.symm
/-- a dict of unlike keys -/
theorem valD_find {α : Type} (f : α → Key) (g : α → Dt) (k : Key) : ∀ l : List α, valD (l.map fun x => (f x, g x)) k = (l.find? fun x => decide (f x = k)).map g
  | [] => rfl
  | x :: l => by
    have ih := valD_find f g k l
    unfold valD at ih ⊢
    by_cases h : f x = k
    · simp [h]
    · simp only [List.map_cons, List.find?_cons, h, decide_false]
      exact ih
theorem putD_new {α : Type} (f : α → Key) (g : α → Dt) (l : List α) (k : Key) (d : Dt) (h : ∀ x ∈ l, f x ≠ k) : putD (l.map fun x => (f x, g x)) k d = (l.map fun x => (f x, g x)) ++ [(k, d)] := by
  unfold putD
  rw [if_neg]
  rw [List.any_map, Bool.not_eq_true, List.any_eq_false]
  intro x hx
  simp [h x hx]
end DL
namespace DL
open PySem PySem.Spec L2
open PyProof.Rows hiding St
/-- a comprehension of which only what its items are is wanted -/
theorem cL_some {ρ : Rho} {T : Dt → Rho → Option Rho} {t : Mo Bool} {e : Mo Dt} {P : Dt → Prop} : ∀ {ds : List Dt}, (∀ d ∈ ds, okO (T d ρ) fun ρ1 => Ok t ρ1 (fun b _ => b = true) noE ∧ Ok e ρ1 (fun y _ => P y) noE) → ∃ ys, cL T t e ρ ds = some ys ∧ ys.length = ds.length ∧ ∀ y ∈ ys, P y
  | [], _ => ⟨[], rfl, rfl, by simp⟩
  | d :: ds, h => by
    have h1 := h d List.mem_cons_self
    obtain ⟨ys, e1, e2, e3⟩ := cL_some (ds := ds) fun d hd => h d (List.mem_cons_of_mem _ hd)
    unfold cL
    unfold okO at h1
    cases hT : T d ρ with
    | none => rw [hT] at h1; exact h1.elim
    | some ρ1 =>
      rw [hT] at h1
      simp only at h1 ⊢
      obtain ⟨a, b⟩ := h1
      unfold Ok at a b
      cases ht : t ρ1 with
      | no => rw [ht] at a; exact a.elim
      | er x ρ2 => rw [ht] at a; exact a.elim
      | ok c ρ2 =>
        rw [ht] at a
        simp only at a ⊢
        subst a
        simp only
        cases he : e ρ1 with
        | no => rw [he] at b; exact b.elim
        | er x ρ2 => rw [he] at b; exact b.elim
        | ok y ρ2 =>
          rw [he] at b
          simp only at b ⊢
          refine ⟨y :: ys, by rw [e1]; rfl, by simp [e2], fun z hz => ?_⟩
          rcases List.mem_cons.mp hz with rfl | hz
          · exact b
          · exact e3 z hz
theorem ints_of {R : Int → Prop} : ∀ {ys : List Dt}, (∀ y ∈ ys, ∃ x, y = .int x ∧ R x) → ∃ C : List Int, ys = C.map .int ∧ ∀ x ∈ C, R x
  | [], _ => ⟨[], rfl, by simp⟩
  | y :: ys, h => by
    obtain ⟨x, rfl, hx⟩ := h y List.mem_cons_self
    obtain ⟨C, rfl, hC⟩ := ints_of (ys := ys) fun y hy => h y (List.mem_cons_of_mem _ hy)
    exact ⟨x :: C, rfl, fun z hz => by
      rcases List.mem_cons.mp hz with rfl | hz
      · exact hx
      · exact hC z hz⟩
theorem okR_tup {fo : Fo} {d : Dt} (h : okR fo (fun z => z = d) (fun z => .list z = d) noX) : fo = .ok d ∨ ∃ es, fo = .fr es ∧ .list es = d := by
  cases fo with
  | ok z => exact .inl (congrArg _ h)
  | fr z => exact .inr ⟨z, rfl, h⟩
  | _ => exact h.elim
theorem zipD_ints (A C : List Int) : zipD (A.map .int) (C.map .int) = (A.zip C).map fun p => PyData.tuple [.int p.1, .int p.2] := by
  induction A generalizing C with
  | nil => cases C <;> rfl
  | cons a A ih =>
    cases C with
    | nil => rfl
    | cons c C =>
      show _ :: zipD (A.map .int) (C.map .int) = _
      rw [ih]; rfl
/-! greatest and least -/
def maxQ : List Rat → Rat
  | [] => 0
  | x :: l => l.foldl max x
def minQ : List Rat → Rat
  | [] => 0
  | x :: l => l.foldl min x
theorem max_or (p q : Rat) : max p q = p ∨ max p q = q := by
  rw [Rat.max_def]; split
  · exact .inr rfl
  · exact .inl rfl
theorem min_or (p q : Rat) : min p q = p ∨ min p q = q := by
  rw [Rat.min_def]; split
  · exact .inl rfl
  · exact .inr rfl
theorem le_maxl (p q : Rat) : p ≤ max p q := by
  rw [Rat.max_def]; split
  · assumption
  · exact Rat.le_refl
theorem le_maxr (p q : Rat) : q ≤ max p q := by
  rw [Rat.max_def]; split
  · exact Rat.le_refl
  · have := @Rat.le_total p q; rcases this with h | h
    · contradiction
    · exact h
theorem min_lel (p q : Rat) : min p q ≤ p := by
  rw [Rat.min_def]; split
  · exact Rat.le_refl
  · have := @Rat.le_total p q; rcases this with h | h
    · contradiction
    · exact h
theorem min_ler (p q : Rat) : min p q ≤ q := by
  rw [Rat.min_def]; split
  · assumption
  · exact Rat.le_refl
theorem foldl_maxQ : ∀ (l : List Rat) (x : Rat), x ≤ l.foldl max x ∧ (∀ y ∈ l, y ≤ l.foldl max x) ∧ (l.foldl max x = x ∨ l.foldl max x ∈ l)
  | [], x => ⟨Rat.le_refl, by simp, .inl rfl⟩
  | y :: l, x => by
    obtain ⟨h1, h2, h3⟩ := foldl_maxQ l (max x y)
    refine ⟨Rat.le_trans (le_maxl x y) h1, fun z hz => ?_, ?_⟩
    · rcases List.mem_cons.mp hz with rfl | hz
      · exact Rat.le_trans (le_maxr x z) h1
      · exact h2 z hz
    · show l.foldl max (max x y) = x ∨ l.foldl max (max x y) ∈ y :: l
      rcases h3 with h | h
      · rw [h]
        rcases max_or x y with q | q
        · exact .inl q
        · rw [q]; exact .inr List.mem_cons_self
      · exact .inr (List.mem_cons_of_mem _ h)
theorem foldl_minQ : ∀ (l : List Rat) (x : Rat), l.foldl min x ≤ x ∧ (∀ y ∈ l, l.foldl min x ≤ y) ∧ (l.foldl min x = x ∨ l.foldl min x ∈ l)
  | [], x => ⟨Rat.le_refl, by simp, .inl rfl⟩
  | y :: l, x => by
    obtain ⟨h1, h2, h3⟩ := foldl_minQ l (min x y)
    refine ⟨Rat.le_trans h1 (min_lel x y), fun z hz => ?_, ?_⟩
    · rcases List.mem_cons.mp hz with rfl | hz
      · exact Rat.le_trans h1 (min_ler x z)
      · exact h2 z hz
    · show l.foldl min (min x y) = x ∨ l.foldl min (min x y) ∈ y :: l
      rcases h3 with h | h
      · rw [h]
        rcases min_or x y with q | q
        · exact .inl q
        · rw [q]; exact .inr List.mem_cons_self
      · exact .inr (List.mem_cons_of_mem _ h)
theorem maxQ_spec {l : List Rat} (h : l ≠ []) : maxQ l ∈ l ∧ ∀ y ∈ l, y ≤ maxQ l := by
  cases l with
  | nil => exact absurd rfl h
  | cons x l =>
    obtain ⟨h1, h2, h3⟩ := foldl_maxQ l x
    refine ⟨?_, fun y hy => ?_⟩
    · rcases h3 with e | e
      · show l.foldl max x ∈ _
        rw [e]; exact List.mem_cons_self
      · exact List.mem_cons_of_mem _ e
    · rcases List.mem_cons.mp hy with rfl | hy
      · exact h1
      · exact h2 y hy
theorem minQ_spec {l : List Rat} (h : l ≠ []) : minQ l ∈ l ∧ ∀ y ∈ l, minQ l ≤ y := by
  cases l with
  | nil => exact absurd rfl h
  | cons x l =>
    obtain ⟨h1, h2, h3⟩ := foldl_minQ l x
    refine ⟨?_, fun y hy => ?_⟩
    · rcases h3 with e | e
      · show l.foldl min x ∈ _
        rw [e]; exact List.mem_cons_self
      · exact List.mem_cons_of_mem _ e
    · rcases List.mem_cons.mp hy with rfl | hy
      · exact h1
      · exact h2 y hy
theorem maxQ_self (x : Rat) (l : List Rat) : (x :: l).foldl max x = maxQ (x :: l) := by
  show l.foldl max (max x x) = l.foldl max x
  rcases max_or x x with h | h <;> rw [h]
theorem minQ_self (x : Rat) (l : List Rat) : (x :: l).foldl min x = minQ (x :: l) := by
  show l.foldl min (min x x) = l.foldl min x
  rcases min_or x x with h | h <;> rw [h]
/-- items by two lists -/
def shares (A C : List Int) : List Rat := (A.zip C).map fun p => low p.1 p.2
end DL
namespace DL
open PySem PySem.Spec L2
open PyProof.Rows hiding St
/-! more of fractions -/
theorem low_le {a b c d : Int} (hb : 0 < b) (hd : 0 < d) : low a b ≤ low c d ↔ a * d ≤ c * b := by
  rw [← Rat.not_lt, low_lt hd hb]
  omega
theorem low_den_dvd {p r : Int} (hr : 0 < r) : ((low p r).den : Int) ∣ r := by
  rw [low_den hr]
  exact Int.ediv_dvd_of_dvd (Int.gcd_dvd_right ..)
theorem q_eq (q : Rat) : (q.num : Rat) = q * ((q.den : Int) : Rat) := by
  have h := low_self q
  have hd := cast_ne (den_pos q)
  unfold low at h
  have : (q.num : Rat) / ((q.den : Int) : Rat) * ((q.den : Int) : Rat) = q * ((q.den : Int) : Rat) := by rw [h]
  rwa [Rat.div_mul_cancel hd] at this
theorem whole_cast {q : Rat} {N : Int} (h : (q.den : Int) ∣ N) : ((q.num * N / (q.den : Int) : Int) : Rat) = q * (N : Rat) := by
  obtain ⟨c, rfl⟩ := h
  have hp := den_pos q
  rw [show q.num * ((q.den : Int) * c) = (q.num * c) * (q.den : Int) by grind, Int.mul_ediv_cancel _ (by omega), Rat.intCast_mul, Rat.intCast_mul, q_eq q]
  grind
theorem fr_int (a : Int) : frD (a : Rat) = pr a 1 := rfl
theorem max_le {p q r : Rat} (h1 : p ≤ r) (h2 : q ≤ r) : max p q ≤ r := by
  rcases max_or p q with h | h <;> rw [h] <;> assumption
/-- what the law reckons in whole numbers -/
theorem le_sq {p q : Rat} {l m t : Int} (ht : 0 < t) : p.num * (q.den : Int) * l * l ≤ q.num * (p.den : Int) * m * m ↔ p * (low l t * low l t) ≤ q * (low m t * low m t) := by
  have hp := den_pos p
  have hq := den_pos q
  have htt : 0 < t * t := Int.mul_pos ht ht
  rw [← low_mul ht ht, ← low_mul ht ht]
  rw [show p * low (l * l) (t * t) = low (p.num * (l * l)) ((p.den : Int) * (t * t)) by rw [low_mul hp htt, low_self]]
  rw [show q * low (m * m) (t * t) = low (q.num * (m * m)) ((q.den : Int) * (t * t)) by rw [low_mul hq htt, low_self]]
  rw [low_le (Int.mul_pos hp htt) (Int.mul_pos hq htt)]
  rw [show p.num * (l * l) * ((q.den : Int) * (t * t)) = (p.num * (q.den : Int) * l * l) * (t * t) by grind]
  rw [show q.num * (m * m) * ((p.den : Int) * (t * t)) = (q.num * (p.den : Int) * m * m) * (t * t) by grind]
  exact ⟨fun h => Int.mul_le_mul_of_nonneg_right h (by omega), fun h => Int.le_of_mul_le_mul_right h htt⟩
theorem le_one {p q : Rat} {l m t : Int} (ht : 0 < t) : p.num * (q.den : Int) * l ≤ q.num * (p.den : Int) * m ↔ p * low l t ≤ q * low m t := by
  have hp := den_pos p
  have hq := den_pos q
  rw [show p * low l t = low (p.num * l) ((p.den : Int) * t) by rw [low_mul hp ht, low_self]]
  rw [show q * low m t = low (q.num * m) ((q.den : Int) * t) by rw [low_mul hq ht, low_self]]
  rw [low_le (Int.mul_pos hp ht) (Int.mul_pos hq ht)]
  rw [show p.num * l * ((q.den : Int) * t) = (p.num * (q.den : Int) * l) * t by grind]
  rw [show q.num * m * ((p.den : Int) * t) = (q.num * (p.den : Int) * m) * t by grind]
  exact ⟨fun h => Int.mul_le_mul_of_nonneg_right h (by omega), fun h => Int.le_of_mul_le_mul_right h ht⟩
theorem inv_le {x y : Rat} (hx : 0 < x) (h : x ≤ y) : 1 / y ≤ 1 / x := by
  have hy : 0 < y := by
    rcases Rat.le_iff_lt_or_eq.mp h with h | h
    · grind
    · rw [← h]; exact hx
  have k : 1 / y * x ≤ 1 / y * y := Rat.mul_le_mul_of_nonneg_left h (Rat.le_of_lt (by rw [Rat.lt_div_iff hy]; grind))
  rw [Rat.div_mul_cancel (Rat.ne_of_gt hy)] at k
  rw [← Rat.not_lt, Rat.div_lt_iff hx]
  exact Rat.not_lt.mpr k
end DL
namespace DL
open PySem PySem.Spec L2
def onI (g : Int → Dt) : Dt → Dt
  | .int x => g x
  | d => d
theorem map_onI (g : Int → Dt) (L : List Int) : (L.map PyData.int).map (onI g) = L.map g := by
  rw [List.map_map]; rfl
end DL
namespace DL
open PySem PySem.Spec L2
theorem neB (x y : Bool) : neD (.bool x) (.bool y) = some (.bool (!decide (x = y))) := by cases x <;> cases y <;> rfl
theorem eqB (x y : Bool) : eqD (.bool x) (.bool y) = some (.bool (decide (x = y))) := by cases x <;> cases y <;> rfl
theorem in_trues (l : List Dt) : inD (.bool false) (.list (l.map fun _ => PyData.bool true)) = some (.bool false) := by
  have ok : okD (.list (l.map fun _ => PyData.bool true)) = true := by
    show (l.map fun _ => PyData.bool true).all (okN 11) = true
    rw [List.all_map, List.all_eq_true]
    intro _ _
    rfl
  have e : ((l.map fun _ => PyData.bool true).any fun z => PyData.eqv z (.bool false)) = false := by
    rw [List.any_map, List.any_eq_false]
    intro _ _
    show ¬ (PyData.eqv (.bool true) (.bool false) = true)
    decide
  unfold inD
  simp only
  rw [if_pos ⟨rfl, ok⟩, e]
theorem okD_two (A C : List Int) : okD (.list [.list (A.map .int), .list (C.map .int)]) = true := by
  have h : ∀ L : List Int, okN 11 (.list (L.map .int)) = true := fun L => by
    show (L.map PyData.int).all (okN 10) = true
    rw [List.all_map, List.all_eq_true]
    intro x _
    rfl
  show [PyData.list (A.map .int), .list (C.map .int)].all (okN 11) = true
  rw [List.all_cons, List.all_cons, h, h]
  rfl
end DL

set_option Elab.async false
set_option linter.all false
set_option maxRecDepth 100000
namespace DL
open PySem PySem.Spec L2
open PyProof.Rows hiding St
section
variable {ρ : Rho} {E : Ex → Rho → Prop} {QS : Fl → Rho → Prop} {Q : Dt → Rho → Prop} {m : Mo Dt} {ms : Mo (List Dt)} {mb mh : Mo Fl} {x f : Str} {ct : Ex → Bool}
theorem g_rev : Ok (eRev m) ρ Q E ↔ Ok m ρ (fun x ρ' => okO (revD x) fun z => Q z ρ') E := by
  unfold eRev
  exact g_bind.trans (by simp only [g_ofO])
theorem g_raise0 : Ok (sRaise0 x) ρ QS E ↔ E ⟨x, []⟩ ρ := Iff.rfl
def isOne (ds : List Dt) (R : Dt → Prop) : Prop := match ds with
  | [d] => R d
  | _ => False
theorem isOne_1 {d : Dt} {R : Dt → Prop} : isOne [d] R ↔ R d := Iff.rfl
theorem g_raise1 : Ok (sRaise1 x f ms) ρ QS E ↔ Ok ms ρ (fun ds ρ' => isOne ds fun d => noL d = true ∧ E ⟨x, [(f, d)]⟩ ρ') E := by
  unfold sRaise1
  rw [g_bind]
  refine iff_of_eq (congrArg (fun z => Ok ms ρ z E) ?_)
  funext ds ρ'
  unfold isOne
  rcases ds with _ | ⟨d, _ | ⟨d2, r⟩⟩
  · rfl
  · unfold Ok
    dsimp only
    by_cases h : noL d = true <;> simp [h]
  · rfl
theorem g_try : Ok (sTry ct mb mh) ρ QS E ↔ Ok mb ρ QS (fun x ρ1 => if ct x = true then Ok mh ρ1 QS (fun _ _ => False) else E x ρ1) := by
  unfold sTry Ok
  rcases h : mb ρ with ⟨fl, ρ1⟩ | ⟨y, ρ1⟩ | _
  · simp only [h]
  · simp only [h]
    by_cases hc : ct y = true
    · simp only [hc, if_true]
      rcases h2 : mh ρ1 with ⟨fl, ρ2⟩ | ⟨y, ρ2⟩ | _ <;> simp only [h2]
    · simp only [hc, if_false]
      exact Iff.rfl
  · simp only [h]
theorem g_lr1 {QL : List Dt → Rho → Prop} : Ok (lr1 m) ρ QL E ↔ Ok m ρ (fun x ρ' => isI x fun j => (small62 j ∧ j.toNat ≤ 16777216) ∧ QL (rgD 0 j.toNat) ρ') E := by
  unfold lr1
  rw [g_bind]
  refine iff_of_eq (congrArg (fun z => Ok m ρ z E) ?_)
  funext x ρ'
  cases x with
  | int j =>
    unfold isI Ok
    dsimp only
    by_cases h : small62 j ∧ j.toNat ≤ 16777216
    · rw [if_pos h]; exact propext ⟨fun q => ⟨h, q⟩, fun q => q.2⟩
    · rw [if_neg h]; exact propext ⟨fun q => q.elim, fun q => h q.1⟩
  | _ => rfl
theorem g_lr2 {QL : List Dt → Rho → Prop} {ma mb : Mo Dt} : Ok (lr2 ma mb) ρ QL E ↔ Ok ma ρ (fun x ρ1 => Ok mb ρ1 (fun y ρ' => isI x fun i => isI y fun j => (small62 i ∧ small62 j ∧ (j - i).toNat ≤ 16777216) ∧ QL (rgD i (j - i).toNat) ρ') E) E := by
  unfold lr2
  rw [g_bind]
  refine iff_of_eq (congrArg (fun z => Ok ma ρ z E) ?_)
  funext x ρ1
  refine propext (g_bind.trans (iff_of_eq (congrArg (fun z => Ok mb ρ1 z E) ?_)))
  funext y ρ'
  cases x with
  | int i =>
    cases y with
    | int j =>
      unfold isI Ok
      dsimp only
      by_cases h : small62 i ∧ small62 j ∧ (j - i).toNat ≤ 16777216
      · rw [if_pos h]; exact propext ⟨fun q => ⟨h, q⟩, fun q => q.2⟩
      · rw [if_neg h]; exact propext ⟨fun q => q.elim, fun q => h q.1⟩
    | _ => rfl
  | _ => cases y <;> rfl
end
theorem at2_0 (a b : Dt) : atI [a, b] 0 = some a := rfl
theorem at2_1 (a b : Dt) : atI [a, b] 1 = some b := rfl
theorem at3_0 (a b c : Dt) : atI [a, b, c] 0 = some a := rfl
theorem at3_1 (a b c : Dt) : atI [a, b, c] 1 = some b := rfl
theorem at3_2 (a b c : Dt) : atI [a, b, c] 2 = some c := rfl
theorem rg3_ok {i j : Int} (h1 : small62 i) (h2 : small62 j) : rg3D [.int i, .int j, .int (-1)] = some (rgC i (-1) (i - j).toNat) := if_pos ⟨h1, h2, rfl⟩
theorem two_tu (x y k : Int) : ∃ a b : Int, atI [PyData.tuple [.int x, .int y], PyData.tuple [.int y, .int x]] (k % 2) = some (.tuple [.int a, .int b]) ∧ ((a = x ∧ b = y) ∨ (a = y ∧ b = x)) := by
  have h : k % 2 = 0 ∨ k % 2 = 1 := by omega
  rcases h with h | h <;> rw [h]
  · exact ⟨x, y, rfl, .inl ⟨rfl, rfl⟩⟩
  · exact ⟨y, x, rfl, .inr ⟨rfl, rfl⟩⟩
end DL

set_option Elab.async false
set_option linter.all false
set_option maxRecDepth 100000
namespace DL
open PySem PySem.Spec L2
open PyProof.Rows hiding St
def isFld (x : Ex) (f : Str) (R : Dt → Prop) : Prop := match x.fs with
  | [(g, d)] => g = f ∧ R d
  | _ => False
theorem isFld_1 {n f : Str} {d : Dt} {R : Dt → Prop} : isFld ⟨n, [(f, d)]⟩ f R ↔ R d := ⟨fun h => h.2, fun h => ⟨rfl, h⟩⟩
theorem g_tryFld {ρ : Rho} {E : Ex → Rho → Prop} {QS : Fl → Rho → Prop} {mb : Mo Fl} {f : Str} {ct : Ex → Bool} {i j : Nat} : Ok (sTryFld ct i j f mb) ρ QS E ↔ Ok mb ρ QS (fun x ρ1 => if ct x = true then isFld x f fun d => i < ρ1.length ∧ QS .nx ((ρ1.set j (.va d)).set i .un) else E x ρ1) := by
  unfold sTryFld Ok
  rcases h : mb ρ with ⟨fl, ρ1⟩ | ⟨y, ρ1⟩ | _
  · simp only [h]
  · simp only [h]
    by_cases hc : ct y = true
    · simp only [hc, if_true]
      unfold isFld
      rcases y.fs with _ | ⟨⟨g, d⟩, _ | ⟨e, r⟩⟩
      · exact Iff.rfl
      · dsimp only
        by_cases hg : g = f ∧ i < ρ1.length
        · rw [if_pos hg]
          exact ⟨fun q => ⟨hg.1, hg.2, q⟩, fun q => q.2.2⟩
        · rw [if_neg hg]
          exact ⟨fun q => q.elim, fun q => hg ⟨q.1, q.2.1⟩⟩
      · exact Iff.rfl
    · simp only [hc, if_false]
      exact Iff.rfl
  · simp only [h]
end DL

set_option Elab.async false
set_option linter.all false
set_option maxRecDepth 100000
namespace DL
open PySem PySem.Spec L2
open PyProof.Rows hiding St
def exS (o : Option Sl) (R : Ex → Prop) : Prop := match o with
  | none => False
  | some (.un) => False
  | some (.va _) => False
  | some (.ml _) => False
  | some (.md _) => False
  | some (.mn _) => False
  | some (.ex x) => R x
theorem exS_ex {x : Ex} {R : Ex → Prop} : exS (some (.ex x)) R ↔ R x := Iff.rfl
section
variable {ρ : Rho} {E : Ex → Rho → Prop} {QS : Fl → Rho → Prop} {Q : Dt → Rho → Prop} {mb mh : Mo Fl} {ct it : Ex → Bool} {i : Nat} {G : Ex → Fo} {cn f : Str} {mo me : Mo Dt}
theorem g_tryAs : Ok (sTryAs ct i mb mh) ρ QS E ↔ Ok mb ρ QS (fun x ρ1 => if ct x = true then (i < ρ1.length ∧ ρ1.all noExS = true) ∧ Ok mh (ρ1.set i (.ex x)) (fun fl ρ2 => (ρ2.set i .un).all noExS = true ∧ QS fl (ρ2.set i .un)) (fun _ _ => False) else E x ρ1) := by
  unfold sTryAs Ok
  rcases h : mb ρ with ⟨fl, ρ1⟩ | ⟨y, ρ1⟩ | _
  · simp only [h]
  · simp only [h]
    by_cases hc : ct y = true
    · simp only [hc, if_true]
      by_cases hg : i < ρ1.length ∧ ρ1.all noExS = true
      · rw [if_pos hg]
        rcases h2 : mh (ρ1.set i (.ex y)) with ⟨fl, ρ2⟩ | ⟨z, ρ2⟩ | _
        · simp only [h2]
          by_cases h3 : (ρ2.set i .un).all noExS = true
          · rw [if_pos h3]; exact ⟨fun q => ⟨hg, h3, q⟩, fun q => q.2.2⟩
          · rw [if_neg h3]; exact ⟨fun q => q.elim, fun q => h3 q.2.1⟩
        · simp only [h2]; exact ⟨fun q => q.elim, fun q => q.2.elim⟩
        · simp only [h2]; exact ⟨fun q => q.elim, fun q => q.2.elim⟩
      · rw [if_neg hg]; exact ⟨fun q => q.elim, fun q => hg q.1⟩
    · simp only [hc, if_false]
      exact Iff.rfl
  · simp only [h]
theorem g_isE : Ok (eIsE it i) ρ Q E ↔ exS ρ[i]? fun x => Q (.bool (it x)) ρ := by
  unfold eIsE exS Ok
  rcases h : ρ[i]? with _ | (_ | _ | _ | _ | _ | _) <;> simp only [h]
theorem g_fldE : Ok (eFldE cn f i) ρ Q E ↔ exS ρ[i]? fun x => x.cls = cn ∧ isFld x f fun d => Q d ρ := by
  unfold eFldE exS Ok
  rcases h : ρ[i]? with _ | (_ | _ | _ | _ | _ | x)
  · simp only [h]
  · simp only [h]
  · simp only [h]
  · simp only [h]
  · simp only [h]
  · simp only [h]
  · simp only [h]
    by_cases hc : x.cls = cn
    · rw [if_pos hc]
      unfold isFld
      rcases x.fs with _ | ⟨⟨g, d⟩, _ | ⟨e, r⟩⟩
      · exact ⟨fun q => q.elim, fun q => q.2.elim⟩
      · dsimp only
        by_cases hg : g = f
        · rw [if_pos hg]; exact ⟨fun q => ⟨hc, hg, q⟩, fun q => q.2.2⟩
        · rw [if_neg hg]; exact ⟨fun q => q.elim, fun q => hg q.2.1⟩
      · exact ⟨fun q => q.elim, fun q => q.2.elim⟩
    · rw [if_neg hc]; exact ⟨fun q => q.elim, fun q => hc q.1⟩
theorem g_callE : Ok (eCallE G i) ρ Q E ↔ exS ρ[i]? fun x => okR (G x) (fun d => Q d ρ) (fun _ => False) fun _ => False := by
  unfold eCallE exS Ok okR
  rcases h : ρ[i]? with _ | (_ | _ | _ | _ | _ | x)
  · simp only [h]
  · simp only [h]
  · simp only [h]
  · simp only [h]
  · simp only [h]
  · simp only [h]
  · simp only [h]
    cases G x <;> rfl
def blD (f : List Bool → Bool → Option Dt) (xs : List Dt) (y : Dt) : Option Dt := match boolsOf xs, y with
  | some bs, .bool b => f bs b
  | _, _ => none
theorem g_bl {fb : List Bool → Bool → Option Dt} : Ok (eBl fb mo me) ρ Q E ↔ Ok mo ρ (fun x ρ1 => isL x fun xs => Ok me ρ1 (fun y ρ2 => okO (blD fb xs y) fun z => Q z ρ2) E) E := by
  unfold eBl
  rw [g_bind]
  refine iff_of_eq (congrArg (fun z => Ok mo ρ z E) ?_)
  funext x ρ1
  cases x with
  | list xs =>
    unfold isL
    refine propext (g_bind.trans (iff_of_eq (congrArg (fun z => Ok me ρ1 z E) ?_)))
    funext y ρ2
    unfold blD okO
    cases boolsOf xs with
    | none => rfl
    | some bs =>
      cases y with
      | bool b =>
        unfold Ok ofO
        dsimp only
        cases fb bs b <;> rfl
      | _ => rfl
  | _ => rfl
end
theorem okE {k : Nat} {m : Mo Fl} {x : Ex} {d : Dt} (h : Ok m (.ex x :: List.replicate (k - 1) .un) (fun fl _ => fl = .rt d) fun _ _ => False) : runE k m x = .ok d := by
  unfold Ok at h
  unfold runE
  rcases hm : m (.ex x :: List.replicate (k - 1) .un) with ⟨fl, ρ1⟩ | ⟨y, ρ1⟩ | _
  · rw [hm] at h
    dsimp only at h ⊢
    rw [h]
  · rw [hm] at h; exact h.elim
  · rw [hm] at h; exact h.elim
end DL

set_option Elab.async false
set_option linter.all false
set_option maxRecDepth 100000
namespace DL
open PySem PySem.Spec L2
open PyProof.Rows hiding St
section
variable {ρ : Rho} {E : Ex → Rho → Prop} {QS : Fl → Rho → Prop} {Q : Dt → Rho → Prop} {yi di ki : Nat} {cn : Str} {m : Mo Dt} {t : Mo Bool} {va vb : Mo Vl}
def orE (o : Option Dt) (Q : Dt → Prop) (E : Prop) : Prop := match o with
  | some d => Q d
  | none => E
theorem orE_some {d : Dt} {Q : Dt → Prop} {E : Prop} : orE (some d) Q E ↔ Q d := Iff.rfl
theorem orE_none {Q : Dt → Prop} {E : Prop} : orE none Q E ↔ E := Iff.rfl
theorem g_tryKey : Ok (sTryKey yi di ki cn) ρ QS E ↔ slK ρ[di]? fun kvs => slV ρ[ki]? fun k => okO (keyD k) fun q => orE (valD kvs q) (fun d => QS .nx (ρ.set yi (.va d))) (E ⟨cn, []⟩ ρ) := by
  unfold Ok
  cases h : ρ[di]? with
  | none => simp only [sTryKey, h]; exact Iff.rfl
  | some sl =>
    cases h2 : ρ[ki]? with
    | none => cases sl <;> simp only [sTryKey, h, h2] <;> exact Iff.rfl
    | some sl2 =>
      cases sl with
      | md kvs =>
        cases sl2 with
        | va k =>
          simp only [sTryKey, h, h2]
          show _ ↔ okO (keyD k) fun q => orE (valD kvs q) (fun d => QS .nx (ρ.set yi (.va d))) (E ⟨cn, []⟩ ρ)
          cases keyD k with
          | none => exact Iff.rfl
          | some q =>
            show _ ↔ orE (valD kvs q) (fun d => QS .nx (ρ.set yi (.va d))) (E ⟨cn, []⟩ ρ)
            dsimp only
            cases valD kvs q <;> exact Iff.rfl
        | _ => simp only [sTryKey, h, h2]; exact Iff.rfl
      | _ => simp only [sTryKey, h, h2]; exact Iff.rfl
theorem g_dpairs {QD : List (Key × Dt) → Rho → Prop} : Ok (eDPairs m) ρ QD E ↔ Ok m ρ (fun x ρ' => isL x fun ds => okO (pairsK ds) fun kvs => QD (mergeD kvs) ρ') E := by
  unfold eDPairs
  rw [g_bind]
  refine iff_of_eq (congrArg (fun z => Ok m ρ z E) ?_)
  funext x ρ1
  cases x with
  | list ds =>
    unfold isL okO Ok
    dsimp only
    cases pairsK ds <;> rfl
  | _ => rfl
theorem g_ifV {QV : Vl → Rho → Prop} : Ok (eIfV t va vb) ρ QV E ↔ Ok t ρ (fun b ρ' => if b = true then Ok va ρ' QV E else Ok vb ρ' QV E) E := by
  unfold eIfV
  simp only [g_bind, ok_ite]
def replD (y z : Str) : Dt → Option Dt
  | .str s => if s.length + (s.length + 1) * z.length ≤ 16777216 then some (.str (Txt.replace s y z)) else none
  | _ => none
theorem g_repl {y z : Str} : Ok (eReplC y z m) ρ Q E ↔ Ok m ρ (fun x ρ' => okO (replD y z x) fun w => Q w ρ') E := by
  unfold eReplC
  rw [g_bind]
  refine iff_of_eq (congrArg (fun z => Ok m ρ z E) ?_)
  funext x ρ1
  unfold replD okO Ok
  cases x with
  | str s => by_cases h : s.length + (s.length + 1) * z.length ≤ 16777216 <;> simp [h]
  | _ => rfl
end
theorem pairs_map {α : Type} (f : α → Str) (g : α → Dt) : ∀ l : List α, pairsK (l.map fun x => .tuple [.str (f x), g x]) = some (l.map fun x => (.inr (f x), g x))
  | [] => rfl
  | x :: l => by
    have ih := pairs_map f g l
    simp only [List.map_cons, pairsK, ih]
    rfl
theorem merge_nd {α : Type} (f : α → Key) (g : α → Dt) (l : List α) (h : (l.map f).Nodup) : mergeD (l.map fun x => (f x, g x)) = l.map fun x => (f x, g x) := by
  have key : ∀ (r d : List α), ((d ++ r).map f).Nodup → (r.map fun x => (f x, g x)).foldl (fun acc kv => putD acc kv.1 kv.2) (d.map fun x => (f x, g x)) = (d ++ r).map fun x => (f x, g x) := by
    intro r
    induction r with
    | nil => intro d _; simp
    | cons x r ih =>
      intro d hn
      rw [List.map_cons, List.foldl_cons]
      rw [putD_new f g d (f x) (g x) (fun y hy e => by
        rw [List.map_append, List.nodup_append] at hn
        exact hn.2.2 (f y) (List.mem_map.mpr ⟨y, hy, rfl⟩) (f x) (by simp) e)]
      have := ih (d ++ [x]) (by simpa using hn)
      simpa using this
  exact key l [] (by simpa using h)
end DL

set_option Elab.async false
set_option linter.all false
set_option maxRecDepth 100000
namespace DL
open PySem PySem.Spec L2
open PyProof.Rows hiding St
def slN (o : Option Sl) (R : List (NestedKey × Dt) → Prop) : Prop := match o with
  | none => False
  | some .un => False
  | some (.va _) => False
  | some (.ml _) => False
  | some (.md _) => False
  | some (.mn kvs) => R kvs
  | some (.ex _) => False
section
variable {ρ : Rho} {E : Ex → Rho → Prop} {QS : Fl → Rho → Prop} {Q : Dt → Rho → Prop} {i : Nat} {m mo me mk : Mo Dt} {ms : Mo (List Dt)} {g : Bool → Bool}
theorem slN_mn {d : List (NestedKey × Dt)} {R : List (NestedKey × Dt) → Prop} : slN (some (.mn d)) R ↔ R d := Iff.rfl
theorem idxFrm {a b c d e i : Int} : idxD (fmD a b c d e) (.int i) = atI [.int a, .int b, .int c, .int d, .int e] i := rfl
theorem slFrm2 {a b c d e : Int} : slD (fmD a b c d e) none (some 2) = some (.tuple [.int a, .int b]) := rfl
theorem slFrm3 {a b c d e : Int} : slD (fmD a b c d e) (some 3) none = some (.tuple [.int d, .int e]) := rfl
theorem slFrm4 {a b c d e : Int} : slD (fmD a b c d e) (some 2) none = some (.tuple [.int c, .int d, .int e]) := rfl
theorem isFrm5 {a b c d e : Int} : isFrm [.int a, .int b, .int c, .int d, .int e] = true := rfl
theorem g_frm : Ok (eFrm ms) ρ Q E ↔ Ok ms ρ (fun xs ρ' => isFrm xs = true ∧ Q (.dict [(.bool true, .tuple xs)]) ρ') E := by
  unfold eFrm
  simp only [g_bind, ok_rif]
def okF (x : Dt) (R : Int → Int → Int → Int → Int → Prop) : Prop := match frm5 x with
  | some (a, b, c, d, e) => R a b c d e
  | none => False
theorem okF_frm {a b c d e : Int} {R : Int → Int → Int → Int → Int → Prop} : okF (fmD a b c d e) R ↔ R a b c d e := Iff.rfl
theorem g_fix : Ok (eFix mo me) ρ Q E ↔ Ok mo ρ (fun x ρ1 => okF x fun a b c d e => Ok me ρ1 (fun y ρ2 => okO (fixD a b c d e y) fun z => Q z ρ2) E) E := by
  unfold eFix
  rw [g_bind]
  refine iff_of_eq (congrArg (fun z => Ok mo ρ z E) ?_)
  funext x ρ1
  unfold okF
  cases frm5 x with
  | none => rfl
  | some q =>
    obtain ⟨a, b, c, d, e⟩ := q
    dsimp only
    refine propext (g_bind.trans (iff_of_eq (congrArg (fun z => Ok me ρ1 z E) ?_)))
    funext y ρ2
    exact propext g_ofO
theorem g_newN : Ok (sNewN i) ρ QS E ↔ QS .nx (ρ.set i (.mn [])) := Iff.rfl
theorem slN?_iff (R : List (NestedKey × Dt) → Prop) : (match slN? ρ i with | some kvs => R kvs | none => False) ↔ slN ρ[i]? R := by
  unfold slN? slN
  rcases h : ρ[i]? with _ | (_ | _ | _ | _ | _ | _) <;> simp only [h]
theorem g_inN : Ok (eNIn g i mk) ρ Q E ↔ Ok mk ρ (fun k ρ' => okO (keyN k) fun q => slN ρ'[i]? fun kvs => Q (.bool (g (valN kvs q).isSome)) ρ') E := by
  unfold eNIn
  rw [g_bind]
  refine iff_of_eq (congrArg (fun z => Ok mk ρ z E) ?_)
  funext k ρ1
  unfold Ok okO
  cases hk : keyN k with
  | none =>
    dsimp only
  | some q =>
    dsimp only
    refine (propext ?_ : _ = _)
    rw [← slN?_iff (ρ := ρ1) (i := i) fun kvs => Q (.bool (g (valN kvs q).isSome)) ρ1]
    cases slN? ρ1 i <;> (try exact Iff.rfl)
theorem g_nget : Ok (eNGet i mk) ρ Q E ↔ slN ρ[i]? fun kvs => Ok mk ρ (fun k ρ1 => okO (keyN k) fun q => okO (valN kvs q) fun d => Q d ρ1) E := by
  have e : ∀ kvs, Ok (bindM mk fun k ρ1 => match (keyN k).bind (valN kvs) with | some d => .ok d ρ1 | none => .no) ρ Q E ↔ Ok mk ρ (fun k ρ1 => okO (keyN k) fun q => okO (valN kvs q) fun d => Q d ρ1) E := fun kvs => by
    rw [g_bind]
    refine iff_of_eq (congrArg (fun z => Ok mk ρ z E) ?_)
    funext k ρ1
    unfold Ok okO
    cases keyN k with
    | none => rfl
    | some q => dsimp only [Option.bind_some]; cases valN kvs q <;> rfl
  show Ok (fun ρ => eNGet i mk ρ) ρ Q E ↔ _
  unfold eNGet slN? slN
  cases h : ρ[i]? with
  | none => unfold Ok; simp only [h]
  | some s =>
    cases s with
    | mn kvs => exact Iff.trans (by unfold Ok; simp only [h] <;> exact Iff.rfl) (e kvs)
    | _ => unfold Ok; simp only [h]
theorem g_nput : Ok (DL.sNPut i mk me) ρ QS E ↔ Ok me ρ (fun d ρ1 => slN ρ1[i]? fun kvs => Ok mk ρ1 (fun k ρ2 => okO (keyN k) fun q => kvs.length < sizeLine ∧ QS .nx (ρ2.set i (.mn (putN kvs q d)))) E) E := by
  unfold DL.sNPut
  rw [g_bind]
  refine iff_of_eq (congrArg (fun z => Ok me ρ z E) ?_)
  funext d ρ1
  have e : ∀ kvs, Ok (bindM mk fun k ρ2 => match keyN k with | some q => if kvs.length < sizeLine then .ok .nx (ρ2.set i (.mn (putN kvs q d))) else .no | none => .no) ρ1 QS E ↔ Ok mk ρ1 (fun k ρ2 => okO (keyN k) fun q => kvs.length < sizeLine ∧ QS .nx (ρ2.set i (.mn (putN kvs q d)))) E := fun kvs => by
    rw [g_bind]
    refine iff_of_eq (congrArg (fun z => Ok mk ρ1 z E) ?_)
    funext k ρ2
    unfold Ok okO
    cases keyN k with
    | none => rfl
    | some q => dsimp only; by_cases hz : kvs.length < sizeLine <;> simp [hz]
  unfold slN? slN
  cases h : ρ1[i]? with
  | none => unfold Ok; simp only [h]
  | some s =>
    cases s with
    | mn kvs => exact propext (Iff.trans (by unfold Ok; simp only [h] <;> exact Iff.rfl) (e kvs))
    | _ => unfold Ok; simp only [h]
theorem g_nget2 : Ok (eNGet2 i mk me) ρ Q E ↔ slN ρ[i]? fun _ => Ok mk ρ (fun k ρ1 => Ok me ρ1 (fun d ρ2 => okO (keyN k) fun q => slN ρ2[i]? fun kvs => Q ((valN kvs q).getD d) ρ2) E) E := by
  have e : Ok (bindM mk fun k => bindM me fun d ρ1 => match keyN k, slN? ρ1 i with | some q, some kvs => .ok ((valN kvs q).getD d) ρ1 | _, _ => .no) ρ Q E ↔ Ok mk ρ (fun k ρ1 => Ok me ρ1 (fun d ρ2 => okO (keyN k) fun q => slN ρ2[i]? fun kvs => Q ((valN kvs q).getD d) ρ2) E) E := by
    rw [g_bind]
    refine iff_of_eq (congrArg (fun z => Ok mk ρ z E) ?_)
    funext k ρ1
    refine propext (g_bind.trans (iff_of_eq (congrArg (fun z => Ok me ρ1 z E) ?_)))
    funext d ρ2
    unfold Ok okO
    cases hk : keyN k with
    | none =>
      dsimp only
    | some q =>
      dsimp only
      refine (propext ?_ : _ = _)
      rw [← slN?_iff (ρ := ρ2) (i := i) fun kvs => Q ((valN kvs q).getD d) ρ2]
      cases slN? ρ2 i <;> (try exact Iff.rfl)
  show Ok (fun ρ => eNGet2 i mk me ρ) ρ Q E ↔ _
  unfold eNGet2
  cases h : ρ[i]? with
  | none =>
    have : slN? ρ i = none := by unfold slN?; rw [h]
    unfold Ok; simp only [this] <;> exact Iff.rfl
  | some s =>
    cases s with
    | mn kvs =>
      have : slN? ρ i = some kvs := by unfold slN?; rw [h]
      exact Iff.trans (by unfold Ok; simp only [this] <;> exact Iff.rfl) e
    | _ =>
      have : slN? ρ i = none := by unfold slN?; rw [h]
      unfold Ok; simp only [this] <;> exact Iff.rfl
theorem g_insert : Ok (sInsert i mk me) ρ QS E ↔ slM ρ[i]? fun _ => Ok mk ρ (fun k ρ0 => Ok me ρ0 (fun d ρ1 => isI k fun z => slM ρ1[i]? fun ds => (ds.length < sizeLine ∧ 0 ≤ z ∧ z < 2 ^ 63) ∧ QS .nx (ρ1.set i (.ml (ds.take z.toNat ++ [d] ++ ds.drop z.toNat)))) E) E := by
  have e : Ok (bindM mk fun k => bindM me fun d ρ1 => match k, ρ1[i]? with | .int z, some (.ml ds) => if ds.length < sizeLine ∧ 0 ≤ z ∧ z < 2 ^ 63 then .ok .nx (ρ1.set i (.ml (ds.take z.toNat ++ [d] ++ ds.drop z.toNat))) else .no | _, _ => .no) ρ QS E ↔ Ok mk ρ (fun k ρ0 => Ok me ρ0 (fun d ρ1 => isI k fun z => slM ρ1[i]? fun ds => (ds.length < sizeLine ∧ 0 ≤ z ∧ z < 2 ^ 63) ∧ QS .nx (ρ1.set i (.ml (ds.take z.toNat ++ [d] ++ ds.drop z.toNat)))) E) E := by
    rw [g_bind]
    refine iff_of_eq (congrArg (fun z => Ok mk ρ z E) ?_)
    funext k ρ0
    refine propext (g_bind.trans (iff_of_eq (congrArg (fun z => Ok me ρ0 z E) ?_)))
    funext d ρ1
    unfold Ok
    cases k with
    | int z =>
      cases h : ρ1[i]? with
      | none => dsimp only; simp only [h]; rfl
      | some s =>
        cases s with
        | ml ds =>
          dsimp only
          simp only [h, isI_i, slM_ml]
          by_cases hz : ds.length < sizeLine ∧ 0 ≤ z ∧ z < 2 ^ 63
          · rw [if_pos hz]; exact propext ⟨fun q => ⟨hz, q⟩, fun q => q.2⟩
          · rw [if_neg hz]; exact propext ⟨fun q => q.elim, fun q => hz q.1⟩
        | _ => dsimp only; simp only [h]; rfl
    | _ => rfl
  show Ok (fun ρ => sInsert i mk me ρ) ρ QS E ↔ _
  unfold sInsert
  cases h : ρ[i]? with
  | none => unfold Ok; simp only [h] <;> exact Iff.rfl
  | some s =>
    cases s with
    | ml kvs => exact Iff.trans (by unfold Ok; simp only [h] <;> exact Iff.rfl) e
    | _ => unfold Ok; simp only [h] <;> exact Iff.rfl
end
end DL

set_option Elab.async false
set_option linter.all false
set_option maxRecDepth 100000
namespace LawK03
open PySem PySem.Spec L2 DL
open PyProof.Rows hiding St
def cvL : Array Value → NestedKey → Option Int := fun _ _ => none
noncomputable def l_row_weights_1 : Mo Fl := (sSeq (sIf (tOf (eOp neD (ePeek 2) (eFz (eLst eNil))))
  (sAppend 2 (eOp idxD (eVar 0) (eC (.int 2))))
  sNext)
  (sAppend 2 (eOp idxD (eVar 0) (eB intD (eCons (eOp eqD (eVar 3) (eC (.str "-"))) eNil)))))
noncomputable def b_row_weights : Mo Fl := (sSeq (sSetF 2 (eLst eNil))
  (sSeq (sFor (iAny (eVar 1)) (tgN 3) l_row_weights_1)
  (sRetO 2)))
noncomputable def m_row_weights : List Dt → Fo := runF 4 2 b_row_weights
noncomputable def t_weights_of_a2 : Mo Fl := (sSet 6 (eFz (eLst (eCons (eOp idxD (eVar 1) (eC (.int 3))) eNil))))
noncomputable def t_weights_of_a1 : Mo Fl := (sSeq (sExtend 4 (eOp addD (eVar 6) (eCall m_row_weights (eCons (eVar 1) (eCons (eVar 8) eNil)))))
  t_weights_of_a2)
noncomputable def l_weights_of_1 : Mo Fl := (sSeq (sTryKey 8 3 7 "NoSign")
  t_weights_of_a1)
noncomputable def t_weights_of_b2 : Mo Fl := (sFor (iAny (eVar 5)) (tgN 7) l_weights_of_1)
noncomputable def t_weights_of_b1 : Mo Fl := (sSeq (sIf (tOf (eOp eqD (eVar 5) (eC (.str ""))))
  (sRaise0 "NoSign")
  sNext)
  t_weights_of_b2)
noncomputable def l_weights_of_2 : Mo Fl := (sSeq (sSet 6 (eOp mulD (eFz (eLst (eCons (eOp idxD (eVar 1) (eC (.int 4))) eNil))) (eB intD (eCons (eOp neD (ePeek 4) (eFz (eLst eNil))) eNil))))
  t_weights_of_b1)
noncomputable def t_weights_of_c3 : Mo Fl := (sRetO 4)
noncomputable def t_weights_of_c2 : Mo Fl := (sSeq (sFor (iAny (eFz (eM1F splitD (eVar 2) (eC (.str " "))))) (tgN 5) l_weights_of_2)
  t_weights_of_c3)
noncomputable def t_weights_of_c1 : Mo Fl := (sSeq (sSetF 4 (eLst eNil))
  t_weights_of_c2)
noncomputable def b_weights_of : Mo Fl := (sSeq (sSetD 3 (eDPairs (eVar 0)))
  t_weights_of_c1)
noncomputable def m_weights_of : List Dt → Fo := runF 9 3 b_weights_of
noncomputable def l_text_of_1 : Mo Fl := (DL.sDPut 3 (eVar 5) (eVar 4))
noncomputable def t_text_of_a1 : Mo Fl := (sSet 5 (eC (.str "")))
noncomputable def l_text_of_2 : Mo Fl := (sIf (tAndM (tOf (eOp eqD (eOp modD (eVar 7) (eC (.int 2))) (eC (.int 0)))) (tOf (eOp inD (eVar 8) (eSl (eVar 1) eNoP (ePart (eC (.int 2)))))))
  (sAug 5 addSD (eOp idxD (eC (.str ".-")) (eFix (eVar 1) (eVar 8))))
  (sIf (tAndM (tOf (eOp eqD (eOp modD (eVar 7) (eC (.int 2))) (eC (.int 1)))) (tAndM (tOf (eOp inD (eVar 8) (eSl (eVar 1) (ePart (eC (.int 3))) eNoP))) (tOf (eDIn id 3 (eVar 5)))))
  (sSeq (sAug 6 addSD (eOp addD (eDGet 3 (eVar 5)) (eOp mulSD (eC (.str " ")) (eB intD (eCons (eOp eqD (eVar 8) (eOp idxD (eVar 1) (eC (.int 4)))) eNil)))))
  t_text_of_a1)
  (sIf (tOrM (tOf (eOp eqD (eOp modD (eVar 7) (eC (.int 2))) (eC (.int 0)))) (tOf (eOp neD (eVar 8) (eOp idxD (eVar 1) (eC (.int 2))))))
  (sRet (eC .none))
  sNext)))
noncomputable def t_text_of_b7 : Mo Fl := (sRet (eOp addD (eVar 6) (eDGet 3 (eVar 5))))
noncomputable def t_text_of_b6 : Mo Fl := (sSeq (sIf (tOf (eDIn not 3 (eVar 5)))
  (sRet (eC .none))
  sNext)
  t_text_of_b7)
noncomputable def t_text_of_b5 : Mo Fl := (sSeq (sFor (eBF enAD (eCons (eVar 2) eNil)) (tgT [7, 8]) l_text_of_2)
  t_text_of_b6)
noncomputable def t_text_of_b4 : Mo Fl := (sSeq (sSet 5 (eC (.str "")))
  t_text_of_b5)
noncomputable def t_text_of_b3 : Mo Fl := (sSeq (sSet 6 (eC (.str "")))
  t_text_of_b4)
noncomputable def t_text_of_b2 : Mo Fl := (sSeq (sIf (tOf (eOp eqD (eOp modD (eB lenD (eCons (eVar 2) eNil)) (eC (.int 2))) (eC (.int 0))))
  (sRet (eC .none))
  sNext)
  t_text_of_b3)
noncomputable def t_text_of_b1 : Mo Fl := (sSeq (sFor (iAny (eVar 0)) (tgT [4, 5]) l_text_of_1)
  t_text_of_b2)
noncomputable def b_text_of : Mo Fl := (sSeq (sSetD 3 eDNew)
  t_text_of_b1)
noncomputable def m_text_of : List Dt → Fo := runF 9 3 b_text_of
noncomputable def b__law_cell : Mo Fl := (sSeq (sIf (tOf (eOp ltD (eVar 1) (eB lenD (eCons (eVar 0) eNil))))
  (sRet (eOp idxD (eVar 0) (eVar 1)))
  sNext)
  (sSeq (sIf (tOf (eOp eqD (eB lenD (eCons (eVar 0) eNil)) (eC (.int 0))))
  (sRet (eOp addD (eOp mulD (eC (.int 7919)) (eVar 1)) (eC (.int 101))))
  sNext)
  (sRet (eOp addD (eOp modD (eOp idxD (eVar 0) (eOp modD (eVar 1) (eB lenD (eCons (eVar 0) eNil)))) (eC (.int 1000003))) (eOp mulD (eC (.int 7919)) (eVar 1))))))
noncomputable def m__law_cell : List Dt → Fo := runF 2 2 b__law_cell
noncomputable def l__law_draws_1 : Mo Fl := (sSeq (sSet 9 (eOp mulD (eOp modD (eVar 5) (eOp idxD (eVar 4) (eOp modD (eVar 8) (eC (.int 8))))) (eOp addD (eC (.int 48271)) (eOp mulD (eOp mulD (eC (.int 2)) (eVar 8)) (eVar 8)))))
  (sSeq (sSet 9 (eOp addD (eOp addD (eVar 9) (eOp mulD (eOp mulD (eC (.int 7919)) (eOp addD (eVar 8) (eC (.int 1)))) (eOp addD (eVar 8) (eC (.int 1))))) (eOp mulD (eC (.int 104729)) (eVar 1))))
  (sSeq (sSet 9 (eOp modD (eVar 9) (eOp idxD (eVar 4) (eOp modD (eOp addD (eOp mulD (eC (.int 3)) (eVar 8)) (eVar 1)) (eC (.int 8))))))
  (sSeq (sSet 9 (eOp modD (eOp mulD (eOp mulD (eVar 9) (eVar 9)) (eVar 9)) (eOp idxD (eVar 4) (eOp modD (eOp addD (eVar 8) (eC (.int 5))) (eC (.int 8))))))
  (sSeq (sIf (tOf (eOp gtD (eVar 6) (eC (.int 0))))
  (sSet 9 (eVar 6))
  sNext)
  (sSeq (sAppend 7 (eOp modD (eVar 9) (eVar 3)))
  (sSet 6 (eOp fdivD (eVar 6) (eVar 3)))))))))
noncomputable def b__law_draws : Mo Fl := (sSeq (sSet 4 (eTup (eCons (eC (.int 2147483647)) (eCons (eC (.int 2147483629)) (eCons (eC (.int 2147483587)) (eCons (eC (.int 2147483579)) (eCons (eC (.int 2147483563)) (eCons (eC (.int 2147483549)) (eCons (eC (.int 2147483543)) (eCons (eC (.int 2147483497)) eNil))))))))))
  (sSeq (sSet 5 (eCall m__law_cell (eCons (eVar 0) (eCons (eVar 1) eNil))))
  (sSeq (sSet 6 (eC (.int 0)))
  (sSeq (sIf (tOf (eOp geD (eVar 5) (eOp powD (eC (.int 10)) (eC (.int 18)))))
  (sSet 6 (eVar 5))
  sNext)
  (sSeq (sSetF 7 (eLst eNil))
  (sSeq (sFor (eBF rg1D (eCons (eVar 2) eNil)) (tgN 8) l__law_draws_1)
  (sRetO 7)))))))
noncomputable def m__law_draws : List Dt → Fo := runF 10 4 b__law_draws
noncomputable def t__law_book_a1 : Mo Fl := (sAppend 7 (eTup (eCons (ePop 5 (eOp modD (eOp fdivD (eVar 9) (eC (.int 7))) (eB lenD (eCons (ePeek 5) eNil)))) (eCons (eVar 11) eNil))))
noncomputable def t__law_book_b3 : Mo Fl := (sIf (tOf (eDIn not 6 (eVar 11)))
  (sSeq (DL.sDPut 6 (eVar 11) (eC (.bool true)))
  t__law_book_a1)
  sNext)
noncomputable def t__law_book_b2 : Mo Fl := (sSeq (sSet 11 (eM1 joinD (eC (.str "")) (eFz (eComp (eBF rg1D (eCons (eVar 10) eNil)) [12] (tgN 12) tYesM (eOp idxD (eC (.str ".-")) (eOp modD (eOp fdivD (eOp fdivD (eVar 9) (eC (.int 96))) (eOp shlD (eC (.int 1)) (eVar 12))) (eC (.int 2))))))))
  t__law_book_b3)
noncomputable def t__law_book_b1 : Mo Fl := (sSeq (sSet 10 (eOp addD (eC (.int 1)) (eOp idxD (eFz (eLst (eCons (eOp modD (eVar 9) (eC (.int 2))) (eCons (eOp modD (eVar 9) (eC (.int 4))) (eCons (eOp modD (eVar 9) (eC (.int 3))) (eCons (eOp modD (eVar 9) (eC (.int 8))) eNil)))))) (eOp modD (eOp fdivD (eVar 9) (eC (.int 24))) (eC (.int 4))))))
  t__law_book_b2)
noncomputable def l__law_book_1 : Mo Fl := (sSeq (sSet 9 (eOp idxD (eVar 4) (eVar 8)))
  t__law_book_b1)
noncomputable def t__law_book_c6 : Mo Fl := (sRetO 7)
noncomputable def t__law_book_c5 : Mo Fl := (sSeq (sFor (eBF rg1D (eCons (eOp addD (eC (.int 1)) (eOp modD (eOp idxD (eVar 3) (eC (.int 0))) (eVar 2))) eNil)) (tgN 8) l__law_book_1)
  t__law_book_c6)
noncomputable def t__law_book_c4 : Mo Fl := (sSeq (sSetF 7 (eLst eNil))
  t__law_book_c5)
noncomputable def t__law_book_c3 : Mo Fl := (sSeq (sSetD 6 eDNew)
  t__law_book_c4)
noncomputable def t__law_book_c2 : Mo Fl := (sSeq (sSetF 5 (eBF listS (eCons (eC (.str "abcdefghijklmnopqrstuvwxyz0123456789")) eNil)))
  t__law_book_c3)
noncomputable def t__law_book_c1 : Mo Fl := (sSeq (sSet 4 (eCall m__law_draws (eCons (eVar 0) (eCons (eOp addD (eVar 1) (eC (.int 1))) (eCons (eC (.int 40)) (eCons (eC (.int 27720)) eNil))))))
  t__law_book_c2)
noncomputable def b__law_book : Mo Fl := (sSeq (sSet 3 (eCall m__law_draws (eCons (eVar 0) (eCons (eVar 1) (eCons (eC (.int 3)) (eCons (eC (.int 27720)) eNil))))))
  t__law_book_c1)
noncomputable def m__law_book : List Dt → Fo := runF 13 3 b__law_book
noncomputable def b__law_form : Mo Fl := (sSeq (sSet 2 (eCall m__law_draws (eCons (eVar 0) (eCons (eVar 1) (eCons (eC (.int 6)) (eCons (eC (.int 27720)) eNil))))))
  (sSeq (sIf (tOf (eOp eqD (eOp modD (eOp idxD (eVar 2) (eC (.int 5))) (eC (.int 3))) (eC (.int 0))))
  (sRet (eFrm (eCons (eC (.int 1)) (eCons (eC (.int 3)) (eCons (eC (.int 1)) (eCons (eC (.int 3)) (eCons (eC (.int 7)) eNil)))))))
  sNext)
  (sSeq (sSet 3 (eOp addD (eC (.int 1)) (eOp modD (eOp idxD (eVar 2) (eC (.int 0))) (eOp idxD (eFz (eLst (eCons (eC (.int 4)) (eCons (eC (.int 30)) eNil)))) (eOp modD (eOp fdivD (eOp idxD (eVar 2) (eC (.int 5))) (eC (.int 3))) (eC (.int 2)))))))
  (sSeq (sSet 4 (eOp addD (eC (.int 1)) (eOp modD (eOp idxD (eVar 2) (eC (.int 2))) (eC (.int 5)))))
  (sSeq (sSet 5 (eOp addD (eOp addD (eVar 4) (eC (.int 1))) (eOp modD (eOp idxD (eVar 2) (eC (.int 3))) (eOp idxD (eFz (eLst (eCons (eC (.int 3)) (eCons (eC (.int 20)) eNil)))) (eOp modD (eOp fdivD (eOp idxD (eVar 2) (eC (.int 5))) (eC (.int 6))) (eC (.int 2)))))))
  (sRet (eFrm (eCons (eVar 3) (eCons (eOp addD (eOp addD (eVar 3) (eC (.int 1))) (eOp modD (eOp idxD (eVar 2) (eC (.int 1))) (eOp idxD (eFz (eLst (eCons (eC (.int 4)) (eCons (eC (.int 30)) eNil)))) (eOp modD (eOp fdivD (eOp idxD (eVar 2) (eC (.int 5))) (eC (.int 3))) (eC (.int 2)))))) (eCons (eVar 4) (eCons (eVar 5) (eCons (eOp addD (eOp addD (eVar 5) (eC (.int 1))) (eOp modD (eOp idxD (eVar 2) (eC (.int 4))) (eC (.int 9)))) eNil))))))))))))
noncomputable def m__law_form : List Dt → Fo := runF 6 2 b__law_form
noncomputable def t__law_text_a1 : Mo Fl := (sSet 5 (eOp addD (eVar 5) (eOp idxD (eOp idxD (eVar 2) (eOp modD (eOp fdivD (eOp idxD (eVar 4) (eOp addD (eC (.int 1)) (eVar 6))) (eC (.int 4))) (eB lenD (eCons (eVar 2) eNil)))) (eC (.int 0)))))
noncomputable def l__law_text_1 : Mo Fl := (sSeq (sIf (tAndM (tOf (eOp gtD (eVar 6) (eC (.int 0)))) (tOf (eOp eqD (eOp modD (eOp idxD (eVar 4) (eOp addD (eC (.int 1)) (eVar 6))) (eC (.int 4))) (eC (.int 0)))))
  (sSet 5 (eOp addD (eVar 5) (eC (.str " "))))
  sNext)
  t__law_text_a1)
noncomputable def t__law_text_b3 : Mo Fl := (sRet (eVar 5))
noncomputable def t__law_text_b2 : Mo Fl := (sSeq (sFor (eBF rg1D (eCons (eOp addD (eC (.int 1)) (eOp modD (eOp idxD (eVar 4) (eC (.int 0))) (eVar 3))) eNil)) (tgN 6) l__law_text_1)
  t__law_text_b3)
noncomputable def t__law_text_b1 : Mo Fl := (sSeq (sSet 5 (eC (.str "")))
  t__law_text_b2)
noncomputable def b__law_text : Mo Fl := (sSeq (sSet 4 (eCall m__law_draws (eCons (eVar 0) (eCons (eVar 1) (eCons (eC (.int 24)) (eCons (eC (.int 27720)) eNil))))))
  t__law_text_b1)
noncomputable def m__law_text : List Dt → Fo := runF 7 4 b__law_text
noncomputable def l__law_read_1 : Mo Fl := (DL.sDPut 3 (eVar 5) (eVar 4))
noncomputable def t__law_read_a1 : Mo Fl := (sSet 5 (eOp addD (eVar 5) (eOp idxD (eFz (eLst (eCons (eC (.str ".")) (eCons (eC (.str "-")) eNil)))) (eB intD (eCons (eOp eqD (eVar 8) (eOp idxD (eVar 1) (eC (.int 1)))) eNil)))))
noncomputable def t__law_read_b2 : Mo Fl := (sSet 5 (eC (.str "")))
noncomputable def t__law_read_b1 : Mo Fl := (sSeq (sSet 6 (eOp addD (eOp addD (eVar 6) (eDGet 3 (eVar 5))) (eOp idxD (eFz (eLst (eCons (eC (.str " ")) (eCons (eC (.str "")) eNil)))) (eB intD (eCons (eOrM (eOp eqD (eVar 8) (eOp idxD (eVar 1) (eC (.int 3)))) (eOp eqD (eVar 7) (eB lenD (eCons (eVar 2) eNil)))) eNil)))))
  t__law_read_b2)
noncomputable def l__law_read_2 : Mo Fl := (sIf (tAndM (tOf (eOp eqD (eOp modD (eVar 7) (eC (.int 2))) (eC (.int 0)))) (tOf (eOp ltD (eVar 7) (eB lenD (eCons (eVar 2) eNil)))))
  (sSeq (sIf (tOf (eOp ninD (eVar 8) (eSl (eVar 1) eNoP (ePart (eC (.int 2))))))
  (sRet (eC .none))
  sNext)
  t__law_read_a1)
  (sIf (tOrM (tOf (eOp eqD (eOp modD (eVar 7) (eC (.int 2))) (eC (.int 0)))) (tOf (eOp ninD (eVar 8) (eSl (eVar 1) (ePart (eC (.int 2))) eNoP))))
  (sRet (eC .none))
  (sIf (tOf (eOp neD (eVar 8) (eOp idxD (eVar 1) (eC (.int 2)))))
  (sSeq (sIf (tOf (eDIn not 3 (eVar 5)))
  (sRet (eC .none))
  sNext)
  t__law_read_b1)
  sNext)))
noncomputable def t__law_read_c5 : Mo Fl := (sRet (eVar 6))
noncomputable def t__law_read_c4 : Mo Fl := (sSeq (sFor (eBF enAD (eCons (eOp addD (eVar 2) (eFz (eLst (eCons (eOp idxD (eVar 1) (eC (.int 4))) eNil)))) eNil)) (tgT [7, 8]) l__law_read_2)
  t__law_read_c5)
noncomputable def t__law_read_c3 : Mo Fl := (sSeq (sSet 5 (eC (.str "")))
  t__law_read_c4)
noncomputable def t__law_read_c2 : Mo Fl := (sSeq (sSet 6 (eC (.str "")))
  t__law_read_c3)
noncomputable def t__law_read_c1 : Mo Fl := (sSeq (sFor (iAny (eVar 0)) (tgT [4, 5]) l__law_read_1)
  t__law_read_c2)
noncomputable def b__law_read : Mo Fl := (sSeq (sSetD 3 eDNew)
  t__law_read_c1)
noncomputable def m__law_read : List Dt → Fo := runF 9 3 b__law_read
noncomputable def t__law_bent_a4 : Mo Fl := (sRetO 3)
noncomputable def t__law_bent_a3 : Mo Fl := (sSeq (sIf (tOf (eOp ltD (eVar 5) (eC (.int 2))))
  (sSetIx 3 (eVar 4) (eOp idxD (eVar 1) (eOp modD (eOp idxD (eVar 2) (eC (.int 2))) (eC (.int 5)))))
  (sIf (tOf (eOp eqD (eVar 5) (eC (.int 2))))
  (sSetIx 3 (eVar 4) (eOp addD (eOp idxD (ePeek 3) (eVar 4)) (eOp idxD (eFz (eLst (eCons (eC (.int 1)) (eCons (eNeg (eC (.int 1))) eNil)))) (eOp modD (eOp idxD (eVar 2) (eC (.int 2))) (eC (.int 2))))))
  (sIf (tOf (eOp eqD (eVar 5) (eC (.int 3))))
  (sDrop (ePop 3 (eVar 4)))
  (sIf (tOf (eOp eqD (eVar 5) (eC (.int 4))))
  (sInsert 3 (eVar 4) (eOp idxD (ePeek 3) (eOp modD (eOp idxD (eVar 2) (eC (.int 2))) (eB lenD (eCons (ePeek 3) eNil)))))
  (sSetF 3 (eOpF catL (eOp addD (eSl (ePeek 3) eNoP (ePart (eVar 4))) (eRev (eSl (ePeek 3) (ePart (eVar 4)) (ePart (eOp addD (eVar 4) (eC (.int 2))))))) (eSl (ePeek 3) (ePart (eOp addD (eVar 4) (eC (.int 2)))) eNoP)))))))
  t__law_bent_a4)
noncomputable def t__law_bent_a2 : Mo Fl := (sSeq (sSet 5 (eOp modD (eOp idxD (eVar 2) (eC (.int 1))) (eC (.int 6))))
  t__law_bent_a3)
noncomputable def t__law_bent_a1 : Mo Fl := (sSeq (sSet 4 (eOp modD (eOp idxD (eVar 2) (eC (.int 0))) (eB lenD (eCons (ePeek 3) eNil))))
  t__law_bent_a2)
noncomputable def b__law_bent : Mo Fl := (sSeq (sSetF 3 (eBF listD (eCons (eVar 0) eNil)))
  t__law_bent_a1)
noncomputable def m__law_bent : List Dt → Fo := runF 6 3 b__law_bent
noncomputable def t_law_a1 : Mo Fl := (sIf (tOf (eOp neD (eCall m_text_of (eCons (eVar 2) (eCons (eVar 3) (eCons (eFz (eBF listD (eCons (eVar 11) eNil))) eNil)))) (eCall m__law_read (eCons (eVar 2) (eCons (eVar 3) (eCons (eVar 11) eNil))))))
  (sRet (eC (.bool false)))
  sNext)
noncomputable def l_law_1 : Mo Fl := (sSeq (sSet 11 (eCall m__law_bent (eCons (eVar 8) (eCons (eVar 3) (eCons (eSl (eVar 4) (ePart (eOp addD (eOp mulD (eC (.int 3)) (eVar 10)) (eOp mulD (eC (.int 27)) (eVar 6)))) (ePart (eOp addD (eOp addD (eOp mulD (eC (.int 3)) (eVar 10)) (eOp mulD (eC (.int 27)) (eVar 6))) (eC (.int 3))))) eNil)))))
  t_law_a1)
noncomputable def t_law_b6 : Mo Fl := (sFor (eBF rg1D (eCons (eC (.int 8)) eNil)) (tgN 10) l_law_1)
noncomputable def t_law_b5 : Mo Fl := (sSeq (DL.sNPut 5 (eB tupD (eCons (eVar 8) eNil)) (eVar 7))
  t_law_b6)
noncomputable def t_law_b4 : Mo Fl := (sSeq (sIf (tOf (eOp neD (eNGet2 5 (eB tupD (eCons (eVar 8) eNil)) (eVar 7)) (eVar 7)))
  (sRet (eC (.bool false)))
  sNext)
  t_law_b5)
noncomputable def t_law_b3 : Mo Fl := (sSeq (sIf (tOrM (tOf (eOp neD (eCall m_text_of (eCons (eVar 2) (eCons (eVar 3) (eCons (eVar 9) eNil)))) (eVar 7))) (tOf (eOp neD (eVar 9) (eVar 8))))
  (sRet (eC (.bool false)))
  sNext)
  t_law_b4)
noncomputable def t_law_b2 : Mo Fl := (sSeq (sSet 9 (eFz (eBF listD (eCons (eVar 8) eNil))))
  t_law_b3)
noncomputable def t_law_b1 : Mo Fl := (sSeq (sSet 8 (eCall m_weights_of (eCons (eVar 2) (eCons (eVar 3) (eCons (eVar 7) eNil)))))
  t_law_b2)
noncomputable def l_law_2 : Mo Fl := (sSeq (sSet 7 (eCall m__law_text (eCons (eVar 0) (eCons (eOp addD (eOp addD (eOp mulD (eC (.int 6)) (eVar 1)) (eC (.int 3))) (eOp mulD (eC (.int 2)) (eVar 6))) (eCons (eVar 2) (eCons (eC (.int 14)) eNil))))))
  t_law_b1)
noncomputable def t_law_c2 : Mo Fl := (sIf (tOf (eOp neD (eCall m_text_of (eCons (eVar 2) (eCons (eVar 3) (eCons (eFz (eBF listD (eCons (eVar 11) eNil))) eNil)))) (eCall m__law_read (eCons (eVar 2) (eCons (eVar 3) (eCons (eVar 11) eNil))))))
  (sRet (eC (.bool false)))
  sNext)
noncomputable def t_law_c1 : Mo Fl := (sSeq (sSet 11 (eFz (eComp (eBF enAD (eCons (eVar 11) eNil)) [10, 13] (tgT [10, 13]) tYesM (eIf (tOf (eOp eqD (eOp modD (eVar 10) (eC (.int 2))) (eC (.int 0)))) (eVar 13) (eOp idxD (eVar 3) (eOp addD (eC (.int 2)) (eOp modD (eOp idxD (eVar 4) (eVar 10)) (eC (.int 3)))))))))
  t_law_c2)
noncomputable def l_law_3 : Mo Fl := (sSeq (sSet 11 (eFz (eComp (iAny (eSl (eVar 4) (ePart (eVar 6)) (ePart (eOp mulD (eC (.int 2)) (eVar 6))))) [12] (tgN 12) tYesM (eOp idxD (eVar 3) (eOp modD (eVar 12) (eC (.int 5)))))))
  t_law_c1)
noncomputable def t_law_d5 : Mo Fl := (sFor (eBF rg1D (eCons (eC (.int 8)) eNil)) (tgN 6) l_law_3)
noncomputable def t_law_d4 : Mo Fl := (sSeq (sFor (eBF rg1D (eCons (eC (.int 2)) eNil)) (tgN 6) l_law_2)
  t_law_d5)
noncomputable def t_law_d3 : Mo Fl := (sSeq (sNewN 5)
  t_law_d4)
noncomputable def t_law_d2 : Mo Fl := (sSeq (sSet 4 (eCall m__law_draws (eCons (eVar 0) (eCons (eOp addD (eOp mulD (eC (.int 6)) (eVar 1)) (eC (.int 4))) (eCons (eC (.int 60)) (eCons (eC (.int 27720)) eNil))))))
  t_law_d3)
noncomputable def t_law_d1 : Mo Fl := (sSeq (sSet 3 (eCall m__law_form (eCons (eVar 0) (eCons (eOp addD (eOp mulD (eC (.int 6)) (eVar 1)) (eC (.int 2))) eNil))))
  t_law_d2)
noncomputable def l_law_4 : Mo Fl := (sSeq (sSet 2 (eCall m__law_book (eCons (eVar 0) (eCons (eOp mulD (eC (.int 6)) (eVar 1)) (eCons (eOp idxD (eFz (eLst (eCons (eC (.int 9)) (eCons (eC (.int 36)) eNil)))) (eVar 1)) eNil)))))
  t_law_d1)
noncomputable def t_law_e1 : Mo Fl := (sRet (eC (.bool true)))
noncomputable def b_law : Mo Fl := (sSeq (sFor (eBF rg1D (eCons (eC (.int 2)) eNil)) (tgN 1) l_law_4)
  t_law_e1)
noncomputable def m_law : List Dt → Fo := runF 14 1 b_law
end LawK03

set_option linter.all false
set_option maxRecDepth 100000
namespace LawK03
open PySem PySem.Spec L2 DL
open PyProof.Rows hiding St
theorem cell_ok (ns : List Int) (k : Int) (h0 : 0 ≤ k) (h1 : k < 1000) : ∃ c, m__law_cell [scr ns, .int k] = .ok (.int c) := by
  have h : okR (m__law_cell [scr ns, .int k]) (fun d => ∃ c, d = .int c) (fun _ => False) noX := by
    unfold m__law_cell b__law_cell
    simp only [g_bind, g_ok, g_ofO, g_var, g_peek, g_frz, g_C, g_op, g_opF, g_tOf, g_B, g_BF, g_nil, g_cons, ok_ite, g_tup, g_lst, g_fz, g_call, g_callF, g_callV, g_callF0, g_seq, g_next, g_set, g_setF, g_setV, g_drop, g_ret, g_retF, g_retV, g_retO, g_if, g_append, g_extend, g_to, g_par, g_aug, g_any, g_noP, g_part, g_sl, g_slF, g_isI, g_m1, g_tAnd, g_tOr, g_tNot, g_and, g_or, g_not, g_neg, g_eif, g_tru, g_for, g_comp, g_run, okO_some, slV_va, slP_va, slP_ml, slZ_va, slZ_ml, slM_ml, isB_b, isI_i, isS_s, isL_l, itO_l, itO_t, itO_s, isVl_z, isVl_f, nxF_nx, nxF_rt, nxF_ro, nxF_bk, nxF_ct, endF_nx, endF_rt, endF_ro, okR_ok, okR_fr, okR_er, two_ok, stepF_nx, stepF_ct, stepF_bk, stepF_rt, stepF_ro, List.getElem?_cons_zero, List.getElem?_cons_succ, List.set_cons_zero, List.set_cons_succ, List.length_cons, List.length_nil, List.map_cons, List.map_nil, List.replicate_succ, List.replicate_zero, List.cons_append, List.nil_append, Nat.reduceAdd, Nat.reduceSub, Nat.reduceLeDiff, decide_eq_true_eq, addInt, subInt, ltInt, mulInt, modInt, divInt, powInt, shlInt, shrInt, eqInt, neInt, cmpInt, lenScr, lenLst, lenTup, idxScr, idxLst, idxTup, true_and, tgN, wipeR, g_chain, g_iseq, g_setIx, g_lix, g_m1F, Option.bind_some, g_callB, g_vz, slK_md, g_setD, g_dnew, g_din, g_dget, g_dput, g_pop, keyStr, keyInt, g_frm, isFrm5, idxFrm, okF_frm, g_fix, slN_mn, g_newN, g_inN, g_nget, g_nput, g_nget2, g_insert, g_tryKey, orE_some, orE_none, g_dpairs, g_ifV, g_repl]
    split
    · obtain ⟨c, e, _⟩ := atI_ints ns k h0 (by assumption)
      rw [e]
      exact ⟨c, rfl⟩
    · split
      · exact ⟨cmul (by omega) (by omega), _, rfl⟩
      · obtain ⟨c, e, _⟩ := atI_ints ns (k % ns.length) (Int.emod_nonneg _ (by omega)) (Int.emod_lt_of_pos _ (by omega))
        rw [e]
        simp only [g_bind, g_ok, g_ofO, g_var, g_peek, g_frz, g_C, g_op, g_opF, g_tOf, g_B, g_BF, g_nil, g_cons, ok_ite, g_tup, g_lst, g_fz, g_call, g_callF, g_callV, g_callF0, g_seq, g_next, g_set, g_setF, g_setV, g_drop, g_ret, g_retF, g_retV, g_retO, g_if, g_append, g_extend, g_to, g_par, g_aug, g_any, g_noP, g_part, g_sl, g_slF, g_isI, g_m1, g_tAnd, g_tOr, g_tNot, g_and, g_or, g_not, g_neg, g_eif, g_tru, g_for, g_comp, g_run, okO_some, slV_va, slP_va, slP_ml, slZ_va, slZ_ml, slM_ml, isB_b, isI_i, isS_s, isL_l, itO_l, itO_t, itO_s, isVl_z, isVl_f, nxF_nx, nxF_rt, nxF_ro, nxF_bk, nxF_ct, endF_nx, endF_rt, endF_ro, okR_ok, okR_fr, okR_er, two_ok, stepF_nx, stepF_ct, stepF_bk, stepF_rt, stepF_ro, List.getElem?_cons_zero, List.getElem?_cons_succ, List.set_cons_zero, List.set_cons_succ, List.length_cons, List.length_nil, List.map_cons, List.map_nil, List.replicate_succ, List.replicate_zero, List.cons_append, List.nil_append, Nat.reduceAdd, Nat.reduceSub, Nat.reduceLeDiff, decide_eq_true_eq, addInt, subInt, ltInt, mulInt, modInt, divInt, powInt, shlInt, shrInt, eqInt, neInt, cmpInt, lenScr, lenLst, lenTup, idxScr, idxLst, idxTup, true_and, tgN, wipeR, g_chain, g_iseq, g_setIx, g_lix, g_m1F, Option.bind_some, g_callB, g_vz, slK_md, g_setD, g_dnew, g_din, g_dget, g_dput, g_pop, keyStr, keyInt, g_frm, isFrm5, idxFrm, okF_frm, g_fix, slN_mn, g_newN, g_inN, g_nget, g_nput, g_nget2, g_insert, g_tryKey, orE_some, orE_none, g_dpairs, g_ifV, g_repl]
        exact ⟨by omega, by omega, cmul (by omega) (by omega), _, rfl⟩
  obtain ⟨d, e, c, rfl⟩ := okR_val h
  exact ⟨c, e⟩
def primes : List Int := [2147483647, 2147483629, 2147483587, 2147483579, 2147483563, 2147483549, 2147483543, 2147483497]
theorem prime_at (k : Int) : ∃ p, atI (primes.map PyData.int) (k % 8) = some (.int p) ∧ 0 < p ∧ p < 2 ^ 31 := by
  obtain ⟨c, e, g⟩ := atI_ints primes (k % 8) (Int.emod_nonneg _ (by omega)) (Int.emod_lt_of_pos _ (by decide))
  refine ⟨c, e, ?_⟩
  have : ∀ x ∈ primes, 0 < x ∧ x < 2 ^ 31 := by decide
  exact this c (List.mem_of_getElem? g)
theorem draws_loop (ns : List Int) (k many base c r : Int) (dj dm : Sl) (h0 : 0 ≤ k) (h1 : k < 1000) (hm : 0 ≤ many) (hm' : many ≤ 1000) (hb : 0 < base) (hb' : base < 2 ^ 40) (Q : Fl → Rho → Prop)
    (hQ : ∀ (L : List Int) r' j' m', L.length = many.toNat → (∀ x ∈ L, 0 ≤ x ∧ x < base) → Q .nx [.va (scr ns), .va (.int k), .va (.int many), .va (.int base), .va (.tuple (primes.map .int)), .va (.int c), r', .ml (L.map .int), j', m']) :
    Ok (sLoop (tgN 8) l__law_draws_1 (rgD 0 many.toNat)) [.va (scr ns), .va (.int k), .va (.int many), .va (.int base), .va (.tuple (primes.map .int)), .va (.int c), .va (.int r), .ml [], dj, dm] Q fun x _ => noX x := by
  refine loop_inv (fun n ρ => n ≤ many.toNat ∧ ∃ (L : List Int) (r' : Int) (j' m' : Sl), L.length = n ∧ (∀ x ∈ L, 0 ≤ x ∧ x < base) ∧ ρ = [.va (scr ns), .va (.int k), .va (.int many), .va (.int base), .va (.tuple (primes.map .int)), .va (.int c), .va (.int r'), .ml (L.map .int), j', m']) ⟨Nat.zero_le _, [], r, dj, dm, rfl, by simp, rfl⟩ ?_ ?_
  · rintro n d ρ hd ⟨_, L, r', j', m', hl, hx, rfl⟩
    have hn : n < many.toNat := by
      have := (List.getElem?_eq_some_iff.mp hd).1
      simpa [rgD] using this
    have ed : d = .int n := by
      simp [rgD, hn] at hd
      exact hd.symm
    subst ed
    unfold l__law_draws_1
    obtain ⟨p1, e1, q1, q1'⟩ := prime_at n
    obtain ⟨p2, e2, q2, q2'⟩ := prime_at (3 * n + k)
    obtain ⟨p3, e3, q3, q3'⟩ := prime_at (n + 5)
    have hc := Int.emod_lt_of_pos c q1
    have hc' := Int.emod_nonneg c (b := p1) (by omega)
    simp only [g_bind, g_ok, g_ofO, g_var, g_peek, g_frz, g_C, g_op, g_opF, g_tOf, g_B, g_BF, g_nil, g_cons, ok_ite, g_tup, g_lst, g_fz, g_call, g_callF, g_callV, g_callF0, g_seq, g_next, g_set, g_setF, g_setV, g_drop, g_ret, g_retF, g_retV, g_retO, g_if, g_append, g_extend, g_to, g_par, g_aug, g_any, g_noP, g_part, g_sl, g_slF, g_isI, g_m1, g_tAnd, g_tOr, g_tNot, g_and, g_or, g_not, g_neg, g_eif, g_tru, g_for, g_comp, g_run, okO_some, slV_va, slP_va, slP_ml, slZ_va, slZ_ml, slM_ml, isB_b, isI_i, isS_s, isL_l, itO_l, itO_t, itO_s, isVl_z, isVl_f, nxF_nx, nxF_rt, nxF_ro, nxF_bk, nxF_ct, endF_nx, endF_rt, endF_ro, okR_ok, okR_fr, okR_er, two_ok, stepF_nx, stepF_ct, stepF_bk, stepF_rt, stepF_ro, List.getElem?_cons_zero, List.getElem?_cons_succ, List.set_cons_zero, List.set_cons_succ, List.length_cons, List.length_nil, List.map_cons, List.map_nil, List.replicate_succ, List.replicate_zero, List.cons_append, List.nil_append, Nat.reduceAdd, Nat.reduceSub, Nat.reduceLeDiff, decide_eq_true_eq, addInt, subInt, ltInt, mulInt, modInt, divInt, powInt, shlInt, shrInt, eqInt, neInt, cmpInt, lenScr, lenLst, lenTup, idxScr, idxLst, idxTup, true_and, tgN, wipeR, g_chain, g_iseq, g_setIx, g_lix, g_m1F, Option.bind_some, g_callB, g_vz, slK_md, g_setD, g_dnew, g_din, g_dget, g_dput, g_pop, keyStr, keyInt, g_frm, isFrm5, idxFrm, okF_frm, g_fix, slN_mn, g_newN, g_inN, g_nget, g_nput, g_nget2, g_insert, g_tryKey, orE_some, orE_none, g_dpairs, g_ifV, g_repl, e1, e2, e3]
    have nj : (n : Int) * n ≤ 1000 * 1000 := Int.mul_le_mul (by omega) (by omega) (by omega) (by omega)
    have nj0 : 0 ≤ (n : Int) * n := Int.mul_nonneg (by omega) (by omega)
    generalize hA : c % p1 * (48271 + 2 * n * n) = A
    generalize hB : A + 7919 * (n + 1) * (n + 1) + 104729 * k = B
    have hD := Int.emod_lt_of_pos B q2
    have hD' := Int.emod_nonneg B (b := p2) (by omega)
    generalize B % p2 = D at hD hD' ⊢
    have hDD : D * D ≤ 2 ^ 31 * 2 ^ 31 := Int.mul_le_mul (by omega) (by omega) (by omega) (by omega)
    have hDD' : 0 ≤ D * D := Int.mul_nonneg (by omega) (by omega)
    have sz : L.length < sizeLine := by unfold sizeLine; omega
    have fin : ∀ x : Int, 0 ≤ x % base ∧ x % base < base := fun x => ⟨Int.emod_nonneg _ (by omega), Int.emod_lt_of_pos _ hb⟩
    have nxt : ∀ (z : Int) (w : Dt), ∃ (L_1 : List Int) (r'_1 : Int) (j'_1 m'_1 : Sl), L_1.length = n + 1 ∧ (∀ x ∈ L_1, 0 ≤ x ∧ x < base) ∧ [Sl.va (scr ns), Sl.va (.int k), .va (.int many), .va (.int base), .va (.tuple (primes.map .int)), .va (.int c), .va (.int (r' / base)), .ml (L.map .int ++ [.int (z % base)]), .va (.int n), .va w] = [.va (scr ns), .va (.int k), .va (.int many), .va (.int base), .va (.tuple (primes.map .int)), .va (.int c), .va (.int r'_1), .ml (L_1.map .int), j'_1, m'_1] := fun z w =>
      ⟨L ++ [z % base], r' / base, _, _, by simp [hl], fun x hx' => by
        rcases List.mem_append.mp hx' with h | h
        · exact hx x h
        · simp at h; subst h; exact fin z, by simp; exact ⟨rfl, rfl⟩⟩
    have e2n : 2 * (n : Int) * n = 2 * (n * n) := Int.mul_assoc _ _ _
    refine ⟨by decide, q1, by apply cmul <;> omega, by apply cmul <;> omega, by apply cmul <;> omega, by apply cmul <;> omega, by apply cmul <;> omega, by apply cmul <;> omega, by apply cmul <;> omega, by decide, q2, by apply cmul <;> omega, by apply cmul <;> omega, by decide, q3, ?_⟩
    split
    · exact ⟨hb, by simpa using sz, cdiv hb (by omega), by omega, nxt _ _⟩
    · exact ⟨hb, by simpa using sz, cdiv hb (by omega), by omega, nxt _ _⟩
  · rintro ρ ⟨_, L, r', j', m', hl, hx, rfl⟩
    exact hQ L _ _ _ (by simpa [rgD] using hl) hx
theorem draws_ok (ns : List Int) (k many base : Int) (h0 : 0 ≤ k) (h1 : k < 1000) (hm : 0 ≤ many) (hm' : many ≤ 1000) (hb : 0 < base) (hb' : base < 2 ^ 40) :
    ∃ L : List Int, m__law_draws [scr ns, .int k, .int many, .int base] = .fr (L.map .int) ∧ L.length = many.toNat ∧ ∀ x ∈ L, 0 ≤ x ∧ x < base := by
  obtain ⟨c, ec⟩ := cell_ok ns k h0 h1
  have h : okR (m__law_draws [scr ns, .int k, .int many, .int base]) (fun _ => False) (fun ds => ∃ L : List Int, ds = L.map .int ∧ L.length = many.toNat ∧ ∀ x ∈ L, 0 ≤ x ∧ x < base) noX := by
    unfold m__law_draws b__law_draws
    have er : rg1D [.int many] = some (rgD 0 many.toNat) := if_pos (by unfold small62; omega)
    simp only [g_bind, g_ok, g_ofO, g_var, g_peek, g_frz, g_C, g_op, g_opF, g_tOf, g_B, g_BF, g_nil, g_cons, ok_ite, g_tup, g_lst, g_fz, g_call, g_callF, g_callV, g_callF0, g_seq, g_next, g_set, g_setF, g_setV, g_drop, g_ret, g_retF, g_retV, g_retO, g_if, g_append, g_extend, g_to, g_par, g_aug, g_any, g_noP, g_part, g_sl, g_slF, g_isI, g_m1, g_tAnd, g_tOr, g_tNot, g_and, g_or, g_not, g_neg, g_eif, g_tru, g_for, g_comp, g_run, okO_some, slV_va, slP_va, slP_ml, slZ_va, slZ_ml, slM_ml, isB_b, isI_i, isS_s, isL_l, itO_l, itO_t, itO_s, isVl_z, isVl_f, nxF_nx, nxF_rt, nxF_ro, nxF_bk, nxF_ct, endF_nx, endF_rt, endF_ro, okR_ok, okR_fr, okR_er, two_ok, stepF_nx, stepF_ct, stepF_bk, stepF_rt, stepF_ro, List.getElem?_cons_zero, List.getElem?_cons_succ, List.set_cons_zero, List.set_cons_succ, List.length_cons, List.length_nil, List.map_cons, List.map_nil, List.replicate_succ, List.replicate_zero, List.cons_append, List.nil_append, Nat.reduceAdd, Nat.reduceSub, Nat.reduceLeDiff, decide_eq_true_eq, addInt, subInt, ltInt, mulInt, modInt, divInt, powInt, shlInt, shrInt, eqInt, neInt, cmpInt, lenScr, lenLst, lenTup, idxScr, idxLst, idxTup, true_and, tgN, wipeR, g_chain, g_iseq, g_setIx, g_lix, g_m1F, Option.bind_some, g_callB, g_vz, slK_md, g_setD, g_dnew, g_din, g_dget, g_dput, g_pop, keyStr, keyInt, g_frm, isFrm5, idxFrm, okF_frm, g_fix, slN_mn, g_newN, g_inN, g_nget, g_nput, g_nget2, g_insert, g_tryKey, orE_some, orE_none, g_dpairs, g_ifV, g_repl, ec, er]
    refine ⟨by decide, ?_⟩
    have key : ∀ r : Int, Ok (sLoop (tgN 8) l__law_draws_1 (rgD 0 many.toNat)) [.va (scr ns), .va (.int k), .va (.int many), .va (.int base), .va (.tuple (primes.map .int)), .va (.int c), .va (.int r), .ml [], .un, .un] _ _ := fun r => draws_loop ns k many base c r .un .un h0 h1 hm hm' hb hb' (fun fl ρ' =>
        nxF fl (slZ ρ'[7]? (fun x => False) fun ds => ∃ L : List Int, ds = List.map PyData.int L ∧ L.length = many.toNat ∧ ∀ (x : Int), x ∈ L → 0 ≤ x ∧ x < base)
              (endF fl (fun x => False) fun ds => ∃ L, ds = List.map PyData.int L ∧ L.length = many.toNat ∧ ∀ (x : Int), x ∈ L → 0 ≤ x ∧ x < base))
        (fun L r' j' m' hl hx => by simp only [g_bind, g_ok, g_ofO, g_var, g_peek, g_frz, g_C, g_op, g_opF, g_tOf, g_B, g_BF, g_nil, g_cons, ok_ite, g_tup, g_lst, g_fz, g_call, g_callF, g_callV, g_callF0, g_seq, g_next, g_set, g_setF, g_setV, g_drop, g_ret, g_retF, g_retV, g_retO, g_if, g_append, g_extend, g_to, g_par, g_aug, g_any, g_noP, g_part, g_sl, g_slF, g_isI, g_m1, g_tAnd, g_tOr, g_tNot, g_and, g_or, g_not, g_neg, g_eif, g_tru, g_for, g_comp, g_run, okO_some, slV_va, slP_va, slP_ml, slZ_va, slZ_ml, slM_ml, isB_b, isI_i, isS_s, isL_l, itO_l, itO_t, itO_s, isVl_z, isVl_f, nxF_nx, nxF_rt, nxF_ro, nxF_bk, nxF_ct, endF_nx, endF_rt, endF_ro, okR_ok, okR_fr, okR_er, two_ok, stepF_nx, stepF_ct, stepF_bk, stepF_rt, stepF_ro, List.getElem?_cons_zero, List.getElem?_cons_succ, List.set_cons_zero, List.set_cons_succ, List.length_cons, List.length_nil, List.map_cons, List.map_nil, List.replicate_succ, List.replicate_zero, List.cons_append, List.nil_append, Nat.reduceAdd, Nat.reduceSub, Nat.reduceLeDiff, decide_eq_true_eq, addInt, subInt, ltInt, mulInt, modInt, divInt, powInt, shlInt, shrInt, eqInt, neInt, cmpInt, lenScr, lenLst, lenTup, idxScr, idxLst, idxTup, true_and, tgN, wipeR, g_chain, g_iseq, g_setIx, g_lix, g_m1F, Option.bind_some, g_callB, g_vz, slK_md, g_setD, g_dnew, g_din, g_dget, g_dput, g_pop, keyStr, keyInt, g_frm, isFrm5, idxFrm, okF_frm, g_fix, slN_mn, g_newN, g_inN, g_nget, g_nput, g_nget2, g_insert, g_tryKey, orE_some, orE_none, g_dpairs, g_ifV, g_repl]; exact ⟨L, rfl, hl, hx⟩)
    split <;> exact key _
  obtain ⟨d, e, L, rfl, h⟩ := okR_lst h
  exact ⟨L, e, h⟩
theorem draw_at {L : List Int} {base : Int} (hx : ∀ x ∈ L, 0 ≤ x ∧ x < base) (k : Nat) (h : k < L.length) : ∃ c, atI (L.map PyData.int) (k : Int) = some (.int c) ∧ 0 ≤ c ∧ c < base := by
  obtain ⟨c, e, g⟩ := atI_ints L k (by omega) (by omega)
  exact ⟨c, e, hx c (List.mem_of_getElem? g)⟩
theorem two_at (a b k : Int) : ∃ c, atI [PyData.int a, PyData.int b] (k % 2) = some (.int c) ∧ (c = a ∨ c = b) := by
  obtain ⟨c, e, g⟩ := atI_ints [a, b] (k % 2) (Int.emod_nonneg _ (by omega)) (Int.emod_lt_of_pos _ (by simp))
  refine ⟨c, e, ?_⟩
  have := List.mem_of_getElem? g
  simpa using this
structure FormOk (a b c d e : Int) : Prop where
  a1 : 1 ≤ a
  a2 : a ≤ 30
  b1 : a < b
  b2 : b ≤ 61
  c1 : 1 ≤ c
  c2 : c ≤ 5
  d1 : c < d
  d2 : d ≤ 30
  e1 : d < e
  e2 : e ≤ 50
theorem form_ok (ns : List Int) (k : Int) (h0 : 0 ≤ k) (h1 : k < 1000) : ∃ a b c d e : Int, m__law_form [scr ns, .int k] = .ok (fmD a b c d e) ∧ FormOk a b c d e := by
  obtain ⟨L, eL, hl, hx⟩ := draws_ok ns k 6 27720 h0 h1 (by decide) (by decide) (by decide) (by decide)
  obtain ⟨p0, g0, i0, j0⟩ := draw_at hx 0 (by rw [hl]; decide)
  obtain ⟨p1, g1, i1, j1⟩ := draw_at hx 1 (by rw [hl]; decide)
  obtain ⟨p2, g2, i2, j2⟩ := draw_at hx 2 (by rw [hl]; decide)
  obtain ⟨p3, g3, i3, j3⟩ := draw_at hx 3 (by rw [hl]; decide)
  obtain ⟨p4, g4, i4, j4⟩ := draw_at hx 4 (by rw [hl]; decide)
  obtain ⟨p5, g5, i5, j5⟩ := draw_at hx 5 (by rw [hl]; decide)
  obtain ⟨q1, r1, s1⟩ := two_at 4 30 (p5 / 3)
  obtain ⟨q2, r2, s2⟩ := two_at 3 20 (p5 / 6)
  have h : okR (m__law_form [scr ns, .int k]) (fun d => ∃ a b c d' e : Int, d = fmD a b c d' e ∧ FormOk a b c d' e) (fun _ => False) noX := by
    unfold m__law_form b__law_form
    simp only [Int.cast_ofNat_Int] at g0 g1 g2 g3 g4 g5
    simp only [g_bind, g_ok, g_ofO, g_var, g_peek, g_frz, g_C, g_op, g_opF, g_tOf, g_B, g_BF, g_nil, g_cons, ok_ite, g_tup, g_lst, g_fz, g_call, g_callF, g_callV, g_callF0, g_seq, g_next, g_set, g_setF, g_setV, g_drop, g_ret, g_retF, g_retV, g_retO, g_if, g_append, g_extend, g_to, g_par, g_aug, g_any, g_noP, g_part, g_sl, g_slF, g_isI, g_m1, g_tAnd, g_tOr, g_tNot, g_and, g_or, g_not, g_neg, g_eif, g_tru, g_for, g_comp, g_run, okO_some, slV_va, slP_va, slP_ml, slZ_va, slZ_ml, slM_ml, isB_b, isI_i, isS_s, isL_l, itO_l, itO_t, itO_s, isVl_z, isVl_f, nxF_nx, nxF_rt, nxF_ro, nxF_bk, nxF_ct, endF_nx, endF_rt, endF_ro, okR_ok, okR_fr, okR_er, two_ok, stepF_nx, stepF_ct, stepF_bk, stepF_rt, stepF_ro, List.getElem?_cons_zero, List.getElem?_cons_succ, List.set_cons_zero, List.set_cons_succ, List.length_cons, List.length_nil, List.map_cons, List.map_nil, List.replicate_succ, List.replicate_zero, List.cons_append, List.nil_append, Nat.reduceAdd, Nat.reduceSub, Nat.reduceLeDiff, decide_eq_true_eq, addInt, subInt, ltInt, mulInt, modInt, divInt, powInt, shlInt, shrInt, eqInt, neInt, cmpInt, lenScr, lenLst, lenTup, idxScr, idxLst, idxTup, true_and, tgN, wipeR, g_chain, g_iseq, g_setIx, g_lix, g_m1F, Option.bind_some, g_callB, g_vz, slK_md, g_setD, g_dnew, g_din, g_dget, g_dput, g_pop, keyStr, keyInt, g_frm, isFrm5, idxFrm, okF_frm, g_fix, slN_mn, g_newN, g_inN, g_nget, g_nput, g_nget2, g_insert, g_tryKey, orE_some, orE_none, g_dpairs, g_ifV, g_repl, eL, g0, g1, g2, g3, g4, g5, r1, r2]
    refine ⟨by decide, ?_⟩
    split
    · repeat (refine And.intro (by first | decide | omega | exact cdiv (by first | decide | omega) (by first | decide | omega) | (apply cmul <;> omega) | assumption) ?_)
      exact ⟨1, 3, 1, 3, 7, rfl, by constructor <;> decide⟩
    · have z1 := Int.emod_lt_of_pos p0 (b := q1) (by omega)
      have z2 := Int.emod_lt_of_pos p1 (b := q1) (by omega)
      have z3 := Int.emod_lt_of_pos p3 (b := q2) (by omega)
      have y1 := Int.emod_nonneg p0 (b := q1) (by omega)
      have y2 := Int.emod_nonneg p1 (b := q1) (by omega)
      have y3 := Int.emod_nonneg p3 (b := q2) (by omega)
      repeat (refine And.intro (by first | decide | omega | exact cdiv (by first | decide | omega) (by first | decide | omega) | (apply cmul <;> omega) | assumption) ?_)
      refine ⟨_, _, _, _, _, rfl, ?_⟩
      constructor <;> omega
  obtain ⟨d, e, a, b, c, d', e', rfl, h⟩ := okR_val h
  exact ⟨a, b, c, d', e', e, h⟩
end LawK03
namespace LawK03
open PySem PySem.Spec L2 DL
open PyProof.Rows hiding St
/-! books -/
def bitN (b : Bool) : Nat := if b = true then 45 else 46
theorem bitN_inj {x y : Bool} (h : bitN x = bitN y) : x = y := by revert h; cases x <;> cases y <;> decide
def rowS (r : List Bool) : Str := wS (r.map bitN)
theorem rowS_inj {r q : List Bool} : rowS r = rowS q ↔ r = q := ⟨fun h => by
  have := wS_inj.mp h
  exact (List.map_inj_right fun _ _ => bitN_inj).mp this, fun h => by rw [h]⟩
abbrev Bk := List (Nat × List Bool)
def itD (x : Nat × List Bool) : Dt := .tuple [.str (sgS x.1), .str (rowS x.2)]
def alphaN : List Nat := (List.range 26).map (97 + ·) ++ (List.range 10).map (48 + ·)
structure BkOk (B : Bk) : Prop where
  len : B.length ≤ 36
  sg : ∀ x ∈ B, x.1 ∈ alphaN
  nd1 : (B.map (·.1)).Nodup
  nd2 : (B.map (·.2)).Nodup
  row : ∀ x ∈ B, 1 ≤ x.2.length ∧ x.2.length ≤ 8
theorem sgS_inj {c d : Nat} : sgS c = sgS d ↔ c = d := ⟨fun h => by
  have := wS_inj.mp (show wS [c] = wS [d] from h)
  simpa using this, fun h => by rw [h]⟩
theorem list_alpha : listS [.str (Str.ofString "abcdefghijklmnopqrstuvwxyz0123456789")] = some (alphaN.map fun c => .str (sgS c)) := by
  have e : Str.ofString "abcdefghijklmnopqrstuvwxyz0123456789" = wS alphaN := by decide +kernel
  rw [e]
  unfold listS
  simp only
  rw [if_pos (by rw [wS_len, sizeLine_eq]; decide), signs_w]
theorem alpha_nd : alphaN.Nodup := by decide +kernel
/-- what a turn keeps -/
structure BkI (B : Bk) (S : List Nat) (n : Nat) : Prop where
  ok : BkOk B
  sum : S.length + B.length = 36
  nd : S.Nodup
  al : ∀ c ∈ S, c ∈ alphaN
  off : ∀ x ∈ B, x.1 ∉ S
  le : B.length ≤ n
  ne : 0 < n → B ≠ []
theorem BkI.start : BkI [] alphaN 0 := ⟨⟨by simp, by simp, by simp, by simp, by simp⟩, by decide, alpha_nd, fun _ h => h, by simp, by simp, fun h => absurd h (by decide)⟩
theorem BkI.skip {B : Bk} {S : List Nat} {n : Nat} (h : BkI B S n) (hB : B ≠ []) : BkI B S (n + 1) := ⟨h.ok, h.sum, h.nd, h.al, h.off, Nat.le_succ_of_le h.le, fun _ => hB⟩
theorem erase_perm {α : Type} : ∀ (l : List α) (j : Nat) (c : α), l[j]? = some c → (c :: l.eraseIdx j).Perm l
  | [], _, _, h => by simp at h
  | a :: l, 0, c, h => by simp at h; subst h; exact List.Perm.refl _
  | a :: l, j + 1, c, h => by
    have ih := erase_perm l j c (by simpa using h)
    exact (List.Perm.swap a c _).trans (ih.cons a)
theorem erase_map {α β : Type} (f : α → β) : ∀ (l : List α) (j : Nat), (l.map f).eraseIdx j = (l.eraseIdx j).map f
  | [], _ => rfl
  | a :: l, 0 => rfl
  | a :: l, j + 1 => by
    show f a :: (l.map f).eraseIdx j = f a :: (l.eraseIdx j).map f
    rw [erase_map f l j]
theorem BkI.put {B : Bk} {S : List Nat} {n : Nat} (h : BkI B S n) {j : Nat} {c : Nat} (hj : S[j]? = some c) {r : List Bool} (hr : r ∉ B.map (·.2)) (h1 : 1 ≤ r.length) (h8 : r.length ≤ 8) : BkI (B ++ [(c, r)]) (S.eraseIdx j) (n + 1) := by
  have hl : j < S.length := (List.getElem?_eq_some_iff.mp hj).1
  have hc : S[j] = c := by
    have := List.getElem?_eq_getElem hl
    rw [this] at hj; cases hj; rfl
  have hp : (c :: S.eraseIdx j).Perm S := by
    exact erase_perm S j c hj
  have hnd : (c :: S.eraseIdx j).Nodup := hp.nodup_iff.mpr h.nd
  have hcS : c ∈ S := hp.mem_iff.mp List.mem_cons_self
  have sub : ∀ x ∈ S.eraseIdx j, x ∈ S := fun x hx => hp.mem_iff.mp (List.mem_cons_of_mem _ hx)
  have hlen := hp.length_eq
  simp only [List.length_cons] at hlen
  have hs := h.sum
  refine ⟨⟨?_, ?_, ?_, ?_, ?_⟩, ?_, (List.nodup_cons.mp hnd).2, fun x hx => h.al x (sub x hx), ?_, ?_, fun _ => by simp⟩
  · simp; omega
  · intro x hx
    rcases List.mem_append.mp hx with q | q
    · exact h.ok.sg x q
    · simp at q; subst q; exact h.al c hcS
  · rw [List.map_append]
    refine List.nodup_append.mpr ⟨h.ok.nd1, by simp, ?_⟩
    intro a ha b hb
    simp at hb
    subst hb
    obtain ⟨x, hx, rfl⟩ := List.mem_map.mp ha
    exact fun e => h.off x hx (e ▸ hcS)
  · rw [List.map_append]
    refine List.nodup_append.mpr ⟨h.ok.nd2, by simp, ?_⟩
    intro a ha b hb
    simp at hb
    subst hb
    exact fun e => hr (e ▸ ha)
  · intro x hx
    rcases List.mem_append.mp hx with q | q
    · exact h.ok.row x q
    · simp at q; subst q; exact ⟨h1, h8⟩
  · simp; omega
  · intro x hx
    rcases List.mem_append.mp hx with q | q
    · exact fun z => h.off x q (sub _ z)
    · simp at q; subst q; exact (List.nodup_cons.mp hnd).1
  · simp; exact h.le
def rowsK (B : Bk) : List (Key × Dt) := B.map fun x => (.inr (rowS x.2), .bool true)
theorem rowsK_get (B : Bk) (r : List Bool) : (valD (rowsK B) (.inr (rowS r))).isSome = decide (r ∈ B.map (·.2)) := by
  unfold rowsK
  rw [valD_find (fun x : Nat × List Bool => Sum.inr (rowS x.2)) (fun _ => PyData.bool true)]
  rw [Option.isSome_map, List.isSome_find?, List.any_eq]
  refine decide_eq_decide.mpr ?_
  simp [rowS_inj]
theorem rowsK_put {B : Bk} {c : Nat} {r : List Bool} (h : r ∉ B.map (·.2)) : putD (rowsK B) (.inr (rowS r)) (.bool true) = rowsK (B ++ [(c, r)]) := by
  unfold rowsK
  rw [putD_new (fun x : Nat × List Bool => Sum.inr (rowS x.2)) (fun _ => PyData.bool true), List.map_append]
  · rfl
  · intro x hx e
    simp only [Sum.inr.injEq, rowS_inj] at e
    exact h (List.mem_map.mpr ⟨x, hx, e⟩)
theorem book_loop {L : List Int} (hL : L.length = 40) (hx : ∀ x ∈ L, 0 ≤ x ∧ x < 27720) {v0 v1 v2 v3 v8 v9 v10 v11 v12 : Sl} {m : Nat} (hm : m ≤ 36) {Q : Fl → Rho → Prop} 
    (hQ : ∀ B S v8 v9 v10 v11 v12, BkI B S m → Q .nx [v0, v1, v2, v3, .va (.list (L.map .int)), .ml (S.map fun c => .str (sgS c)), .md (rowsK B), .ml (B.map itD), v8, v9, v10, v11, v12]) :
    Ok (sLoop (tgN 8) l__law_book_1 (rgD 0 m)) [v0, v1, v2, v3, .va (.list (L.map .int)), .ml (alphaN.map fun c => .str (sgS c)), .md [], .ml [], v8, v9, v10, v11, v12] Q fun x _ => noX x := by
  refine loop_inv (fun n ρ => ∃ B S v8 v9 v10 v11 v12, BkI B S n ∧ ρ = [v0, v1, v2, v3, .va (.list (L.map .int)), .ml (S.map fun c => .str (sgS c)), .md (rowsK B), .ml (B.map itD), v8, v9, v10, v11, v12]) ⟨[], alphaN, v8, v9, v10, v11, v12, .start, rfl⟩ ?_ ?_
  · rintro n d ρ hd ⟨B, S, v8, v9, v10, v11, v12, hI, rfl⟩
    obtain ⟨hn, rfl⟩ := rgD_at hd
    rw [Int.zero_add]
    obtain ⟨p, e1, q1, q2⟩ := draw_at hx n (by omega)
    have e2 : ∃ l : Nat, atI [PyData.int (p % 2), .int (p % 4), .int (p % 3), .int (p % 8)] (p / 24 % 4) = some (.int (l : Int)) ∧ l ≤ 7 := by
      have : p / 24 % 4 = 0 ∨ p / 24 % 4 = 1 ∨ p / 24 % 4 = 2 ∨ p / 24 % 4 = 3 := by omega
      rcases this with h | h | h | h <;> rw [h]
      · exact ⟨(p % 2).toNat, by show some _ = some _; congr 2; omega, by omega⟩
      · exact ⟨(p % 4).toNat, by show some _ = some _; congr 2; omega, by omega⟩
      · exact ⟨(p % 3).toNat, by show some _ = some _; congr 2; omega, by omega⟩
      · exact ⟨(p % 8).toNat, by show some _ = some _; congr 2; omega, by omega⟩
    obtain ⟨l, e2, hl⟩ := e2
    have e3 : rg1D [.int (1 + (l : Int))] = some (rgD 0 (l + 1)) := by
      rw [show 1 + (l : Int) = ((l + 1 : Nat) : Int) by omega]
      exact rg1N (l + 1) (by omega)
    have hS : 0 < S.length := by have := hI.sum; have := hI.le; omega
    unfold l__law_book_1 t__law_book_b1
    simp only [g_bind, g_ok, g_ofO, g_var, g_peek, g_frz, g_C, g_op, g_opF, g_tOf, g_B, g_BF, g_nil, g_cons, ok_ite, g_tup, g_lst, g_fz, g_call, g_callF, g_callV, g_callF0, g_seq, g_next, g_set, g_setF, g_setV, g_drop, g_ret, g_retF, g_retV, g_retO, g_if, g_append, g_extend, g_to, g_par, g_aug, g_any, g_noP, g_part, g_sl, g_slF, g_isI, g_m1, g_tAnd, g_tOr, g_tNot, g_and, g_or, g_not, g_neg, g_eif, g_tru, g_for, g_comp, g_run, okO_some, slV_va, slP_va, slP_ml, slZ_va, slZ_ml, slM_ml, isB_b, isI_i, isS_s, isL_l, itO_l, itO_t, itO_s, isVl_z, isVl_f, nxF_nx, nxF_rt, nxF_ro, nxF_bk, nxF_ct, endF_nx, endF_rt, endF_ro, okR_ok, okR_fr, okR_er, two_ok, stepF_nx, stepF_ct, stepF_bk, stepF_rt, stepF_ro, List.getElem?_cons_zero, List.getElem?_cons_succ, List.set_cons_zero, List.set_cons_succ, List.length_cons, List.length_nil, List.map_cons, List.map_nil, List.replicate_succ, List.replicate_zero, List.cons_append, List.nil_append, Nat.reduceAdd, Nat.reduceSub, Nat.reduceLeDiff, decide_eq_true_eq, addInt, subInt, ltInt, mulInt, modInt, divInt, powInt, shlInt, shrInt, eqInt, neInt, cmpInt, lenScr, lenLst, lenTup, idxScr, idxLst, idxTup, true_and, tgN, wipeR, g_chain, g_iseq, g_setIx, g_lix, g_m1F, Option.bind_some, g_callB, g_vz, slK_md, g_setD, g_dnew, g_din, g_dget, g_dput, g_pop, keyStr, keyInt, g_frm, isFrm5, idxFrm, okF_frm, g_fix, slN_mn, g_newN, g_inN, g_nget, g_nput, g_nget2, g_insert, g_tryKey, orE_some, orE_none, g_dpairs, g_ifV, g_repl, e1, e2]
    repeat (with_reducible refine And.intro (by first | decide | omega | exact cdiv (by first | decide | omega) (by first | decide | omega) | (apply cmul <;> omega) | assumption) ?_)
    unfold t__law_book_b2
    simp only [g_bind, g_ok, g_ofO, g_var, g_peek, g_frz, g_C, g_op, g_opF, g_tOf, g_B, g_BF, g_nil, g_cons, ok_ite, g_tup, g_lst, g_fz, g_call, g_callF, g_callV, g_callF0, g_seq, g_next, g_set, g_setF, g_setV, g_drop, g_ret, g_retF, g_retV, g_retO, g_if, g_append, g_extend, g_to, g_par, g_aug, g_any, g_noP, g_part, g_sl, g_slF, g_isI, g_m1, g_tAnd, g_tOr, g_tNot, g_and, g_or, g_not, g_neg, g_eif, g_tru, g_for, g_comp, g_run, okO_some, slV_va, slP_va, slP_ml, slZ_va, slZ_ml, slM_ml, isB_b, isI_i, isS_s, isL_l, itO_l, itO_t, itO_s, isVl_z, isVl_f, nxF_nx, nxF_rt, nxF_ro, nxF_bk, nxF_ct, endF_nx, endF_rt, endF_ro, okR_ok, okR_fr, okR_er, two_ok, stepF_nx, stepF_ct, stepF_bk, stepF_rt, stepF_ro, List.getElem?_cons_zero, List.getElem?_cons_succ, List.set_cons_zero, List.set_cons_succ, List.length_cons, List.length_nil, List.map_cons, List.map_nil, List.replicate_succ, List.replicate_zero, List.cons_append, List.nil_append, Nat.reduceAdd, Nat.reduceSub, Nat.reduceLeDiff, decide_eq_true_eq, addInt, subInt, ltInt, mulInt, modInt, divInt, powInt, shlInt, shrInt, eqInt, neInt, cmpInt, lenScr, lenLst, lenTup, idxScr, idxLst, idxTup, true_and, tgN, wipeR, g_chain, g_iseq, g_setIx, g_lix, g_m1F, Option.bind_some, g_callB, g_vz, slK_md, g_setD, g_dnew, g_din, g_dget, g_dput, g_pop, keyStr, keyInt, g_frm, isFrm5, idxFrm, okF_frm, g_fix, slN_mn, g_newN, g_inN, g_nget, g_nput, g_nget2, g_insert, g_tryKey, orE_some, orE_none, g_dpairs, g_ifV, g_repl, e3]
    rw [cL_map (f := fun d => match d with | .int j => .str (sgS (bitN (decide (p / 96 / (1 * 2 ^ j.toNat) % 2 = 1)))) | d => d)]
    rotate_left
    · intro d hd
      rw [rgD0] at hd
      obtain ⟨i, hi, rfl⟩ := List.mem_map.mp hd
      have hi8 : i < l + 1 := List.mem_range.mp hi
      have hpow : (2 : Int) ^ ((i : Int)).toNat = ((2 ^ i : Nat) : Int) := by simp
      have p1 : (2 : Nat) ^ i ≤ 2 ^ 7 := Nat.pow_le_pow_right (by decide) (by omega)
      have p0 : 0 < (2 : Nat) ^ i := Nat.pow_pos (by decide)
      have e4 : ∀ y : Int, y % 2 = 0 ∨ y % 2 = 1 := fun y => by omega
      have e5 : ∀ y : Int, idxD (.str (Str.ofString ".-")) (.int (y % 2)) = some (.str (sgS (bitN (decide (y % 2 = 1))))) := fun y => by
        rcases e4 y with h | h <;> rw [h] <;> rfl
      simp only [g_bind, g_ok, g_ofO, g_var, g_peek, g_frz, g_C, g_op, g_opF, g_tOf, g_B, g_BF, g_nil, g_cons, ok_ite, g_tup, g_lst, g_fz, g_call, g_callF, g_callV, g_callF0, g_seq, g_next, g_set, g_setF, g_setV, g_drop, g_ret, g_retF, g_retV, g_retO, g_if, g_append, g_extend, g_to, g_par, g_aug, g_any, g_noP, g_part, g_sl, g_slF, g_isI, g_m1, g_tAnd, g_tOr, g_tNot, g_and, g_or, g_not, g_neg, g_eif, g_tru, g_for, g_comp, g_run, okO_some, slV_va, slP_va, slP_ml, slZ_va, slZ_ml, slM_ml, isB_b, isI_i, isS_s, isL_l, itO_l, itO_t, itO_s, isVl_z, isVl_f, nxF_nx, nxF_rt, nxF_ro, nxF_bk, nxF_ct, endF_nx, endF_rt, endF_ro, okR_ok, okR_fr, okR_er, two_ok, stepF_nx, stepF_ct, stepF_bk, stepF_rt, stepF_ro, List.getElem?_cons_zero, List.getElem?_cons_succ, List.set_cons_zero, List.set_cons_succ, List.length_cons, List.length_nil, List.map_cons, List.map_nil, List.replicate_succ, List.replicate_zero, List.cons_append, List.nil_append, Nat.reduceAdd, Nat.reduceSub, Nat.reduceLeDiff, decide_eq_true_eq, addInt, subInt, ltInt, mulInt, modInt, divInt, powInt, shlInt, shrInt, eqInt, neInt, cmpInt, lenScr, lenLst, lenTup, idxScr, idxLst, idxTup, true_and, tgN, wipeR, g_chain, g_iseq, g_setIx, g_lix, g_m1F, Option.bind_some, g_callB, g_vz, slK_md, g_setD, g_dnew, g_din, g_dget, g_dput, g_pop, keyStr, keyInt, g_frm, isFrm5, idxFrm, okF_frm, g_fix, slN_mn, g_newN, g_inN, g_nget, g_nput, g_nget2, g_insert, g_tryKey, orE_some, orE_none, g_dpairs, g_ifV, g_repl, e5]
      refine ⟨cdiv (by decide) (by decide), ⟨by omega, by omega, by decide⟩, cdiv ?_ ?_, by decide, trivial⟩
      · rw [hpow]; omega
      · rw [hpow]; omega
    have ej : (rgD 0 (l + 1)).map (fun d => match d with | .int j => .str (sgS (bitN (decide (p / 96 / (1 * 2 ^ j.toNat) % 2 = 1)))) | d => d) = ((List.range (l + 1)).map fun (i : Nat) => bitN (decide (p / 96 / (1 * 2 ^ ((i : Int)).toNat) % 2 = 1))).map fun c => PyData.str (sgS c) := by
      rw [rgD0, List.map_map, List.map_map]
      rfl
    rw [ej]
    generalize hr : (List.range (l + 1)).map (fun (i : Nat) => decide (p / 96 / (1 * 2 ^ ((i : Int)).toNat) % 2 = 1)) = r
    have hr2 : ((List.range (l + 1)).map fun (i : Nat) => bitN (decide (p / 96 / (1 * 2 ^ ((i : Int)).toNat) % 2 = 1))) = r.map bitN := by rw [← hr, List.map_map]; rfl
    have hrl : r.length = l + 1 := by rw [← hr]; simp
    rw [hr2]
    have ejn := joinD_signs (r.map bitN) (by simp; omega)
    have hz : (rgD 0 (l + 1)).length ≤ sizeLine := by rw [rgD_len, sizeLine_eq]; omega
    have hk := rowsK_get B r
    simp only [okO_some, ejn]
    refine ⟨hz, ?_⟩
    unfold t__law_book_b3
    simp only [g_bind, g_ok, g_ofO, g_var, g_peek, g_frz, g_C, g_op, g_opF, g_tOf, g_B, g_BF, g_nil, g_cons, ok_ite, g_tup, g_lst, g_fz, g_call, g_callF, g_callV, g_callF0, g_seq, g_next, g_set, g_setF, g_setV, g_drop, g_ret, g_retF, g_retV, g_retO, g_if, g_append, g_extend, g_to, g_par, g_aug, g_any, g_noP, g_part, g_sl, g_slF, g_isI, g_m1, g_tAnd, g_tOr, g_tNot, g_and, g_or, g_not, g_neg, g_eif, g_tru, g_for, g_comp, g_run, okO_some, slV_va, slP_va, slP_ml, slZ_va, slZ_ml, slM_ml, isB_b, isI_i, isS_s, isL_l, itO_l, itO_t, itO_s, isVl_z, isVl_f, nxF_nx, nxF_rt, nxF_ro, nxF_bk, nxF_ct, endF_nx, endF_rt, endF_ro, okR_ok, okR_fr, okR_er, two_ok, stepF_nx, stepF_ct, stepF_bk, stepF_rt, stepF_ro, List.getElem?_cons_zero, List.getElem?_cons_succ, List.set_cons_zero, List.set_cons_succ, List.length_cons, List.length_nil, List.map_cons, List.map_nil, List.replicate_succ, List.replicate_zero, List.cons_append, List.nil_append, Nat.reduceAdd, Nat.reduceSub, Nat.reduceLeDiff, decide_eq_true_eq, addInt, subInt, ltInt, mulInt, modInt, divInt, powInt, shlInt, shrInt, eqInt, neInt, cmpInt, lenScr, lenLst, lenTup, idxScr, idxLst, idxTup, true_and, tgN, wipeR, g_chain, g_iseq, g_setIx, g_lix, g_m1F, Option.bind_some, g_callB, g_vz, slK_md, g_setD, g_dnew, g_din, g_dget, g_dput, g_pop, keyStr, keyInt, g_frm, isFrm5, idxFrm, okF_frm, g_fix, slN_mn, g_newN, g_inN, g_nget, g_nput, g_nget2, g_insert, g_tryKey, orE_some, orE_none, g_dpairs, g_ifV, g_repl, show wS (r.map bitN) = rowS r from rfl, hk]
    by_cases hin : r ∈ B.map (·.2)
    · rw [decide_eq_true hin, if_neg (by simp)]
      exact ⟨B, S, _, _, _, _, _, hI.skip (fun z => by subst z; simp at hin), rfl⟩
    · rw [decide_eq_false hin, if_pos (by simp)]
      have hsum := hI.sum
      have hle := hI.le
      have m0 : 0 ≤ p / 7 % (S.length : Int) := Int.emod_nonneg _ (by omega)
      have m1 : p / 7 % (S.length : Int) < S.length := Int.emod_lt_of_pos _ (by omega)
      generalize hz : p / 7 % (S.length : Int) = z at m0 m1
      have sq : seqIndex? z S.length = some z.toNat := by
        unfold seqIndex?
        simp only [if_neg (show ¬ z < 0 by omega)]
        rw [if_pos]
        simp [m0]; omega
      have hj : z.toNat < S.length := by omega
      have hjc := List.getElem?_eq_getElem hj
      have e6 : (S.map fun c => PyData.str (sgS c))[z.toNat]? = some (.str (sgS S[z.toNat])) := by rw [List.getElem?_map, hjc]; rfl
      have kz : (rowsK B).length < sizeLine := by unfold rowsK; rw [List.length_map, sizeLine_eq]; omega
      have bz : (B.map itD).length < sizeLine := by rw [List.length_map, sizeLine_eq]; omega
      unfold t__law_book_a1
      simp only [g_bind, g_ok, g_ofO, g_var, g_peek, g_frz, g_C, g_op, g_opF, g_tOf, g_B, g_BF, g_nil, g_cons, ok_ite, g_tup, g_lst, g_fz, g_call, g_callF, g_callV, g_callF0, g_seq, g_next, g_set, g_setF, g_setV, g_drop, g_ret, g_retF, g_retV, g_retO, g_if, g_append, g_extend, g_to, g_par, g_aug, g_any, g_noP, g_part, g_sl, g_slF, g_isI, g_m1, g_tAnd, g_tOr, g_tNot, g_and, g_or, g_not, g_neg, g_eif, g_tru, g_for, g_comp, g_run, okO_some, slV_va, slP_va, slP_ml, slZ_va, slZ_ml, slM_ml, isB_b, isI_i, isS_s, isL_l, itO_l, itO_t, itO_s, isVl_z, isVl_f, nxF_nx, nxF_rt, nxF_ro, nxF_bk, nxF_ct, endF_nx, endF_rt, endF_ro, okR_ok, okR_fr, okR_er, two_ok, stepF_nx, stepF_ct, stepF_bk, stepF_rt, stepF_ro, List.getElem?_cons_zero, List.getElem?_cons_succ, List.set_cons_zero, List.set_cons_succ, List.length_cons, List.length_nil, List.map_cons, List.map_nil, List.replicate_succ, List.replicate_zero, List.cons_append, List.nil_append, Nat.reduceAdd, Nat.reduceSub, Nat.reduceLeDiff, decide_eq_true_eq, addInt, subInt, ltInt, mulInt, modInt, divInt, powInt, shlInt, shrInt, eqInt, neInt, cmpInt, lenScr, lenLst, lenTup, idxScr, idxLst, idxTup, true_and, tgN, wipeR, g_chain, g_iseq, g_setIx, g_lix, g_m1F, Option.bind_some, g_callB, g_vz, slK_md, g_setD, g_dnew, g_din, g_dget, g_dput, g_pop, keyStr, keyInt, g_frm, isFrm5, idxFrm, okF_frm, g_fix, slN_mn, g_newN, g_inN, g_nget, g_nput, g_nget2, g_insert, g_tryKey, orE_some, orE_none, g_dpairs, g_ifV, g_repl, List.length_map, hz, sq, e6, okO_some, rowsK_put (c := S[z.toNat]) hin]
      refine ⟨kz, cdiv (by decide) (by decide), by omega, ⟨by omega, by omega⟩, by rw [sizeLine_eq]; omega, ?_⟩
      refine ⟨B ++ [(S[z.toNat], r)], S.eraseIdx z.toNat, .va (.int n), .va (.int p), .va (.int (1 + l)), .va (.str (rowS r)), v12, hI.put hjc hin (by omega) (by omega), ?_⟩
      rw [List.map_append, List.map_cons, List.map_nil, erase_map]
      rfl
  · rintro ρ ⟨B, S, v8, v9, v10, v11, v12, hI, rfl⟩
    rw [rgD_len] at hI
    exact hQ B S v8 v9 v10 v11 v12 hI
theorem book_ok (ns : List Int) (k most : Int) (h0 : 0 ≤ k) (h1 : k < 900) (m1 : 1 ≤ most) (m2 : most ≤ 36) : ∃ B : Bk, m__law_book [scr ns, .int k, .int most] = .fr (B.map itD) ∧ BkOk B ∧ B ≠ [] ∧ (B.length : Int) ≤ most := by
  obtain ⟨L1, eL1, hl1, hx1⟩ := draws_ok ns k 3 27720 h0 (by omega) (by decide) (by decide) (by decide) (by decide)
  obtain ⟨L, eL, hl, hx⟩ := draws_ok ns (k + 1) 40 27720 (by omega) (by omega) (by decide) (by decide) (by decide) (by decide)
  obtain ⟨p0, g0, i0, j0⟩ := draw_at hx1 0 (by rw [hl1]; decide)
  simp only [Int.cast_ofNat_Int] at g0
  have q0 := Int.emod_nonneg p0 (b := most) (by omega)
  have q1 := Int.emod_lt_of_pos p0 (b := most) (by omega)
  have er : rg1D [.int (1 + p0 % most)] = some (rgD 0 (1 + p0 % most).toNat) := rg1_ok (by unfold small62; omega)
  have h : okR (m__law_book [scr ns, .int k, .int most]) (fun _ => False) (fun ds => ∃ B : Bk, ds = B.map itD ∧ BkOk B ∧ B ≠ [] ∧ (B.length : Int) ≤ most) noX := by
    unfold m__law_book b__law_book t__law_book_c1 t__law_book_c2 t__law_book_c3 t__law_book_c4 t__law_book_c5
    simp only [g_bind, g_ok, g_ofO, g_var, g_peek, g_frz, g_C, g_op, g_opF, g_tOf, g_B, g_BF, g_nil, g_cons, ok_ite, g_tup, g_lst, g_fz, g_call, g_callF, g_callV, g_callF0, g_seq, g_next, g_set, g_setF, g_setV, g_drop, g_ret, g_retF, g_retV, g_retO, g_if, g_append, g_extend, g_to, g_par, g_aug, g_any, g_noP, g_part, g_sl, g_slF, g_isI, g_m1, g_tAnd, g_tOr, g_tNot, g_and, g_or, g_not, g_neg, g_eif, g_tru, g_for, g_comp, g_run, okO_some, slV_va, slP_va, slP_ml, slZ_va, slZ_ml, slM_ml, isB_b, isI_i, isS_s, isL_l, itO_l, itO_t, itO_s, isVl_z, isVl_f, nxF_nx, nxF_rt, nxF_ro, nxF_bk, nxF_ct, endF_nx, endF_rt, endF_ro, okR_ok, okR_fr, okR_er, two_ok, stepF_nx, stepF_ct, stepF_bk, stepF_rt, stepF_ro, List.getElem?_cons_zero, List.getElem?_cons_succ, List.set_cons_zero, List.set_cons_succ, List.length_cons, List.length_nil, List.map_cons, List.map_nil, List.replicate_succ, List.replicate_zero, List.cons_append, List.nil_append, Nat.reduceAdd, Nat.reduceSub, Nat.reduceLeDiff, decide_eq_true_eq, addInt, subInt, ltInt, mulInt, modInt, divInt, powInt, shlInt, shrInt, eqInt, neInt, cmpInt, lenScr, lenLst, lenTup, idxScr, idxLst, idxTup, true_and, tgN, wipeR, g_chain, g_iseq, g_setIx, g_lix, g_m1F, Option.bind_some, g_callB, g_vz, slK_md, g_setD, g_dnew, g_din, g_dget, g_dput, g_pop, keyStr, keyInt, g_frm, isFrm5, idxFrm, okF_frm, g_fix, slN_mn, g_newN, g_inN, g_nget, g_nput, g_nget2, g_insert, g_tryKey, orE_some, orE_none, g_dpairs, g_ifV, g_repl, eL1, eL, g0, list_alpha, er]
    refine ⟨by omega, ?_⟩
    refine book_loop (by rw [hl]; rfl) hx (by omega) fun B S v8 v9 v10 v11 v12 hI => ?_
    unfold t__law_book_c6
    simp only [g_bind, g_ok, g_ofO, g_var, g_peek, g_frz, g_C, g_op, g_opF, g_tOf, g_B, g_BF, g_nil, g_cons, ok_ite, g_tup, g_lst, g_fz, g_call, g_callF, g_callV, g_callF0, g_seq, g_next, g_set, g_setF, g_setV, g_drop, g_ret, g_retF, g_retV, g_retO, g_if, g_append, g_extend, g_to, g_par, g_aug, g_any, g_noP, g_part, g_sl, g_slF, g_isI, g_m1, g_tAnd, g_tOr, g_tNot, g_and, g_or, g_not, g_neg, g_eif, g_tru, g_for, g_comp, g_run, okO_some, slV_va, slP_va, slP_ml, slZ_va, slZ_ml, slM_ml, isB_b, isI_i, isS_s, isL_l, itO_l, itO_t, itO_s, isVl_z, isVl_f, nxF_nx, nxF_rt, nxF_ro, nxF_bk, nxF_ct, endF_nx, endF_rt, endF_ro, okR_ok, okR_fr, okR_er, two_ok, stepF_nx, stepF_ct, stepF_bk, stepF_rt, stepF_ro, List.getElem?_cons_zero, List.getElem?_cons_succ, List.set_cons_zero, List.set_cons_succ, List.length_cons, List.length_nil, List.map_cons, List.map_nil, List.replicate_succ, List.replicate_zero, List.cons_append, List.nil_append, Nat.reduceAdd, Nat.reduceSub, Nat.reduceLeDiff, decide_eq_true_eq, addInt, subInt, ltInt, mulInt, modInt, divInt, powInt, shlInt, shrInt, eqInt, neInt, cmpInt, lenScr, lenLst, lenTup, idxScr, idxLst, idxTup, true_and, tgN, wipeR, g_chain, g_iseq, g_setIx, g_lix, g_m1F, Option.bind_some, g_callB, g_vz, slK_md, g_setD, g_dnew, g_din, g_dget, g_dput, g_pop, keyStr, keyInt, g_frm, isFrm5, idxFrm, okF_frm, g_fix, slN_mn, g_newN, g_inN, g_nget, g_nput, g_nget2, g_insert, g_tryKey, orE_some, orE_none, g_dpairs, g_ifV, g_repl]
    have := hI.le
    exact ⟨B, rfl, hI.ok, hI.ne (by omega), by omega⟩
  obtain ⟨d, e, B, rfl, h⟩ := okR_lst h
  exact ⟨B, e, h⟩
end LawK03
namespace LawK03
open PySem PySem.Spec L2 DL
open PyProof.Rows hiding St
/-! texts -/
structure TxOk (B : Bk) (W : List (List Nat)) : Prop where
  ne : W ≠ []
  w : ∀ w ∈ W, w ≠ [] ∧ ∀ c ∈ w, c ∈ B.map (·.1)
theorem alpha_no : 32 ∉ alphaN := by decide +kernel
theorem text_loop {L : List Int} (hL : L.length = 24) (hx : ∀ x ∈ L, 0 ≤ x ∧ x < 27720) {B : Bk} (hB : B ≠ []) {v0 v1 v3 v6 : Sl} {m : Nat} (hm : m ≤ 20) {Q : Fl → Rho → Prop}
    (hQ : ∀ W v6, (0 < m → TxOk B W) → (W.map List.length).sum ≤ m → (TL.joinL [32] W).length ≤ 2 * m → Q .nx [v0, v1, .va (.list (B.map itD)), v3, .va (.list (L.map .int)), .va (.str (txS W)), v6]) :
    Ok (sLoop (tgN 6) l__law_text_1 (rgD 0 m)) [v0, v1, .va (.list (B.map itD)), v3, .va (.list (L.map .int)), .va (.str (Str.ofString "")), v6] Q fun x _ => noX x := by
  have e0 : Str.ofString "" = txS [] := by decide +kernel
  rw [e0]
  refine loop_inv (fun n ρ => ∃ W v6, (0 < n → TxOk B W) ∧ (n = 0 → W = []) ∧ (W.map List.length).sum ≤ n ∧ (TL.joinL [32] W).length ≤ 2 * n ∧ ρ = [v0, v1, .va (.list (B.map itD)), v3, .va (.list (L.map .int)), .va (.str (txS W)), v6]) ⟨[], v6, fun h => absurd h (by decide), fun _ => rfl, by simp, by simp [TL.joinL], rfl⟩ ?_ ?_
  · rintro n d ρ hd ⟨W, v6, hW, hW0, hs, hl, rfl⟩
    obtain ⟨hn, rfl⟩ := rgD_at hd
    rw [Int.zero_add]
    obtain ⟨p, e1, q1, q2⟩ := draw_at hx (1 + n) (by omega)
    rw [show ((1 + n : Nat) : Int) = 1 + (n : Int) by omega] at e1
    have hBl : 0 < B.length := List.length_pos_iff.mpr hB
    have m0 : 0 ≤ p / 4 % (B.length : Int) := Int.emod_nonneg _ (by omega)
    have m1 : p / 4 % (B.length : Int) < B.length := Int.emod_lt_of_pos _ (by omega)
    unfold l__law_text_1 t__law_text_a1
    simp only [g_bind, g_ok, g_ofO, g_var, g_peek, g_frz, g_C, g_op, g_opF, g_tOf, g_B, g_BF, g_nil, g_cons, ok_ite, g_tup, g_lst, g_fz, g_call, g_callF, g_callV, g_callF0, g_seq, g_next, g_set, g_setF, g_setV, g_drop, g_ret, g_retF, g_retV, g_retO, g_if, g_append, g_extend, g_to, g_par, g_aug, g_any, g_noP, g_part, g_sl, g_slF, g_isI, g_m1, g_tAnd, g_tOr, g_tNot, g_and, g_or, g_not, g_neg, g_eif, g_tru, g_for, g_comp, g_run, okO_some, slV_va, slP_va, slP_ml, slZ_va, slZ_ml, slM_ml, isB_b, isI_i, isS_s, isL_l, itO_l, itO_t, itO_s, isVl_z, isVl_f, nxF_nx, nxF_rt, nxF_ro, nxF_bk, nxF_ct, endF_nx, endF_rt, endF_ro, okR_ok, okR_fr, okR_er, two_ok, stepF_nx, stepF_ct, stepF_bk, stepF_rt, stepF_ro, List.getElem?_cons_zero, List.getElem?_cons_succ, List.set_cons_zero, List.set_cons_succ, List.length_cons, List.length_nil, List.map_cons, List.map_nil, List.replicate_succ, List.replicate_zero, List.cons_append, List.nil_append, Nat.reduceAdd, Nat.reduceSub, Nat.reduceLeDiff, decide_eq_true_eq, addInt, subInt, ltInt, mulInt, modInt, divInt, powInt, shlInt, shrInt, eqInt, neInt, cmpInt, lenScr, lenLst, lenTup, idxScr, idxLst, idxTup, true_and, tgN, wipeR, g_chain, g_iseq, g_setIx, g_lix, g_m1F, Option.bind_some, g_callB, g_vz, slK_md, g_setD, g_dnew, g_din, g_dget, g_dput, g_pop, keyStr, keyInt, g_frm, isFrm5, idxFrm, okF_frm, g_fix, slN_mn, g_newN, g_inN, g_nget, g_nput, g_nget2, g_insert, g_tryKey, orE_some, orE_none, g_dpairs, g_ifV, g_repl, e1, List.length_map]
    generalize hz : p / 4 % (B.length : Int) = z at m0 m1
    have hj : z.toNat < B.length := by omega
    have e2 : atI (B.map itD) z = some (itD B[z.toNat]) := by
      rw [atI_in _ _ m0 (by simpa using m1), List.getElem?_map, List.getElem?_eq_getElem hj]
      rfl
    have e3 : ∀ x, idxD (itD x) (.int 0) = some (.str (sgS x.1)) := fun _ => rfl
    have hc : B[z.toNat].1 ∈ B.map (·.1) := List.mem_map.mpr ⟨_, List.getElem_mem hj, rfl⟩
    generalize hcc : B[z.toNat] = x at e2 hc
    have eb : Str.ofString " " = wS [32] := by decide +kernel
    have lb : (wS [32]).length = 1 := rfl
    have l1 : (sgS x.1).length = 1 := rfl
    simp only [e2, e3, okO_some, addS]
    -- a word more
    have new : 0 < n → ∃ W', txS W ++ wS [32] ++ sgS x.1 = txS W' ∧ TxOk B W' ∧ (W'.map List.length).sum ≤ n + 1 ∧ (TL.joinL [32] W').length ≤ 2 * (n + 1) := fun h0 => by
      have ok := hW h0
      obtain ⟨I, w, rfl⟩ : ∃ I w, W = I ++ [w] := ⟨W.dropLast, W.getLast ok.ne, (List.dropLast_concat_getLast ok.ne).symm⟩
      have ej := joinL_new [32] w [x.1] I
      refine ⟨I ++ [w] ++ [[x.1]], ?_, ⟨by simp, ?_⟩, ?_, ?_⟩
      · unfold txS
        rw [wS_app, sgS_w, wS_app, ej]
      · intro v hv
        rcases List.mem_append.mp hv with h | h
        · exact ok.w v h
        · simp at h; subst h; exact ⟨by simp, fun c h => by simp at h; subst h; exact hc⟩
      · simp at hs ⊢; omega
      · rw [ej]; simp at hl ⊢; omega
    -- a sign more in the last word
    have more : ∃ W', txS W ++ sgS x.1 = txS W' ∧ TxOk B W' ∧ (W'.map List.length).sum ≤ n + 1 ∧ (TL.joinL [32] W').length ≤ 2 * (n + 1) := by
      by_cases h0 : 0 < n
      · have ok := hW h0
        obtain ⟨I, w, rfl⟩ : ∃ I w, W = I ++ [w] := ⟨W.dropLast, W.getLast ok.ne, (List.dropLast_concat_getLast ok.ne).symm⟩
        have ej := joinL_snoc [32] w x.1 I
        refine ⟨I ++ [w ++ [x.1]], ?_, ⟨by simp, ?_⟩, ?_, ?_⟩
        · unfold txS
          rw [sgS_w, wS_app, ej]
        · intro v hv
          rcases List.mem_append.mp hv with h | h
          · exact ok.w v (List.mem_append_left _ h)
          · simp at h; subst h
            have := ok.w w (by simp)
            exact ⟨by simp, fun c h => by
              rcases List.mem_append.mp h with h | h
              · exact this.2 c h
              · simp at h; subst h; exact hc⟩
        · simp at hs ⊢; omega
        · rw [ej]; simp at hl ⊢; omega
      · obtain rfl := hW0 (by omega)
        refine ⟨[[x.1]], ?_, ⟨by simp, fun v h => by simp at h; subst h; exact ⟨by simp, fun c h => by simp at h; subst h; exact hc⟩⟩, by simp, by simp [TL.joinL]; omega⟩
        unfold txS
        rw [sgS_w, wS_app]
        rfl
    have fin : ∀ (t : Str), (∃ W', t = txS W' ∧ TxOk B W' ∧ (W'.map List.length).sum ≤ n + 1 ∧ (TL.joinL [32] W').length ≤ 2 * (n + 1)) → ∃ W v6, (0 < n + 1 → TxOk B W) ∧ (n + 1 = 0 → W = []) ∧ (W.map List.length).sum ≤ n + 1 ∧ (TL.joinL [32] W).length ≤ 2 * (n + 1) ∧
        [v0, v1, Sl.va (.list (B.map itD)), v3, Sl.va (.list (L.map .int)), Sl.va (.str t), Sl.va (.int (n : Int))] = [v0, v1, .va (.list (B.map itD)), v3, .va (.list (L.map .int)), .va (.str (txS W)), v6] := by
      rintro t ⟨W', rfl, h1, h2, h3⟩
      exact ⟨W', _, fun _ => h1, fun h => absurd h (by omega), h2, h3, rfl⟩
    have lt : (txS W).length ≤ 2 * n := by unfold txS; rw [wS_len]; exact hl
    have lt2 : (txS W ++ wS [32]).length ≤ 2 * n + 1 := by unfold txS; rw [wS_app, wS_len, List.length_append]; simp; exact hl
    have s1 : (txS W).length + 1 ≤ sizeLine := by rw [sizeLine_eq]; omega
    have s2 : (txS W ++ wS [32]).length + 1 ≤ sizeLine := by rw [sizeLine_eq]; omega
    rw [eb]
    simp only [lb, l1, s1, s2, true_and]
    by_cases h0 : (0 : Int) < n
    · rw [if_pos h0]
      refine ⟨by decide, ?_⟩
      by_cases h4 : p % 4 = 0
      · rw [if_pos h4]
        repeat (with_reducible refine And.intro (by first | decide | omega | exact cdiv (by first | decide | omega) (by first | decide | omega) | (apply cmul <;> omega) | assumption) ?_)
        exact fin _ (new (by omega))
      · rw [if_neg h4]
        repeat (with_reducible refine And.intro (by first | decide | omega | exact cdiv (by first | decide | omega) (by first | decide | omega) | (apply cmul <;> omega) | assumption) ?_)
        exact fin _ more
    · rw [if_neg h0, if_neg (by decide)]
      repeat (with_reducible refine And.intro (by first | decide | omega | exact cdiv (by first | decide | omega) (by first | decide | omega) | (apply cmul <;> omega) | assumption) ?_)
      exact fin _ more
  · rintro ρ ⟨W, v6, h1, h2, h3, h4, rfl⟩
    rw [rgD_len] at h1 h3 h4
    exact hQ W v6 h1 h3 h4
theorem text_ok (ns : List Int) (k most : Int) {B : Bk} (hB : B ≠ []) (h0 : 0 ≤ k) (h1 : k < 900) (m1 : 1 ≤ most) (m2 : most ≤ 20) : ∃ W, m__law_text [scr ns, .int k, .list (B.map itD), .int most] = .ok (.str (txS W)) ∧ TxOk B W ∧ ((W.map List.length).sum : Int) ≤ most ∧ (TL.joinL [32] W).length ≤ 40 := by
  obtain ⟨L, eL, hl, hx⟩ := draws_ok ns k 24 27720 h0 (by omega) (by decide) (by decide) (by decide) (by decide)
  obtain ⟨p0, g0, i0, j0⟩ := draw_at hx 0 (by rw [hl]; decide)
  simp only [Int.cast_ofNat_Int] at g0
  have q0 := Int.emod_nonneg p0 (b := most) (by omega)
  have q1 := Int.emod_lt_of_pos p0 (b := most) (by omega)
  have er : rg1D [.int (1 + p0 % most)] = some (rgD 0 (1 + p0 % most).toNat) := rg1_ok (by unfold small62; omega)
  have h : okR (m__law_text [scr ns, .int k, .list (B.map itD), .int most]) (fun d => ∃ W, d = .str (txS W) ∧ TxOk B W ∧ ((W.map List.length).sum : Int) ≤ most ∧ (TL.joinL [32] W).length ≤ 40) (fun _ => False) noX := by
    unfold m__law_text b__law_text t__law_text_b1 t__law_text_b2
    simp only [g_bind, g_ok, g_ofO, g_var, g_peek, g_frz, g_C, g_op, g_opF, g_tOf, g_B, g_BF, g_nil, g_cons, ok_ite, g_tup, g_lst, g_fz, g_call, g_callF, g_callV, g_callF0, g_seq, g_next, g_set, g_setF, g_setV, g_drop, g_ret, g_retF, g_retV, g_retO, g_if, g_append, g_extend, g_to, g_par, g_aug, g_any, g_noP, g_part, g_sl, g_slF, g_isI, g_m1, g_tAnd, g_tOr, g_tNot, g_and, g_or, g_not, g_neg, g_eif, g_tru, g_for, g_comp, g_run, okO_some, slV_va, slP_va, slP_ml, slZ_va, slZ_ml, slM_ml, isB_b, isI_i, isS_s, isL_l, itO_l, itO_t, itO_s, isVl_z, isVl_f, nxF_nx, nxF_rt, nxF_ro, nxF_bk, nxF_ct, endF_nx, endF_rt, endF_ro, okR_ok, okR_fr, okR_er, two_ok, stepF_nx, stepF_ct, stepF_bk, stepF_rt, stepF_ro, List.getElem?_cons_zero, List.getElem?_cons_succ, List.set_cons_zero, List.set_cons_succ, List.length_cons, List.length_nil, List.map_cons, List.map_nil, List.replicate_succ, List.replicate_zero, List.cons_append, List.nil_append, Nat.reduceAdd, Nat.reduceSub, Nat.reduceLeDiff, decide_eq_true_eq, addInt, subInt, ltInt, mulInt, modInt, divInt, powInt, shlInt, shrInt, eqInt, neInt, cmpInt, lenScr, lenLst, lenTup, idxScr, idxLst, idxTup, true_and, tgN, wipeR, g_chain, g_iseq, g_setIx, g_lix, g_m1F, Option.bind_some, g_callB, g_vz, slK_md, g_setD, g_dnew, g_din, g_dget, g_dput, g_pop, keyStr, keyInt, g_frm, isFrm5, idxFrm, okF_frm, g_fix, slN_mn, g_newN, g_inN, g_nget, g_nput, g_nget2, g_insert, g_tryKey, orE_some, orE_none, g_dpairs, g_ifV, g_repl, eL, g0, er]
    refine ⟨by omega, ?_⟩
    refine text_loop (by rw [hl]; rfl) hx hB (by omega) fun W v6 hW hs hl => ?_
    unfold t__law_text_b3
    simp only [g_bind, g_ok, g_ofO, g_var, g_peek, g_frz, g_C, g_op, g_opF, g_tOf, g_B, g_BF, g_nil, g_cons, ok_ite, g_tup, g_lst, g_fz, g_call, g_callF, g_callV, g_callF0, g_seq, g_next, g_set, g_setF, g_setV, g_drop, g_ret, g_retF, g_retV, g_retO, g_if, g_append, g_extend, g_to, g_par, g_aug, g_any, g_noP, g_part, g_sl, g_slF, g_isI, g_m1, g_tAnd, g_tOr, g_tNot, g_and, g_or, g_not, g_neg, g_eif, g_tru, g_for, g_comp, g_run, okO_some, slV_va, slP_va, slP_ml, slZ_va, slZ_ml, slM_ml, isB_b, isI_i, isS_s, isL_l, itO_l, itO_t, itO_s, isVl_z, isVl_f, nxF_nx, nxF_rt, nxF_ro, nxF_bk, nxF_ct, endF_nx, endF_rt, endF_ro, okR_ok, okR_fr, okR_er, two_ok, stepF_nx, stepF_ct, stepF_bk, stepF_rt, stepF_ro, List.getElem?_cons_zero, List.getElem?_cons_succ, List.set_cons_zero, List.set_cons_succ, List.length_cons, List.length_nil, List.map_cons, List.map_nil, List.replicate_succ, List.replicate_zero, List.cons_append, List.nil_append, Nat.reduceAdd, Nat.reduceSub, Nat.reduceLeDiff, decide_eq_true_eq, addInt, subInt, ltInt, mulInt, modInt, divInt, powInt, shlInt, shrInt, eqInt, neInt, cmpInt, lenScr, lenLst, lenTup, idxScr, idxLst, idxTup, true_and, tgN, wipeR, g_chain, g_iseq, g_setIx, g_lix, g_m1F, Option.bind_some, g_callB, g_vz, slK_md, g_setD, g_dnew, g_din, g_dget, g_dput, g_pop, keyStr, keyInt, g_frm, isFrm5, idxFrm, okF_frm, g_fix, slN_mn, g_newN, g_inN, g_nget, g_nput, g_nget2, g_insert, g_tryKey, orE_some, orE_none, g_dpairs, g_ifV, g_repl]
    exact ⟨W, rfl, hW (by omega), by omega, by omega⟩
  obtain ⟨d, e, W, rfl, h⟩ := okR_val h
  exact ⟨W, e, h⟩
end LawK03

set_option linter.all false
set_option maxRecDepth 100000
namespace LawK03
open PySem PySem.Spec L2 DL
open PyProof.Rows hiding St
def look (B : Bk) (c : Nat) : List Bool := ((B.find? fun x => x.1 == c).map (·.2)).getD []
def sound (a b : Int) (x : Bool) : Int := if x = true then b else a
def rowG (a b c : Int) : Nat → List Bool → List Int
  | _, [] => []
  | j, x :: r => (if 0 < j then [c] else []) ++ (sound a b x :: rowG a b c (j + 1) r)
def wordG (B : Bk) (a b c d e : Int) (n : Nat) : Nat → List Nat → List Int
  | _, [] => []
  | k, s :: w => (if 0 < n + k then [if k = 0 then e else d] else []) ++ (rowG a b c 0 (look B s) ++ wordG B a b c d e n (k + 1) w)
def textG (B : Bk) (a b c d e : Int) : Nat → List (List Nat) → List Int
  | _, [] => []
  | n, w :: W => wordG B a b c d e n 0 w ++ textG B a b c d e (n + 1) W
theorem look_mem {B : Bk} {c : Nat} (h : c ∈ B.map (·.1)) : ∃ x ∈ B, x.1 = c ∧ look B c = x.2 := by
  obtain ⟨y, hy, rfl⟩ := List.mem_map.mp h
  cases hf : B.find? fun x => x.1 == y.1 with
  | none =>
    have := List.find?_eq_none.mp hf y hy
    simp at this
  | some x =>
    refine ⟨x, List.mem_of_find?_eq_some hf, by simpa using List.find?_some hf, ?_⟩
    unfold look
    rw [hf]; rfl
def signsK (B : Bk) : List (Key × Dt) := B.map fun x => (.inr (sgS x.1), .str (rowS x.2))
theorem signsK_get {B : Bk} {c : Nat} (h : c ∈ B.map (·.1)) : valD (signsK B) (.inr (sgS c)) = some (.str (rowS (look B c))) := by
  unfold signsK
  rw [valD_find (fun x : Nat × List Bool => Sum.inr (sgS x.1)) (fun x => PyData.str (rowS x.2))]
  have e : (fun x : Nat × List Bool => decide ((Sum.inr (sgS x.1) : Key) = Sum.inr (sgS c))) = fun x => x.1 == c := by
    funext x
    simp only [Sum.inr.injEq, sgS_inj]
    rfl
  rw [e]
  obtain ⟨x, hx, h1, h2⟩ := look_mem h
  cases hf : B.find? fun x => x.1 == c with
  | none =>
    have := List.find?_eq_none.mp hf x hx
    simp [h1] at this
  | some y =>
    unfold look
    rw [hf]; rfl
theorem six_dot : sixD (Str.ofString ".-") (.str (sgS 46)) = some (.int 0) := by
  have e : Builtin.Str.occurrences (Str.ofString ".-") (sgS 46) 0 (Str.ofString ".-").length 1 = [0] := by decide +kernel
  unfold sixD
  simp only [e]
  rfl
theorem six_dash : sixD (Str.ofString ".-") (.str (sgS 45)) = some (.int 1) := by
  have e : Builtin.Str.occurrences (Str.ofString ".-") (sgS 45) 0 (Str.ofString ".-").length 1 = [1] := by decide +kernel
  unfold sixD
  simp only [e]
  rfl
theorem rowG_len (a b c : Int) : ∀ (r : List Bool) (j : Nat), (rowG a b c j r).length ≤ 2 * r.length
  | [], _ => Nat.le_refl _
  | x :: r, j => by
    have := rowG_len a b c r (j + 1)
    unfold rowG
    split <;> simp <;> omega
theorem signs_row (r : List Bool) : signsD (rowS r) = r.map fun x => .str (sgS (bitN x)) := by
  unfold rowS
  rw [signs_w, List.map_map]
  rfl
theorem wordG_len {B : Bk} (hB : BkOk B) (a b c d e : Int) (n : Nat) : ∀ (w : List Nat) (k : Nat), (∀ s ∈ w, s ∈ B.map (·.1)) → (wordG B a b c d e n k w).length ≤ 17 * w.length
  | [], _, _ => Nat.le_refl _
  | s :: w, k, hw => by
    have ih := wordG_len hB a b c d e n w (k + 1) fun s h => hw s (List.mem_cons_of_mem _ h)
    obtain ⟨x, hx, _, hlx⟩ := look_mem (hw s List.mem_cons_self)
    have h8 := (hB.row x hx).2
    rw [← hlx] at h8
    have hr := rowG_len a b c (look B s) 0
    unfold wordG
    split <;> simp <;> omega
end LawK03
namespace LawK03
open PySem PySem.Spec L2 DL
open PyProof.Rows hiding St
theorem join_split : ∀ L : List Nat, ∃ W : List (List Nat), W ≠ [] ∧ (∀ w ∈ W, 32 ∉ w) ∧ TL.joinL [32] W = L
  | [] => ⟨[[]], by simp, by simp, rfl⟩
  | c :: L => by
    obtain ⟨W, h0, h1, h2⟩ := join_split L
    cases W with
    | nil => exact absurd rfl h0
    | cons w R =>
      by_cases hc : c = 32
      · refine ⟨[] :: w :: R, by simp, fun v hv => ?_, ?_⟩
        · rcases List.mem_cons.mp hv with rfl | hv
          · simp
          · exact h1 v hv
        · show [] ++ [32] ++ TL.joinL [32] (w :: R) = _
          rw [h2, hc]; rfl
      · refine ⟨(c :: w) :: R, by simp, fun v hv => ?_, ?_⟩
        · rcases List.mem_cons.mp hv with rfl | hv
          · have := h1 w List.mem_cons_self
            simp only [List.mem_cons, not_or]
            exact ⟨fun e => hc e.symm, this⟩
          · exact h1 v (List.mem_cons_of_mem _ hv)
        · cases R with
          | nil => rw [← h2]; rfl
          | cons u R => rw [← h2]; rfl
theorem join_len : ∀ W : List (List Nat), (W.map List.length).sum ≤ (TL.joinL [32] W).length ∧ W.length ≤ (TL.joinL [32] W).length + 1
  | [] => by simp [TL.joinL]
  | [w] => by simp [TL.joinL]
  | w :: u :: R => by
    have := join_len (u :: R)
    simp only [TL.joinL, List.length_append, List.map_cons, List.sum_cons, List.length_cons] at this ⊢
    omega
theorem any_text (x : Str) : ∃ W : List (List Nat), W ≠ [] ∧ (∀ w ∈ W, 32 ∉ w) ∧ txS W = x ∧ (TL.joinL [32] W).length = x.length := by
  obtain ⟨W, h0, h1, h2⟩ := join_split x.cps.toList
  refine ⟨W, h0, h1, ?_, ?_⟩
  · unfold txS wS
    rw [h2]
  · rw [h2]; simp [Str.length]
def goodB (B : Bk) (w : List Nat) : Bool := !w.isEmpty && w.all fun s => decide (s ∈ B.map (·.1))
theorem good_iff {B : Bk} {w : List Nat} : goodB B w = true ↔ w ≠ [] ∧ ∀ s ∈ w, s ∈ B.map (·.1) := by
  unfold goodB
  rw [Bool.and_eq_true, List.all_eq_true]
  cases w <;> simp
theorem signsK_none {B : Bk} {c : Nat} (h : c ∉ B.map (·.1)) : valD (signsK B) (.inr (sgS c)) = none := by
  unfold signsK
  rw [valD_find (fun x : Nat × List Bool => Sum.inr (sgS x.1)) (fun x => PyData.str (rowS x.2)), Option.map_eq_none_iff, List.find?_eq_none]
  intro x hx e
  simp only [Sum.inr.injEq, sgS_inj, decide_eq_true_eq] at e
  exact h (List.mem_map.mpr ⟨x, hx, e⟩)
end LawK03
namespace LawK03
open PySem PySem.Spec L2 DL
open PyProof.Rows hiding St
/-! the program's weights of a text -/
theorem okR_exc {fo : Fo} {x : Ex} (h : okR fo (fun _ => False) (fun _ => False) (fun y => y = x)) : fo = .er x := by
  cases fo with
  | er y => exact congrArg Fo.er h
  | _ => exact h.elim
theorem rowP_loop {a b c d e : Int} {v1 : Sl} {Q : Fl → Rho → Prop} : ∀ (r : List Bool) (j : Nat) (acc : List Int) (v3 : Sl), (acc = [] ↔ j = 0) → acc.length + 2 * r.length ≤ 1000 →
    (∀ v3, Q .nx [.va (fmD a b c d e), v1, .ml ((acc ++ rowG a b c j r).map .int), v3]) →
    Ok (sLoop (tgN 3) l_row_weights_1 (r.map fun x => .str (sgS (bitN x)))) [.va (fmD a b c d e), v1, .ml (acc.map .int), v3] Q fun x _ => noX x
  | [], j, acc, v3, _, hl, hQ => by
    have := hQ v3
    rw [rowG, List.append_nil] at this
    exact this
  | x :: r, j, acc, v3, hj, hl, hQ => by
    rw [List.map_cons, loop_cons]
    have ih := fun acc v3 h => rowP_loop (a := a) (b := b) (c := c) (d := d) (e := e) (v1 := v1) (Q := Q) r (j + 1) acc v3 h
    generalize sLoop (tgN 3) l_row_weights_1 (r.map fun x => .str (sgS (bitN x))) = W at ih ⊢
    have e1 : eqD (.str (sgS (bitN x))) (.str (Str.ofString "-")) = some (.bool x) := by
      have : decide (sgS (bitN x) = Str.ofString "-") = x := by cases x <;> decide +kernel
      rw [eqStr, this]
    have e2 : ∀ z : Bool, idxD (fmD a b c d e) (.int (if z = true then 1 else 0)) = some (.int (sound a b z)) := fun z => by cases z <;> rfl
    have e3 : idxD (fmD a b c d e) (.int 2) = some (.int c) := rfl
    have en := ne_nil acc
    have hh := ih (acc ++ ((if 0 < j then [c] else []) ++ [sound a b x])) (.va (.str (sgS (bitN x)))) (by simp) (by simp at hl ⊢; split <;> simp <;> omega) (by
      intro v3
      have := hQ v3
      rw [rowG] at this
      simpa using this)
    unfold l_row_weights_1
    simp only [g_bind, g_ok, g_ofO, g_var, g_peek, g_frz, g_C, g_op, g_opF, g_tOf, g_B, g_BF, g_nil, g_cons, ok_ite, g_tup, g_lst, g_fz, g_call, g_callF, g_callV, g_callF0, g_seq, g_next, g_set, g_setF, g_setV, g_drop, g_ret, g_retF, g_retV, g_retO, g_if, g_append, g_extend, g_to, g_par, g_aug, g_any, g_noP, g_part, g_sl, g_slF, g_isI, g_m1, g_tAnd, g_tOr, g_tNot, g_and, g_or, g_not, g_neg, g_eif, g_tru, g_for, g_comp, g_run, okO_some, slV_va, slP_va, slP_ml, slZ_va, slZ_ml, slM_ml, isB_b, isI_i, isS_s, isL_l, itO_l, itO_t, itO_s, isVl_z, isVl_f, nxF_nx, nxF_rt, nxF_ro, nxF_bk, nxF_ct, endF_nx, endF_rt, endF_ro, okR_ok, okR_fr, okR_er, two_ok, stepF_nx, stepF_ct, stepF_bk, stepF_rt, stepF_ro, List.getElem?_cons_zero, List.getElem?_cons_succ, List.set_cons_zero, List.set_cons_succ, List.length_cons, List.length_nil, List.map_cons, List.map_nil, List.replicate_succ, List.replicate_zero, List.cons_append, List.nil_append, Nat.reduceAdd, Nat.reduceSub, Nat.reduceLeDiff, decide_eq_true_eq, addInt, subInt, ltInt, mulInt, modInt, divInt, powInt, shlInt, shrInt, eqInt, neInt, cmpInt, lenScr, lenLst, lenTup, idxScr, idxLst, idxTup, true_and, tgN, wipeR, g_chain, g_iseq, g_setIx, g_lix, g_m1F, Option.bind_some, g_callB, g_vz, slK_md, g_setD, g_dnew, g_din, g_dget, g_dput, g_pop, keyStr, keyInt, g_frm, isFrm5, idxFrm, okF_frm, g_fix, slN_mn, g_newN, g_inN, g_nget, g_nput, g_nget2, g_insert, g_tryKey, orE_some, orE_none, g_dpairs, g_ifV, g_repl, en, e1, intB, e2, e3]
    simp at hl
    by_cases h0 : acc = []
    · have hj0 : j = 0 := hj.mp h0
      subst hj0
      subst h0
      simp only [if_neg (Nat.lt_irrefl 0)] at hh
      simp only [decide_true, Bool.not_true, Bool.false_eq_true, if_false]
      refine ⟨by rw [sizeLine_eq]; simp, ?_⟩
      simpa using hh
    · have hj0 : 0 < j := by
        rcases Nat.eq_zero_or_pos j with q | q
        · exact absurd (hj.mpr q) h0
        · exact q
      simp only [if_pos hj0] at hh
      simp only [decide_eq_false h0, Bool.not_false, if_true]
      refine ⟨by rw [List.length_map, sizeLine_eq]; omega, by simp; rw [sizeLine_eq]; omega, ?_⟩
      simpa using hh
theorem row_weights_ok {r : List Bool} (h : r.length ≤ 8) (a b c d e : Int) : m_row_weights [fmD a b c d e, .str (rowS r)] = .fr ((rowG a b c 0 r).map .int) := by
  refine okR_eqF ?_
  unfold m_row_weights b_row_weights
  simp only [g_bind, g_ok, g_ofO, g_var, g_peek, g_frz, g_C, g_op, g_opF, g_tOf, g_B, g_BF, g_nil, g_cons, ok_ite, g_tup, g_lst, g_fz, g_call, g_callF, g_callV, g_callF0, g_seq, g_next, g_set, g_setF, g_setV, g_drop, g_ret, g_retF, g_retV, g_retO, g_if, g_append, g_extend, g_to, g_par, g_aug, g_any, g_noP, g_part, g_sl, g_slF, g_isI, g_m1, g_tAnd, g_tOr, g_tNot, g_and, g_or, g_not, g_neg, g_eif, g_tru, g_for, g_comp, g_run, okO_some, slV_va, slP_va, slP_ml, slZ_va, slZ_ml, slM_ml, isB_b, isI_i, isS_s, isL_l, itO_l, itO_t, itO_s, isVl_z, isVl_f, nxF_nx, nxF_rt, nxF_ro, nxF_bk, nxF_ct, endF_nx, endF_rt, endF_ro, okR_ok, okR_fr, okR_er, two_ok, stepF_nx, stepF_ct, stepF_bk, stepF_rt, stepF_ro, List.getElem?_cons_zero, List.getElem?_cons_succ, List.set_cons_zero, List.set_cons_succ, List.length_cons, List.length_nil, List.map_cons, List.map_nil, List.replicate_succ, List.replicate_zero, List.cons_append, List.nil_append, Nat.reduceAdd, Nat.reduceSub, Nat.reduceLeDiff, decide_eq_true_eq, addInt, subInt, ltInt, mulInt, modInt, divInt, powInt, shlInt, shrInt, eqInt, neInt, cmpInt, lenScr, lenLst, lenTup, idxScr, idxLst, idxTup, true_and, tgN, wipeR, g_chain, g_iseq, g_setIx, g_lix, g_m1F, Option.bind_some, g_callB, g_vz, slK_md, g_setD, g_dnew, g_din, g_dget, g_dput, g_pop, keyStr, keyInt, g_frm, isFrm5, idxFrm, okF_frm, g_fix, slN_mn, g_newN, g_inN, g_nget, g_nput, g_nget2, g_insert, g_tryKey, orE_some, orE_none, g_dpairs, g_ifV, g_repl, signs_row]
  refine rowP_loop r 0 [] _ (by simp) (by simp; omega) fun v3 => ?_
  simp only [g_bind, g_ok, g_ofO, g_var, g_peek, g_frz, g_C, g_op, g_opF, g_tOf, g_B, g_BF, g_nil, g_cons, ok_ite, g_tup, g_lst, g_fz, g_call, g_callF, g_callV, g_callF0, g_seq, g_next, g_set, g_setF, g_setV, g_drop, g_ret, g_retF, g_retV, g_retO, g_if, g_append, g_extend, g_to, g_par, g_aug, g_any, g_noP, g_part, g_sl, g_slF, g_isI, g_m1, g_tAnd, g_tOr, g_tNot, g_and, g_or, g_not, g_neg, g_eif, g_tru, g_for, g_comp, g_run, okO_some, slV_va, slP_va, slP_ml, slZ_va, slZ_ml, slM_ml, isB_b, isI_i, isS_s, isL_l, itO_l, itO_t, itO_s, isVl_z, isVl_f, nxF_nx, nxF_rt, nxF_ro, nxF_bk, nxF_ct, endF_nx, endF_rt, endF_ro, okR_ok, okR_fr, okR_er, two_ok, stepF_nx, stepF_ct, stepF_bk, stepF_rt, stepF_ro, List.getElem?_cons_zero, List.getElem?_cons_succ, List.set_cons_zero, List.set_cons_succ, List.length_cons, List.length_nil, List.map_cons, List.map_nil, List.replicate_succ, List.replicate_zero, List.cons_append, List.nil_append, Nat.reduceAdd, Nat.reduceSub, Nat.reduceLeDiff, decide_eq_true_eq, addInt, subInt, ltInt, mulInt, modInt, divInt, powInt, shlInt, shrInt, eqInt, neInt, cmpInt, lenScr, lenLst, lenTup, idxScr, idxLst, idxTup, true_and, tgN, wipeR, g_chain, g_iseq, g_setIx, g_lix, g_m1F, Option.bind_some, g_callB, g_vz, slK_md, g_setD, g_dnew, g_din, g_dget, g_dput, g_pop, keyStr, keyInt, g_frm, isFrm5, idxFrm, okF_frm, g_fix, slN_mn, g_newN, g_inN, g_nget, g_nput, g_nget2, g_insert, g_tryKey, orE_some, orE_none, g_dpairs, g_ifV, g_repl, List.nil_append]
def wordP (B : Bk) (a b c d : Int) : List Int → List Nat → List Int
  | _, [] => []
  | R, s :: w => R ++ (rowG a b c 0 (look B s) ++ wordP B a b c d [d] w)
theorem wordP_k (B : Bk) (a b c d e : Int) (n : Nat) : ∀ (w : List Nat) (k : Nat), wordP B a b c d [d] w = wordG B a b c d e n (k + 1) w
  | [], _ => rfl
  | s :: w, k => by
    have ih := wordP_k B a b c d e n w (k + 1)
    unfold wordP wordG
    rw [ih, if_pos (by omega), if_neg (by omega)]
theorem wordP_0 (B : Bk) (a b c d e : Int) (n : Nat) (w : List Nat) : wordP B a b c d (if 0 < n then [e] else []) w = wordG B a b c d e n 0 w := by
  cases w with
  | nil => rfl
  | cons s w =>
    unfold wordP wordG
    rw [wordP_k B a b c d e n w 0]
    simp only [Nat.add_zero, if_true]
theorem signP_loop {B : Bk} (hB : BkOk B) {a b c d e : Int} {v0 v2 v5 : Sl} {Q : Fl → Rho → Prop} {E : Ex → Rho → Prop} : ∀ (w : List Nat) (R acc : List Int) (v7 v8 : Sl), R.length ≤ 1 → acc.length + 20 * w.length ≤ 50000 →
    ((∀ s ∈ w, s ∈ B.map (·.1)) → ∀ v6 v7 v8, Q .nx [v0, .va (fmD a b c d e), v2, .md (signsK B), .ml ((acc ++ wordP B a b c d R w).map .int), v5, v6, v7, v8]) →
    ((¬ ∀ s ∈ w, s ∈ B.map (·.1)) → ∀ ρ, E ⟨"NoSign", []⟩ ρ) →
    Ok (sLoop (tgN 7) l_weights_of_1 (w.map fun s => .str (sgS s))) [v0, .va (fmD a b c d e), v2, .md (signsK B), .ml (acc.map .int), v5, .va (.list (R.map .int)), v7, v8] Q E
  | [], R, acc, v7, v8, _, _, hQ, _ => by
    have := hQ (by simp) (.va (.list (R.map .int))) v7 v8
    rw [wordP, List.append_nil] at this
    exact this
  | s :: w, R, acc, v7, v8, hR, hl, hQ, hE => by
    rw [List.map_cons, loop_cons]
    have ih := fun acc v7 v8 => signP_loop hB (a := a) (b := b) (c := c) (d := d) (e := e) (v0 := v0) (v2 := v2) (v5 := v5) (Q := Q) (E := E) w [d] acc v7 v8 (by simp)
    generalize sLoop (tgN 7) l_weights_of_1 (w.map fun s => .str (sgS s)) = W at ih ⊢
    simp only [List.length_cons] at hl
    unfold l_weights_of_1
    simp only [g_bind, g_ok, g_ofO, g_var, g_peek, g_frz, g_C, g_op, g_opF, g_tOf, g_B, g_BF, g_nil, g_cons, ok_ite, g_tup, g_lst, g_fz, g_call, g_callF, g_callV, g_callF0, g_seq, g_next, g_set, g_setF, g_setV, g_drop, g_ret, g_retF, g_retV, g_retO, g_if, g_append, g_extend, g_to, g_par, g_aug, g_any, g_noP, g_part, g_sl, g_slF, g_isI, g_m1, g_tAnd, g_tOr, g_tNot, g_and, g_or, g_not, g_neg, g_eif, g_tru, g_for, g_comp, g_run, okO_some, slV_va, slP_va, slP_ml, slZ_va, slZ_ml, slM_ml, isB_b, isI_i, isS_s, isL_l, itO_l, itO_t, itO_s, isVl_z, isVl_f, nxF_nx, nxF_rt, nxF_ro, nxF_bk, nxF_ct, endF_nx, endF_rt, endF_ro, okR_ok, okR_fr, okR_er, two_ok, stepF_nx, stepF_ct, stepF_bk, stepF_rt, stepF_ro, List.getElem?_cons_zero, List.getElem?_cons_succ, List.set_cons_zero, List.set_cons_succ, List.length_cons, List.length_nil, List.map_cons, List.map_nil, List.replicate_succ, List.replicate_zero, List.cons_append, List.nil_append, Nat.reduceAdd, Nat.reduceSub, Nat.reduceLeDiff, decide_eq_true_eq, addInt, subInt, ltInt, mulInt, modInt, divInt, powInt, shlInt, shrInt, eqInt, neInt, cmpInt, lenScr, lenLst, lenTup, idxScr, idxLst, idxTup, true_and, tgN, wipeR, g_chain, g_iseq, g_setIx, g_lix, g_m1F, Option.bind_some, g_callB, g_vz, slK_md, g_setD, g_dnew, g_din, g_dget, g_dput, g_pop, keyStr, keyInt, g_frm, isFrm5, idxFrm, okF_frm, g_fix, slN_mn, g_newN, g_inN, g_nget, g_nput, g_nget2, g_insert, g_tryKey, orE_some, orE_none, g_dpairs, g_ifV, g_repl, g_tryKey]
    by_cases hs : s ∈ B.map (·.1)
    · obtain ⟨x, hx, _, hlx⟩ := look_mem hs
      have h8 := (hB.row x hx).2
      rw [← hlx] at h8
      have hr := rowG_len a b c (look B s) 0
      have e1 := row_weights_ok h8 a b c d e
      have e3 : idxD (fmD a b c d e) (.int 3) = some (.int d) := rfl
      rw [signsK_get hs, orE_some]
      unfold t_weights_of_a1
      simp only [g_bind, g_ok, g_ofO, g_var, g_peek, g_frz, g_C, g_op, g_opF, g_tOf, g_B, g_BF, g_nil, g_cons, ok_ite, g_tup, g_lst, g_fz, g_call, g_callF, g_callV, g_callF0, g_seq, g_next, g_set, g_setF, g_setV, g_drop, g_ret, g_retF, g_retV, g_retO, g_if, g_append, g_extend, g_to, g_par, g_aug, g_any, g_noP, g_part, g_sl, g_slF, g_isI, g_m1, g_tAnd, g_tOr, g_tNot, g_and, g_or, g_not, g_neg, g_eif, g_tru, g_for, g_comp, g_run, okO_some, slV_va, slP_va, slP_ml, slZ_va, slZ_ml, slM_ml, isB_b, isI_i, isS_s, isL_l, itO_l, itO_t, itO_s, isVl_z, isVl_f, nxF_nx, nxF_rt, nxF_ro, nxF_bk, nxF_ct, endF_nx, endF_rt, endF_ro, okR_ok, okR_fr, okR_er, two_ok, stepF_nx, stepF_ct, stepF_bk, stepF_rt, stepF_ro, List.getElem?_cons_zero, List.getElem?_cons_succ, List.set_cons_zero, List.set_cons_succ, List.length_cons, List.length_nil, List.map_cons, List.map_nil, List.replicate_succ, List.replicate_zero, List.cons_append, List.nil_append, Nat.reduceAdd, Nat.reduceSub, Nat.reduceLeDiff, decide_eq_true_eq, addInt, subInt, ltInt, mulInt, modInt, divInt, powInt, shlInt, shrInt, eqInt, neInt, cmpInt, lenScr, lenLst, lenTup, idxScr, idxLst, idxTup, true_and, tgN, wipeR, g_chain, g_iseq, g_setIx, g_lix, g_m1F, Option.bind_some, g_callB, g_vz, slK_md, g_setD, g_dnew, g_din, g_dget, g_dput, g_pop, keyStr, keyInt, g_frm, isFrm5, idxFrm, okF_frm, g_fix, slN_mn, g_newN, g_inN, g_nget, g_nput, g_nget2, g_insert, g_tryKey, orE_some, orE_none, g_dpairs, g_ifV, g_repl, e1, addL]
      refine ⟨by simp; rw [sizeLine_eq]; omega, by simp; rw [sizeLine_eq]; omega, ?_⟩
      unfold t_weights_of_a2
      simp only [g_bind, g_ok, g_ofO, g_var, g_peek, g_frz, g_C, g_op, g_opF, g_tOf, g_B, g_BF, g_nil, g_cons, ok_ite, g_tup, g_lst, g_fz, g_call, g_callF, g_callV, g_callF0, g_seq, g_next, g_set, g_setF, g_setV, g_drop, g_ret, g_retF, g_retV, g_retO, g_if, g_append, g_extend, g_to, g_par, g_aug, g_any, g_noP, g_part, g_sl, g_slF, g_isI, g_m1, g_tAnd, g_tOr, g_tNot, g_and, g_or, g_not, g_neg, g_eif, g_tru, g_for, g_comp, g_run, okO_some, slV_va, slP_va, slP_ml, slZ_va, slZ_ml, slM_ml, isB_b, isI_i, isS_s, isL_l, itO_l, itO_t, itO_s, isVl_z, isVl_f, nxF_nx, nxF_rt, nxF_ro, nxF_bk, nxF_ct, endF_nx, endF_rt, endF_ro, okR_ok, okR_fr, okR_er, two_ok, stepF_nx, stepF_ct, stepF_bk, stepF_rt, stepF_ro, List.getElem?_cons_zero, List.getElem?_cons_succ, List.set_cons_zero, List.set_cons_succ, List.length_cons, List.length_nil, List.map_cons, List.map_nil, List.replicate_succ, List.replicate_zero, List.cons_append, List.nil_append, Nat.reduceAdd, Nat.reduceSub, Nat.reduceLeDiff, decide_eq_true_eq, addInt, subInt, ltInt, mulInt, modInt, divInt, powInt, shlInt, shrInt, eqInt, neInt, cmpInt, lenScr, lenLst, lenTup, idxScr, idxLst, idxTup, true_and, tgN, wipeR, g_chain, g_iseq, g_setIx, g_lix, g_m1F, Option.bind_some, g_callB, g_vz, slK_md, g_setD, g_dnew, g_din, g_dget, g_dput, g_pop, keyStr, keyInt, g_frm, isFrm5, idxFrm, okF_frm, g_fix, slN_mn, g_newN, g_inN, g_nget, g_nput, g_nget2, g_insert, g_tryKey, orE_some, orE_none, g_dpairs, g_ifV, g_repl, e3]
      have em : acc.map PyData.int ++ (R.map PyData.int ++ (rowG a b c 0 (look B s)).map PyData.int) = (acc ++ (R ++ rowG a b c 0 (look B s))).map PyData.int := by simp
      rw [em]
      refine ih _ _ _ (by simp; omega) (fun hw v6 v7 v8 => ?_) fun hw ρ => hE (fun h => hw fun s h' => h s (List.mem_cons_of_mem _ h')) ρ
      have := hQ (fun t ht => by
        rcases List.mem_cons.mp ht with rfl | ht
        · exact hs
        · exact hw t ht) v6 v7 v8
      rw [wordP] at this
      simpa using this
    · rw [signsK_none hs, orE_none]
      exact hE (fun h => hs (h s List.mem_cons_self)) _
theorem rowG_ne {a b c : Int} {r : List Bool} (h : r ≠ []) : rowG a b c 0 r ≠ [] := by
  cases r with
  | nil => exact absurd rfl h
  | cons x r => simp [rowG]
theorem wordsP_loop {B : Bk} (hB : BkOk B) {a b c d e : Int} {v0 v2 : Sl} {Q : Fl → Rho → Prop} {E : Ex → Rho → Prop} : ∀ (T : List (List Nat)) (n : Nat) (acc : List Int) (v5 v6 v7 v8 : Sl), (acc = [] ↔ n = 0) → acc.length + 20 * (T.map List.length).sum ≤ 40000 →
    (T.all (goodB B) = true → ∀ v5 v6 v7 v8, Q .nx [v0, .va (fmD a b c d e), v2, .md (signsK B), .ml ((acc ++ textG B a b c d e n T).map .int), v5, v6, v7, v8]) →
    (T.all (goodB B) = false → ∀ ρ, E ⟨"NoSign", []⟩ ρ) →
    Ok (sLoop (tgN 5) l_weights_of_2 (T.map fun w => .str (wS w))) [v0, .va (fmD a b c d e), v2, .md (signsK B), .ml (acc.map .int), v5, v6, v7, v8] Q E
  | [], n, acc, v5, v6, v7, v8, _, _, hQ, _ => by
    have := hQ rfl v5 v6 v7 v8
    rw [textG, List.append_nil] at this
    exact this
  | w :: T, n, acc, v5, v6, v7, v8, hn, hl, hQ, hE => by
    rw [List.map_cons, loop_cons]
    have ih := fun acc v5 v6 v7 v8 h => wordsP_loop hB (a := a) (b := b) (c := c) (d := d) (e := e) (v0 := v0) (v2 := v2) (Q := Q) (E := E) T (n + 1) acc v5 v6 v7 v8 h
    generalize sLoop (tgN 5) l_weights_of_2 (T.map fun w => .str (wS w)) = W at ih ⊢
    have e0 : Str.ofString "" = wS [] := by decide +kernel
    have eqn : eqD (.str (wS w)) (.str (Str.ofString "")) = some (.bool (decide (w = []))) := by
      rw [eqStr, e0]
      congr 3
      exact propext wS_inj
    have e4 : idxD (fmD a b c d e) (.int 4) = some (.int e) := rfl
    have en := ne_nil acc
    have hin : ¬ acc = [] ↔ 0 < n := by rw [hn]; omega
    have em : mulD (.list [.int e]) (.int (if (!decide (acc = [])) = true then 1 else 0)) = some (.list ((if 0 < n then [e] else []).map .int)) := by
      rw [mulB]
      by_cases h : acc = []
      · have : ¬ 0 < n := fun z => hin.mpr z h
        simp [h, this]
      · have := hin.mp h
        simp [h, this]
    simp at hl
    unfold l_weights_of_2
    simp only [g_bind, g_ok, g_ofO, g_var, g_peek, g_frz, g_C, g_op, g_opF, g_tOf, g_B, g_BF, g_nil, g_cons, ok_ite, g_tup, g_lst, g_fz, g_call, g_callF, g_callV, g_callF0, g_seq, g_next, g_set, g_setF, g_setV, g_drop, g_ret, g_retF, g_retV, g_retO, g_if, g_append, g_extend, g_to, g_par, g_aug, g_any, g_noP, g_part, g_sl, g_slF, g_isI, g_m1, g_tAnd, g_tOr, g_tNot, g_and, g_or, g_not, g_neg, g_eif, g_tru, g_for, g_comp, g_run, okO_some, slV_va, slP_va, slP_ml, slZ_va, slZ_ml, slM_ml, isB_b, isI_i, isS_s, isL_l, itO_l, itO_t, itO_s, isVl_z, isVl_f, nxF_nx, nxF_rt, nxF_ro, nxF_bk, nxF_ct, endF_nx, endF_rt, endF_ro, okR_ok, okR_fr, okR_er, two_ok, stepF_nx, stepF_ct, stepF_bk, stepF_rt, stepF_ro, List.getElem?_cons_zero, List.getElem?_cons_succ, List.set_cons_zero, List.set_cons_succ, List.length_cons, List.length_nil, List.map_cons, List.map_nil, List.replicate_succ, List.replicate_zero, List.cons_append, List.nil_append, Nat.reduceAdd, Nat.reduceSub, Nat.reduceLeDiff, decide_eq_true_eq, addInt, subInt, ltInt, mulInt, modInt, divInt, powInt, shlInt, shrInt, eqInt, neInt, cmpInt, lenScr, lenLst, lenTup, idxScr, idxLst, idxTup, true_and, tgN, wipeR, g_chain, g_iseq, g_setIx, g_lix, g_m1F, Option.bind_some, g_callB, g_vz, slK_md, g_setD, g_dnew, g_din, g_dget, g_dput, g_pop, keyStr, keyInt, g_frm, isFrm5, idxFrm, okF_frm, g_fix, slN_mn, g_newN, g_inN, g_nget, g_nput, g_nget2, g_insert, g_tryKey, orE_some, orE_none, g_dpairs, g_ifV, g_repl, en, e4, intB, em]
    unfold t_weights_of_b1
    simp only [g_bind, g_ok, g_ofO, g_var, g_peek, g_frz, g_C, g_op, g_opF, g_tOf, g_B, g_BF, g_nil, g_cons, ok_ite, g_tup, g_lst, g_fz, g_call, g_callF, g_callV, g_callF0, g_seq, g_next, g_set, g_setF, g_setV, g_drop, g_ret, g_retF, g_retV, g_retO, g_if, g_append, g_extend, g_to, g_par, g_aug, g_any, g_noP, g_part, g_sl, g_slF, g_isI, g_m1, g_tAnd, g_tOr, g_tNot, g_and, g_or, g_not, g_neg, g_eif, g_tru, g_for, g_comp, g_run, okO_some, slV_va, slP_va, slP_ml, slZ_va, slZ_ml, slM_ml, isB_b, isI_i, isS_s, isL_l, itO_l, itO_t, itO_s, isVl_z, isVl_f, nxF_nx, nxF_rt, nxF_ro, nxF_bk, nxF_ct, endF_nx, endF_rt, endF_ro, okR_ok, okR_fr, okR_er, two_ok, stepF_nx, stepF_ct, stepF_bk, stepF_rt, stepF_ro, List.getElem?_cons_zero, List.getElem?_cons_succ, List.set_cons_zero, List.set_cons_succ, List.length_cons, List.length_nil, List.map_cons, List.map_nil, List.replicate_succ, List.replicate_zero, List.cons_append, List.nil_append, Nat.reduceAdd, Nat.reduceSub, Nat.reduceLeDiff, decide_eq_true_eq, addInt, subInt, ltInt, mulInt, modInt, divInt, powInt, shlInt, shrInt, eqInt, neInt, cmpInt, lenScr, lenLst, lenTup, idxScr, idxLst, idxTup, true_and, tgN, wipeR, g_chain, g_iseq, g_setIx, g_lix, g_m1F, Option.bind_some, g_callB, g_vz, slK_md, g_setD, g_dnew, g_din, g_dget, g_dput, g_pop, keyStr, keyInt, g_frm, isFrm5, idxFrm, okF_frm, g_fix, slN_mn, g_newN, g_inN, g_nget, g_nput, g_nget2, g_insert, g_tryKey, orE_some, orE_none, g_dpairs, g_ifV, g_repl, eqn]
    by_cases hw0 : w = []
    · rw [if_pos hw0]
      simp only [g_raise0]
      exact hE (by simp [List.all_cons, goodB, hw0]) _
    · rw [if_neg hw0]
      unfold t_weights_of_b2
      simp only [g_bind, g_ok, g_ofO, g_var, g_peek, g_frz, g_C, g_op, g_opF, g_tOf, g_B, g_BF, g_nil, g_cons, ok_ite, g_tup, g_lst, g_fz, g_call, g_callF, g_callV, g_callF0, g_seq, g_next, g_set, g_setF, g_setV, g_drop, g_ret, g_retF, g_retV, g_retO, g_if, g_append, g_extend, g_to, g_par, g_aug, g_any, g_noP, g_part, g_sl, g_slF, g_isI, g_m1, g_tAnd, g_tOr, g_tNot, g_and, g_or, g_not, g_neg, g_eif, g_tru, g_for, g_comp, g_run, okO_some, slV_va, slP_va, slP_ml, slZ_va, slZ_ml, slM_ml, isB_b, isI_i, isS_s, isL_l, itO_l, itO_t, itO_s, isVl_z, isVl_f, nxF_nx, nxF_rt, nxF_ro, nxF_bk, nxF_ct, endF_nx, endF_rt, endF_ro, okR_ok, okR_fr, okR_er, two_ok, stepF_nx, stepF_ct, stepF_bk, stepF_rt, stepF_ro, List.getElem?_cons_zero, List.getElem?_cons_succ, List.set_cons_zero, List.set_cons_succ, List.length_cons, List.length_nil, List.map_cons, List.map_nil, List.replicate_succ, List.replicate_zero, List.cons_append, List.nil_append, Nat.reduceAdd, Nat.reduceSub, Nat.reduceLeDiff, decide_eq_true_eq, addInt, subInt, ltInt, mulInt, modInt, divInt, powInt, shlInt, shrInt, eqInt, neInt, cmpInt, lenScr, lenLst, lenTup, idxScr, idxLst, idxTup, true_and, tgN, wipeR, g_chain, g_iseq, g_setIx, g_lix, g_m1F, Option.bind_some, g_callB, g_vz, slK_md, g_setD, g_dnew, g_din, g_dget, g_dput, g_pop, keyStr, keyInt, g_frm, isFrm5, idxFrm, okF_frm, g_fix, slN_mn, g_newN, g_inN, g_nget, g_nput, g_nget2, g_insert, g_tryKey, orE_some, orE_none, g_dpairs, g_ifV, g_repl, signs_w]
      refine signP_loop hB w _ acc _ _ (by split <;> simp) (by omega) (fun hs v6 v7 v8 => ?_) fun hs ρ => hE ?_ ρ
      · have hg : goodB B w = true := good_iff.mpr ⟨hw0, hs⟩
        have wl := wordG_len hB a b c d e n w 0 hs
        rw [wordP_0 B a b c d e n w, stepF_nx]
        refine ih _ _ _ _ _ ?_ (by simp; omega) (fun hT v5 v6 v7 v8 => ?_) fun hT ρ => hE (by rw [List.all_cons, hT, Bool.and_false]) ρ
        · refine ⟨fun h => ?_, fun h => absurd h (by omega)⟩
          rw [List.append_eq_nil_iff] at h
          cases w with
          | nil => exact absurd rfl hw0
          | cons s w =>
            obtain ⟨x, hx, _, hlx⟩ := look_mem (hs s List.mem_cons_self)
            have h1 := (hB.row x hx).1
            rw [← hlx] at h1
            have h2 := h.2
            unfold wordG at h2
            rw [List.append_eq_nil_iff, List.append_eq_nil_iff] at h2
            exact absurd h2.2.1 (rowG_ne fun z => by rw [z] at h1; simp at h1)
        · have := hQ (by rw [List.all_cons, hT, hg]; rfl) v5 v6 v7 v8
          rw [textG] at this
          simpa using this
      · have : goodB B w = false := by
          rw [← Bool.not_eq_true, good_iff]
          exact fun h => hs h.2
        rw [List.all_cons, this, Bool.false_and]
theorem signs_pairs {B : Bk} (hB : BkOk B) : pairsK (B.map itD) = some (signsK B) ∧ mergeD (signsK B) = signsK B := by
  refine ⟨pairs_map (fun x : Nat × List Bool => sgS x.1) (fun x => PyData.str (rowS x.2)) B, ?_⟩
  refine merge_nd (fun x : Nat × List Bool => Sum.inr (sgS x.1)) (fun x => PyData.str (rowS x.2)) B ?_
  have e : (B.map fun x : Nat × List Bool => (Sum.inr (sgS x.1) : Key)) = (B.map (·.1)).map fun c => (Sum.inr (sgS c) : Key) := by rw [List.map_map]; rfl
  rw [e]
  refine List.Pairwise.map _ (fun x y h e => h ?_) hB.nd1
  simpa [sgS_inj] using e
theorem weights_of_X {B : Bk} (hB : BkOk B) {W : List (List Nat)} (h0 : W ≠ []) (h32 : ∀ w ∈ W, 32 ∉ w) (hj : (TL.joinL [32] W).length ≤ 1500) (a b c d e : Int) :
    (W.all (goodB B) = true → m_weights_of [.list (B.map itD), fmD a b c d e, .str (txS W)] = .fr ((textG B a b c d e 0 W).map .int)) ∧ (W.all (goodB B) = false → m_weights_of [.list (B.map itD), fmD a b c d e, .str (txS W)] = .er ⟨"NoSign", []⟩) := by
  have hl := join_len W
  have esp := splitD_tx W h0 h32 (by omega)
  obtain ⟨p1, p2⟩ := signs_pairs hB
  constructor
  · intro hg
    refine okR_eqF ?_
    unfold m_weights_of b_weights_of
    simp only [g_bind, g_ok, g_ofO, g_var, g_peek, g_frz, g_C, g_op, g_opF, g_tOf, g_B, g_BF, g_nil, g_cons, ok_ite, g_tup, g_lst, g_fz, g_call, g_callF, g_callV, g_callF0, g_seq, g_next, g_set, g_setF, g_setV, g_drop, g_ret, g_retF, g_retV, g_retO, g_if, g_append, g_extend, g_to, g_par, g_aug, g_any, g_noP, g_part, g_sl, g_slF, g_isI, g_m1, g_tAnd, g_tOr, g_tNot, g_and, g_or, g_not, g_neg, g_eif, g_tru, g_for, g_comp, g_run, okO_some, slV_va, slP_va, slP_ml, slZ_va, slZ_ml, slM_ml, isB_b, isI_i, isS_s, isL_l, itO_l, itO_t, itO_s, isVl_z, isVl_f, nxF_nx, nxF_rt, nxF_ro, nxF_bk, nxF_ct, endF_nx, endF_rt, endF_ro, okR_ok, okR_fr, okR_er, two_ok, stepF_nx, stepF_ct, stepF_bk, stepF_rt, stepF_ro, List.getElem?_cons_zero, List.getElem?_cons_succ, List.set_cons_zero, List.set_cons_succ, List.length_cons, List.length_nil, List.map_cons, List.map_nil, List.replicate_succ, List.replicate_zero, List.cons_append, List.nil_append, Nat.reduceAdd, Nat.reduceSub, Nat.reduceLeDiff, decide_eq_true_eq, addInt, subInt, ltInt, mulInt, modInt, divInt, powInt, shlInt, shrInt, eqInt, neInt, cmpInt, lenScr, lenLst, lenTup, idxScr, idxLst, idxTup, true_and, tgN, wipeR, g_chain, g_iseq, g_setIx, g_lix, g_m1F, Option.bind_some, g_callB, g_vz, slK_md, g_setD, g_dnew, g_din, g_dget, g_dput, g_pop, keyStr, keyInt, g_frm, isFrm5, idxFrm, okF_frm, g_fix, slN_mn, g_newN, g_inN, g_nget, g_nput, g_nget2, g_insert, g_tryKey, orE_some, orE_none, g_dpairs, g_ifV, g_repl, g_dpairs, p1, p2]
    unfold t_weights_of_c1
    simp only [g_bind, g_ok, g_ofO, g_var, g_peek, g_frz, g_C, g_op, g_opF, g_tOf, g_B, g_BF, g_nil, g_cons, ok_ite, g_tup, g_lst, g_fz, g_call, g_callF, g_callV, g_callF0, g_seq, g_next, g_set, g_setF, g_setV, g_drop, g_ret, g_retF, g_retV, g_retO, g_if, g_append, g_extend, g_to, g_par, g_aug, g_any, g_noP, g_part, g_sl, g_slF, g_isI, g_m1, g_tAnd, g_tOr, g_tNot, g_and, g_or, g_not, g_neg, g_eif, g_tru, g_for, g_comp, g_run, okO_some, slV_va, slP_va, slP_ml, slZ_va, slZ_ml, slM_ml, isB_b, isI_i, isS_s, isL_l, itO_l, itO_t, itO_s, isVl_z, isVl_f, nxF_nx, nxF_rt, nxF_ro, nxF_bk, nxF_ct, endF_nx, endF_rt, endF_ro, okR_ok, okR_fr, okR_er, two_ok, stepF_nx, stepF_ct, stepF_bk, stepF_rt, stepF_ro, List.getElem?_cons_zero, List.getElem?_cons_succ, List.set_cons_zero, List.set_cons_succ, List.length_cons, List.length_nil, List.map_cons, List.map_nil, List.replicate_succ, List.replicate_zero, List.cons_append, List.nil_append, Nat.reduceAdd, Nat.reduceSub, Nat.reduceLeDiff, decide_eq_true_eq, addInt, subInt, ltInt, mulInt, modInt, divInt, powInt, shlInt, shrInt, eqInt, neInt, cmpInt, lenScr, lenLst, lenTup, idxScr, idxLst, idxTup, true_and, tgN, wipeR, g_chain, g_iseq, g_setIx, g_lix, g_m1F, Option.bind_some, g_callB, g_vz, slK_md, g_setD, g_dnew, g_din, g_dget, g_dput, g_pop, keyStr, keyInt, g_frm, isFrm5, idxFrm, okF_frm, g_fix, slN_mn, g_newN, g_inN, g_nget, g_nput, g_nget2, g_insert, g_tryKey, orE_some, orE_none, g_dpairs, g_ifV, g_repl]
    unfold t_weights_of_c2
    simp only [g_bind, g_ok, g_ofO, g_var, g_peek, g_frz, g_C, g_op, g_opF, g_tOf, g_B, g_BF, g_nil, g_cons, ok_ite, g_tup, g_lst, g_fz, g_call, g_callF, g_callV, g_callF0, g_seq, g_next, g_set, g_setF, g_setV, g_drop, g_ret, g_retF, g_retV, g_retO, g_if, g_append, g_extend, g_to, g_par, g_aug, g_any, g_noP, g_part, g_sl, g_slF, g_isI, g_m1, g_tAnd, g_tOr, g_tNot, g_and, g_or, g_not, g_neg, g_eif, g_tru, g_for, g_comp, g_run, okO_some, slV_va, slP_va, slP_ml, slZ_va, slZ_ml, slM_ml, isB_b, isI_i, isS_s, isL_l, itO_l, itO_t, itO_s, isVl_z, isVl_f, nxF_nx, nxF_rt, nxF_ro, nxF_bk, nxF_ct, endF_nx, endF_rt, endF_ro, okR_ok, okR_fr, okR_er, two_ok, stepF_nx, stepF_ct, stepF_bk, stepF_rt, stepF_ro, List.getElem?_cons_zero, List.getElem?_cons_succ, List.set_cons_zero, List.set_cons_succ, List.length_cons, List.length_nil, List.map_cons, List.map_nil, List.replicate_succ, List.replicate_zero, List.cons_append, List.nil_append, Nat.reduceAdd, Nat.reduceSub, Nat.reduceLeDiff, decide_eq_true_eq, addInt, subInt, ltInt, mulInt, modInt, divInt, powInt, shlInt, shrInt, eqInt, neInt, cmpInt, lenScr, lenLst, lenTup, idxScr, idxLst, idxTup, true_and, tgN, wipeR, g_chain, g_iseq, g_setIx, g_lix, g_m1F, Option.bind_some, g_callB, g_vz, slK_md, g_setD, g_dnew, g_din, g_dget, g_dput, g_pop, keyStr, keyInt, g_frm, isFrm5, idxFrm, okF_frm, g_fix, slN_mn, g_newN, g_inN, g_nget, g_nput, g_nget2, g_insert, g_tryKey, orE_some, orE_none, g_dpairs, g_ifV, g_repl, esp]
    refine wordsP_loop hB W 0 [] _ _ _ _ (by simp) (by simp; omega) (fun _ v5 v6 v7 v8 => ?_) (fun h => by rw [hg] at h; cases h)
    unfold t_weights_of_c3
    simp only [g_bind, g_ok, g_ofO, g_var, g_peek, g_frz, g_C, g_op, g_opF, g_tOf, g_B, g_BF, g_nil, g_cons, ok_ite, g_tup, g_lst, g_fz, g_call, g_callF, g_callV, g_callF0, g_seq, g_next, g_set, g_setF, g_setV, g_drop, g_ret, g_retF, g_retV, g_retO, g_if, g_append, g_extend, g_to, g_par, g_aug, g_any, g_noP, g_part, g_sl, g_slF, g_isI, g_m1, g_tAnd, g_tOr, g_tNot, g_and, g_or, g_not, g_neg, g_eif, g_tru, g_for, g_comp, g_run, okO_some, slV_va, slP_va, slP_ml, slZ_va, slZ_ml, slM_ml, isB_b, isI_i, isS_s, isL_l, itO_l, itO_t, itO_s, isVl_z, isVl_f, nxF_nx, nxF_rt, nxF_ro, nxF_bk, nxF_ct, endF_nx, endF_rt, endF_ro, okR_ok, okR_fr, okR_er, two_ok, stepF_nx, stepF_ct, stepF_bk, stepF_rt, stepF_ro, List.getElem?_cons_zero, List.getElem?_cons_succ, List.set_cons_zero, List.set_cons_succ, List.length_cons, List.length_nil, List.map_cons, List.map_nil, List.replicate_succ, List.replicate_zero, List.cons_append, List.nil_append, Nat.reduceAdd, Nat.reduceSub, Nat.reduceLeDiff, decide_eq_true_eq, addInt, subInt, ltInt, mulInt, modInt, divInt, powInt, shlInt, shrInt, eqInt, neInt, cmpInt, lenScr, lenLst, lenTup, idxScr, idxLst, idxTup, true_and, tgN, wipeR, g_chain, g_iseq, g_setIx, g_lix, g_m1F, Option.bind_some, g_callB, g_vz, slK_md, g_setD, g_dnew, g_din, g_dget, g_dput, g_pop, keyStr, keyInt, g_frm, isFrm5, idxFrm, okF_frm, g_fix, slN_mn, g_newN, g_inN, g_nget, g_nput, g_nget2, g_insert, g_tryKey, orE_some, orE_none, g_dpairs, g_ifV, g_repl, List.nil_append]
  · intro hg
    refine okR_exc ?_
    unfold m_weights_of b_weights_of
    simp only [g_bind, g_ok, g_ofO, g_var, g_peek, g_frz, g_C, g_op, g_opF, g_tOf, g_B, g_BF, g_nil, g_cons, ok_ite, g_tup, g_lst, g_fz, g_call, g_callF, g_callV, g_callF0, g_seq, g_next, g_set, g_setF, g_setV, g_drop, g_ret, g_retF, g_retV, g_retO, g_if, g_append, g_extend, g_to, g_par, g_aug, g_any, g_noP, g_part, g_sl, g_slF, g_isI, g_m1, g_tAnd, g_tOr, g_tNot, g_and, g_or, g_not, g_neg, g_eif, g_tru, g_for, g_comp, g_run, okO_some, slV_va, slP_va, slP_ml, slZ_va, slZ_ml, slM_ml, isB_b, isI_i, isS_s, isL_l, itO_l, itO_t, itO_s, isVl_z, isVl_f, nxF_nx, nxF_rt, nxF_ro, nxF_bk, nxF_ct, endF_nx, endF_rt, endF_ro, okR_ok, okR_fr, okR_er, two_ok, stepF_nx, stepF_ct, stepF_bk, stepF_rt, stepF_ro, List.getElem?_cons_zero, List.getElem?_cons_succ, List.set_cons_zero, List.set_cons_succ, List.length_cons, List.length_nil, List.map_cons, List.map_nil, List.replicate_succ, List.replicate_zero, List.cons_append, List.nil_append, Nat.reduceAdd, Nat.reduceSub, Nat.reduceLeDiff, decide_eq_true_eq, addInt, subInt, ltInt, mulInt, modInt, divInt, powInt, shlInt, shrInt, eqInt, neInt, cmpInt, lenScr, lenLst, lenTup, idxScr, idxLst, idxTup, true_and, tgN, wipeR, g_chain, g_iseq, g_setIx, g_lix, g_m1F, Option.bind_some, g_callB, g_vz, slK_md, g_setD, g_dnew, g_din, g_dget, g_dput, g_pop, keyStr, keyInt, g_frm, isFrm5, idxFrm, okF_frm, g_fix, slN_mn, g_newN, g_inN, g_nget, g_nput, g_nget2, g_insert, g_tryKey, orE_some, orE_none, g_dpairs, g_ifV, g_repl, g_dpairs, p1, p2]
    unfold t_weights_of_c1
    simp only [g_bind, g_ok, g_ofO, g_var, g_peek, g_frz, g_C, g_op, g_opF, g_tOf, g_B, g_BF, g_nil, g_cons, ok_ite, g_tup, g_lst, g_fz, g_call, g_callF, g_callV, g_callF0, g_seq, g_next, g_set, g_setF, g_setV, g_drop, g_ret, g_retF, g_retV, g_retO, g_if, g_append, g_extend, g_to, g_par, g_aug, g_any, g_noP, g_part, g_sl, g_slF, g_isI, g_m1, g_tAnd, g_tOr, g_tNot, g_and, g_or, g_not, g_neg, g_eif, g_tru, g_for, g_comp, g_run, okO_some, slV_va, slP_va, slP_ml, slZ_va, slZ_ml, slM_ml, isB_b, isI_i, isS_s, isL_l, itO_l, itO_t, itO_s, isVl_z, isVl_f, nxF_nx, nxF_rt, nxF_ro, nxF_bk, nxF_ct, endF_nx, endF_rt, endF_ro, okR_ok, okR_fr, okR_er, two_ok, stepF_nx, stepF_ct, stepF_bk, stepF_rt, stepF_ro, List.getElem?_cons_zero, List.getElem?_cons_succ, List.set_cons_zero, List.set_cons_succ, List.length_cons, List.length_nil, List.map_cons, List.map_nil, List.replicate_succ, List.replicate_zero, List.cons_append, List.nil_append, Nat.reduceAdd, Nat.reduceSub, Nat.reduceLeDiff, decide_eq_true_eq, addInt, subInt, ltInt, mulInt, modInt, divInt, powInt, shlInt, shrInt, eqInt, neInt, cmpInt, lenScr, lenLst, lenTup, idxScr, idxLst, idxTup, true_and, tgN, wipeR, g_chain, g_iseq, g_setIx, g_lix, g_m1F, Option.bind_some, g_callB, g_vz, slK_md, g_setD, g_dnew, g_din, g_dget, g_dput, g_pop, keyStr, keyInt, g_frm, isFrm5, idxFrm, okF_frm, g_fix, slN_mn, g_newN, g_inN, g_nget, g_nput, g_nget2, g_insert, g_tryKey, orE_some, orE_none, g_dpairs, g_ifV, g_repl]
    unfold t_weights_of_c2
    simp only [g_bind, g_ok, g_ofO, g_var, g_peek, g_frz, g_C, g_op, g_opF, g_tOf, g_B, g_BF, g_nil, g_cons, ok_ite, g_tup, g_lst, g_fz, g_call, g_callF, g_callV, g_callF0, g_seq, g_next, g_set, g_setF, g_setV, g_drop, g_ret, g_retF, g_retV, g_retO, g_if, g_append, g_extend, g_to, g_par, g_aug, g_any, g_noP, g_part, g_sl, g_slF, g_isI, g_m1, g_tAnd, g_tOr, g_tNot, g_and, g_or, g_not, g_neg, g_eif, g_tru, g_for, g_comp, g_run, okO_some, slV_va, slP_va, slP_ml, slZ_va, slZ_ml, slM_ml, isB_b, isI_i, isS_s, isL_l, itO_l, itO_t, itO_s, isVl_z, isVl_f, nxF_nx, nxF_rt, nxF_ro, nxF_bk, nxF_ct, endF_nx, endF_rt, endF_ro, okR_ok, okR_fr, okR_er, two_ok, stepF_nx, stepF_ct, stepF_bk, stepF_rt, stepF_ro, List.getElem?_cons_zero, List.getElem?_cons_succ, List.set_cons_zero, List.set_cons_succ, List.length_cons, List.length_nil, List.map_cons, List.map_nil, List.replicate_succ, List.replicate_zero, List.cons_append, List.nil_append, Nat.reduceAdd, Nat.reduceSub, Nat.reduceLeDiff, decide_eq_true_eq, addInt, subInt, ltInt, mulInt, modInt, divInt, powInt, shlInt, shrInt, eqInt, neInt, cmpInt, lenScr, lenLst, lenTup, idxScr, idxLst, idxTup, true_and, tgN, wipeR, g_chain, g_iseq, g_setIx, g_lix, g_m1F, Option.bind_some, g_callB, g_vz, slK_md, g_setD, g_dnew, g_din, g_dget, g_dput, g_pop, keyStr, keyInt, g_frm, isFrm5, idxFrm, okF_frm, g_fix, slN_mn, g_newN, g_inN, g_nget, g_nput, g_nget2, g_insert, g_tryKey, orE_some, orE_none, g_dpairs, g_ifV, g_repl, esp]
    refine wordsP_loop hB W 0 [] _ _ _ _ (by simp) (by simp; omega) (fun h => by rw [hg] at h; cases h) (fun _ ρ => rfl)
end LawK03
namespace LawK03
open PySem PySem.Spec L2 DL
open PyProof.Rows hiding St
/-! two lists of weights -/
theorem rowG_mem {a b c x : Int} : ∀ {r : List Bool} {j : Nat}, x ∈ rowG a b c j r → x = a ∨ x = b ∨ x = c
  | [], _, h => by cases h
  | y :: r, j, h => by
    unfold rowG at h
    rcases List.mem_append.mp h with h | h
    · split at h
      · simp at h; exact .inr (.inr h)
      · cases h
    · rcases List.mem_cons.mp h with h | h
      · unfold sound at h
        split at h
        · exact .inr (.inl h)
        · exact .inl h
      · exact rowG_mem h
theorem wordG_mem {B : Bk} {a b c d e x : Int} {n : Nat} : ∀ {w : List Nat} {k : Nat}, x ∈ wordG B a b c d e n k w → x = a ∨ x = b ∨ x = c ∨ x = d ∨ x = e
  | [], _, h => by cases h
  | s :: w, k, h => by
    unfold wordG at h
    rcases List.mem_append.mp h with h | h
    · split at h
      · simp at h
        split at h
        · exact .inr (.inr (.inr (.inr h)))
        · exact .inr (.inr (.inr (.inl h)))
      · cases h
    · rcases List.mem_append.mp h with h | h
      · rcases rowG_mem h with h | h | h
        · exact .inl h
        · exact .inr (.inl h)
        · exact .inr (.inr (.inl h))
      · exact wordG_mem h
theorem textG_mem {B : Bk} {a b c d e x : Int} : ∀ {W : List (List Nat)} {n : Nat}, x ∈ textG B a b c d e n W → x = a ∨ x = b ∨ x = c ∨ x = d ∨ x = e
  | [], _, h => by cases h
  | w :: W, n, h => by
    unfold textG at h
    rcases List.mem_append.mp h with h | h
    · exact wordG_mem h
    · exact textG_mem h
theorem textG_ne {B : Bk} (hB : BkOk B) {a b c d e : Int} {W : List (List Nat)} (hW : TxOk B W) : textG B a b c d e 0 W ≠ [] := by
  cases W with
  | nil => exact absurd rfl hW.ne
  | cons w W =>
    obtain ⟨h1, h2⟩ := hW.w w List.mem_cons_self
    cases w with
    | nil => exact absurd rfl h1
    | cons s w =>
      obtain ⟨x, hx, _, hl⟩ := look_mem (h2 s List.mem_cons_self)
      have h8 := (hB.row x hx).1
      rw [← hl] at h8
      unfold textG wordG
      cases hr : look B s with
      | nil => rw [hr] at h8; simp at h8
      | cons y r => simp [rowG]
end LawK03

set_option linter.all false
set_option maxRecDepth 100000
namespace LawK03
open PySem PySem.Spec L2 DL
open PyProof.Rows hiding St
/-! lists of numbers read as texts -/
theorem in2 (x a b : Int) : inD (.int x) (.tuple [.int a, .int b]) = some (.bool (decide (x = a ∨ x = b))) := by
  have ok : okD (.int x) = true ∧ okD (.tuple [.int a, .int b]) = true := ⟨rfl, rfl⟩
  simp only [inD, if_pos ok, List.any_cons, List.any_nil, PyData.eqv]
  by_cases h1 : x = a
  · subst h1; simp
  · by_cases h2 : x = b
    · subst h2; simp
    · have h3 : ¬ a = x := fun h => h1 h.symm
      have h4 : ¬ b = x := fun h => h2 h.symm
      simp [h1, h2, h3, h4]
def fnd (B : Bk) (r : List Bool) : Option Nat := (B.find? fun x => x.2 == r).map (·.1)
def rowsN (B : Bk) : List (Key × Dt) := B.map fun x => (.inr (rowS x.2), .str (sgS x.1))
theorem rowsN_get (B : Bk) (r : List Bool) : valD (rowsN B) (.inr (rowS r)) = (fnd B r).map fun c => .str (sgS c) := by
  unfold rowsN fnd
  rw [valD_find (fun x : Nat × List Bool => Sum.inr (rowS x.2)) (fun x => PyData.str (sgS x.1))]
  have e : (fun x : Nat × List Bool => decide ((Sum.inr (rowS x.2) : Key) = Sum.inr (rowS r))) = fun x => x.2 == r := by
    funext x
    simp only [Sum.inr.injEq, rowS_inj]
    rw [Bool.eq_iff_iff]
    simp
  rw [e, Option.map_map]
  rfl
theorem rows_loop {v0 v1 v2 v6 v7 v8 : Sl} {Q : Fl → Rho → Prop} : ∀ (R D : Bk), ((D ++ R).map (·.2)).Nodup → (D ++ R).length ≤ 36 →
    (∀ v4 v5, Q .nx [v0, v1, v2, .md (rowsN (D ++ R)), v4, v5, v6, v7, v8]) →
    ∀ v4 v5, Ok (sLoop (tgT [4, 5]) (DL.sDPut 3 (eVar 5) (eVar 4)) (R.map itD)) [v0, v1, v2, .md (rowsN D), v4, v5, v6, v7, v8] Q fun x _ => noX x
  | [], D, _, _, hQ, v4, v5 => by
    rw [List.map_nil, loop_nil]
    have := hQ v4 v5
    rwa [List.append_nil] at this
  | x :: R, D, hn, hl, hQ, v4, v5 => by
    rw [List.map_cons, loop_cons]
    have ih := fun v4 v5 => rows_loop (v0 := v0) (v1 := v1) (v2 := v2) (v6 := v6) (v7 := v7) (v8 := v8) (Q := Q) R (D ++ [x]) (by simpa using hn) (by simpa using hl) (by simpa using hQ) v4 v5
    generalize sLoop (tgT [4, 5]) (DL.sDPut 3 (eVar 5) (eVar 4)) (R.map itD) = W at ih ⊢
    unfold itD
    simp only [g_bind, g_ok, g_ofO, g_var, g_peek, g_frz, g_C, g_op, g_opF, g_tOf, g_B, g_BF, g_nil, g_cons, ok_ite, g_tup, g_lst, g_fz, g_call, g_callF, g_callV, g_callF0, g_seq, g_next, g_set, g_setF, g_setV, g_drop, g_ret, g_retF, g_retV, g_retO, g_if, g_append, g_extend, g_to, g_par, g_aug, g_any, g_noP, g_part, g_sl, g_slF, g_isI, g_m1, g_tAnd, g_tOr, g_tNot, g_and, g_or, g_not, g_neg, g_eif, g_tru, g_for, g_comp, g_run, okO_some, slV_va, slP_va, slP_ml, slZ_va, slZ_ml, slM_ml, isB_b, isI_i, isS_s, isL_l, itO_l, itO_t, itO_s, isVl_z, isVl_f, nxF_nx, nxF_rt, nxF_ro, nxF_bk, nxF_ct, endF_nx, endF_rt, endF_ro, okR_ok, okR_fr, okR_er, two_ok, stepF_nx, stepF_ct, stepF_bk, stepF_rt, stepF_ro, List.getElem?_cons_zero, List.getElem?_cons_succ, List.set_cons_zero, List.set_cons_succ, List.length_cons, List.length_nil, List.map_cons, List.map_nil, List.replicate_succ, List.replicate_zero, List.cons_append, List.nil_append, Nat.reduceAdd, Nat.reduceSub, Nat.reduceLeDiff, decide_eq_true_eq, addInt, subInt, ltInt, mulInt, modInt, divInt, powInt, shlInt, shrInt, eqInt, neInt, cmpInt, lenScr, lenLst, lenTup, idxScr, idxLst, idxTup, true_and, tgN, wipeR, g_chain, g_iseq, g_setIx, g_lix, g_m1F, Option.bind_some, g_callB, g_vz, slK_md, g_setD, g_dnew, g_din, g_dget, g_dput, g_pop, keyStr, keyInt, g_frm, isFrm5, idxFrm, okF_frm, g_fix, slN_mn, g_newN, g_inN, g_nget, g_nput, g_nget2, g_insert, g_tryKey, orE_some, orE_none, g_dpairs, g_ifV, g_repl, tgT, tgL]
    have hp : putD (rowsN D) (.inr (rowS x.2)) (.str (sgS x.1)) = rowsN (D ++ [x]) := by
      unfold rowsN
      rw [putD_new (fun x : Nat × List Bool => Sum.inr (rowS x.2)) (fun x => PyData.str (sgS x.1)), List.map_append]
      · rfl
      · intro y hy e
        simp only [Sum.inr.injEq, rowS_inj] at e
        rw [List.map_append, List.nodup_append] at hn
        exact hn.2.2 y.2 (List.mem_map.mpr ⟨y, hy, rfl⟩) x.2 (by simp) e
    rw [hp]
    refine ⟨?_, ih _ _⟩
    unfold rowsN
    rw [List.length_map, sizeLine_eq]
    simp at hl; omega
section
variable (B : Bk) (a b c d e : Int)
/-- what is read so far: the text, the begun row -/
def rd : Bool → List Nat → List Bool → List Int → Option (List Nat × List Bool)
  | _, t, r, [] => some (t, r)
  | true, t, r, x :: xs => if x = a ∨ x = b then rd false t (r ++ [decide (x ≠ a)]) xs else none
  | false, t, r, x :: xs => if x = c then rd true t r xs else if x = d ∨ x = e then (match fnd B r with
    | some s => rd true (t ++ s :: (if x = e then [32] else [])) [] xs
    | none => none) else none
theorem rd_nil {p : Bool} {t : List Nat} {r : List Bool} : rd B a b c d e p t r [] = some (t, r) := by cases p <;> rfl
theorem rd_t {t : List Nat} {r : List Bool} {x : Int} {xs : List Int} : rd B a b c d e true t r (x :: xs) = if x = a ∨ x = b then rd B a b c d e false t (r ++ [decide (x ≠ a)]) xs else none := by rw [rd]
theorem rd_f {t : List Nat} {r : List Bool} {x : Int} {xs : List Int} : rd B a b c d e false t r (x :: xs) = if x = c then rd B a b c d e true t r xs else if x = d ∨ x = e then (match fnd B r with
    | some s => rd B a b c d e true (t ++ s :: (if x = e then [32] else [])) [] xs
    | none => none) else none := by rw [rd]
def outT (L : List Int) : Option (List Nat) := if L.length % 2 = 0 then none else (rd B a b c d e true [] [] L).bind fun q => (fnd B q.2).map fun s => q.1 ++ [s]
end
def txD (o : Option (List Nat)) : Dt := match o with
  | some t => .str (wS t)
  | none => .none
structure FmO (a b c d e : Int) : Prop where
  ab : a < b
  cd : c < d
  de : d < e
theorem FormOk.o {a b c d e : Int} (f : FormOk a b c d e) : FmO a b c d e := ⟨f.b1, f.d1, f.e1⟩
theorem fix_a {a b c d e : Int} : fixD a b c d e (.int a) = some (.int 0) := by
  show (if a ∈ [a, b, c, d, e] then some (PyData.int ([a, b, c, d, e].idxOf a : Nat)) else none) = _
  rw [if_pos (by simp)]
  simp
theorem fix_b {a b c d e : Int} (h : a ≠ b) : fixD a b c d e (.int b) = some (.int 1) := by
  show (if b ∈ [a, b, c, d, e] then some (PyData.int ([a, b, c, d, e].idxOf b : Nat)) else none) = _
  rw [if_pos (by simp)]
  have : ([a, b, c, d, e] : List Int).idxOf b = 1 := by
    have hb : (a == b) = false := by simpa using h
    simp [List.idxOf_cons, hb]
  rw [this]
  rfl
theorem row_snoc (r : List Bool) (x : Bool) : rowS r ++ sgS (bitN x) = rowS (r ++ [x]) := by
  unfold rowS
  rw [sgS_w, wS_app, List.map_append]
  rfl
theorem rowS_len (r : List Bool) : (rowS r).length = r.length := by unfold rowS; rw [wS_len, List.length_map]
theorem dots (x : Bool) : idxD (.str (Str.ofString ".-")) (.int (if x = true then 1 else 0)) = some (.str (sgS (bitN x))) := by cases x <;> rfl
theorem mulS_b (z : Str) (x : Bool) : mulSD (.str z) (.int (if x = true then 1 else 0)) = some (.str (if x = true then z else Str.empty)) := by cases x <;> rfl
theorem addT {x y : Str} {Q : Dt → Prop} : okO (addSD (.str x) (.str y)) Q ↔ x.length + y.length ≤ sizeLine ∧ Q (.str (x ++ y)) := by
  show okO (if x.length + y.length ≤ sizeLine then some (.str (x ++ y)) else none) Q ↔ _
  by_cases h : x.length + y.length ≤ sizeLine <;> simp [h, okO]
theorem mod2 {n : Nat} : ((n : Int) % 2 = 0 ↔ n % 2 = 0) ∧ ((n : Int) % 2 = 1 ↔ n % 2 = 1) := by omega
theorem text_loop2 {B : Bk} {a b c d e : Int} (f : FmO a b c d e) {v0 v2 v4 : Sl} {Q : Fl → Rho → Prop} : ∀ (xs : List Int) (p : Bool) (at' : Nat) (t : List Nat) (r : List Bool) (v7 v8 : Sl), (at' % 2 = 0 ↔ p = true) → t.length + 2 * xs.length ≤ 100000 → r.length + xs.length ≤ 100000 →
    (∀ t' r' v7 v8, rd B a b c d e p t r xs = some (t', r') → t'.length ≤ t.length + 2 * xs.length → Q .nx [v0, .va (fmD a b c d e), v2, .md (rowsN B), v4, .va (.str (rowS r')), .va (.str (wS t')), v7, v8]) →
    (rd B a b c d e p t r xs = none → ∀ ρ, Q (.rt .none) ρ) →
    Ok (sLoop (tgT [7, 8]) l_text_of_2 (enD at' (xs.map .int))) [v0, .va (fmD a b c d e), v2, .md (rowsN B), v4, .va (.str (rowS r)), .va (.str (wS t)), v7, v8] Q fun x _ => noX x
  | [], p, at', t, r, v7, v8, _, _, _, hQ, _ => by
    exact hQ t r v7 v8 (rd_nil B a b c d e) (by simp)
  | x :: xs, p, at', t, r, v7, v8, hp, hl, hr, hQ, hN => by
    rw [List.map_cons, enD, loop_cons]
    have ih := fun p t r v7 v8 => text_loop2 (B := B) f (v0 := v0) (v2 := v2) (v4 := v4) (Q := Q) xs p (at' + 1) t r v7 v8
    generalize sLoop (tgT [7, 8]) l_text_of_2 (enD (at' + 1) (xs.map .int)) = W at ih ⊢
    simp only [List.length_cons] at hl hr
    have hab := f.ab
    have hcd := f.cd
    have hde := f.de
    have e4 : atI [PyData.int a, .int b, .int c, .int d, .int e] 4 = some (.int e) := rfl
    have e2 : atI [PyData.int a, .int b, .int c, .int d, .int e] 2 = some (.int c) := rfl
    unfold l_text_of_2
    cases p with
    | true =>
      have hm : (at' : Int) % 2 = 0 := mod2.1.mpr (hp.mpr rfl)
      have hm1 : ¬ (at' : Int) % 2 = 1 := by omega
      simp only [g_bind, g_ok, g_ofO, g_var, g_peek, g_frz, g_C, g_op, g_opF, g_tOf, g_B, g_BF, g_nil, g_cons, ok_ite, g_tup, g_lst, g_fz, g_call, g_callF, g_callV, g_callF0, g_seq, g_next, g_set, g_setF, g_setV, g_drop, g_ret, g_retF, g_retV, g_retO, g_if, g_append, g_extend, g_to, g_par, g_aug, g_any, g_noP, g_part, g_sl, g_slF, g_isI, g_m1, g_tAnd, g_tOr, g_tNot, g_and, g_or, g_not, g_neg, g_eif, g_tru, g_for, g_comp, g_run, okO_some, slV_va, slP_va, slP_ml, slZ_va, slZ_ml, slM_ml, isB_b, isI_i, isS_s, isL_l, itO_l, itO_t, itO_s, isVl_z, isVl_f, nxF_nx, nxF_rt, nxF_ro, nxF_bk, nxF_ct, endF_nx, endF_rt, endF_ro, okR_ok, okR_fr, okR_er, two_ok, stepF_nx, stepF_ct, stepF_bk, stepF_rt, stepF_ro, List.getElem?_cons_zero, List.getElem?_cons_succ, List.set_cons_zero, List.set_cons_succ, List.length_cons, List.length_nil, List.map_cons, List.map_nil, List.replicate_succ, List.replicate_zero, List.cons_append, List.nil_append, Nat.reduceAdd, Nat.reduceSub, Nat.reduceLeDiff, decide_eq_true_eq, addInt, subInt, ltInt, mulInt, modInt, divInt, powInt, shlInt, shrInt, eqInt, neInt, cmpInt, lenScr, lenLst, lenTup, idxScr, idxLst, idxTup, true_and, tgN, wipeR, g_chain, g_iseq, g_setIx, g_lix, g_m1F, Option.bind_some, g_callB, g_vz, slK_md, g_setD, g_dnew, g_din, g_dget, g_dput, g_pop, keyStr, keyInt, g_frm, isFrm5, idxFrm, okF_frm, g_fix, slN_mn, g_newN, g_inN, g_nget, g_nput, g_nget2, g_insert, g_tryKey, orE_some, orE_none, g_dpairs, g_ifV, g_repl, tgT, tgL, hm, slFrm2, in2, decide_true, decide_false, Bool.not_true, Bool.not_false, Bool.false_eq_true, if_false, if_true, Bool.true_and, Bool.and_true, Bool.false_and, Bool.and_false, Bool.true_or, Bool.false_or, Bool.or_true, Bool.or_false, eq_self, true_and, and_true, bne_self_eq_false, Bool.true_eq_false]
      by_cases hx : x = a ∨ x = b
      · have erd : rd B a b c d e true t r (x :: xs) = rd B a b c d e false t (r ++ [decide (x ≠ a)]) xs := by rw [rd_t, if_pos hx]
        rw [erd] at hQ hN
        have efx : fixD a b c d e (.int x) = some (.int (if decide (x ≠ a) = true then 1 else 0)) := by
          rcases hx with rfl | rfl
          · rw [fix_a]; simp
          · rw [fix_b (by omega)]
            have : ¬ x = a := by omega
            simp [this]
        simp only [hx, if_true, efx, okO_some, dots, addT, row_snoc]
        have z : (rowS r).length + (sgS (bitN (decide (x ≠ a)))).length ≤ sizeLine := by rw [rowS_len, sizeLine_eq]; show r.length + 1 ≤ _; omega
        refine ⟨by decide, z, ?_⟩
        have hp' : (at' + 1) % 2 = 0 ↔ false = true := by have := hp.mpr rfl; constructor <;> intro h; · omega
                                                          · cases h
        refine ih false t _ _ _ hp' (by omega) (by simp; omega) (fun t' r' v7 v8 h hz => hQ t' r' v7 v8 h (by simp; omega)) hN
      · simp only [hx, if_false, decide_true, decide_false, Bool.not_true, Bool.not_false, Bool.false_eq_true, if_false, if_true, Bool.true_and, Bool.and_true, Bool.false_and, Bool.and_false, Bool.true_or, Bool.false_or, Bool.or_true, Bool.or_false, eq_self, true_and, and_true, bne_self_eq_false, Bool.true_eq_false, hm1]
        refine ⟨by decide, by decide, by decide, ?_⟩
        refine hN ?_ _
        rw [rd_t, if_neg hx]
    | false =>
      have hm0 : ¬ (at' : Int) % 2 = 0 := by
        intro h
        have := hp.mp (mod2.1.mp h)
        cases this
      have hm : (at' : Int) % 2 = 1 := by omega
      have h10 : ¬ ((1 : Int) = 0) := by decide
      have hp1 : (at' + 1) % 2 = 0 ↔ true = true := ⟨fun _ => rfl, fun _ => by omega⟩
      simp only [g_bind, g_ok, g_ofO, g_var, g_peek, g_frz, g_C, g_op, g_opF, g_tOf, g_B, g_BF, g_nil, g_cons, ok_ite, g_tup, g_lst, g_fz, g_call, g_callF, g_callV, g_callF0, g_seq, g_next, g_set, g_setF, g_setV, g_drop, g_ret, g_retF, g_retV, g_retO, g_if, g_append, g_extend, g_to, g_par, g_aug, g_any, g_noP, g_part, g_sl, g_slF, g_isI, g_m1, g_tAnd, g_tOr, g_tNot, g_and, g_or, g_not, g_neg, g_eif, g_tru, g_for, g_comp, g_run, okO_some, slV_va, slP_va, slP_ml, slZ_va, slZ_ml, slM_ml, isB_b, isI_i, isS_s, isL_l, itO_l, itO_t, itO_s, isVl_z, isVl_f, nxF_nx, nxF_rt, nxF_ro, nxF_bk, nxF_ct, endF_nx, endF_rt, endF_ro, okR_ok, okR_fr, okR_er, two_ok, stepF_nx, stepF_ct, stepF_bk, stepF_rt, stepF_ro, List.getElem?_cons_zero, List.getElem?_cons_succ, List.set_cons_zero, List.set_cons_succ, List.length_cons, List.length_nil, List.map_cons, List.map_nil, List.replicate_succ, List.replicate_zero, List.cons_append, List.nil_append, Nat.reduceAdd, Nat.reduceSub, Nat.reduceLeDiff, decide_eq_true_eq, addInt, subInt, ltInt, mulInt, modInt, divInt, powInt, shlInt, shrInt, eqInt, neInt, cmpInt, lenScr, lenLst, lenTup, idxScr, idxLst, idxTup, true_and, tgN, wipeR, g_chain, g_iseq, g_setIx, g_lix, g_m1F, Option.bind_some, g_callB, g_vz, slK_md, g_setD, g_dnew, g_din, g_dget, g_dput, g_pop, keyStr, keyInt, g_frm, isFrm5, idxFrm, okF_frm, g_fix, slN_mn, g_newN, g_inN, g_nget, g_nput, g_nget2, g_insert, g_tryKey, orE_some, orE_none, g_dpairs, g_ifV, g_repl, tgT, tgL, hm, slFrm3, in2, decide_true, decide_false, Bool.not_true, Bool.not_false, Bool.false_eq_true, if_false, if_true, Bool.true_and, Bool.and_true, Bool.false_and, Bool.and_false, Bool.true_or, Bool.false_or, Bool.or_true, Bool.or_false, eq_self, true_and, and_true, bne_self_eq_false, Bool.true_eq_false, h10, rowsN_get]
      refine ⟨by decide, by decide, ?_⟩
      by_cases hx : x = d ∨ x = e
      · have hc : ¬ x = c := by omega
        have erd : rd B a b c d e false t r (x :: xs) = (match fnd B r with | some s => rd B a b c d e true (t ++ s :: (if x = e then [32] else [])) [] xs | none => none) := by rw [rd_f, if_neg hc, if_pos hx]
        rw [erd] at hQ hN
        cases hf : fnd B r with
        | none =>
          rw [hf] at hN
          simp only [hx, if_true, Option.map_none, Option.isSome_none, id, hf, neInt, hc, decide_true, decide_false, Bool.not_true, Bool.not_false, Bool.false_eq_true, if_false, if_true, Bool.true_and, Bool.and_true, Bool.false_and, Bool.and_false, Bool.true_or, Bool.false_or, Bool.or_true, Bool.or_false, eq_self, true_and, and_true, bne_self_eq_false, Bool.true_eq_false, e2, okO_some, isB_b, decide_eq_false hc]
          exact ⟨by decide, hN rfl _⟩
        | some s =>
          rw [hf] at hQ hN
          simp only [hx, if_true, Option.map_some, Option.isSome_some, id, hf, decide_true, decide_false, Bool.not_true, Bool.not_false, Bool.false_eq_true, if_false, if_true, Bool.true_and, Bool.and_true, Bool.false_and, Bool.and_false, Bool.true_or, Bool.false_or, Bool.or_true, Bool.or_false, eq_self, true_and, and_true, bne_self_eq_false, Bool.true_eq_false, okO_some, isB_b, e4, eqInt, intB, mulS_b, addS, addT]
          have eb : Str.ofString " " = wS [32] := by decide +kernel
          have ee : Str.empty = wS [] := rfl
          have et : sgS s ++ (if decide (x = e) = true then Str.ofString " " else Str.empty) = wS (s :: (if x = e then [32] else [])) := by
            by_cases h : x = e
            · simp only [h, decide_true, if_true, eb, sgS_w, wS_app]; rfl
            · simp only [h, decide_false, Bool.false_eq_true, if_false, ee, sgS_w, wS_app]; rfl
          have el : (if decide (x = e) = true then Str.ofString " " else Str.empty).length ≤ 1 := by
            by_cases h : x = e
            · simp only [h, decide_true, if_true, eb, wS_len]; simp
            · simp only [h, decide_false, Bool.false_eq_true, if_false, ee, wS_len]; simp
          have e1 : (sgS s).length = 1 := rfl
          have e3 : (s :: (if x = e then [32] else [])).length ≤ 2 := by split <;> simp
          rw [et, wS_len, wS_len, wS_app]
          refine ⟨by rw [e1, sizeLine_eq]; omega, by rw [sizeLine_eq]; omega, ?_⟩
          unfold t_text_of_a1
          simp only [g_bind, g_ok, g_ofO, g_var, g_peek, g_frz, g_C, g_op, g_opF, g_tOf, g_B, g_BF, g_nil, g_cons, ok_ite, g_tup, g_lst, g_fz, g_call, g_callF, g_callV, g_callF0, g_seq, g_next, g_set, g_setF, g_setV, g_drop, g_ret, g_retF, g_retV, g_retO, g_if, g_append, g_extend, g_to, g_par, g_aug, g_any, g_noP, g_part, g_sl, g_slF, g_isI, g_m1, g_tAnd, g_tOr, g_tNot, g_and, g_or, g_not, g_neg, g_eif, g_tru, g_for, g_comp, g_run, okO_some, slV_va, slP_va, slP_ml, slZ_va, slZ_ml, slM_ml, isB_b, isI_i, isS_s, isL_l, itO_l, itO_t, itO_s, isVl_z, isVl_f, nxF_nx, nxF_rt, nxF_ro, nxF_bk, nxF_ct, endF_nx, endF_rt, endF_ro, okR_ok, okR_fr, okR_er, two_ok, stepF_nx, stepF_ct, stepF_bk, stepF_rt, stepF_ro, List.getElem?_cons_zero, List.getElem?_cons_succ, List.set_cons_zero, List.set_cons_succ, List.length_cons, List.length_nil, List.map_cons, List.map_nil, List.replicate_succ, List.replicate_zero, List.cons_append, List.nil_append, Nat.reduceAdd, Nat.reduceSub, Nat.reduceLeDiff, decide_eq_true_eq, addInt, subInt, ltInt, mulInt, modInt, divInt, powInt, shlInt, shrInt, eqInt, neInt, cmpInt, lenScr, lenLst, lenTup, idxScr, idxLst, idxTup, true_and, tgN, wipeR, g_chain, g_iseq, g_setIx, g_lix, g_m1F, Option.bind_some, g_callB, g_vz, slK_md, g_setD, g_dnew, g_din, g_dget, g_dput, g_pop, keyStr, keyInt, g_frm, isFrm5, idxFrm, okF_frm, g_fix, slN_mn, g_newN, g_inN, g_nget, g_nput, g_nget2, g_insert, g_tryKey, orE_some, orE_none, g_dpairs, g_ifV, g_repl]
          have e0 : Str.ofString "" = rowS [] := by decide +kernel
          rw [e0]
          refine ih true _ _ _ _ hp1 (by rw [List.length_append]; omega) (by simp; omega) (fun t' r' v7 v8 h hz => hQ t' r' v7 v8 h (by rw [List.length_append] at hz; simp only [List.length_cons] at hz ⊢; split at hz <;> simp at hz <;> omega)) hN
      · simp only [hx, if_false, decide_true, decide_false, Bool.not_true, Bool.not_false, Bool.false_eq_true, if_false, if_true, Bool.true_and, Bool.and_true, Bool.false_and, Bool.and_false, Bool.true_or, Bool.false_or, Bool.or_true, Bool.or_false, eq_self, true_and, and_true, bne_self_eq_false, Bool.true_eq_false, e2, neInt, okO_some, isB_b]
        refine ⟨by decide, ?_⟩
        by_cases hc : x = c
        · have erd : rd B a b c d e false t r (x :: xs) = rd B a b c d e true t r xs := by rw [rd_f, if_pos hc]
          rw [erd] at hQ hN
          simp only [hc, decide_true, decide_true, decide_false, Bool.not_true, Bool.not_false, Bool.false_eq_true, if_false, if_true, Bool.true_and, Bool.and_true, Bool.false_and, Bool.and_false, Bool.true_or, Bool.false_or, Bool.or_true, Bool.or_false, eq_self, true_and, and_true, bne_self_eq_false, Bool.true_eq_false]
          have := ih true t r (.va (.int at')) (.va (.int x)) hp1 (by omega) (by omega) (fun t' r' v7 v8 h hz => hQ t' r' v7 v8 h (by simp only [List.length_cons]; omega)) hN
          rw [hc] at this
          exact this
        · simp only [hc, decide_false, decide_true, decide_false, Bool.not_true, Bool.not_false, Bool.false_eq_true, if_false, if_true, Bool.true_and, Bool.and_true, Bool.false_and, Bool.and_false, Bool.true_or, Bool.false_or, Bool.or_true, Bool.or_false, eq_self, true_and, and_true, bne_self_eq_false, Bool.true_eq_false]
          exact hN (by rw [rd_f, if_neg hc, if_neg hx]) _
theorem text_of_ok {B : Bk} (hB : BkOk B) {a b c d e : Int} (f : FmO a b c d e) {L : List Int} (hl : L.length ≤ 10000) : m_text_of [.list (B.map itD), fmD a b c d e, .list (L.map .int)] = .ok (txD (outT B a b c d e L)) := by
  refine okR_eq ?_
  have een : enAD [.list (L.map .int)] = some (enD 0 (L.map .int)) := rfl
  have e0 : Str.ofString "" = wS [] := by decide +kernel
  have e1 : Str.ofString "" = rowS [] := by decide +kernel
  have hm : ((L.length : Int) % 2 = 0) ↔ L.length % 2 = 0 := by omega
  unfold m_text_of b_text_of
  simp only [g_bind, g_ok, g_ofO, g_var, g_peek, g_frz, g_C, g_op, g_opF, g_tOf, g_B, g_BF, g_nil, g_cons, ok_ite, g_tup, g_lst, g_fz, g_call, g_callF, g_callV, g_callF0, g_seq, g_next, g_set, g_setF, g_setV, g_drop, g_ret, g_retF, g_retV, g_retO, g_if, g_append, g_extend, g_to, g_par, g_aug, g_any, g_noP, g_part, g_sl, g_slF, g_isI, g_m1, g_tAnd, g_tOr, g_tNot, g_and, g_or, g_not, g_neg, g_eif, g_tru, g_for, g_comp, g_run, okO_some, slV_va, slP_va, slP_ml, slZ_va, slZ_ml, slM_ml, isB_b, isI_i, isS_s, isL_l, itO_l, itO_t, itO_s, isVl_z, isVl_f, nxF_nx, nxF_rt, nxF_ro, nxF_bk, nxF_ct, endF_nx, endF_rt, endF_ro, okR_ok, okR_fr, okR_er, two_ok, stepF_nx, stepF_ct, stepF_bk, stepF_rt, stepF_ro, List.getElem?_cons_zero, List.getElem?_cons_succ, List.set_cons_zero, List.set_cons_succ, List.length_cons, List.length_nil, List.map_cons, List.map_nil, List.replicate_succ, List.replicate_zero, List.cons_append, List.nil_append, Nat.reduceAdd, Nat.reduceSub, Nat.reduceLeDiff, decide_eq_true_eq, addInt, subInt, ltInt, mulInt, modInt, divInt, powInt, shlInt, shrInt, eqInt, neInt, cmpInt, lenScr, lenLst, lenTup, idxScr, idxLst, idxTup, true_and, tgN, wipeR, g_chain, g_iseq, g_setIx, g_lix, g_m1F, Option.bind_some, g_callB, g_vz, slK_md, g_setD, g_dnew, g_din, g_dget, g_dput, g_pop, keyStr, keyInt, g_frm, isFrm5, idxFrm, okF_frm, g_fix, slN_mn, g_newN, g_inN, g_nget, g_nput, g_nget2, g_insert, g_tryKey, orE_some, orE_none, g_dpairs, g_ifV, g_repl]
  unfold t_text_of_b1
  simp only [g_bind, g_ok, g_ofO, g_var, g_peek, g_frz, g_C, g_op, g_opF, g_tOf, g_B, g_BF, g_nil, g_cons, ok_ite, g_tup, g_lst, g_fz, g_call, g_callF, g_callV, g_callF0, g_seq, g_next, g_set, g_setF, g_setV, g_drop, g_ret, g_retF, g_retV, g_retO, g_if, g_append, g_extend, g_to, g_par, g_aug, g_any, g_noP, g_part, g_sl, g_slF, g_isI, g_m1, g_tAnd, g_tOr, g_tNot, g_and, g_or, g_not, g_neg, g_eif, g_tru, g_for, g_comp, g_run, okO_some, slV_va, slP_va, slP_ml, slZ_va, slZ_ml, slM_ml, isB_b, isI_i, isS_s, isL_l, itO_l, itO_t, itO_s, isVl_z, isVl_f, nxF_nx, nxF_rt, nxF_ro, nxF_bk, nxF_ct, endF_nx, endF_rt, endF_ro, okR_ok, okR_fr, okR_er, two_ok, stepF_nx, stepF_ct, stepF_bk, stepF_rt, stepF_ro, List.getElem?_cons_zero, List.getElem?_cons_succ, List.set_cons_zero, List.set_cons_succ, List.length_cons, List.length_nil, List.map_cons, List.map_nil, List.replicate_succ, List.replicate_zero, List.cons_append, List.nil_append, Nat.reduceAdd, Nat.reduceSub, Nat.reduceLeDiff, decide_eq_true_eq, addInt, subInt, ltInt, mulInt, modInt, divInt, powInt, shlInt, shrInt, eqInt, neInt, cmpInt, lenScr, lenLst, lenTup, idxScr, idxLst, idxTup, true_and, tgN, wipeR, g_chain, g_iseq, g_setIx, g_lix, g_m1F, Option.bind_some, g_callB, g_vz, slK_md, g_setD, g_dnew, g_din, g_dget, g_dput, g_pop, keyStr, keyInt, g_frm, isFrm5, idxFrm, okF_frm, g_fix, slN_mn, g_newN, g_inN, g_nget, g_nput, g_nget2, g_insert, g_tryKey, orE_some, orE_none, g_dpairs, g_ifV, g_repl]
  have s0 : ([] : List (Key × Dt)) = rowsN [] := rfl
  rw [s0]
  refine rows_loop B [] (by simpa using hB.nd2) (by simpa using hB.len) (fun v4 v5 => ?_) _ _
  rw [List.nil_append]
  unfold t_text_of_b2
  simp only [g_bind, g_ok, g_ofO, g_var, g_peek, g_frz, g_C, g_op, g_opF, g_tOf, g_B, g_BF, g_nil, g_cons, ok_ite, g_tup, g_lst, g_fz, g_call, g_callF, g_callV, g_callF0, g_seq, g_next, g_set, g_setF, g_setV, g_drop, g_ret, g_retF, g_retV, g_retO, g_if, g_append, g_extend, g_to, g_par, g_aug, g_any, g_noP, g_part, g_sl, g_slF, g_isI, g_m1, g_tAnd, g_tOr, g_tNot, g_and, g_or, g_not, g_neg, g_eif, g_tru, g_for, g_comp, g_run, okO_some, slV_va, slP_va, slP_ml, slZ_va, slZ_ml, slM_ml, isB_b, isI_i, isS_s, isL_l, itO_l, itO_t, itO_s, isVl_z, isVl_f, nxF_nx, nxF_rt, nxF_ro, nxF_bk, nxF_ct, endF_nx, endF_rt, endF_ro, okR_ok, okR_fr, okR_er, two_ok, stepF_nx, stepF_ct, stepF_bk, stepF_rt, stepF_ro, List.getElem?_cons_zero, List.getElem?_cons_succ, List.set_cons_zero, List.set_cons_succ, List.length_cons, List.length_nil, List.map_cons, List.map_nil, List.replicate_succ, List.replicate_zero, List.cons_append, List.nil_append, Nat.reduceAdd, Nat.reduceSub, Nat.reduceLeDiff, decide_eq_true_eq, addInt, subInt, ltInt, mulInt, modInt, divInt, powInt, shlInt, shrInt, eqInt, neInt, cmpInt, lenScr, lenLst, lenTup, idxScr, idxLst, idxTup, true_and, tgN, wipeR, g_chain, g_iseq, g_setIx, g_lix, g_m1F, Option.bind_some, g_callB, g_vz, slK_md, g_setD, g_dnew, g_din, g_dget, g_dput, g_pop, keyStr, keyInt, g_frm, isFrm5, idxFrm, okF_frm, g_fix, slN_mn, g_newN, g_inN, g_nget, g_nput, g_nget2, g_insert, g_tryKey, orE_some, orE_none, g_dpairs, g_ifV, g_repl, List.length_map, hm]
  refine ⟨by decide, ?_⟩
  unfold outT
  by_cases h2 : L.length % 2 = 0
  · rw [if_pos h2, if_pos h2]
    rfl
  · rw [if_neg h2, if_neg h2]
    unfold t_text_of_b3
    simp only [g_bind, g_ok, g_ofO, g_var, g_peek, g_frz, g_C, g_op, g_opF, g_tOf, g_B, g_BF, g_nil, g_cons, ok_ite, g_tup, g_lst, g_fz, g_call, g_callF, g_callV, g_callF0, g_seq, g_next, g_set, g_setF, g_setV, g_drop, g_ret, g_retF, g_retV, g_retO, g_if, g_append, g_extend, g_to, g_par, g_aug, g_any, g_noP, g_part, g_sl, g_slF, g_isI, g_m1, g_tAnd, g_tOr, g_tNot, g_and, g_or, g_not, g_neg, g_eif, g_tru, g_for, g_comp, g_run, okO_some, slV_va, slP_va, slP_ml, slZ_va, slZ_ml, slM_ml, isB_b, isI_i, isS_s, isL_l, itO_l, itO_t, itO_s, isVl_z, isVl_f, nxF_nx, nxF_rt, nxF_ro, nxF_bk, nxF_ct, endF_nx, endF_rt, endF_ro, okR_ok, okR_fr, okR_er, two_ok, stepF_nx, stepF_ct, stepF_bk, stepF_rt, stepF_ro, List.getElem?_cons_zero, List.getElem?_cons_succ, List.set_cons_zero, List.set_cons_succ, List.length_cons, List.length_nil, List.map_cons, List.map_nil, List.replicate_succ, List.replicate_zero, List.cons_append, List.nil_append, Nat.reduceAdd, Nat.reduceSub, Nat.reduceLeDiff, decide_eq_true_eq, addInt, subInt, ltInt, mulInt, modInt, divInt, powInt, shlInt, shrInt, eqInt, neInt, cmpInt, lenScr, lenLst, lenTup, idxScr, idxLst, idxTup, true_and, tgN, wipeR, g_chain, g_iseq, g_setIx, g_lix, g_m1F, Option.bind_some, g_callB, g_vz, slK_md, g_setD, g_dnew, g_din, g_dget, g_dput, g_pop, keyStr, keyInt, g_frm, isFrm5, idxFrm, okF_frm, g_fix, slN_mn, g_newN, g_inN, g_nget, g_nput, g_nget2, g_insert, g_tryKey, orE_some, orE_none, g_dpairs, g_ifV, g_repl]
    unfold t_text_of_b4
    simp only [g_bind, g_ok, g_ofO, g_var, g_peek, g_frz, g_C, g_op, g_opF, g_tOf, g_B, g_BF, g_nil, g_cons, ok_ite, g_tup, g_lst, g_fz, g_call, g_callF, g_callV, g_callF0, g_seq, g_next, g_set, g_setF, g_setV, g_drop, g_ret, g_retF, g_retV, g_retO, g_if, g_append, g_extend, g_to, g_par, g_aug, g_any, g_noP, g_part, g_sl, g_slF, g_isI, g_m1, g_tAnd, g_tOr, g_tNot, g_and, g_or, g_not, g_neg, g_eif, g_tru, g_for, g_comp, g_run, okO_some, slV_va, slP_va, slP_ml, slZ_va, slZ_ml, slM_ml, isB_b, isI_i, isS_s, isL_l, itO_l, itO_t, itO_s, isVl_z, isVl_f, nxF_nx, nxF_rt, nxF_ro, nxF_bk, nxF_ct, endF_nx, endF_rt, endF_ro, okR_ok, okR_fr, okR_er, two_ok, stepF_nx, stepF_ct, stepF_bk, stepF_rt, stepF_ro, List.getElem?_cons_zero, List.getElem?_cons_succ, List.set_cons_zero, List.set_cons_succ, List.length_cons, List.length_nil, List.map_cons, List.map_nil, List.replicate_succ, List.replicate_zero, List.cons_append, List.nil_append, Nat.reduceAdd, Nat.reduceSub, Nat.reduceLeDiff, decide_eq_true_eq, addInt, subInt, ltInt, mulInt, modInt, divInt, powInt, shlInt, shrInt, eqInt, neInt, cmpInt, lenScr, lenLst, lenTup, idxScr, idxLst, idxTup, true_and, tgN, wipeR, g_chain, g_iseq, g_setIx, g_lix, g_m1F, Option.bind_some, g_callB, g_vz, slK_md, g_setD, g_dnew, g_din, g_dget, g_dput, g_pop, keyStr, keyInt, g_frm, isFrm5, idxFrm, okF_frm, g_fix, slN_mn, g_newN, g_inN, g_nget, g_nput, g_nget2, g_insert, g_tryKey, orE_some, orE_none, g_dpairs, g_ifV, g_repl]
    unfold t_text_of_b5
    simp only [g_bind, g_ok, g_ofO, g_var, g_peek, g_frz, g_C, g_op, g_opF, g_tOf, g_B, g_BF, g_nil, g_cons, ok_ite, g_tup, g_lst, g_fz, g_call, g_callF, g_callV, g_callF0, g_seq, g_next, g_set, g_setF, g_setV, g_drop, g_ret, g_retF, g_retV, g_retO, g_if, g_append, g_extend, g_to, g_par, g_aug, g_any, g_noP, g_part, g_sl, g_slF, g_isI, g_m1, g_tAnd, g_tOr, g_tNot, g_and, g_or, g_not, g_neg, g_eif, g_tru, g_for, g_comp, g_run, okO_some, slV_va, slP_va, slP_ml, slZ_va, slZ_ml, slM_ml, isB_b, isI_i, isS_s, isL_l, itO_l, itO_t, itO_s, isVl_z, isVl_f, nxF_nx, nxF_rt, nxF_ro, nxF_bk, nxF_ct, endF_nx, endF_rt, endF_ro, okR_ok, okR_fr, okR_er, two_ok, stepF_nx, stepF_ct, stepF_bk, stepF_rt, stepF_ro, List.getElem?_cons_zero, List.getElem?_cons_succ, List.set_cons_zero, List.set_cons_succ, List.length_cons, List.length_nil, List.map_cons, List.map_nil, List.replicate_succ, List.replicate_zero, List.cons_append, List.nil_append, Nat.reduceAdd, Nat.reduceSub, Nat.reduceLeDiff, decide_eq_true_eq, addInt, subInt, ltInt, mulInt, modInt, divInt, powInt, shlInt, shrInt, eqInt, neInt, cmpInt, lenScr, lenLst, lenTup, idxScr, idxLst, idxTup, true_and, tgN, wipeR, g_chain, g_iseq, g_setIx, g_lix, g_m1F, Option.bind_some, g_callB, g_vz, slK_md, g_setD, g_dnew, g_din, g_dget, g_dput, g_pop, keyStr, keyInt, g_frm, isFrm5, idxFrm, okF_frm, g_fix, slN_mn, g_newN, g_inN, g_nget, g_nput, g_nget2, g_insert, g_tryKey, orE_some, orE_none, g_dpairs, g_ifV, g_repl, een]
    have key := text_loop2 (B := B) f (v0 := .va (.list (B.map itD))) (v2 := .va (.list (L.map .int))) (v4 := v4) (Q := fun fl ρ' => nxF fl (Ok t_text_of_b6 ρ' (fun fl x => endF fl (fun z => z = txD ((rd B a b c d e true [] [] L).bind fun q => (fnd B q.2).map fun s => q.1 ++ [s])) fun x => False) fun x x_1 => noX x) (endF fl (fun z => z = txD ((rd B a b c d e true [] [] L).bind fun q => (fnd B q.2).map fun s => q.1 ++ [s])) fun x => False)) L true 0 [] [] .un .un (by simp) (by simp; omega) (by simp; omega) (fun t' r' v7 v8 h hz => ?_) (fun h ρ => ?_)
    · rw [← e0, ← e1] at key
      exact key
    · rw [nxF_nx, h, Option.bind_some]
      unfold t_text_of_b6
      simp only [g_bind, g_ok, g_ofO, g_var, g_peek, g_frz, g_C, g_op, g_opF, g_tOf, g_B, g_BF, g_nil, g_cons, ok_ite, g_tup, g_lst, g_fz, g_call, g_callF, g_callV, g_callF0, g_seq, g_next, g_set, g_setF, g_setV, g_drop, g_ret, g_retF, g_retV, g_retO, g_if, g_append, g_extend, g_to, g_par, g_aug, g_any, g_noP, g_part, g_sl, g_slF, g_isI, g_m1, g_tAnd, g_tOr, g_tNot, g_and, g_or, g_not, g_neg, g_eif, g_tru, g_for, g_comp, g_run, okO_some, slV_va, slP_va, slP_ml, slZ_va, slZ_ml, slM_ml, isB_b, isI_i, isS_s, isL_l, itO_l, itO_t, itO_s, isVl_z, isVl_f, nxF_nx, nxF_rt, nxF_ro, nxF_bk, nxF_ct, endF_nx, endF_rt, endF_ro, okR_ok, okR_fr, okR_er, two_ok, stepF_nx, stepF_ct, stepF_bk, stepF_rt, stepF_ro, List.getElem?_cons_zero, List.getElem?_cons_succ, List.set_cons_zero, List.set_cons_succ, List.length_cons, List.length_nil, List.map_cons, List.map_nil, List.replicate_succ, List.replicate_zero, List.cons_append, List.nil_append, Nat.reduceAdd, Nat.reduceSub, Nat.reduceLeDiff, decide_eq_true_eq, addInt, subInt, ltInt, mulInt, modInt, divInt, powInt, shlInt, shrInt, eqInt, neInt, cmpInt, lenScr, lenLst, lenTup, idxScr, idxLst, idxTup, true_and, tgN, wipeR, g_chain, g_iseq, g_setIx, g_lix, g_m1F, Option.bind_some, g_callB, g_vz, slK_md, g_setD, g_dnew, g_din, g_dget, g_dput, g_pop, keyStr, keyInt, g_frm, isFrm5, idxFrm, okF_frm, g_fix, slN_mn, g_newN, g_inN, g_nget, g_nput, g_nget2, g_insert, g_tryKey, orE_some, orE_none, g_dpairs, g_ifV, g_repl, rowsN_get]
      cases hf : fnd B r' with
      | none => simp only [Option.map_none, Option.isSome_none, decide_true, decide_false, Bool.not_true, Bool.not_false, Bool.false_eq_true, if_false, if_true, Bool.true_and, Bool.and_true, Bool.false_and, Bool.and_false, Bool.true_or, Bool.false_or, Bool.or_true, Bool.or_false, eq_self, true_and, and_true, bne_self_eq_false, Bool.true_eq_false]; rfl
      | some s =>
        simp only [Option.map_some, Option.isSome_some, decide_true, decide_false, Bool.not_true, Bool.not_false, Bool.false_eq_true, if_false, if_true, Bool.true_and, Bool.and_true, Bool.false_and, Bool.and_false, Bool.true_or, Bool.false_or, Bool.or_true, Bool.or_false, eq_self, true_and, and_true, bne_self_eq_false, Bool.true_eq_false]
        unfold t_text_of_b7
        simp only [g_bind, g_ok, g_ofO, g_var, g_peek, g_frz, g_C, g_op, g_opF, g_tOf, g_B, g_BF, g_nil, g_cons, ok_ite, g_tup, g_lst, g_fz, g_call, g_callF, g_callV, g_callF0, g_seq, g_next, g_set, g_setF, g_setV, g_drop, g_ret, g_retF, g_retV, g_retO, g_if, g_append, g_extend, g_to, g_par, g_aug, g_any, g_noP, g_part, g_sl, g_slF, g_isI, g_m1, g_tAnd, g_tOr, g_tNot, g_and, g_or, g_not, g_neg, g_eif, g_tru, g_for, g_comp, g_run, okO_some, slV_va, slP_va, slP_ml, slZ_va, slZ_ml, slM_ml, isB_b, isI_i, isS_s, isL_l, itO_l, itO_t, itO_s, isVl_z, isVl_f, nxF_nx, nxF_rt, nxF_ro, nxF_bk, nxF_ct, endF_nx, endF_rt, endF_ro, okR_ok, okR_fr, okR_er, two_ok, stepF_nx, stepF_ct, stepF_bk, stepF_rt, stepF_ro, List.getElem?_cons_zero, List.getElem?_cons_succ, List.set_cons_zero, List.set_cons_succ, List.length_cons, List.length_nil, List.map_cons, List.map_nil, List.replicate_succ, List.replicate_zero, List.cons_append, List.nil_append, Nat.reduceAdd, Nat.reduceSub, Nat.reduceLeDiff, decide_eq_true_eq, addInt, subInt, ltInt, mulInt, modInt, divInt, powInt, shlInt, shrInt, eqInt, neInt, cmpInt, lenScr, lenLst, lenTup, idxScr, idxLst, idxTup, true_and, tgN, wipeR, g_chain, g_iseq, g_setIx, g_lix, g_m1F, Option.bind_some, g_callB, g_vz, slK_md, g_setD, g_dnew, g_din, g_dget, g_dput, g_pop, keyStr, keyInt, g_frm, isFrm5, idxFrm, okF_frm, g_fix, slN_mn, g_newN, g_inN, g_nget, g_nput, g_nget2, g_insert, g_tryKey, orE_some, orE_none, g_dpairs, g_ifV, g_repl, rowsN_get, hf, Option.map_some, addS, sgS_w, wS_len, wS_app]
        refine ⟨by rw [sizeLine_eq]; simp at hz ⊢; omega, rfl⟩
    · rw [nxF_rt, h, endF_rt]
      rfl
end LawK03

set_option linter.all false
set_option maxRecDepth 100000
namespace LawK03
open PySem PySem.Spec L2 DL
open PyProof.Rows hiding St
/-! as the law reads -/
theorem nin2 (x a b : Int) : ninD (.int x) (.tuple [.int a, .int b]) = some (.bool (!decide (x = a ∨ x = b))) := by
  have h := in2 x a b
  have ok : okD (.int x) = true ∧ okD (.tuple [.int a, .int b]) = true := ⟨rfl, rfl⟩
  simp only [inD, if_pos ok] at h
  simp only [ninD, if_pos ok]
  rw [Option.some.injEq, PyData.bool.injEq] at h ⊢
  rw [h]
theorem nin3 (x a b c : Int) : ninD (.int x) (.tuple [.int a, .int b, .int c]) = some (.bool (!decide (x = a ∨ x = b ∨ x = c))) := by
  have ok : okD (.int x) = true ∧ okD (.tuple [.int a, .int b, .int c]) = true := ⟨rfl, rfl⟩
  simp only [ninD, if_pos ok, List.any_cons, List.any_nil, PyData.eqv]
  by_cases h1 : x = a
  · subst h1; simp
  · by_cases h2 : x = b
    · subst h2; simp
    · by_cases h5 : x = c
      · subst h5; simp
      · have h3 : ¬ a = x := fun h => h1 h.symm
        have h4 : ¬ b = x := fun h => h2 h.symm
        have h6 : ¬ c = x := fun h => h5 h.symm
        simp [h1, h2, h3, h4, h5, h6]
theorem pick2 (y z : Str) (x : Bool) : atI [PyData.str y, .str z] (if x = true then 1 else 0) = some (.str (if x = true then z else y)) := by cases x <;> rfl
theorem pickP (y z : Str) (p : Prop) [Decidable p] : atI [PyData.str y, .str z] (if p then 1 else 0) = some (.str (if p then z else y)) := by by_cases h : p <;> simp only [h, if_true, if_false] <;> rfl
theorem pick1 (y z : Str) : atI [PyData.str y, .str z] 1 = some (.str z) := rfl
def endR (B : Bk) (n : Nat) (o : Option (List Nat × List Bool)) : Option (List Nat) := if n % 2 = 0 then none else o.bind fun q => (fnd B q.2).map fun s => q.1 ++ [s]
theorem endR_none {B : Bk} {n : Nat} : endR B n none = none := by unfold endR; split <;> rfl
theorem read_loop2 {B : Bk} {a b c d e : Int} (f : FmO a b c d e) {L : List Int} {v0 v4 : Sl} {Q : Fl → Rho → Prop} : ∀ (xs : List Int) (p : Bool) (at' : Nat) (t : List Nat) (r : List Bool) (v7 v8 : Sl), (at' % 2 = 0 ↔ p = true) → at' + xs.length = L.length → t.length + 2 * xs.length ≤ 100000 → r.length + xs.length ≤ 100000 →
    (∀ T v5 v7 v8, endR B L.length (rd B a b c d e p t r xs) = some T → Q .nx [v0, .va (fmD a b c d e), .va (.list (L.map .int)), .md (rowsN B), v4, v5, .va (.str (wS T)), v7, v8]) →
    (endR B L.length (rd B a b c d e p t r xs) = none → ∀ ρ, Q (.rt .none) ρ) →
    Ok (sLoop (tgT [7, 8]) l__law_read_2 (enD at' ((xs ++ [e]).map .int))) [v0, .va (fmD a b c d e), .va (.list (L.map .int)), .md (rowsN B), v4, .va (.str (rowS r)), .va (.str (wS t)), v7, v8] Q fun x _ => noX x
  | [], p, at', t, r, v7, v8, hp, hn, hl, hr, hQ, hN => by
    have hcd := f.cd
    have hde := f.de
    have hn : at' = L.length := by simpa using hn
    show Ok (sLoop (tgT [7, 8]) l__law_read_2 [.tuple [.int (at' : Nat), .int e]]) _ _ _
    rw [loop_cons]
    have en : ∀ ρ, Ok (sLoop (tgT [7, 8]) l__law_read_2 []) ρ Q (fun x _ => noX x) ↔ Q .nx ρ := fun ρ => loop_nil
    generalize sLoop (tgT [7, 8]) l__law_read_2 [] = W at en
    have e2 : atI [PyData.int a, .int b, .int c, .int d, .int e] 2 = some (.int c) := rfl
    have e3 : atI [PyData.int a, .int b, .int c, .int d, .int e] 3 = some (.int d) := rfl
    have hlt : ¬ (at' : Int) < L.length := by omega
    have heq : (at' : Int) = L.length := by omega
    have hec : ¬ e = c := by omega
    rw [rd_nil] at hQ hN
    unfold l__law_read_2
    cases p with
    | true =>
      have h2 : L.length % 2 = 0 := hn ▸ hp.mpr rfl
      have hm : (at' : Int) % 2 = 0 := by omega
      simp only [g_bind, g_ok, g_ofO, g_var, g_peek, g_frz, g_C, g_op, g_opF, g_tOf, g_B, g_BF, g_nil, g_cons, ok_ite, g_tup, g_lst, g_fz, g_call, g_callF, g_callV, g_callF0, g_seq, g_next, g_set, g_setF, g_setV, g_drop, g_ret, g_retF, g_retV, g_retO, g_if, g_append, g_extend, g_to, g_par, g_aug, g_any, g_noP, g_part, g_sl, g_slF, g_isI, g_m1, g_tAnd, g_tOr, g_tNot, g_and, g_or, g_not, g_neg, g_eif, g_tru, g_for, g_comp, g_run, okO_some, slV_va, slP_va, slP_ml, slZ_va, slZ_ml, slM_ml, isB_b, isI_i, isS_s, isL_l, itO_l, itO_t, itO_s, isVl_z, isVl_f, nxF_nx, nxF_rt, nxF_ro, nxF_bk, nxF_ct, endF_nx, endF_rt, endF_ro, okR_ok, okR_fr, okR_er, two_ok, stepF_nx, stepF_ct, stepF_bk, stepF_rt, stepF_ro, List.getElem?_cons_zero, List.getElem?_cons_succ, List.set_cons_zero, List.set_cons_succ, List.length_cons, List.length_nil, List.map_cons, List.map_nil, List.replicate_succ, List.replicate_zero, List.cons_append, List.nil_append, Nat.reduceAdd, Nat.reduceSub, Nat.reduceLeDiff, decide_eq_true_eq, addInt, subInt, ltInt, mulInt, modInt, divInt, powInt, shlInt, shrInt, eqInt, neInt, cmpInt, lenScr, lenLst, lenTup, idxScr, idxLst, idxTup, true_and, tgN, wipeR, g_chain, g_iseq, g_setIx, g_lix, g_m1F, Option.bind_some, g_callB, g_vz, slK_md, g_setD, g_dnew, g_din, g_dget, g_dput, g_pop, keyStr, keyInt, g_frm, isFrm5, idxFrm, okF_frm, g_fix, slN_mn, g_newN, g_inN, g_nget, g_nput, g_nget2, g_insert, g_tryKey, orE_some, orE_none, g_dpairs, g_ifV, g_repl, tgT, tgL, hm, decide_true, decide_false, Bool.not_true, Bool.not_false, Bool.false_eq_true, if_false, if_true, Bool.true_and, Bool.and_true, Bool.false_and, Bool.and_false, Bool.true_or, Bool.false_or, Bool.or_true, Bool.or_false, eq_self, true_and, and_true, bne_self_eq_false, Bool.true_eq_false, List.length_map, hlt]
      refine ⟨by decide, by decide, ?_⟩
      exact hN (by unfold endR; rw [if_pos h2]) _
    | false =>
      have h2 : ¬ L.length % 2 = 0 := fun h => by have := hp.mp (hn ▸ h); cases this
      have hm : (at' : Int) % 2 = 1 := by omega
      have h10 : ¬ ((1 : Int) = 0) := by decide
      have hin : (e = c ∨ e = d ∨ e = e) := by simp
      simp only [g_bind, g_ok, g_ofO, g_var, g_peek, g_frz, g_C, g_op, g_opF, g_tOf, g_B, g_BF, g_nil, g_cons, ok_ite, g_tup, g_lst, g_fz, g_call, g_callF, g_callV, g_callF0, g_seq, g_next, g_set, g_setF, g_setV, g_drop, g_ret, g_retF, g_retV, g_retO, g_if, g_append, g_extend, g_to, g_par, g_aug, g_any, g_noP, g_part, g_sl, g_slF, g_isI, g_m1, g_tAnd, g_tOr, g_tNot, g_and, g_or, g_not, g_neg, g_eif, g_tru, g_for, g_comp, g_run, okO_some, slV_va, slP_va, slP_ml, slZ_va, slZ_ml, slM_ml, isB_b, isI_i, isS_s, isL_l, itO_l, itO_t, itO_s, isVl_z, isVl_f, nxF_nx, nxF_rt, nxF_ro, nxF_bk, nxF_ct, endF_nx, endF_rt, endF_ro, okR_ok, okR_fr, okR_er, two_ok, stepF_nx, stepF_ct, stepF_bk, stepF_rt, stepF_ro, List.getElem?_cons_zero, List.getElem?_cons_succ, List.set_cons_zero, List.set_cons_succ, List.length_cons, List.length_nil, List.map_cons, List.map_nil, List.replicate_succ, List.replicate_zero, List.cons_append, List.nil_append, Nat.reduceAdd, Nat.reduceSub, Nat.reduceLeDiff, decide_eq_true_eq, addInt, subInt, ltInt, mulInt, modInt, divInt, powInt, shlInt, shrInt, eqInt, neInt, cmpInt, lenScr, lenLst, lenTup, idxScr, idxLst, idxTup, true_and, tgN, wipeR, g_chain, g_iseq, g_setIx, g_lix, g_m1F, Option.bind_some, g_callB, g_vz, slK_md, g_setD, g_dnew, g_din, g_dget, g_dput, g_pop, keyStr, keyInt, g_frm, isFrm5, idxFrm, okF_frm, g_fix, slN_mn, g_newN, g_inN, g_nget, g_nput, g_nget2, g_insert, g_tryKey, orE_some, orE_none, g_dpairs, g_ifV, g_repl, tgT, tgL, hm, decide_true, decide_false, Bool.not_true, Bool.not_false, Bool.false_eq_true, if_false, if_true, Bool.true_and, Bool.and_true, Bool.false_and, Bool.and_false, Bool.true_or, Bool.false_or, Bool.or_true, Bool.or_false, eq_self, true_and, and_true, bne_self_eq_false, Bool.true_eq_false, h10, slFrm4, nin3, hin, or_true, neInt, e2, hec, rowsN_get]
      refine ⟨by decide, by decide, ?_⟩
      unfold endR at hQ hN
      rw [if_neg h2, Option.bind_some] at hQ hN
      cases hf : fnd B r with
      | none =>
        rw [hf] at hN
        simp only [Option.map_none, Option.isSome_none, decide_true, decide_false, Bool.not_true, Bool.not_false, Bool.false_eq_true, if_false, if_true, Bool.true_and, Bool.and_true, Bool.false_and, Bool.and_false, Bool.true_or, Bool.false_or, Bool.or_true, Bool.or_false, eq_self, true_and, and_true, bne_self_eq_false, Bool.true_eq_false]
        exact hN rfl _
      | some s =>
        rw [hf] at hQ
        simp only [Option.map_some, Option.isSome_some, decide_true, decide_false, Bool.not_true, Bool.not_false, Bool.false_eq_true, if_false, if_true, Bool.true_and, Bool.and_true, Bool.false_and, Bool.and_false, Bool.true_or, Bool.false_or, Bool.or_true, Bool.or_false, eq_self, true_and, and_true, bne_self_eq_false, Bool.true_eq_false]
        unfold t__law_read_b1
        have ed : ¬ e = d := by omega
        simp only [g_bind, g_ok, g_ofO, g_var, g_peek, g_frz, g_C, g_op, g_opF, g_tOf, g_B, g_BF, g_nil, g_cons, ok_ite, g_tup, g_lst, g_fz, g_call, g_callF, g_callV, g_callF0, g_seq, g_next, g_set, g_setF, g_setV, g_drop, g_ret, g_retF, g_retV, g_retO, g_if, g_append, g_extend, g_to, g_par, g_aug, g_any, g_noP, g_part, g_sl, g_slF, g_isI, g_m1, g_tAnd, g_tOr, g_tNot, g_and, g_or, g_not, g_neg, g_eif, g_tru, g_for, g_comp, g_run, okO_some, slV_va, slP_va, slP_ml, slZ_va, slZ_ml, slM_ml, isB_b, isI_i, isS_s, isL_l, itO_l, itO_t, itO_s, isVl_z, isVl_f, nxF_nx, nxF_rt, nxF_ro, nxF_bk, nxF_ct, endF_nx, endF_rt, endF_ro, okR_ok, okR_fr, okR_er, two_ok, stepF_nx, stepF_ct, stepF_bk, stepF_rt, stepF_ro, List.getElem?_cons_zero, List.getElem?_cons_succ, List.set_cons_zero, List.set_cons_succ, List.length_cons, List.length_nil, List.map_cons, List.map_nil, List.replicate_succ, List.replicate_zero, List.cons_append, List.nil_append, Nat.reduceAdd, Nat.reduceSub, Nat.reduceLeDiff, decide_eq_true_eq, addInt, subInt, ltInt, mulInt, modInt, divInt, powInt, shlInt, shrInt, eqInt, neInt, cmpInt, lenScr, lenLst, lenTup, idxScr, idxLst, idxTup, true_and, tgN, wipeR, g_chain, g_iseq, g_setIx, g_lix, g_m1F, Option.bind_some, g_callB, g_vz, slK_md, g_setD, g_dnew, g_din, g_dget, g_dput, g_pop, keyStr, keyInt, g_frm, isFrm5, idxFrm, okF_frm, g_fix, slN_mn, g_newN, g_inN, g_nget, g_nput, g_nget2, g_insert, g_tryKey, orE_some, orE_none, g_dpairs, g_ifV, g_repl, rowsN_get, hf, Option.map_some, addS, e3, eqInt, ed, decide_true, decide_false, Bool.not_true, Bool.not_false, Bool.false_eq_true, if_false, if_true, Bool.true_and, Bool.and_true, Bool.false_and, Bool.and_false, Bool.true_or, Bool.false_or, Bool.or_true, Bool.or_false, eq_self, true_and, and_true, bne_self_eq_false, Bool.true_eq_false, List.length_map, heq, intB, pick2, if_true, sgS_w, wS_app, wS_len]
        have e0 : Str.ofString "" = wS [] := by decide +kernel
        have ea := hQ (t ++ [s]) (.va (.str (Str.ofString ""))) (.va (.int at')) (.va (.int e)) rfl
        simp only [pick1, okO_some, e0, addS, wS_len, wS_app]
        refine ⟨by rw [sizeLine_eq]; simp at hl; omega, by rw [sizeLine_eq]; simp at hl ⊢; omega, ?_⟩
        unfold t__law_read_b2
        simp only [g_bind, g_ok, g_ofO, g_var, g_peek, g_frz, g_C, g_op, g_opF, g_tOf, g_B, g_BF, g_nil, g_cons, ok_ite, g_tup, g_lst, g_fz, g_call, g_callF, g_callV, g_callF0, g_seq, g_next, g_set, g_setF, g_setV, g_drop, g_ret, g_retF, g_retV, g_retO, g_if, g_append, g_extend, g_to, g_par, g_aug, g_any, g_noP, g_part, g_sl, g_slF, g_isI, g_m1, g_tAnd, g_tOr, g_tNot, g_and, g_or, g_not, g_neg, g_eif, g_tru, g_for, g_comp, g_run, okO_some, slV_va, slP_va, slP_ml, slZ_va, slZ_ml, slM_ml, isB_b, isI_i, isS_s, isL_l, itO_l, itO_t, itO_s, isVl_z, isVl_f, nxF_nx, nxF_rt, nxF_ro, nxF_bk, nxF_ct, endF_nx, endF_rt, endF_ro, okR_ok, okR_fr, okR_er, two_ok, stepF_nx, stepF_ct, stepF_bk, stepF_rt, stepF_ro, List.getElem?_cons_zero, List.getElem?_cons_succ, List.set_cons_zero, List.set_cons_succ, List.length_cons, List.length_nil, List.map_cons, List.map_nil, List.replicate_succ, List.replicate_zero, List.cons_append, List.nil_append, Nat.reduceAdd, Nat.reduceSub, Nat.reduceLeDiff, decide_eq_true_eq, addInt, subInt, ltInt, mulInt, modInt, divInt, powInt, shlInt, shrInt, eqInt, neInt, cmpInt, lenScr, lenLst, lenTup, idxScr, idxLst, idxTup, true_and, tgN, wipeR, g_chain, g_iseq, g_setIx, g_lix, g_m1F, Option.bind_some, g_callB, g_vz, slK_md, g_setD, g_dnew, g_din, g_dget, g_dput, g_pop, keyStr, keyInt, g_frm, isFrm5, idxFrm, okF_frm, g_fix, slN_mn, g_newN, g_inN, g_nget, g_nput, g_nget2, g_insert, g_tryKey, orE_some, orE_none, g_dpairs, g_ifV, g_repl, List.append_nil]
        rw [en]
        have := hQ (t ++ [s]) (.va (.str (Str.ofString ""))) (.va (.int L.length)) (.va (.int e)) rfl
        exact this
  | x :: xs, p, at', t, r, v7, v8, hp, hn, hl, hr, hQ, hN => by
    rw [List.cons_append, List.map_cons, enD, loop_cons]
    have ih := fun p t r v7 v8 => read_loop2 (B := B) f (L := L) (v0 := v0) (v4 := v4) (Q := Q) xs p (at' + 1) t r v7 v8
    generalize sLoop (tgT [7, 8]) l__law_read_2 (enD (at' + 1) ((xs ++ [e]).map .int)) = W at ih ⊢
    simp only [List.length_cons] at hn hl hr
    have hab := f.ab
    have hcd := f.cd
    have hde := f.de
    have e1 : atI [PyData.int a, .int b, .int c, .int d, .int e] 1 = some (.int b) := rfl
    have e2 : atI [PyData.int a, .int b, .int c, .int d, .int e] 2 = some (.int c) := rfl
    have e3 : atI [PyData.int a, .int b, .int c, .int d, .int e] 3 = some (.int d) := rfl
    have hlt : (at' : Int) < L.length := by omega
    have hne : ¬ (at' : Int) = L.length := by omega
    unfold l__law_read_2
    cases p with
    | true =>
      have hm : (at' : Int) % 2 = 0 := mod2.1.mpr (hp.mpr rfl)
      have hp' : (at' + 1) % 2 = 0 ↔ false = true := ⟨fun h => by omega, fun h => by cases h⟩
      simp only [g_bind, g_ok, g_ofO, g_var, g_peek, g_frz, g_C, g_op, g_opF, g_tOf, g_B, g_BF, g_nil, g_cons, ok_ite, g_tup, g_lst, g_fz, g_call, g_callF, g_callV, g_callF0, g_seq, g_next, g_set, g_setF, g_setV, g_drop, g_ret, g_retF, g_retV, g_retO, g_if, g_append, g_extend, g_to, g_par, g_aug, g_any, g_noP, g_part, g_sl, g_slF, g_isI, g_m1, g_tAnd, g_tOr, g_tNot, g_and, g_or, g_not, g_neg, g_eif, g_tru, g_for, g_comp, g_run, okO_some, slV_va, slP_va, slP_ml, slZ_va, slZ_ml, slM_ml, isB_b, isI_i, isS_s, isL_l, itO_l, itO_t, itO_s, isVl_z, isVl_f, nxF_nx, nxF_rt, nxF_ro, nxF_bk, nxF_ct, endF_nx, endF_rt, endF_ro, okR_ok, okR_fr, okR_er, two_ok, stepF_nx, stepF_ct, stepF_bk, stepF_rt, stepF_ro, List.getElem?_cons_zero, List.getElem?_cons_succ, List.set_cons_zero, List.set_cons_succ, List.length_cons, List.length_nil, List.map_cons, List.map_nil, List.replicate_succ, List.replicate_zero, List.cons_append, List.nil_append, Nat.reduceAdd, Nat.reduceSub, Nat.reduceLeDiff, decide_eq_true_eq, addInt, subInt, ltInt, mulInt, modInt, divInt, powInt, shlInt, shrInt, eqInt, neInt, cmpInt, lenScr, lenLst, lenTup, idxScr, idxLst, idxTup, true_and, tgN, wipeR, g_chain, g_iseq, g_setIx, g_lix, g_m1F, Option.bind_some, g_callB, g_vz, slK_md, g_setD, g_dnew, g_din, g_dget, g_dput, g_pop, keyStr, keyInt, g_frm, isFrm5, idxFrm, okF_frm, g_fix, slN_mn, g_newN, g_inN, g_nget, g_nput, g_nget2, g_insert, g_tryKey, orE_some, orE_none, g_dpairs, g_ifV, g_repl, tgT, tgL, hm, decide_true, decide_false, Bool.not_true, Bool.not_false, Bool.false_eq_true, if_false, if_true, Bool.true_and, Bool.and_true, Bool.false_and, Bool.and_false, Bool.true_or, Bool.false_or, Bool.or_true, Bool.or_false, eq_self, true_and, and_true, bne_self_eq_false, Bool.true_eq_false, List.length_map, hlt, slFrm2, nin2]
      by_cases hx : x = a ∨ x = b
      · rw [rd_t, if_pos hx] at hQ hN
        have eb : decide (x = b) = decide (x ≠ a) := decide_eq_decide.mpr (by omega)
        simp only [hx, decide_true, decide_false, Bool.not_true, Bool.not_false, Bool.false_eq_true, if_false, if_true, Bool.true_and, Bool.and_true, Bool.false_and, Bool.and_false, Bool.true_or, Bool.false_or, Bool.or_true, Bool.or_false, eq_self, true_and, and_true, bne_self_eq_false, Bool.true_eq_false]
        unfold t__law_read_a1
        simp only [g_bind, g_ok, g_ofO, g_var, g_peek, g_frz, g_C, g_op, g_opF, g_tOf, g_B, g_BF, g_nil, g_cons, ok_ite, g_tup, g_lst, g_fz, g_call, g_callF, g_callV, g_callF0, g_seq, g_next, g_set, g_setF, g_setV, g_drop, g_ret, g_retF, g_retV, g_retO, g_if, g_append, g_extend, g_to, g_par, g_aug, g_any, g_noP, g_part, g_sl, g_slF, g_isI, g_m1, g_tAnd, g_tOr, g_tNot, g_and, g_or, g_not, g_neg, g_eif, g_tru, g_for, g_comp, g_run, okO_some, slV_va, slP_va, slP_ml, slZ_va, slZ_ml, slM_ml, isB_b, isI_i, isS_s, isL_l, itO_l, itO_t, itO_s, isVl_z, isVl_f, nxF_nx, nxF_rt, nxF_ro, nxF_bk, nxF_ct, endF_nx, endF_rt, endF_ro, okR_ok, okR_fr, okR_er, two_ok, stepF_nx, stepF_ct, stepF_bk, stepF_rt, stepF_ro, List.getElem?_cons_zero, List.getElem?_cons_succ, List.set_cons_zero, List.set_cons_succ, List.length_cons, List.length_nil, List.map_cons, List.map_nil, List.replicate_succ, List.replicate_zero, List.cons_append, List.nil_append, Nat.reduceAdd, Nat.reduceSub, Nat.reduceLeDiff, decide_eq_true_eq, addInt, subInt, ltInt, mulInt, modInt, divInt, powInt, shlInt, shrInt, eqInt, neInt, cmpInt, lenScr, lenLst, lenTup, idxScr, idxLst, idxTup, true_and, tgN, wipeR, g_chain, g_iseq, g_setIx, g_lix, g_m1F, Option.bind_some, g_callB, g_vz, slK_md, g_setD, g_dnew, g_din, g_dget, g_dput, g_pop, keyStr, keyInt, g_frm, isFrm5, idxFrm, okF_frm, g_fix, slN_mn, g_newN, g_inN, g_nget, g_nput, g_nget2, g_insert, g_tryKey, orE_some, orE_none, g_dpairs, g_ifV, g_repl, e1, eqInt, intB, pick2, eb]
        have ez : (if x ≠ a then Str.ofString "-" else Str.ofString ".") = sgS (bitN (decide (x ≠ a))) := by
          by_cases h : x = a
          · have h1 : ¬ (x ≠ a) := fun z => z h
            rw [if_neg h1, decide_eq_false h1]; decide +kernel
          · rw [if_pos h, decide_eq_true h]; decide +kernel
        simp only [pickP, okO_some, ez, addS, row_snoc]
        refine ⟨by decide, by rw [rowS_len, sizeLine_eq]; show r.length + 1 ≤ _; omega, ?_⟩
        exact ih false t _ _ _ hp' (by omega) (by omega) (by simp; omega) hQ hN
      · rw [rd_t, if_neg hx] at hN
        simp only [hx, decide_true, decide_false, Bool.not_true, Bool.not_false, Bool.false_eq_true, if_false, if_true, Bool.true_and, Bool.and_true, Bool.false_and, Bool.and_false, Bool.true_or, Bool.false_or, Bool.or_true, Bool.or_false, eq_self, true_and, and_true, bne_self_eq_false, Bool.true_eq_false]
        exact ⟨by decide, hN endR_none _⟩
    | false =>
      have hm0 : ¬ (at' : Int) % 2 = 0 := by
        intro h
        have := hp.mp (mod2.1.mp h)
        cases this
      have hm : (at' : Int) % 2 = 1 := by omega
      have h10 : ¬ ((1 : Int) = 0) := by decide
      have hp1 : (at' + 1) % 2 = 0 ↔ true = true := ⟨fun _ => rfl, fun _ => by omega⟩
      simp only [g_bind, g_ok, g_ofO, g_var, g_peek, g_frz, g_C, g_op, g_opF, g_tOf, g_B, g_BF, g_nil, g_cons, ok_ite, g_tup, g_lst, g_fz, g_call, g_callF, g_callV, g_callF0, g_seq, g_next, g_set, g_setF, g_setV, g_drop, g_ret, g_retF, g_retV, g_retO, g_if, g_append, g_extend, g_to, g_par, g_aug, g_any, g_noP, g_part, g_sl, g_slF, g_isI, g_m1, g_tAnd, g_tOr, g_tNot, g_and, g_or, g_not, g_neg, g_eif, g_tru, g_for, g_comp, g_run, okO_some, slV_va, slP_va, slP_ml, slZ_va, slZ_ml, slM_ml, isB_b, isI_i, isS_s, isL_l, itO_l, itO_t, itO_s, isVl_z, isVl_f, nxF_nx, nxF_rt, nxF_ro, nxF_bk, nxF_ct, endF_nx, endF_rt, endF_ro, okR_ok, okR_fr, okR_er, two_ok, stepF_nx, stepF_ct, stepF_bk, stepF_rt, stepF_ro, List.getElem?_cons_zero, List.getElem?_cons_succ, List.set_cons_zero, List.set_cons_succ, List.length_cons, List.length_nil, List.map_cons, List.map_nil, List.replicate_succ, List.replicate_zero, List.cons_append, List.nil_append, Nat.reduceAdd, Nat.reduceSub, Nat.reduceLeDiff, decide_eq_true_eq, addInt, subInt, ltInt, mulInt, modInt, divInt, powInt, shlInt, shrInt, eqInt, neInt, cmpInt, lenScr, lenLst, lenTup, idxScr, idxLst, idxTup, true_and, tgN, wipeR, g_chain, g_iseq, g_setIx, g_lix, g_m1F, Option.bind_some, g_callB, g_vz, slK_md, g_setD, g_dnew, g_din, g_dget, g_dput, g_pop, keyStr, keyInt, g_frm, isFrm5, idxFrm, okF_frm, g_fix, slN_mn, g_newN, g_inN, g_nget, g_nput, g_nget2, g_insert, g_tryKey, orE_some, orE_none, g_dpairs, g_ifV, g_repl, tgT, tgL, hm, decide_true, decide_false, Bool.not_true, Bool.not_false, Bool.false_eq_true, if_false, if_true, Bool.true_and, Bool.and_true, Bool.false_and, Bool.and_false, Bool.true_or, Bool.false_or, Bool.or_true, Bool.or_false, eq_self, true_and, and_true, bne_self_eq_false, Bool.true_eq_false, h10, slFrm4, nin3, neInt, e2, rowsN_get]
      refine ⟨by decide, by decide, ?_⟩
      by_cases hc : x = c
      · have hin : x = c ∨ x = d ∨ x = e := .inl hc
        rw [rd_f, if_pos hc] at hQ hN
        simp only [hin, hc, true_or, decide_true, decide_true, decide_false, Bool.not_true, Bool.not_false, Bool.false_eq_true, if_false, if_true, Bool.true_and, Bool.and_true, Bool.false_and, Bool.and_false, Bool.true_or, Bool.false_or, Bool.or_true, Bool.or_false, eq_self, true_and, and_true, bne_self_eq_false, Bool.true_eq_false]
        have := ih true t r (.va (.int at')) (.va (.int x)) hp1 (by omega) (by omega) (by omega) hQ hN
        rw [hc] at this
        exact this
      · by_cases hx : x = d ∨ x = e
        · have hin : x = c ∨ x = d ∨ x = e := .inr hx
          rw [rd_f, if_neg hc, if_pos hx] at hQ hN
          simp only [hc, false_or, hx, decide_true, decide_false, decide_true, decide_false, Bool.not_true, Bool.not_false, Bool.false_eq_true, if_false, if_true, Bool.true_and, Bool.and_true, Bool.false_and, Bool.and_false, Bool.true_or, Bool.false_or, Bool.or_true, Bool.or_false, eq_self, true_and, and_true, bne_self_eq_false, Bool.true_eq_false]
          cases hf : fnd B r with
          | none =>
            rw [hf] at hN
            simp only [Option.map_none, Option.isSome_none, decide_true, decide_false, Bool.not_true, Bool.not_false, Bool.false_eq_true, if_false, if_true, Bool.true_and, Bool.and_true, Bool.false_and, Bool.and_false, Bool.true_or, Bool.false_or, Bool.or_true, Bool.or_false, eq_self, true_and, and_true, bne_self_eq_false, Bool.true_eq_false]
            exact hN endR_none _
          | some s =>
            rw [hf] at hQ hN
            simp only [Option.map_some, Option.isSome_some, decide_true, decide_false, Bool.not_true, Bool.not_false, Bool.false_eq_true, if_false, if_true, Bool.true_and, Bool.and_true, Bool.false_and, Bool.and_false, Bool.true_or, Bool.false_or, Bool.or_true, Bool.or_false, eq_self, true_and, and_true, bne_self_eq_false, Bool.true_eq_false]
            unfold t__law_read_b1
            have ed : decide (x = d) = !decide (x = e) := by
              rcases hx with h | h
              · have : ¬ x = e := by omega
                rw [decide_eq_true h, decide_eq_false this]; rfl
              · have : ¬ x = d := by omega
                rw [decide_eq_true h, decide_eq_false this]; rfl
            simp only [g_bind, g_ok, g_ofO, g_var, g_peek, g_frz, g_C, g_op, g_opF, g_tOf, g_B, g_BF, g_nil, g_cons, ok_ite, g_tup, g_lst, g_fz, g_call, g_callF, g_callV, g_callF0, g_seq, g_next, g_set, g_setF, g_setV, g_drop, g_ret, g_retF, g_retV, g_retO, g_if, g_append, g_extend, g_to, g_par, g_aug, g_any, g_noP, g_part, g_sl, g_slF, g_isI, g_m1, g_tAnd, g_tOr, g_tNot, g_and, g_or, g_not, g_neg, g_eif, g_tru, g_for, g_comp, g_run, okO_some, slV_va, slP_va, slP_ml, slZ_va, slZ_ml, slM_ml, isB_b, isI_i, isS_s, isL_l, itO_l, itO_t, itO_s, isVl_z, isVl_f, nxF_nx, nxF_rt, nxF_ro, nxF_bk, nxF_ct, endF_nx, endF_rt, endF_ro, okR_ok, okR_fr, okR_er, two_ok, stepF_nx, stepF_ct, stepF_bk, stepF_rt, stepF_ro, List.getElem?_cons_zero, List.getElem?_cons_succ, List.set_cons_zero, List.set_cons_succ, List.length_cons, List.length_nil, List.map_cons, List.map_nil, List.replicate_succ, List.replicate_zero, List.cons_append, List.nil_append, Nat.reduceAdd, Nat.reduceSub, Nat.reduceLeDiff, decide_eq_true_eq, addInt, subInt, ltInt, mulInt, modInt, divInt, powInt, shlInt, shrInt, eqInt, neInt, cmpInt, lenScr, lenLst, lenTup, idxScr, idxLst, idxTup, true_and, tgN, wipeR, g_chain, g_iseq, g_setIx, g_lix, g_m1F, Option.bind_some, g_callB, g_vz, slK_md, g_setD, g_dnew, g_din, g_dget, g_dput, g_pop, keyStr, keyInt, g_frm, isFrm5, idxFrm, okF_frm, g_fix, slN_mn, g_newN, g_inN, g_nget, g_nput, g_nget2, g_insert, g_tryKey, orE_some, orE_none, g_dpairs, g_ifV, g_repl, rowsN_get, hf, Option.map_some, addS, e3, eqInt, List.length_map, hne, decide_true, decide_false, Bool.not_true, Bool.not_false, Bool.false_eq_true, if_false, if_true, Bool.true_and, Bool.and_true, Bool.false_and, Bool.and_false, Bool.true_or, Bool.false_or, Bool.or_true, Bool.or_false, eq_self, true_and, and_true, bne_self_eq_false, Bool.true_eq_false, intB, sgS_w, wS_app, wS_len]
            have e0 : Str.ofString "" = wS [] := by decide +kernel
            have eb : Str.ofString " " = wS [32] := by decide +kernel
            have ex : Str.ofString "" = rowS [] := by decide +kernel
            have go : Ok t__law_read_b2 [v0, .va (fmD a b c d e), .va (.list (L.map .int)), .md (rowsN B), v4, .va (.str (rowS r)), .va (.str (wS (t ++ s :: (if x = e then [32] else [])))), .va (.int at'), .va (.int x)] (stepF (fun ρ2 => Ok W ρ2 Q fun x _ => noX x) Q) fun x _ => noX x := by
              unfold t__law_read_b2
              simp only [g_bind, g_ok, g_ofO, g_var, g_peek, g_frz, g_C, g_op, g_opF, g_tOf, g_B, g_BF, g_nil, g_cons, ok_ite, g_tup, g_lst, g_fz, g_call, g_callF, g_callV, g_callF0, g_seq, g_next, g_set, g_setF, g_setV, g_drop, g_ret, g_retF, g_retV, g_retO, g_if, g_append, g_extend, g_to, g_par, g_aug, g_any, g_noP, g_part, g_sl, g_slF, g_isI, g_m1, g_tAnd, g_tOr, g_tNot, g_and, g_or, g_not, g_neg, g_eif, g_tru, g_for, g_comp, g_run, okO_some, slV_va, slP_va, slP_ml, slZ_va, slZ_ml, slM_ml, isB_b, isI_i, isS_s, isL_l, itO_l, itO_t, itO_s, isVl_z, isVl_f, nxF_nx, nxF_rt, nxF_ro, nxF_bk, nxF_ct, endF_nx, endF_rt, endF_ro, okR_ok, okR_fr, okR_er, two_ok, stepF_nx, stepF_ct, stepF_bk, stepF_rt, stepF_ro, List.getElem?_cons_zero, List.getElem?_cons_succ, List.set_cons_zero, List.set_cons_succ, List.length_cons, List.length_nil, List.map_cons, List.map_nil, List.replicate_succ, List.replicate_zero, List.cons_append, List.nil_append, Nat.reduceAdd, Nat.reduceSub, Nat.reduceLeDiff, decide_eq_true_eq, addInt, subInt, ltInt, mulInt, modInt, divInt, powInt, shlInt, shrInt, eqInt, neInt, cmpInt, lenScr, lenLst, lenTup, idxScr, idxLst, idxTup, true_and, tgN, wipeR, g_chain, g_iseq, g_setIx, g_lix, g_m1F, Option.bind_some, g_callB, g_vz, slK_md, g_setD, g_dnew, g_din, g_dget, g_dput, g_pop, keyStr, keyInt, g_frm, isFrm5, idxFrm, okF_frm, g_fix, slN_mn, g_newN, g_inN, g_nget, g_nput, g_nget2, g_insert, g_tryKey, orE_some, orE_none, g_dpairs, g_ifV, g_repl]
              rw [ex]
              exact ih true _ _ _ _ hp1 (by omega) (by rw [List.length_append]; split <;> simp <;> omega) (by simp; omega) hQ hN
            refine ⟨by rw [sizeLine_eq]; omega, ?_⟩
            by_cases hd : x = d
            · have he : ¬ x = e := by omega
              rw [if_neg he] at go
              rw [if_pos hd]
              simp only [pick1, okO_some, e0, addS, wS_len, wS_app]
              refine ⟨by rw [sizeLine_eq]; simp; omega, ?_⟩
              have h2 : t ++ [s] ++ [] = t ++ [s] := by simp
              rw [h2]
              exact go
            · have he : x = e := by omega
              rw [if_pos he] at go
              rw [if_neg hd]
              have pick0 : atI [PyData.str (Str.ofString " "), PyData.str (Str.ofString "")] 0 = some (.str (Str.ofString " ")) := rfl
              simp only [pick0, okO_some]
              rw [eb]
              simp only [addS, wS_len, wS_app]
              refine ⟨by rw [sizeLine_eq]; simp; omega, ?_⟩
              have h2 : t ++ [s] ++ [32] = t ++ s :: [32] := by simp
              rw [h2]
              exact go
        · have hin : ¬ (x = c ∨ x = d ∨ x = e) := fun h => h.elim hc hx
          rw [rd_f, if_neg hc, if_neg hx] at hN
          simp only [hin, decide_false, decide_true, decide_false, Bool.not_true, Bool.not_false, Bool.false_eq_true, if_false, if_true, Bool.true_and, Bool.and_true, Bool.false_and, Bool.and_false, Bool.true_or, Bool.false_or, Bool.or_true, Bool.or_false, eq_self, true_and, and_true, bne_self_eq_false, Bool.true_eq_false]
          exact hN endR_none _
theorem lread_ok {B : Bk} (hB : BkOk B) {a b c d e : Int} (f : FmO a b c d e) {L : List Int} (hl : L.length ≤ 10000) : m__law_read [.list (B.map itD), fmD a b c d e, .list (L.map .int)] = .ok (txD (outT B a b c d e L)) := by
  refine okR_eq ?_
  have een : enAD [.list ((L ++ [e]).map .int)] = some (enD 0 ((L ++ [e]).map .int)) := rfl
  have e0 : Str.ofString "" = wS [] := by decide +kernel
  have e1 : Str.ofString "" = rowS [] := by decide +kernel
  have e4 : atI [PyData.int a, .int b, .int c, .int d, .int e] 4 = some (.int e) := rfl
  have eo : outT B a b c d e L = endR B L.length (rd B a b c d e true [] [] L) := rfl
  unfold m__law_read b__law_read
  simp only [g_bind, g_ok, g_ofO, g_var, g_peek, g_frz, g_C, g_op, g_opF, g_tOf, g_B, g_BF, g_nil, g_cons, ok_ite, g_tup, g_lst, g_fz, g_call, g_callF, g_callV, g_callF0, g_seq, g_next, g_set, g_setF, g_setV, g_drop, g_ret, g_retF, g_retV, g_retO, g_if, g_append, g_extend, g_to, g_par, g_aug, g_any, g_noP, g_part, g_sl, g_slF, g_isI, g_m1, g_tAnd, g_tOr, g_tNot, g_and, g_or, g_not, g_neg, g_eif, g_tru, g_for, g_comp, g_run, okO_some, slV_va, slP_va, slP_ml, slZ_va, slZ_ml, slM_ml, isB_b, isI_i, isS_s, isL_l, itO_l, itO_t, itO_s, isVl_z, isVl_f, nxF_nx, nxF_rt, nxF_ro, nxF_bk, nxF_ct, endF_nx, endF_rt, endF_ro, okR_ok, okR_fr, okR_er, two_ok, stepF_nx, stepF_ct, stepF_bk, stepF_rt, stepF_ro, List.getElem?_cons_zero, List.getElem?_cons_succ, List.set_cons_zero, List.set_cons_succ, List.length_cons, List.length_nil, List.map_cons, List.map_nil, List.replicate_succ, List.replicate_zero, List.cons_append, List.nil_append, Nat.reduceAdd, Nat.reduceSub, Nat.reduceLeDiff, decide_eq_true_eq, addInt, subInt, ltInt, mulInt, modInt, divInt, powInt, shlInt, shrInt, eqInt, neInt, cmpInt, lenScr, lenLst, lenTup, idxScr, idxLst, idxTup, true_and, tgN, wipeR, g_chain, g_iseq, g_setIx, g_lix, g_m1F, Option.bind_some, g_callB, g_vz, slK_md, g_setD, g_dnew, g_din, g_dget, g_dput, g_pop, keyStr, keyInt, g_frm, isFrm5, idxFrm, okF_frm, g_fix, slN_mn, g_newN, g_inN, g_nget, g_nput, g_nget2, g_insert, g_tryKey, orE_some, orE_none, g_dpairs, g_ifV, g_repl]
  unfold t__law_read_c1
  simp only [g_bind, g_ok, g_ofO, g_var, g_peek, g_frz, g_C, g_op, g_opF, g_tOf, g_B, g_BF, g_nil, g_cons, ok_ite, g_tup, g_lst, g_fz, g_call, g_callF, g_callV, g_callF0, g_seq, g_next, g_set, g_setF, g_setV, g_drop, g_ret, g_retF, g_retV, g_retO, g_if, g_append, g_extend, g_to, g_par, g_aug, g_any, g_noP, g_part, g_sl, g_slF, g_isI, g_m1, g_tAnd, g_tOr, g_tNot, g_and, g_or, g_not, g_neg, g_eif, g_tru, g_for, g_comp, g_run, okO_some, slV_va, slP_va, slP_ml, slZ_va, slZ_ml, slM_ml, isB_b, isI_i, isS_s, isL_l, itO_l, itO_t, itO_s, isVl_z, isVl_f, nxF_nx, nxF_rt, nxF_ro, nxF_bk, nxF_ct, endF_nx, endF_rt, endF_ro, okR_ok, okR_fr, okR_er, two_ok, stepF_nx, stepF_ct, stepF_bk, stepF_rt, stepF_ro, List.getElem?_cons_zero, List.getElem?_cons_succ, List.set_cons_zero, List.set_cons_succ, List.length_cons, List.length_nil, List.map_cons, List.map_nil, List.replicate_succ, List.replicate_zero, List.cons_append, List.nil_append, Nat.reduceAdd, Nat.reduceSub, Nat.reduceLeDiff, decide_eq_true_eq, addInt, subInt, ltInt, mulInt, modInt, divInt, powInt, shlInt, shrInt, eqInt, neInt, cmpInt, lenScr, lenLst, lenTup, idxScr, idxLst, idxTup, true_and, tgN, wipeR, g_chain, g_iseq, g_setIx, g_lix, g_m1F, Option.bind_some, g_callB, g_vz, slK_md, g_setD, g_dnew, g_din, g_dget, g_dput, g_pop, keyStr, keyInt, g_frm, isFrm5, idxFrm, okF_frm, g_fix, slN_mn, g_newN, g_inN, g_nget, g_nput, g_nget2, g_insert, g_tryKey, orE_some, orE_none, g_dpairs, g_ifV, g_repl]
  have s0 : ([] : List (Key × Dt)) = rowsN [] := rfl
  rw [s0]
  refine rows_loop B [] (by simpa using hB.nd2) (by simpa using hB.len) (fun v4 v5 => ?_) _ _
  rw [List.nil_append]
  unfold t__law_read_c2
  simp only [g_bind, g_ok, g_ofO, g_var, g_peek, g_frz, g_C, g_op, g_opF, g_tOf, g_B, g_BF, g_nil, g_cons, ok_ite, g_tup, g_lst, g_fz, g_call, g_callF, g_callV, g_callF0, g_seq, g_next, g_set, g_setF, g_setV, g_drop, g_ret, g_retF, g_retV, g_retO, g_if, g_append, g_extend, g_to, g_par, g_aug, g_any, g_noP, g_part, g_sl, g_slF, g_isI, g_m1, g_tAnd, g_tOr, g_tNot, g_and, g_or, g_not, g_neg, g_eif, g_tru, g_for, g_comp, g_run, okO_some, slV_va, slP_va, slP_ml, slZ_va, slZ_ml, slM_ml, isB_b, isI_i, isS_s, isL_l, itO_l, itO_t, itO_s, isVl_z, isVl_f, nxF_nx, nxF_rt, nxF_ro, nxF_bk, nxF_ct, endF_nx, endF_rt, endF_ro, okR_ok, okR_fr, okR_er, two_ok, stepF_nx, stepF_ct, stepF_bk, stepF_rt, stepF_ro, List.getElem?_cons_zero, List.getElem?_cons_succ, List.set_cons_zero, List.set_cons_succ, List.length_cons, List.length_nil, List.map_cons, List.map_nil, List.replicate_succ, List.replicate_zero, List.cons_append, List.nil_append, Nat.reduceAdd, Nat.reduceSub, Nat.reduceLeDiff, decide_eq_true_eq, addInt, subInt, ltInt, mulInt, modInt, divInt, powInt, shlInt, shrInt, eqInt, neInt, cmpInt, lenScr, lenLst, lenTup, idxScr, idxLst, idxTup, true_and, tgN, wipeR, g_chain, g_iseq, g_setIx, g_lix, g_m1F, Option.bind_some, g_callB, g_vz, slK_md, g_setD, g_dnew, g_din, g_dget, g_dput, g_pop, keyStr, keyInt, g_frm, isFrm5, idxFrm, okF_frm, g_fix, slN_mn, g_newN, g_inN, g_nget, g_nput, g_nget2, g_insert, g_tryKey, orE_some, orE_none, g_dpairs, g_ifV, g_repl]
  unfold t__law_read_c3
  simp only [g_bind, g_ok, g_ofO, g_var, g_peek, g_frz, g_C, g_op, g_opF, g_tOf, g_B, g_BF, g_nil, g_cons, ok_ite, g_tup, g_lst, g_fz, g_call, g_callF, g_callV, g_callF0, g_seq, g_next, g_set, g_setF, g_setV, g_drop, g_ret, g_retF, g_retV, g_retO, g_if, g_append, g_extend, g_to, g_par, g_aug, g_any, g_noP, g_part, g_sl, g_slF, g_isI, g_m1, g_tAnd, g_tOr, g_tNot, g_and, g_or, g_not, g_neg, g_eif, g_tru, g_for, g_comp, g_run, okO_some, slV_va, slP_va, slP_ml, slZ_va, slZ_ml, slM_ml, isB_b, isI_i, isS_s, isL_l, itO_l, itO_t, itO_s, isVl_z, isVl_f, nxF_nx, nxF_rt, nxF_ro, nxF_bk, nxF_ct, endF_nx, endF_rt, endF_ro, okR_ok, okR_fr, okR_er, two_ok, stepF_nx, stepF_ct, stepF_bk, stepF_rt, stepF_ro, List.getElem?_cons_zero, List.getElem?_cons_succ, List.set_cons_zero, List.set_cons_succ, List.length_cons, List.length_nil, List.map_cons, List.map_nil, List.replicate_succ, List.replicate_zero, List.cons_append, List.nil_append, Nat.reduceAdd, Nat.reduceSub, Nat.reduceLeDiff, decide_eq_true_eq, addInt, subInt, ltInt, mulInt, modInt, divInt, powInt, shlInt, shrInt, eqInt, neInt, cmpInt, lenScr, lenLst, lenTup, idxScr, idxLst, idxTup, true_and, tgN, wipeR, g_chain, g_iseq, g_setIx, g_lix, g_m1F, Option.bind_some, g_callB, g_vz, slK_md, g_setD, g_dnew, g_din, g_dget, g_dput, g_pop, keyStr, keyInt, g_frm, isFrm5, idxFrm, okF_frm, g_fix, slN_mn, g_newN, g_inN, g_nget, g_nput, g_nget2, g_insert, g_tryKey, orE_some, orE_none, g_dpairs, g_ifV, g_repl]
  unfold t__law_read_c4
  have em : L.map PyData.int ++ [.int e] = (L ++ [e]).map .int := by simp
  simp only [g_bind, g_ok, g_ofO, g_var, g_peek, g_frz, g_C, g_op, g_opF, g_tOf, g_B, g_BF, g_nil, g_cons, ok_ite, g_tup, g_lst, g_fz, g_call, g_callF, g_callV, g_callF0, g_seq, g_next, g_set, g_setF, g_setV, g_drop, g_ret, g_retF, g_retV, g_retO, g_if, g_append, g_extend, g_to, g_par, g_aug, g_any, g_noP, g_part, g_sl, g_slF, g_isI, g_m1, g_tAnd, g_tOr, g_tNot, g_and, g_or, g_not, g_neg, g_eif, g_tru, g_for, g_comp, g_run, okO_some, slV_va, slP_va, slP_ml, slZ_va, slZ_ml, slM_ml, isB_b, isI_i, isS_s, isL_l, itO_l, itO_t, itO_s, isVl_z, isVl_f, nxF_nx, nxF_rt, nxF_ro, nxF_bk, nxF_ct, endF_nx, endF_rt, endF_ro, okR_ok, okR_fr, okR_er, two_ok, stepF_nx, stepF_ct, stepF_bk, stepF_rt, stepF_ro, List.getElem?_cons_zero, List.getElem?_cons_succ, List.set_cons_zero, List.set_cons_succ, List.length_cons, List.length_nil, List.map_cons, List.map_nil, List.replicate_succ, List.replicate_zero, List.cons_append, List.nil_append, Nat.reduceAdd, Nat.reduceSub, Nat.reduceLeDiff, decide_eq_true_eq, addInt, subInt, ltInt, mulInt, modInt, divInt, powInt, shlInt, shrInt, eqInt, neInt, cmpInt, lenScr, lenLst, lenTup, idxScr, idxLst, idxTup, true_and, tgN, wipeR, g_chain, g_iseq, g_setIx, g_lix, g_m1F, Option.bind_some, g_callB, g_vz, slK_md, g_setD, g_dnew, g_din, g_dget, g_dput, g_pop, keyStr, keyInt, g_frm, isFrm5, idxFrm, okF_frm, g_fix, slN_mn, g_newN, g_inN, g_nget, g_nput, g_nget2, g_insert, g_tryKey, orE_some, orE_none, g_dpairs, g_ifV, g_repl, e4, addL, em, een]
  refine ⟨by simp; rw [sizeLine_eq]; omega, ?_⟩
  have key := read_loop2 (B := B) f (L := L) (v0 := .va (.list (B.map itD))) (v4 := v4) (Q := fun fl ρ' => nxF fl (Ok t__law_read_c5 ρ' (fun fl x => endF fl (fun z => z = txD (outT B a b c d e L)) fun x => False) fun x x_1 => noX x) (endF fl (fun z => z = txD (outT B a b c d e L)) fun x => False)) L true 0 [] [] .un .un (by simp) (by simp) (by simp; omega) (by simp; omega) (fun T v5 v7 v8 h => ?_) (fun h ρ => ?_)
  · rw [← e0, ← e1] at key
    exact key
  · rw [nxF_nx, eo, h]
    unfold t__law_read_c5
    simp only [g_bind, g_ok, g_ofO, g_var, g_peek, g_frz, g_C, g_op, g_opF, g_tOf, g_B, g_BF, g_nil, g_cons, ok_ite, g_tup, g_lst, g_fz, g_call, g_callF, g_callV, g_callF0, g_seq, g_next, g_set, g_setF, g_setV, g_drop, g_ret, g_retF, g_retV, g_retO, g_if, g_append, g_extend, g_to, g_par, g_aug, g_any, g_noP, g_part, g_sl, g_slF, g_isI, g_m1, g_tAnd, g_tOr, g_tNot, g_and, g_or, g_not, g_neg, g_eif, g_tru, g_for, g_comp, g_run, okO_some, slV_va, slP_va, slP_ml, slZ_va, slZ_ml, slM_ml, isB_b, isI_i, isS_s, isL_l, itO_l, itO_t, itO_s, isVl_z, isVl_f, nxF_nx, nxF_rt, nxF_ro, nxF_bk, nxF_ct, endF_nx, endF_rt, endF_ro, okR_ok, okR_fr, okR_er, two_ok, stepF_nx, stepF_ct, stepF_bk, stepF_rt, stepF_ro, List.getElem?_cons_zero, List.getElem?_cons_succ, List.set_cons_zero, List.set_cons_succ, List.length_cons, List.length_nil, List.map_cons, List.map_nil, List.replicate_succ, List.replicate_zero, List.cons_append, List.nil_append, Nat.reduceAdd, Nat.reduceSub, Nat.reduceLeDiff, decide_eq_true_eq, addInt, subInt, ltInt, mulInt, modInt, divInt, powInt, shlInt, shrInt, eqInt, neInt, cmpInt, lenScr, lenLst, lenTup, idxScr, idxLst, idxTup, true_and, tgN, wipeR, g_chain, g_iseq, g_setIx, g_lix, g_m1F, Option.bind_some, g_callB, g_vz, slK_md, g_setD, g_dnew, g_din, g_dget, g_dput, g_pop, keyStr, keyInt, g_frm, isFrm5, idxFrm, okF_frm, g_fix, slN_mn, g_newN, g_inN, g_nget, g_nput, g_nget2, g_insert, g_tryKey, orE_some, orE_none, g_dpairs, g_ifV, g_repl]
    rfl
  · rw [nxF_rt, eo, h, endF_rt]
    rfl
/-! there and back -/
theorem fnd_mem {B : Bk} (hB : BkOk B) {s : Nat} (h : s ∈ B.map (·.1)) : fnd B (look B s) = some s := by
  obtain ⟨x, hx, rfl, hlx⟩ := look_mem h
  unfold fnd
  rw [hlx]
  cases hf : B.find? fun y => y.2 == x.2 with
  | none =>
    have := List.find?_eq_none.mp hf x hx
    simp at this
  | some y =>
    have h1 := List.mem_of_find?_eq_some hf
    have h2 : y.2 = x.2 := by simpa using List.find?_some hf
    have : y = x := by
      have nd := hB.nd2
      exact Classical.byContradiction fun ne => by
        have : ∀ (l : Bk), (l.map (·.2)).Nodup → y ∈ l → x ∈ l → y = x := by
          intro l
          induction l with
          | nil => intro _ h; cases h
          | cons z l ih =>
            intro hn hy hx'
            rw [List.map_cons, List.nodup_cons] at hn
            rcases List.mem_cons.mp hy with e1 | hy
            · rcases List.mem_cons.mp hx' with e2 | hx'
              · exact e1.trans e2.symm
              · exact absurd (List.mem_map.mpr ⟨x, hx', by rw [← h2, e1]⟩) hn.1
            · rcases List.mem_cons.mp hx' with e2 | hx'
              · exact absurd (List.mem_map.mpr ⟨y, hy, by rw [h2, e2]⟩) hn.1
              · exact ih hn.2 hy hx'
        exact ne (this B nd h1 hx)
    rw [this]
    rfl
section
variable {B : Bk} {a b c d e : Int}
theorem rd_row (f : FmO a b c d e) : ∀ (r : List Bool) (j : Nat) (t : List Nat) (q : List Bool) (rest : List Int), r ≠ [] → rd B a b c d e (decide (j = 0)) t q (rowG a b c j r ++ rest) = rd B a b c d e false t (q ++ r) rest
  | [], _, _, _, _, h => absurd rfl h
  | x :: r, j, t, q, rest, _ => by
    have hs : sound a b x = a ∨ sound a b x = b := by unfold sound; cases x <;> simp
    have hx : decide (sound a b x ≠ a) = x := by
      have := f.ab
      unfold sound
      cases x
      · simp
      · simp; omega
    have step : rd B a b c d e true t q (sound a b x :: (rowG a b c (j + 1) r ++ rest)) = rd B a b c d e false t (q ++ x :: r) rest := by
      rw [rd_t, if_pos hs, hx]
      cases r with
      | nil => rfl
      | cons y r =>
        have ih := rd_row f (y :: r) (j + 1) t (q ++ [x]) rest (by simp)
        rw [show decide (j + 1 = 0) = false by simp] at ih
        rw [ih]
        simp
    unfold rowG
    by_cases hj : j = 0
    · subst hj
      simpa using step
    · rw [if_pos (by omega), decide_eq_false hj]
      show rd B a b c d e false t q (c :: (sound a b x :: (rowG a b c (j + 1) r ++ rest))) = _
      rw [rd_f, if_pos rfl]
      exact step
theorem row_ne {B : Bk} (hB : BkOk B) {s : Nat} (h : s ∈ B.map (·.1)) : look B s ≠ [] := by
  obtain ⟨x, hx, _, hlx⟩ := look_mem h
  have := (hB.row x hx).1
  rw [hlx]
  intro z
  rw [z] at this
  simp at this
theorem wordG_cons (n k x : Nat) (w : List Nat) : wordG B a b c d e n k (x :: w) = (if 0 < n + k then [if k = 0 then e else d] else []) ++ (rowG a b c 0 (look B x) ++ wordG B a b c d e n (k + 1) w) := rfl
theorem textG_cons (n : Nat) (w : List Nat) (T : List (List Nat)) : textG B a b c d e n (w :: T) = wordG B a b c d e n 0 w ++ textG B a b c d e (n + 1) T := rfl
theorem rd_word (hB : BkOk B) (f : FmO a b c d e) (n : Nat) : ∀ (w : List Nat) (k : Nat) (t : List Nat) (s : Nat) (rest : List Int), s ∈ B.map (·.1) → (∀ x ∈ w, x ∈ B.map (·.1)) → ∃ t' s', s' ∈ B.map (·.1) ∧ t' ++ [s'] = t ++ [s] ++ w ∧ rd B a b c d e false t (look B s) (wordG B a b c d e n (k + 1) w ++ rest) = rd B a b c d e false t' (look B s') rest
  | [], k, t, s, rest, hs, _ => ⟨t, s, hs, by simp, rfl⟩
  | x :: w, k, t, s, rest, hs, hw => by
    have hx := hw x List.mem_cons_self
    obtain ⟨t', s', h1, h2, h3⟩ := rd_word hB f n w (k + 1) (t ++ [s]) x rest hx fun y hy => hw y (List.mem_cons_of_mem _ hy)
    refine ⟨t', s', h1, by rw [h2]; simp, ?_⟩
    rw [← h3]
    rw [wordG_cons, if_pos (by omega), if_neg (by omega)]
    have hcd := f.cd
    have hde := f.de
    show rd B a b c d e false t (look B s) (d :: ((rowG a b c 0 (look B x) ++ wordG B a b c d e n (k + 1 + 1) w) ++ rest)) = _
    rw [rd_f, if_neg (by omega), if_pos (.inl rfl), fnd_mem hB hs, if_neg (by omega), List.append_assoc]
    have := rd_row (B := B) f (look B x) 0 (t ++ [s]) [] (wordG B a b c d e n (k + 1 + 1) w ++ rest) (row_ne hB hx)
    simpa using this
theorem rd_text (hB : BkOk B) (f : FmO a b c d e) : ∀ (T : List (List Nat)) (n : Nat) (t : List Nat) (s : Nat), s ∈ B.map (·.1) → (∀ w ∈ T, w ≠ [] ∧ ∀ x ∈ w, x ∈ B.map (·.1)) → ∃ t' s', s' ∈ B.map (·.1) ∧ t' ++ [s'] = t ++ [s] ++ (T.map fun w => 32 :: w).flatten ∧ rd B a b c d e false t (look B s) (textG B a b c d e (n + 1) T) = some (t', look B s')
  | [], n, t, s, hs, _ => ⟨t, s, hs, by simp, rd_nil B a b c d e⟩
  | w :: T, n, t, s, hs, hw => by
    obtain ⟨hne, hx⟩ := hw w List.mem_cons_self
    cases w with
    | nil => exact absurd rfl hne
    | cons x w =>
      have hxx := hx x List.mem_cons_self
      obtain ⟨t1, s1, h1, h2, h3⟩ := rd_word hB f (n + 1) w 0 (t ++ [s, 32]) x (textG B a b c d e (n + 1 + 1) T) hxx fun y hy => hx y (List.mem_cons_of_mem _ hy)
      obtain ⟨t', s', h4, h5, h6⟩ := rd_text hB f T (n + 1) t1 s1 h1 fun v hv => hw v (List.mem_cons_of_mem _ hv)
      refine ⟨t', s', h4, by rw [h5, h2]; simp, ?_⟩
      rw [← h6, ← h3]
      have hcd := f.cd
      have hde := f.de
      rw [textG_cons, wordG_cons, if_pos (by omega), if_pos rfl]
      show rd B a b c d e false t (look B s) (e :: ((rowG a b c 0 (look B x) ++ wordG B a b c d e (n + 1) (0 + 1) w) ++ textG B a b c d e (n + 1 + 1) T)) = _
      rw [rd_f, if_neg (by omega), if_pos (.inr rfl), fnd_mem hB hs, if_pos rfl, List.append_assoc]
      have := rd_row (B := B) f (look B x) 0 (t ++ [s, 32]) [] (wordG B a b c d e (n + 1) (0 + 1) w ++ textG B a b c d e (n + 1 + 1) T) (row_ne hB hxx)
      simpa using this
theorem joinL_flat : ∀ (w : List Nat) (T : List (List Nat)), TL.joinL [32] (w :: T) = w ++ (T.map fun v => 32 :: v).flatten
  | w, [] => by simp [TL.joinL]
  | w, v :: T => by
    have := joinL_flat v T
    simp only [TL.joinL] at this ⊢
    rw [this]
    simp
theorem rowG_odd (a b c : Int) : ∀ (r : List Bool) (j : Nat), r ≠ [] → (rowG a b c j r).length % 2 = if j = 0 then 1 else 0
  | [], _, h => absurd rfl h
  | [x], j, _ => by unfold rowG rowG; split <;> split <;> simp <;> omega
  | x :: y :: r, j, _ => by
    have ih := rowG_odd a b c (y :: r) (j + 1) (by simp)
    rw [if_neg (by omega)] at ih
    rw [rowG]
    split <;> split <;> simp <;> omega
theorem wordG_odd (hB : BkOk B) (n : Nat) : ∀ (w : List Nat) (k : Nat), (∀ x ∈ w, x ∈ B.map (·.1)) → w ≠ [] → (wordG B a b c d e n k w).length % 2 = if n + k = 0 then 1 else 0
  | [], _, _, h => absurd rfl h
  | [x], k, hw, _ => by
    have h1 := rowG_odd a b c (look B x) 0 (row_ne hB (hw x List.mem_cons_self))
    rw [if_pos rfl] at h1
    rw [wordG_cons]
    by_cases hz : n + k = 0
    · rw [if_pos hz, if_neg (by omega)]
      simp [wordG]
      exact h1
    · rw [if_neg hz, if_pos (by omega)]
      simp [wordG]
      omega
  | x :: y :: w, k, hw, _ => by
    have h1 := rowG_odd a b c (look B x) 0 (row_ne hB (hw x List.mem_cons_self))
    rw [if_pos rfl] at h1
    have ih := wordG_odd hB n (y :: w) (k + 1) (fun z hz => hw z (List.mem_cons_of_mem _ hz)) (by simp)
    rw [if_neg (by omega)] at ih
    rw [wordG_cons]
    by_cases hz : n + k = 0
    · rw [if_pos hz, if_neg (by omega), List.nil_append, List.length_append]
      omega
    · rw [if_neg hz, if_pos (by omega), List.length_append, List.length_append, List.length_singleton]
      omega
theorem textG_odd (hB : BkOk B) : ∀ (T : List (List Nat)) (n : Nat), (∀ w ∈ T, w ≠ [] ∧ ∀ x ∈ w, x ∈ B.map (·.1)) → T ≠ [] → (textG B a b c d e n T).length % 2 = if n = 0 then 1 else 0
  | [], _, _, h => absurd rfl h
  | [w], n, hw, _ => by
    obtain ⟨h1, h2⟩ := hw w List.mem_cons_self
    have := wordG_odd hB (a := a) (b := b) (c := c) (d := d) (e := e) n w 0 h2 h1
    rw [textG_cons, show textG B a b c d e (n + 1) [] = [] from rfl, List.append_nil]
    rw [this]
    simp
  | w :: v :: T, n, hw, _ => by
    obtain ⟨h1, h2⟩ := hw w List.mem_cons_self
    have := wordG_odd hB (a := a) (b := b) (c := c) (d := d) (e := e) n w 0 h2 h1
    have ih := textG_odd hB (v :: T) (n + 1) (fun z hz => hw z (List.mem_cons_of_mem _ hz)) (by simp)
    rw [if_neg (by omega)] at ih
    rw [textG_cons, List.length_append]
    simp only [Nat.add_zero] at this
    split at this <;> split <;> omega
theorem there_back (hB : BkOk B) (f : FmO a b c d e) {W : List (List Nat)} (hW : TxOk B W) : outT B a b c d e (textG B a b c d e 0 W) = some (TL.joinL [32] W) := by
  cases W with
  | nil => exact absurd rfl hW.ne
  | cons w T =>
    have hodd := textG_odd hB (a := a) (b := b) (c := c) (d := d) (e := e) (w :: T) 0 hW.w (by simp)
    rw [if_pos rfl] at hodd
    obtain ⟨hne, hx⟩ := hW.w w List.mem_cons_self
    cases w with
    | nil => exact absurd rfl hne
    | cons x w =>
      have hxx := hx x List.mem_cons_self
      obtain ⟨t1, s1, h1, h2, h3⟩ := rd_word hB f 0 w 0 [] x (textG B a b c d e (0 + 1) T) hxx fun y hy => hx y (List.mem_cons_of_mem _ hy)
      obtain ⟨t', s', h4, h5, h6⟩ := rd_text hB f T 0 t1 s1 h1 fun v hv => hW.w v (List.mem_cons_of_mem _ hv)
      have key : rd B a b c d e true [] [] (textG B a b c d e 0 ((x :: w) :: T)) = some (t', look B s') := by
        rw [← h6, ← h3]
        rw [textG_cons, wordG_cons, if_neg (by omega)]
        show rd B a b c d e true [] [] ((rowG a b c 0 (look B x) ++ wordG B a b c d e 0 (0 + 1) w) ++ textG B a b c d e (0 + 1) T) = _
        rw [List.append_assoc]
        have := rd_row (B := B) f (look B x) 0 [] [] (wordG B a b c d e 0 (0 + 1) w ++ textG B a b c d e (0 + 1) T) (row_ne hB hxx)
        simpa using this
      unfold outT
      rw [if_neg (by omega), key, Option.bind_some, fnd_mem hB h4, Option.map_some, h5, h2, joinL_flat]
      simp
end
end LawK03

set_option linter.all false
set_option maxRecDepth 100000
namespace LawK03
open PySem PySem.Spec L2 DL
open PyProof.Rows hiding St
/-! the law k03: weights bent -/
theorem setL {L : List Int} {k x : Int} (h0 : 0 ≤ k) (h1 : k < L.length) : ∃ j, ixN (L.map PyData.int).length k = some j ∧ (L.map PyData.int).set j (.int x) = (L.set j x).map .int := by
  refine ⟨k.toNat, ?_, by rw [List.map_set]⟩
  rw [List.length_map]
  unfold ixN
  first
    | rw [if_neg (by omega), if_pos (by omega)]
    | (simp only [show ¬ k < 0 by omega, if_false, h0, h1]; simp; done)
    | simp [show ¬ k < 0 by omega, h0, h1]
theorem seqL {L : List Int} {k : Int} (h0 : 0 ≤ k) (h1 : k < L.length) : seqIndex? k (L.map PyData.int).length = some k.toNat := by
  unfold seqIndex?
  rw [List.length_map]
  simp only [show ¬ k < 0 by omega, if_false]
  first | rw [if_pos (by omega)] | rw [if_neg (by omega)] | (simp; omega)
theorem cut_map {L : List Int} {lo hi : Option Int} : slD (.list (L.map .int)) lo hi = some (.list ((DL.cutD L lo hi).map .int)) := by
  show some (PyData.list (DL.cutD (L.map PyData.int) lo hi)) = _
  unfold DL.cutD
  rw [List.length_map, List.map_take, List.map_drop]
theorem cut_len (L : List Int) (lo hi : Option Int) : (DL.cutD L lo hi).length ≤ L.length := by
  unfold DL.cutD
  rw [List.length_take, List.length_drop]
  omega
theorem revL_ints (L : List Int) : revD (.list (L.map .int)) = some (.list (L.reverse.map .int)) := by
  show some (PyData.list _) = _
  rw [List.map_reverse]
theorem bent_ok {w : List Int} (h0 : w ≠ []) (hl : w.length ≤ 3000) {a b c d e x y z : Int} :
    ∃ R : List Int, m__law_bent [.list (w.map .int), fmD a b c d e, .list [.int x, .int y, .int z]] = .fr (R.map .int) ∧ R.length ≤ 10000 := by
  have hp : 0 < w.length := List.length_pos_iff.mpr h0
  have j0 := Int.emod_nonneg x (b := (w.length : Int)) (by omega)
  have j1 := Int.emod_lt_of_pos x (b := (w.length : Int)) (by omega)
  have k0 := Int.emod_nonneg z (b := (w.length : Int)) (by omega)
  have k1 := Int.emod_lt_of_pos z (b := (w.length : Int)) (by omega)
  have y0 := Int.emod_nonneg y (b := 6) (by omega)
  generalize hj : x % (w.length : Int) = j at j0 j1
  obtain ⟨c1, e1, _⟩ := atI_ints w j j0 j1
  obtain ⟨c2, e2, _⟩ := atI_ints [a, b, c, d, e] (z % 5) (Int.emod_nonneg _ (by omega)) (Int.emod_lt_of_pos _ (by simp))
  simp only [List.map_cons, List.map_nil] at e2
  obtain ⟨c3, e3, _⟩ := two_at 1 (-1) z
  obtain ⟨c4, e4, _⟩ := atI_ints w (z % (w.length : Int)) k0 k1
  have i0 : atI [PyData.int x, .int y, .int z] 0 = some (.int x) := rfl
  have i1 : atI [PyData.int x, .int y, .int z] 1 = some (.int y) := rfl
  have i2 : atI [PyData.int x, .int y, .int z] 2 = some (.int z) := rfl
  have el : listD [.list (w.map .int)] = some (w.map .int) := rfl
  obtain ⟨js, ejs, _⟩ := setL (L := w) (x := c2) j0 j1
  have eset : ∀ v : Int, (w.map PyData.int).set js (.int v) = (w.set js v).map .int := fun v => by rw [List.map_set]
  have esq := seqL (L := w) j0 j1
  rw [List.length_map] at ejs esq
  have h : okR (m__law_bent [.list (w.map .int), fmD a b c d e, .list [.int x, .int y, .int z]]) (fun _ => False) (fun ds => ∃ R : List Int, R.length ≤ 10000 ∧ ds = R.map .int) noX := by
    unfold m__law_bent b__law_bent
    simp only [g_bind, g_ok, g_ofO, g_var, g_peek, g_frz, g_C, g_op, g_opF, g_tOf, g_B, g_BF, g_nil, g_cons, ok_ite, g_tup, g_lst, g_fz, g_call, g_callF, g_callV, g_callF0, g_seq, g_next, g_set, g_setF, g_setV, g_drop, g_ret, g_retF, g_retV, g_retO, g_if, g_append, g_extend, g_to, g_par, g_aug, g_any, g_noP, g_part, g_sl, g_slF, g_isI, g_m1, g_tAnd, g_tOr, g_tNot, g_and, g_or, g_not, g_neg, g_eif, g_tru, g_for, g_comp, g_run, okO_some, slV_va, slP_va, slP_ml, slZ_va, slZ_ml, slM_ml, isB_b, isI_i, isS_s, isL_l, itO_l, itO_t, itO_s, isVl_z, isVl_f, nxF_nx, nxF_rt, nxF_ro, nxF_bk, nxF_ct, endF_nx, endF_rt, endF_ro, okR_ok, okR_fr, okR_er, two_ok, stepF_nx, stepF_ct, stepF_bk, stepF_rt, stepF_ro, List.getElem?_cons_zero, List.getElem?_cons_succ, List.set_cons_zero, List.set_cons_succ, List.length_cons, List.length_nil, List.map_cons, List.map_nil, List.replicate_succ, List.replicate_zero, List.cons_append, List.nil_append, Nat.reduceAdd, Nat.reduceSub, Nat.reduceLeDiff, decide_eq_true_eq, addInt, subInt, ltInt, mulInt, modInt, divInt, powInt, shlInt, shrInt, eqInt, neInt, cmpInt, lenScr, lenLst, lenTup, idxScr, idxLst, idxTup, true_and, tgN, wipeR, g_chain, g_iseq, g_setIx, g_lix, g_m1F, Option.bind_some, g_callB, g_vz, slK_md, g_setD, g_dnew, g_din, g_dget, g_dput, g_pop, keyStr, keyInt, g_frm, isFrm5, idxFrm, okF_frm, g_fix, slN_mn, g_newN, g_inN, g_nget, g_nput, g_nget2, g_insert, g_tryKey, orE_some, orE_none, g_dpairs, g_ifV, g_repl, el]
    unfold t__law_bent_a1
    simp only [g_bind, g_ok, g_ofO, g_var, g_peek, g_frz, g_C, g_op, g_opF, g_tOf, g_B, g_BF, g_nil, g_cons, ok_ite, g_tup, g_lst, g_fz, g_call, g_callF, g_callV, g_callF0, g_seq, g_next, g_set, g_setF, g_setV, g_drop, g_ret, g_retF, g_retV, g_retO, g_if, g_append, g_extend, g_to, g_par, g_aug, g_any, g_noP, g_part, g_sl, g_slF, g_isI, g_m1, g_tAnd, g_tOr, g_tNot, g_and, g_or, g_not, g_neg, g_eif, g_tru, g_for, g_comp, g_run, okO_some, slV_va, slP_va, slP_ml, slZ_va, slZ_ml, slM_ml, isB_b, isI_i, isS_s, isL_l, itO_l, itO_t, itO_s, isVl_z, isVl_f, nxF_nx, nxF_rt, nxF_ro, nxF_bk, nxF_ct, endF_nx, endF_rt, endF_ro, okR_ok, okR_fr, okR_er, two_ok, stepF_nx, stepF_ct, stepF_bk, stepF_rt, stepF_ro, List.getElem?_cons_zero, List.getElem?_cons_succ, List.set_cons_zero, List.set_cons_succ, List.length_cons, List.length_nil, List.map_cons, List.map_nil, List.replicate_succ, List.replicate_zero, List.cons_append, List.nil_append, Nat.reduceAdd, Nat.reduceSub, Nat.reduceLeDiff, decide_eq_true_eq, addInt, subInt, ltInt, mulInt, modInt, divInt, powInt, shlInt, shrInt, eqInt, neInt, cmpInt, lenScr, lenLst, lenTup, idxScr, idxLst, idxTup, true_and, tgN, wipeR, g_chain, g_iseq, g_setIx, g_lix, g_m1F, Option.bind_some, g_callB, g_vz, slK_md, g_setD, g_dnew, g_din, g_dget, g_dput, g_pop, keyStr, keyInt, g_frm, isFrm5, idxFrm, okF_frm, g_fix, slN_mn, g_newN, g_inN, g_nget, g_nput, g_nget2, g_insert, g_tryKey, orE_some, orE_none, g_dpairs, g_ifV, g_repl, i0, List.length_map, hj]
    refine ⟨by omega, ?_⟩
    unfold t__law_bent_a2
    simp only [g_bind, g_ok, g_ofO, g_var, g_peek, g_frz, g_C, g_op, g_opF, g_tOf, g_B, g_BF, g_nil, g_cons, ok_ite, g_tup, g_lst, g_fz, g_call, g_callF, g_callV, g_callF0, g_seq, g_next, g_set, g_setF, g_setV, g_drop, g_ret, g_retF, g_retV, g_retO, g_if, g_append, g_extend, g_to, g_par, g_aug, g_any, g_noP, g_part, g_sl, g_slF, g_isI, g_m1, g_tAnd, g_tOr, g_tNot, g_and, g_or, g_not, g_neg, g_eif, g_tru, g_for, g_comp, g_run, okO_some, slV_va, slP_va, slP_ml, slZ_va, slZ_ml, slM_ml, isB_b, isI_i, isS_s, isL_l, itO_l, itO_t, itO_s, isVl_z, isVl_f, nxF_nx, nxF_rt, nxF_ro, nxF_bk, nxF_ct, endF_nx, endF_rt, endF_ro, okR_ok, okR_fr, okR_er, two_ok, stepF_nx, stepF_ct, stepF_bk, stepF_rt, stepF_ro, List.getElem?_cons_zero, List.getElem?_cons_succ, List.set_cons_zero, List.set_cons_succ, List.length_cons, List.length_nil, List.map_cons, List.map_nil, List.replicate_succ, List.replicate_zero, List.cons_append, List.nil_append, Nat.reduceAdd, Nat.reduceSub, Nat.reduceLeDiff, decide_eq_true_eq, addInt, subInt, ltInt, mulInt, modInt, divInt, powInt, shlInt, shrInt, eqInt, neInt, cmpInt, lenScr, lenLst, lenTup, idxScr, idxLst, idxTup, true_and, tgN, wipeR, g_chain, g_iseq, g_setIx, g_lix, g_m1F, Option.bind_some, g_callB, g_vz, slK_md, g_setD, g_dnew, g_din, g_dget, g_dput, g_pop, keyStr, keyInt, g_frm, isFrm5, idxFrm, okF_frm, g_fix, slN_mn, g_newN, g_inN, g_nget, g_nput, g_nget2, g_insert, g_tryKey, orE_some, orE_none, g_dpairs, g_ifV, g_repl, i1]
    refine ⟨by decide, ?_⟩
    unfold t__law_bent_a3
    simp only [g_bind, g_ok, g_ofO, g_var, g_peek, g_frz, g_C, g_op, g_opF, g_tOf, g_B, g_BF, g_nil, g_cons, ok_ite, g_tup, g_lst, g_fz, g_call, g_callF, g_callV, g_callF0, g_seq, g_next, g_set, g_setF, g_setV, g_drop, g_ret, g_retF, g_retV, g_retO, g_if, g_append, g_extend, g_to, g_par, g_aug, g_any, g_noP, g_part, g_sl, g_slF, g_isI, g_m1, g_tAnd, g_tOr, g_tNot, g_and, g_or, g_not, g_neg, g_eif, g_tru, g_for, g_comp, g_run, okO_some, slV_va, slP_va, slP_ml, slZ_va, slZ_ml, slM_ml, isB_b, isI_i, isS_s, isL_l, itO_l, itO_t, itO_s, isVl_z, isVl_f, nxF_nx, nxF_rt, nxF_ro, nxF_bk, nxF_ct, endF_nx, endF_rt, endF_ro, okR_ok, okR_fr, okR_er, two_ok, stepF_nx, stepF_ct, stepF_bk, stepF_rt, stepF_ro, List.getElem?_cons_zero, List.getElem?_cons_succ, List.set_cons_zero, List.set_cons_succ, List.length_cons, List.length_nil, List.map_cons, List.map_nil, List.replicate_succ, List.replicate_zero, List.cons_append, List.nil_append, Nat.reduceAdd, Nat.reduceSub, Nat.reduceLeDiff, decide_eq_true_eq, addInt, subInt, ltInt, mulInt, modInt, divInt, powInt, shlInt, shrInt, eqInt, neInt, cmpInt, lenScr, lenLst, lenTup, idxScr, idxLst, idxTup, true_and, tgN, wipeR, g_chain, g_iseq, g_setIx, g_lix, g_m1F, Option.bind_some, g_callB, g_vz, slK_md, g_setD, g_dnew, g_din, g_dget, g_dput, g_pop, keyStr, keyInt, g_frm, isFrm5, idxFrm, okF_frm, g_fix, slN_mn, g_newN, g_inN, g_nget, g_nput, g_nget2, g_insert, g_tryKey, orE_some, orE_none, g_dpairs, g_ifV, g_repl, i2, e1, e2, e3, e4, List.length_map, ejs, eset, esq]
    by_cases h1 : y % 6 < 2
    · rw [if_pos h1]
      refine ⟨by decide, ?_⟩
      unfold t__law_bent_a4
      simp only [g_bind, g_ok, g_ofO, g_var, g_peek, g_frz, g_C, g_op, g_opF, g_tOf, g_B, g_BF, g_nil, g_cons, ok_ite, g_tup, g_lst, g_fz, g_call, g_callF, g_callV, g_callF0, g_seq, g_next, g_set, g_setF, g_setV, g_drop, g_ret, g_retF, g_retV, g_retO, g_if, g_append, g_extend, g_to, g_par, g_aug, g_any, g_noP, g_part, g_sl, g_slF, g_isI, g_m1, g_tAnd, g_tOr, g_tNot, g_and, g_or, g_not, g_neg, g_eif, g_tru, g_for, g_comp, g_run, okO_some, slV_va, slP_va, slP_ml, slZ_va, slZ_ml, slM_ml, isB_b, isI_i, isS_s, isL_l, itO_l, itO_t, itO_s, isVl_z, isVl_f, nxF_nx, nxF_rt, nxF_ro, nxF_bk, nxF_ct, endF_nx, endF_rt, endF_ro, okR_ok, okR_fr, okR_er, two_ok, stepF_nx, stepF_ct, stepF_bk, stepF_rt, stepF_ro, List.getElem?_cons_zero, List.getElem?_cons_succ, List.set_cons_zero, List.set_cons_succ, List.length_cons, List.length_nil, List.map_cons, List.map_nil, List.replicate_succ, List.replicate_zero, List.cons_append, List.nil_append, Nat.reduceAdd, Nat.reduceSub, Nat.reduceLeDiff, decide_eq_true_eq, addInt, subInt, ltInt, mulInt, modInt, divInt, powInt, shlInt, shrInt, eqInt, neInt, cmpInt, lenScr, lenLst, lenTup, idxScr, idxLst, idxTup, true_and, tgN, wipeR, g_chain, g_iseq, g_setIx, g_lix, g_m1F, Option.bind_some, g_callB, g_vz, slK_md, g_setD, g_dnew, g_din, g_dget, g_dput, g_pop, keyStr, keyInt, g_frm, isFrm5, idxFrm, okF_frm, g_fix, slN_mn, g_newN, g_inN, g_nget, g_nput, g_nget2, g_insert, g_tryKey, orE_some, orE_none, g_dpairs, g_ifV, g_repl]
      exact ⟨_, by rw [List.length_set]; omega, rfl⟩
    rw [if_neg h1]
    by_cases h2 : y % 6 = 2
    · simp only [eqInt, h2, decide_true, decide_true, decide_false, Bool.not_true, Bool.not_false, Bool.false_eq_true, if_false, if_true, Bool.true_and, Bool.and_true, Bool.false_and, Bool.and_false, Bool.true_or, Bool.false_or, Bool.or_true, Bool.or_false, eq_self, true_and, and_true, bne_self_eq_false, Bool.true_eq_false]
      repeat (with_reducible refine And.intro (by first | decide | omega | exact cdiv (by first | decide | omega) (by first | decide | omega) | (apply cmul <;> omega) | assumption) ?_)
      unfold t__law_bent_a4
      simp only [g_bind, g_ok, g_ofO, g_var, g_peek, g_frz, g_C, g_op, g_opF, g_tOf, g_B, g_BF, g_nil, g_cons, ok_ite, g_tup, g_lst, g_fz, g_call, g_callF, g_callV, g_callF0, g_seq, g_next, g_set, g_setF, g_setV, g_drop, g_ret, g_retF, g_retV, g_retO, g_if, g_append, g_extend, g_to, g_par, g_aug, g_any, g_noP, g_part, g_sl, g_slF, g_isI, g_m1, g_tAnd, g_tOr, g_tNot, g_and, g_or, g_not, g_neg, g_eif, g_tru, g_for, g_comp, g_run, okO_some, slV_va, slP_va, slP_ml, slZ_va, slZ_ml, slM_ml, isB_b, isI_i, isS_s, isL_l, itO_l, itO_t, itO_s, isVl_z, isVl_f, nxF_nx, nxF_rt, nxF_ro, nxF_bk, nxF_ct, endF_nx, endF_rt, endF_ro, okR_ok, okR_fr, okR_er, two_ok, stepF_nx, stepF_ct, stepF_bk, stepF_rt, stepF_ro, List.getElem?_cons_zero, List.getElem?_cons_succ, List.set_cons_zero, List.set_cons_succ, List.length_cons, List.length_nil, List.map_cons, List.map_nil, List.replicate_succ, List.replicate_zero, List.cons_append, List.nil_append, Nat.reduceAdd, Nat.reduceSub, Nat.reduceLeDiff, decide_eq_true_eq, addInt, subInt, ltInt, mulInt, modInt, divInt, powInt, shlInt, shrInt, eqInt, neInt, cmpInt, lenScr, lenLst, lenTup, idxScr, idxLst, idxTup, true_and, tgN, wipeR, g_chain, g_iseq, g_setIx, g_lix, g_m1F, Option.bind_some, g_callB, g_vz, slK_md, g_setD, g_dnew, g_din, g_dget, g_dput, g_pop, keyStr, keyInt, g_frm, isFrm5, idxFrm, okF_frm, g_fix, slN_mn, g_newN, g_inN, g_nget, g_nput, g_nget2, g_insert, g_tryKey, orE_some, orE_none, g_dpairs, g_ifV, g_repl]
      exact ⟨_, by rw [List.length_set]; omega, rfl⟩
    by_cases h3 : y % 6 = 3
    · have q2 : ¬ ((3 : Int) = 2) := by decide
      simp only [eqInt, h3, q2, decide_true, decide_false, decide_true, decide_false, Bool.not_true, Bool.not_false, Bool.false_eq_true, if_false, if_true, Bool.true_and, Bool.and_true, Bool.false_and, Bool.and_false, Bool.true_or, Bool.false_or, Bool.or_true, Bool.or_false, eq_self, true_and, and_true, bne_self_eq_false, Bool.true_eq_false]
      have eg : (w.map PyData.int)[j.toNat]? = some (.int (w[j.toNat]'(by omega))) := by rw [List.getElem?_map, List.getElem?_eq_getElem (by omega)]; rfl
      simp only [eg, okO_some]
      refine ⟨by omega, ?_⟩
      unfold t__law_bent_a4
      simp only [g_bind, g_ok, g_ofO, g_var, g_peek, g_frz, g_C, g_op, g_opF, g_tOf, g_B, g_BF, g_nil, g_cons, ok_ite, g_tup, g_lst, g_fz, g_call, g_callF, g_callV, g_callF0, g_seq, g_next, g_set, g_setF, g_setV, g_drop, g_ret, g_retF, g_retV, g_retO, g_if, g_append, g_extend, g_to, g_par, g_aug, g_any, g_noP, g_part, g_sl, g_slF, g_isI, g_m1, g_tAnd, g_tOr, g_tNot, g_and, g_or, g_not, g_neg, g_eif, g_tru, g_for, g_comp, g_run, okO_some, slV_va, slP_va, slP_ml, slZ_va, slZ_ml, slM_ml, isB_b, isI_i, isS_s, isL_l, itO_l, itO_t, itO_s, isVl_z, isVl_f, nxF_nx, nxF_rt, nxF_ro, nxF_bk, nxF_ct, endF_nx, endF_rt, endF_ro, okR_ok, okR_fr, okR_er, two_ok, stepF_nx, stepF_ct, stepF_bk, stepF_rt, stepF_ro, List.getElem?_cons_zero, List.getElem?_cons_succ, List.set_cons_zero, List.set_cons_succ, List.length_cons, List.length_nil, List.map_cons, List.map_nil, List.replicate_succ, List.replicate_zero, List.cons_append, List.nil_append, Nat.reduceAdd, Nat.reduceSub, Nat.reduceLeDiff, decide_eq_true_eq, addInt, subInt, ltInt, mulInt, modInt, divInt, powInt, shlInt, shrInt, eqInt, neInt, cmpInt, lenScr, lenLst, lenTup, idxScr, idxLst, idxTup, true_and, tgN, wipeR, g_chain, g_iseq, g_setIx, g_lix, g_m1F, Option.bind_some, g_callB, g_vz, slK_md, g_setD, g_dnew, g_din, g_dget, g_dput, g_pop, keyStr, keyInt, g_frm, isFrm5, idxFrm, okF_frm, g_fix, slN_mn, g_newN, g_inN, g_nget, g_nput, g_nget2, g_insert, g_tryKey, orE_some, orE_none, g_dpairs, g_ifV, g_repl, erase_map]
      exact ⟨_, by rw [List.length_eraseIdx]; split <;> omega, rfl⟩
    by_cases h4 : y % 6 = 4
    · have q2 : ¬ ((4 : Int) = 2) := by decide
      have q3 : ¬ ((4 : Int) = 3) := by decide
      simp only [eqInt, h4, q2, q3, decide_true, decide_false, decide_true, decide_false, Bool.not_true, Bool.not_false, Bool.false_eq_true, if_false, if_true, Bool.true_and, Bool.and_true, Bool.false_and, Bool.and_false, Bool.true_or, Bool.false_or, Bool.or_true, Bool.or_false, eq_self, true_and, and_true, bne_self_eq_false, Bool.true_eq_false]
      refine ⟨by omega, ⟨by rw [sizeLine_eq]; omega, by omega, by omega⟩, ?_⟩
      unfold t__law_bent_a4
      simp only [g_bind, g_ok, g_ofO, g_var, g_peek, g_frz, g_C, g_op, g_opF, g_tOf, g_B, g_BF, g_nil, g_cons, ok_ite, g_tup, g_lst, g_fz, g_call, g_callF, g_callV, g_callF0, g_seq, g_next, g_set, g_setF, g_setV, g_drop, g_ret, g_retF, g_retV, g_retO, g_if, g_append, g_extend, g_to, g_par, g_aug, g_any, g_noP, g_part, g_sl, g_slF, g_isI, g_m1, g_tAnd, g_tOr, g_tNot, g_and, g_or, g_not, g_neg, g_eif, g_tru, g_for, g_comp, g_run, okO_some, slV_va, slP_va, slP_ml, slZ_va, slZ_ml, slM_ml, isB_b, isI_i, isS_s, isL_l, itO_l, itO_t, itO_s, isVl_z, isVl_f, nxF_nx, nxF_rt, nxF_ro, nxF_bk, nxF_ct, endF_nx, endF_rt, endF_ro, okR_ok, okR_fr, okR_er, two_ok, stepF_nx, stepF_ct, stepF_bk, stepF_rt, stepF_ro, List.getElem?_cons_zero, List.getElem?_cons_succ, List.set_cons_zero, List.set_cons_succ, List.length_cons, List.length_nil, List.map_cons, List.map_nil, List.replicate_succ, List.replicate_zero, List.cons_append, List.nil_append, Nat.reduceAdd, Nat.reduceSub, Nat.reduceLeDiff, decide_eq_true_eq, addInt, subInt, ltInt, mulInt, modInt, divInt, powInt, shlInt, shrInt, eqInt, neInt, cmpInt, lenScr, lenLst, lenTup, idxScr, idxLst, idxTup, true_and, tgN, wipeR, g_chain, g_iseq, g_setIx, g_lix, g_m1F, Option.bind_some, g_callB, g_vz, slK_md, g_setD, g_dnew, g_din, g_dget, g_dput, g_pop, keyStr, keyInt, g_frm, isFrm5, idxFrm, okF_frm, g_fix, slN_mn, g_newN, g_inN, g_nget, g_nput, g_nget2, g_insert, g_tryKey, orE_some, orE_none, g_dpairs, g_ifV, g_repl]
      refine ⟨w.take j.toNat ++ [c4] ++ w.drop j.toNat, by simp only [List.length_append, List.length_take, List.length_drop, List.length_singleton]; omega, ?_⟩
      simp only [List.map_append, List.map_take, List.map_drop, List.map_cons, List.map_nil]
    simp only [eqInt, h2, h3, h4, decide_true, decide_false, decide_true, decide_false, Bool.not_true, Bool.not_false, Bool.false_eq_true, if_false, if_true, Bool.true_and, Bool.and_true, Bool.false_and, Bool.and_false, Bool.true_or, Bool.false_or, Bool.or_true, Bool.or_false, eq_self, true_and, and_true, bne_self_eq_false, Bool.true_eq_false, cut_map]
    simp only [g_bind, g_ok, g_ofO, g_var, g_peek, g_frz, g_C, g_op, g_opF, g_tOf, g_B, g_BF, g_nil, g_cons, ok_ite, g_tup, g_lst, g_fz, g_call, g_callF, g_callV, g_callF0, g_seq, g_next, g_set, g_setF, g_setV, g_drop, g_ret, g_retF, g_retV, g_retO, g_if, g_append, g_extend, g_to, g_par, g_aug, g_any, g_noP, g_part, g_sl, g_slF, g_isI, g_m1, g_tAnd, g_tOr, g_tNot, g_and, g_or, g_not, g_neg, g_eif, g_tru, g_for, g_comp, g_run, okO_some, slV_va, slP_va, slP_ml, slZ_va, slZ_ml, slM_ml, isB_b, isI_i, isS_s, isL_l, itO_l, itO_t, itO_s, isVl_z, isVl_f, nxF_nx, nxF_rt, nxF_ro, nxF_bk, nxF_ct, endF_nx, endF_rt, endF_ro, okR_ok, okR_fr, okR_er, two_ok, stepF_nx, stepF_ct, stepF_bk, stepF_rt, stepF_ro, List.getElem?_cons_zero, List.getElem?_cons_succ, List.set_cons_zero, List.set_cons_succ, List.length_cons, List.length_nil, List.map_cons, List.map_nil, List.replicate_succ, List.replicate_zero, List.cons_append, List.nil_append, Nat.reduceAdd, Nat.reduceSub, Nat.reduceLeDiff, decide_eq_true_eq, addInt, subInt, ltInt, mulInt, modInt, divInt, powInt, shlInt, shrInt, eqInt, neInt, cmpInt, lenScr, lenLst, lenTup, idxScr, idxLst, idxTup, true_and, tgN, wipeR, g_chain, g_iseq, g_setIx, g_lix, g_m1F, Option.bind_some, g_callB, g_vz, slK_md, g_setD, g_dnew, g_din, g_dget, g_dput, g_pop, keyStr, keyInt, g_frm, isFrm5, idxFrm, okF_frm, g_fix, slN_mn, g_newN, g_inN, g_nget, g_nput, g_nget2, g_insert, g_tryKey, orE_some, orE_none, g_dpairs, g_ifV, g_repl, g_rev, cut_map, revL_ints, addL, catLL, ← List.map_append]
    have l1 := cut_len w none (some j)
    have l2 := cut_len w (some j) (some (j + 2))
    have l3 := cut_len w (some (j + 2)) none
    refine ⟨by simp only [List.length_map, List.length_reverse]; rw [sizeLine_eq]; omega, by simp only [List.length_map, List.length_append, List.length_reverse]; rw [sizeLine_eq]; omega, ?_⟩
    unfold t__law_bent_a4
    simp only [g_bind, g_ok, g_ofO, g_var, g_peek, g_frz, g_C, g_op, g_opF, g_tOf, g_B, g_BF, g_nil, g_cons, ok_ite, g_tup, g_lst, g_fz, g_call, g_callF, g_callV, g_callF0, g_seq, g_next, g_set, g_setF, g_setV, g_drop, g_ret, g_retF, g_retV, g_retO, g_if, g_append, g_extend, g_to, g_par, g_aug, g_any, g_noP, g_part, g_sl, g_slF, g_isI, g_m1, g_tAnd, g_tOr, g_tNot, g_and, g_or, g_not, g_neg, g_eif, g_tru, g_for, g_comp, g_run, okO_some, slV_va, slP_va, slP_ml, slZ_va, slZ_ml, slM_ml, isB_b, isI_i, isS_s, isL_l, itO_l, itO_t, itO_s, isVl_z, isVl_f, nxF_nx, nxF_rt, nxF_ro, nxF_bk, nxF_ct, endF_nx, endF_rt, endF_ro, okR_ok, okR_fr, okR_er, two_ok, stepF_nx, stepF_ct, stepF_bk, stepF_rt, stepF_ro, List.getElem?_cons_zero, List.getElem?_cons_succ, List.set_cons_zero, List.set_cons_succ, List.length_cons, List.length_nil, List.map_cons, List.map_nil, List.replicate_succ, List.replicate_zero, List.cons_append, List.nil_append, Nat.reduceAdd, Nat.reduceSub, Nat.reduceLeDiff, decide_eq_true_eq, addInt, subInt, ltInt, mulInt, modInt, divInt, powInt, shlInt, shrInt, eqInt, neInt, cmpInt, lenScr, lenLst, lenTup, idxScr, idxLst, idxTup, true_and, tgN, wipeR, g_chain, g_iseq, g_setIx, g_lix, g_m1F, Option.bind_some, g_callB, g_vz, slK_md, g_setD, g_dnew, g_din, g_dget, g_dput, g_pop, keyStr, keyInt, g_frm, isFrm5, idxFrm, okF_frm, g_fix, slN_mn, g_newN, g_inN, g_nget, g_nput, g_nget2, g_insert, g_tryKey, orE_some, orE_none, g_dpairs, g_ifV, g_repl]
    exact ⟨_, by simp only [List.length_append, List.length_reverse]; omega, rfl⟩
  obtain ⟨ds, e, R, h1, rfl⟩ := okR_lst h
  exact ⟨R, e, h1⟩
end LawK03

set_option linter.all false
set_option maxRecDepth 100000
namespace LawK03
open PySem PySem.Spec L2 DL
open PyProof.Rows hiding St
/-! the law k03 is true -/
theorem nk_ints : ∀ G : List Int, nkL (G.map .int) = some (G.map .num)
  | [] => by rw [List.map_nil, nkL]; rfl
  | x :: G => by rw [List.map_cons, nkL, nkD, nk_ints G]; rfl
theorem depth_ints : ∀ G : List Int, NestedKey.depthAll (G.map .num) = 0
  | [] => by rw [List.map_nil, NestedKey.depthAll]
  | x :: G => by rw [List.map_cons, NestedKey.depthAll, NestedKey.depth, depth_ints G]; rfl
theorem key_ints (G : List Int) : keyN (.tuple (G.map .int)) = some (.tup (G.map .num)) := by
  unfold keyN
  simp only [nkD, nk_ints, Option.map_some, NestedKey.depth, depth_ints]
  rw [if_pos (by decide)]
theorem num_inj {G K : List Int} (h : NestedKey.tup (G.map .num) = .tup (K.map .num)) : G = K := by
  injection h with h
  exact (List.map_inj_right (fun x y h => by injection h)).mp h
theorem val_cons {kv : NestedKey × Dt} {l : List (NestedKey × Dt)} {k : NestedKey} : valN (kv :: l) k = if kv.1 = k then some kv.2 else valN l k := by
  unfold valN
  rw [List.find?_cons]
  by_cases h : kv.1 = k
  · simp only [h, decide_true, if_true, Option.map_some]
  · simp only [h, decide_false, if_false]
theorem val_map {k k' : NestedKey} {d d' : Dt} : ∀ {kvs : List (NestedKey × Dt)}, valN (kvs.map fun kv => if kv.1 = k then (kv.1, d) else kv) k' = some d' → (k' = k ∧ d' = d) ∨ valN kvs k' = some d'
  | [], h => .inr h
  | kv :: l, h => by
    rw [List.map_cons, val_cons] at h
    rw [val_cons]
    by_cases hk : kv.1 = k
    · rw [if_pos hk] at h
      by_cases hk' : kv.1 = k'
      · rw [if_pos hk'] at h
        cases h
        exact .inl ⟨hk'.symm.trans hk, rfl⟩
      · rw [if_neg hk'] at h ⊢
        exact val_map h
    · rw [if_neg hk] at h
      by_cases hk' : kv.1 = k'
      · rw [if_pos hk'] at h ⊢
        exact .inr h
      · rw [if_neg hk'] at h ⊢
        exact val_map h
theorem val_app {k k' : NestedKey} {d d' : Dt} : ∀ {kvs : List (NestedKey × Dt)}, valN (kvs ++ [(k, d)]) k' = some d' → (k' = k ∧ d' = d) ∨ valN kvs k' = some d'
  | [], h => by
    rw [List.nil_append, val_cons] at h
    by_cases hk : k = k'
    · rw [if_pos hk] at h
      cases h
      exact .inl ⟨hk.symm, rfl⟩
    · rw [if_neg hk] at h
      cases h
  | kv :: l, h => by
    rw [List.cons_append, val_cons] at h
    rw [val_cons]
    by_cases hk' : kv.1 = k'
    · rw [if_pos hk'] at h ⊢
      exact .inr h
    · rw [if_neg hk'] at h ⊢
      exact val_app h
theorem val_put {kvs : List (NestedKey × Dt)} {k k' : NestedKey} {d d' : Dt} (h : valN (putN kvs k d) k' = some d') : (k' = k ∧ d' = d) ∨ valN kvs k' = some d' := by
  unfold putN at h
  split at h
  · exact val_map h
  · exact val_app h
theorem put_len {kvs : List (NestedKey × Dt)} {k : NestedKey} {d : Dt} : (putN kvs k d).length ≤ kvs.length + 1 := by
  unfold putN
  split
  · rw [List.length_map]; omega
  · rw [List.length_append]; exact Nat.le_refl _
theorem okO_cL {T : Dt → Rho → Option Rho} {t : Mo Bool} {e : Mo Dt} {ρ : Rho} {ds : List Dt} {P : Dt → Prop} {Q : List Dt → Prop} (h : ∀ d ∈ ds, okO (T d ρ) fun ρ1 => Ok t ρ1 (fun b _ => b = true) noE ∧ Ok e ρ1 (fun y _ => P y) noE) (k : ∀ ys, ys.length = ds.length → (∀ y ∈ ys, P y) → Q ys) : okO (cL T t e ρ ds) Q := by
  obtain ⟨ys, e1, e2, e3⟩ := cL_some h
  rw [e1]
  exact k ys e2 e3
theorem out_same (o : Option (List Nat)) : neD (txD o) (txD o) = some (.bool false) := by cases o <;> exact ne_same rfl
theorem textG_len (hB : BkOk B) (a b c d e : Int) : ∀ (T : List (List Nat)) (n : Nat), (∀ w ∈ T, ∀ s ∈ w, s ∈ B.map (·.1)) → (textG B a b c d e n T).length ≤ 17 * (T.map List.length).sum
  | [], _, _ => Nat.le_refl _
  | w :: T, n, h => by
    have h1 := wordG_len hB a b c d e n w 0 (h w List.mem_cons_self)
    have h2 := textG_len hB a b c d e T (n + 1) fun v hv => h v (List.mem_cons_of_mem _ hv)
    unfold textG
    simp only [List.length_append, List.map_cons, List.sum_cons]
    omega

theorem cut3 {L : List Int} {n : Nat} (h : n + 3 ≤ L.length) : ∃ x y z : Int, slD (.list (L.map .int)) (some (n : Int)) (some ((n : Int) + 3)) = some (.list [.int x, .int y, .int z]) := by
  have e1 : HT.sIx (L.map PyData.int).length 0 (some (n : Int)) = n := by
    rw [List.length_map]
    show (if (n : Int) < 0 then ((n : Int) + (L.length : Int)).toNat else min (n : Int).toNat L.length) = n
    rw [if_neg (by omega)]; omega
  have e2 : HT.sIx (L.map PyData.int).length (L.map PyData.int).length (some ((n : Int) + 3)) = n + 3 := by
    rw [List.length_map]
    show (if (n : Int) + 3 < 0 then ((n : Int) + 3 + (L.length : Int)).toNat else min ((n : Int) + 3).toNat L.length) = n + 3
    rw [if_neg (by omega)]; omega
  have hl : ((L.drop n).take 3).length = 3 := by rw [List.length_take, List.length_drop]; omega
  have hc : slD (.list (L.map .int)) (some (n : Int)) (some ((n : Int) + 3)) = some (.list (((L.drop n).take 3).map .int)) := by
    show some (PyData.list (DL.cutD (L.map PyData.int) (some (n : Int)) (some ((n : Int) + 3)))) = _
    unfold DL.cutD
    rw [e1, e2, List.map_take, List.map_drop]
    congr 3
    omega
  match hr : (L.drop n).take 3, hl with
  | [x, y, z], _ => exact ⟨x, y, z, by rw [hc, hr]; rfl⟩
section
variable {B : Bk} {a b c d e : Int} {L : List Int} {v0 v1 v5 v6 v7 v8 v9 v10 v11 v12 v13 : Sl} {Q : Fl → Rho → Prop}
theorem same_next (hB : BkOk B) (f : FmO a b c d e) {R : List Int} (hR : R.length ≤ 10000) (hQ : Q .nx [v0, v1, .va (.list (B.map itD)), .va (fmD a b c d e), .va (.list (L.map .int)), v5, v6, v7, v8, v9, v10, .va (.list (R.map .int)), v12, v13]) :
    Ok t_law_a1 [v0, v1, .va (.list (B.map itD)), .va (fmD a b c d e), .va (.list (L.map .int)), v5, v6, v7, v8, v9, v10, .va (.list (R.map .int)), v12, v13] Q fun x _ => noX x := by
  have el : listD [.list (R.map .int)] = some (R.map .int) := rfl
  unfold t_law_a1
  simp only [g_bind, g_ok, g_ofO, g_var, g_peek, g_frz, g_C, g_op, g_opF, g_tOf, g_B, g_BF, g_nil, g_cons, ok_ite, g_tup, g_lst, g_fz, g_call, g_callF, g_callV, g_callF0, g_seq, g_next, g_set, g_setF, g_setV, g_drop, g_ret, g_retF, g_retV, g_retO, g_if, g_append, g_extend, g_to, g_par, g_aug, g_any, g_noP, g_part, g_sl, g_slF, g_isI, g_m1, g_tAnd, g_tOr, g_tNot, g_and, g_or, g_not, g_neg, g_eif, g_tru, g_for, g_comp, g_run, okO_some, slV_va, slP_va, slP_ml, slZ_va, slZ_ml, slM_ml, isB_b, isI_i, isS_s, isL_l, itO_l, itO_t, itO_s, isVl_z, isVl_f, nxF_nx, nxF_rt, nxF_ro, nxF_bk, nxF_ct, endF_nx, endF_rt, endF_ro, okR_ok, okR_fr, okR_er, two_ok, stepF_nx, stepF_ct, stepF_bk, stepF_rt, stepF_ro, List.getElem?_cons_zero, List.getElem?_cons_succ, List.set_cons_zero, List.set_cons_succ, List.length_cons, List.length_nil, List.map_cons, List.map_nil, List.replicate_succ, List.replicate_zero, List.cons_append, List.nil_append, Nat.reduceAdd, Nat.reduceSub, Nat.reduceLeDiff, decide_eq_true_eq, addInt, subInt, ltInt, mulInt, modInt, divInt, powInt, shlInt, shrInt, eqInt, neInt, cmpInt, lenScr, lenLst, lenTup, idxScr, idxLst, idxTup, true_and, tgN, wipeR, g_chain, g_iseq, g_setIx, g_lix, g_m1F, Option.bind_some, g_callB, g_vz, slK_md, g_setD, g_dnew, g_din, g_dget, g_dput, g_pop, keyStr, keyInt, g_frm, isFrm5, idxFrm, okF_frm, g_fix, slN_mn, g_newN, g_inN, g_nget, g_nput, g_nget2, g_insert, g_tryKey, orE_some, orE_none, g_dpairs, g_ifV, g_repl, el, text_of_ok hB f hR, lread_ok hB f hR, out_same, decide_true, decide_false, Bool.not_true, Bool.not_false, Bool.false_eq_true, if_false, if_true, Bool.true_and, Bool.and_true, Bool.false_and, Bool.and_false, Bool.true_or, Bool.false_or, Bool.or_true, Bool.or_false, eq_self, true_and, and_true, bne_self_eq_false, Bool.true_eq_false]
  exact hQ
theorem j_loop (hB : BkOk B) (f : FmO a b c d e) (hL : L.length = 60) {k : Nat} (hk : k < 2) {w : List Int} (w0 : w ≠ []) (wl : w.length ≤ 3000)
    (hQ : ∀ v10 v11, Q .nx [v0, v1, .va (.list (B.map itD)), .va (fmD a b c d e), .va (.list (L.map .int)), v5, .va (.int (k : Int)), v7, .va (.list (w.map .int)), v9, v10, v11, v12, v13]) :
    Ok (sLoop (tgN 10) l_law_1 (rgD 0 8)) [v0, v1, .va (.list (B.map itD)), .va (fmD a b c d e), .va (.list (L.map .int)), v5, .va (.int (k : Int)), v7, .va (.list (w.map .int)), v9, v10, v11, v12, v13] Q fun x _ => noX x := by
  refine loop_inv (fun _ ρ => ∃ v10 v11, ρ = [v0, v1, .va (.list (B.map itD)), .va (fmD a b c d e), .va (.list (L.map .int)), v5, .va (.int (k : Int)), v7, .va (.list (w.map .int)), v9, v10, v11, v12, v13]) ⟨_, _, rfl⟩ ?_ ?_
  · rintro n x ρ hn ⟨v10, v11, rfl⟩
    obtain ⟨hn8, rfl⟩ := rgD_at hn
    rw [Int.zero_add]
    obtain ⟨x, y, z, ec⟩ := cut3 (L := L) (n := 3 * n + 27 * k) (by omega)
    rw [show ((3 * n + 27 * k : Nat) : Int) = 3 * (n : Int) + 27 * (k : Int) by omega] at ec
    obtain ⟨R, eR, hR⟩ := bent_ok w0 wl (a := a) (b := b) (c := c) (d := d) (e := e) (x := x) (y := y) (z := z)
    unfold l_law_1
    simp only [g_bind, g_ok, g_ofO, g_var, g_peek, g_frz, g_C, g_op, g_opF, g_tOf, g_B, g_BF, g_nil, g_cons, ok_ite, g_tup, g_lst, g_fz, g_call, g_callF, g_callV, g_callF0, g_seq, g_next, g_set, g_setF, g_setV, g_drop, g_ret, g_retF, g_retV, g_retO, g_if, g_append, g_extend, g_to, g_par, g_aug, g_any, g_noP, g_part, g_sl, g_slF, g_isI, g_m1, g_tAnd, g_tOr, g_tNot, g_and, g_or, g_not, g_neg, g_eif, g_tru, g_for, g_comp, g_run, okO_some, slV_va, slP_va, slP_ml, slZ_va, slZ_ml, slM_ml, isB_b, isI_i, isS_s, isL_l, itO_l, itO_t, itO_s, isVl_z, isVl_f, nxF_nx, nxF_rt, nxF_ro, nxF_bk, nxF_ct, endF_nx, endF_rt, endF_ro, okR_ok, okR_fr, okR_er, two_ok, stepF_nx, stepF_ct, stepF_bk, stepF_rt, stepF_ro, List.getElem?_cons_zero, List.getElem?_cons_succ, List.set_cons_zero, List.set_cons_succ, List.length_cons, List.length_nil, List.map_cons, List.map_nil, List.replicate_succ, List.replicate_zero, List.cons_append, List.nil_append, Nat.reduceAdd, Nat.reduceSub, Nat.reduceLeDiff, decide_eq_true_eq, addInt, subInt, ltInt, mulInt, modInt, divInt, powInt, shlInt, shrInt, eqInt, neInt, cmpInt, lenScr, lenLst, lenTup, idxScr, idxLst, idxTup, true_and, tgN, wipeR, g_chain, g_iseq, g_setIx, g_lix, g_m1F, Option.bind_some, g_callB, g_vz, slK_md, g_setD, g_dnew, g_din, g_dget, g_dput, g_pop, keyStr, keyInt, g_frm, isFrm5, idxFrm, okF_frm, g_fix, slN_mn, g_newN, g_inN, g_nget, g_nput, g_nget2, g_insert, g_tryKey, orE_some, orE_none, g_dpairs, g_ifV, g_repl, ec, eR]
    repeat (with_reducible refine And.intro (by first | decide | omega | exact cdiv (by first | decide | omega) (by first | decide | omega) | (apply cmul <;> omega) | assumption) ?_)
    refine same_next hB f hR ?_
    rw [stepF_nx]
    exact ⟨_, _, rfl⟩
  · rintro ρ ⟨v10, v11, rfl⟩
    exact hQ _ _
theorem one_loop (hB : BkOk B) (f : FmO a b c d e) (hL : L.length = 60) (hx : ∀ x ∈ L, 0 ≤ x ∧ x < 27720) (hQ : ∀ v6 v11, Q .nx [v0, v1, .va (.list (B.map itD)), .va (fmD a b c d e), .va (.list (L.map .int)), v5, v6, v7, v8, v9, v10, v11, v12, v13]) :
    Ok (sLoop (tgN 6) l_law_3 (rgD 0 8)) [v0, v1, .va (.list (B.map itD)), .va (fmD a b c d e), .va (.list (L.map .int)), v5, v6, v7, v8, v9, v10, v11, v12, v13] Q fun x _ => noX x := by
  refine loop_inv (fun _ ρ => ∃ v6 v11, ρ = [v0, v1, .va (.list (B.map itD)), .va (fmD a b c d e), .va (.list (L.map .int)), v5, v6, v7, v8, v9, v10, v11, v12, v13]) ⟨_, _, rfl⟩ ?_ ?_
  · rintro n x ρ hn ⟨v6, v11, rfl⟩
    obtain ⟨hn8, rfl⟩ := rgD_at hn
    rw [Int.zero_add]
    unfold l_law_3
    simp only [g_bind, g_ok, g_ofO, g_var, g_peek, g_frz, g_C, g_op, g_opF, g_tOf, g_B, g_BF, g_nil, g_cons, ok_ite, g_tup, g_lst, g_fz, g_call, g_callF, g_callV, g_callF0, g_seq, g_next, g_set, g_setF, g_setV, g_drop, g_ret, g_retF, g_retV, g_retO, g_if, g_append, g_extend, g_to, g_par, g_aug, g_any, g_noP, g_part, g_sl, g_slF, g_isI, g_m1, g_tAnd, g_tOr, g_tNot, g_and, g_or, g_not, g_neg, g_eif, g_tru, g_for, g_comp, g_run, okO_some, slV_va, slP_va, slP_ml, slZ_va, slZ_ml, slM_ml, isB_b, isI_i, isS_s, isL_l, itO_l, itO_t, itO_s, isVl_z, isVl_f, nxF_nx, nxF_rt, nxF_ro, nxF_bk, nxF_ct, endF_nx, endF_rt, endF_ro, okR_ok, okR_fr, okR_er, two_ok, stepF_nx, stepF_ct, stepF_bk, stepF_rt, stepF_ro, List.getElem?_cons_zero, List.getElem?_cons_succ, List.set_cons_zero, List.set_cons_succ, List.length_cons, List.length_nil, List.map_cons, List.map_nil, List.replicate_succ, List.replicate_zero, List.cons_append, List.nil_append, Nat.reduceAdd, Nat.reduceSub, Nat.reduceLeDiff, decide_eq_true_eq, addInt, subInt, ltInt, mulInt, modInt, divInt, powInt, shlInt, shrInt, eqInt, neInt, cmpInt, lenScr, lenLst, lenTup, idxScr, idxLst, idxTup, true_and, tgN, wipeR, g_chain, g_iseq, g_setIx, g_lix, g_m1F, Option.bind_some, g_callB, g_vz, slK_md, g_setD, g_dnew, g_din, g_dget, g_dput, g_pop, keyStr, keyInt, g_frm, isFrm5, idxFrm, okF_frm, g_fix, slN_mn, g_newN, g_inN, g_nget, g_nput, g_nget2, g_insert, g_tryKey, orE_some, orE_none, g_dpairs, g_ifV, g_repl, cut_map]
    refine ⟨by apply cmul <;> omega, ?_⟩
    have hcl := cut_len L (some (n : Int)) (some (2 * (n : Int)))
    generalize DL.cutD L (some (n : Int)) (some (2 * (n : Int))) = D at hcl
    refine okO_cL (P := fun y => ∃ x, y = .int x ∧ True) (fun d hd => ?_) fun ys hy1 hy2 => ?_
    · obtain ⟨x, hx, rfl⟩ := List.mem_map.mp hd
      obtain ⟨z, ez, _⟩ := atI_ints [a, b, c, d, e] (x % 5) (Int.emod_nonneg _ (by omega)) (Int.emod_lt_of_pos _ (by simp))
      simp only [List.map_cons, List.map_nil] at ez
      simp only [g_bind, g_ok, g_ofO, g_var, g_peek, g_frz, g_C, g_op, g_opF, g_tOf, g_B, g_BF, g_nil, g_cons, ok_ite, g_tup, g_lst, g_fz, g_call, g_callF, g_callV, g_callF0, g_seq, g_next, g_set, g_setF, g_setV, g_drop, g_ret, g_retF, g_retV, g_retO, g_if, g_append, g_extend, g_to, g_par, g_aug, g_any, g_noP, g_part, g_sl, g_slF, g_isI, g_m1, g_tAnd, g_tOr, g_tNot, g_and, g_or, g_not, g_neg, g_eif, g_tru, g_for, g_comp, g_run, okO_some, slV_va, slP_va, slP_ml, slZ_va, slZ_ml, slM_ml, isB_b, isI_i, isS_s, isL_l, itO_l, itO_t, itO_s, isVl_z, isVl_f, nxF_nx, nxF_rt, nxF_ro, nxF_bk, nxF_ct, endF_nx, endF_rt, endF_ro, okR_ok, okR_fr, okR_er, two_ok, stepF_nx, stepF_ct, stepF_bk, stepF_rt, stepF_ro, List.getElem?_cons_zero, List.getElem?_cons_succ, List.set_cons_zero, List.set_cons_succ, List.length_cons, List.length_nil, List.map_cons, List.map_nil, List.replicate_succ, List.replicate_zero, List.cons_append, List.nil_append, Nat.reduceAdd, Nat.reduceSub, Nat.reduceLeDiff, decide_eq_true_eq, addInt, subInt, ltInt, mulInt, modInt, divInt, powInt, shlInt, shrInt, eqInt, neInt, cmpInt, lenScr, lenLst, lenTup, idxScr, idxLst, idxTup, true_and, tgN, wipeR, g_chain, g_iseq, g_setIx, g_lix, g_m1F, Option.bind_some, g_callB, g_vz, slK_md, g_setD, g_dnew, g_din, g_dget, g_dput, g_pop, keyStr, keyInt, g_frm, isFrm5, idxFrm, okF_frm, g_fix, slN_mn, g_newN, g_inN, g_nget, g_nput, g_nget2, g_insert, g_tryKey, orE_some, orE_none, g_dpairs, g_ifV, g_repl, ez]
      exact ⟨by decide, _, rfl, trivial⟩
    obtain ⟨R, rfl, _⟩ := ints_of hy2
    rw [List.length_map, List.length_map] at hy1
    rw [List.length_map]
    refine ⟨by rw [sizeLine_eq]; omega, ?_⟩
    have een : enAD [.list (R.map .int)] = some (enD 0 (R.map .int)) := rfl
    unfold t_law_c1
    simp only [g_bind, g_ok, g_ofO, g_var, g_peek, g_frz, g_C, g_op, g_opF, g_tOf, g_B, g_BF, g_nil, g_cons, ok_ite, g_tup, g_lst, g_fz, g_call, g_callF, g_callV, g_callF0, g_seq, g_next, g_set, g_setF, g_setV, g_drop, g_ret, g_retF, g_retV, g_retO, g_if, g_append, g_extend, g_to, g_par, g_aug, g_any, g_noP, g_part, g_sl, g_slF, g_isI, g_m1, g_tAnd, g_tOr, g_tNot, g_and, g_or, g_not, g_neg, g_eif, g_tru, g_for, g_comp, g_run, okO_some, slV_va, slP_va, slP_ml, slZ_va, slZ_ml, slM_ml, isB_b, isI_i, isS_s, isL_l, itO_l, itO_t, itO_s, isVl_z, isVl_f, nxF_nx, nxF_rt, nxF_ro, nxF_bk, nxF_ct, endF_nx, endF_rt, endF_ro, okR_ok, okR_fr, okR_er, two_ok, stepF_nx, stepF_ct, stepF_bk, stepF_rt, stepF_ro, List.getElem?_cons_zero, List.getElem?_cons_succ, List.set_cons_zero, List.set_cons_succ, List.length_cons, List.length_nil, List.map_cons, List.map_nil, List.replicate_succ, List.replicate_zero, List.cons_append, List.nil_append, Nat.reduceAdd, Nat.reduceSub, Nat.reduceLeDiff, decide_eq_true_eq, addInt, subInt, ltInt, mulInt, modInt, divInt, powInt, shlInt, shrInt, eqInt, neInt, cmpInt, lenScr, lenLst, lenTup, idxScr, idxLst, idxTup, true_and, tgN, wipeR, g_chain, g_iseq, g_setIx, g_lix, g_m1F, Option.bind_some, g_callB, g_vz, slK_md, g_setD, g_dnew, g_din, g_dget, g_dput, g_pop, keyStr, keyInt, g_frm, isFrm5, idxFrm, okF_frm, g_fix, slN_mn, g_newN, g_inN, g_nget, g_nput, g_nget2, g_insert, g_tryKey, orE_some, orE_none, g_dpairs, g_ifV, g_repl, een]
    refine okO_cL (P := fun y => ∃ x, y = .int x ∧ True) (fun d hd => ?_) fun ys hz1 hz2 => ?_
    · obtain ⟨i, hi⟩ := List.getElem?_of_mem hd
      obtain ⟨y, hy, rfl⟩ := enD_at hi
      rw [List.getElem?_map] at hy
      cases hai : R[i]? with
      | none => rw [hai] at hy; cases hy
      | some x =>
        rw [hai] at hy
        cases hy
        have hil : i < R.length := (List.getElem?_eq_some_iff.mp hai).1
        obtain ⟨p, g, q1, q2⟩ := draw_at hx i (by omega)
        have p0 := Int.emod_nonneg p (b := 3) (by omega)
        have p1 := Int.emod_lt_of_pos p (b := 3) (by omega)
        obtain ⟨z, ez, _⟩ := atI_ints [a, b, c, d, e] (2 + p % 3) (by omega) (by simp; omega)
        simp only [List.map_cons, List.map_nil] at ez
        simp only [g_bind, g_ok, g_ofO, g_var, g_peek, g_frz, g_C, g_op, g_opF, g_tOf, g_B, g_BF, g_nil, g_cons, ok_ite, g_tup, g_lst, g_fz, g_call, g_callF, g_callV, g_callF0, g_seq, g_next, g_set, g_setF, g_setV, g_drop, g_ret, g_retF, g_retV, g_retO, g_if, g_append, g_extend, g_to, g_par, g_aug, g_any, g_noP, g_part, g_sl, g_slF, g_isI, g_m1, g_tAnd, g_tOr, g_tNot, g_and, g_or, g_not, g_neg, g_eif, g_tru, g_for, g_comp, g_run, okO_some, slV_va, slP_va, slP_ml, slZ_va, slZ_ml, slM_ml, isB_b, isI_i, isS_s, isL_l, itO_l, itO_t, itO_s, isVl_z, isVl_f, nxF_nx, nxF_rt, nxF_ro, nxF_bk, nxF_ct, endF_nx, endF_rt, endF_ro, okR_ok, okR_fr, okR_er, two_ok, stepF_nx, stepF_ct, stepF_bk, stepF_rt, stepF_ro, List.getElem?_cons_zero, List.getElem?_cons_succ, List.set_cons_zero, List.set_cons_succ, List.length_cons, List.length_nil, List.map_cons, List.map_nil, List.replicate_succ, List.replicate_zero, List.cons_append, List.nil_append, Nat.reduceAdd, Nat.reduceSub, Nat.reduceLeDiff, decide_eq_true_eq, addInt, subInt, ltInt, mulInt, modInt, divInt, powInt, shlInt, shrInt, eqInt, neInt, cmpInt, lenScr, lenLst, lenTup, idxScr, idxLst, idxTup, true_and, tgN, wipeR, g_chain, g_iseq, g_setIx, g_lix, g_m1F, Option.bind_some, g_callB, g_vz, slK_md, g_setD, g_dnew, g_din, g_dget, g_dput, g_pop, keyStr, keyInt, g_frm, isFrm5, idxFrm, okF_frm, g_fix, slN_mn, g_newN, g_inN, g_nget, g_nput, g_nget2, g_insert, g_tryKey, orE_some, orE_none, g_dpairs, g_ifV, g_repl, tgT, tgL, g, ez]
        refine ⟨by decide, ?_⟩
        split
        · exact ⟨_, rfl, trivial⟩
        · first | exact ⟨by decide, _, rfl, trivial⟩ | exact ⟨trivial, by decide, _, rfl, trivial⟩ | exact ⟨_, rfl, trivial⟩
    obtain ⟨S, rfl, _⟩ := ints_of hz2
    have hen : ∀ (ds : List Dt) (k : Nat), (enD k ds).length = ds.length := by
      intro ds
      induction ds with
      | nil => intro k; rfl
      | cons d ds ih => intro k; rw [enD, List.length_cons, List.length_cons, ih]
    rw [List.length_map, hen, List.length_map] at hz1
    rw [hen, List.length_map]
    refine ⟨by rw [sizeLine_eq]; omega, ?_⟩
    show Ok t_law_a1 _ _ _
    refine same_next hB f (by omega) ?_
    rw [stepF_nx]
    exact ⟨_, _, rfl⟩
  · rintro ρ ⟨v6, v11, rfl⟩
    exact hQ _ _
/-- what is known of texts by their weights -/
def Kn (B : Bk) (a b c d e : Int) (kvs : List (NestedKey × Dt)) : Prop := ∀ G x, valN kvs (.tup (G.map .num)) = some x → x = txD (outT B a b c d e G)
theorem k_loop (hB : BkOk B) (hB0 : B ≠ []) (f : FmO a b c d e) {ns : List Int} {n : Nat} (hn : n < 2) (hL : L.length = 60) (hQ : ∀ v5 v6 v7 v8 v9 v10 v11, Q .nx [.va (scr ns), .va (.int (n : Int)), .va (.list (B.map itD)), .va (fmD a b c d e), .va (.list (L.map .int)), v5, v6, v7, v8, v9, v10, v11, v12, v13]) :
    Ok (sLoop (tgN 6) l_law_2 (rgD 0 2)) [.va (scr ns), .va (.int (n : Int)), .va (.list (B.map itD)), .va (fmD a b c d e), .va (.list (L.map .int)), .mn [], v6, v7, v8, v9, v10, v11, v12, v13] Q fun x _ => noX x := by
  have er8 : rg1D [.int 8] = some (rgD 0 8) := rfl
  refine loop_inv (fun m ρ => ∃ kvs v6 v7 v8 v9 v10 v11, (Kn B a b c d e kvs ∧ kvs.length ≤ m) ∧ ρ = [.va (scr ns), .va (.int (n : Int)), .va (.list (B.map itD)), .va (fmD a b c d e), .va (.list (L.map .int)), .mn kvs, v6, v7, v8, v9, v10, v11, v12, v13]) ⟨[], _, _, _, _, _, _, ⟨fun _ _ h => (nomatch h), Nat.le_refl _⟩, rfl⟩ ?_ ?_
  · rintro k x ρ hk ⟨kvs, v6, v7, v8, v9, v10, v11, ⟨hK, hkl⟩, rfl⟩
    obtain ⟨hk2, rfl⟩ := rgD_at hk
    rw [Int.zero_add]
    obtain ⟨W, eW, hW, hs, hj⟩ := text_ok ns (6 * n + 3 + 2 * k) 14 hB0 (by omega) (by omega) (by decide) (by decide)
    have h32 : ∀ w ∈ W, 32 ∉ w := fun w hw h => by
      have := (hW.w w hw).2 32 h
      obtain ⟨x, hx, e⟩ := List.mem_map.mp this
      exact alpha_no (e ▸ hB.sg x hx)
    have hg : W.all (goodB B) = true := List.all_eq_true.mpr fun w hw => good_iff.mpr (hW.w w hw)
    have e1 := (weights_of_X hB hW.ne h32 (by omega) a b c d e).1 hg
    have ho := there_back hB f hW
    have hne := textG_ne hB (a := a) (b := b) (c := c) (d := d) (e := e) hW
    have hGl := textG_len hB a b c d e W 0 fun w hw => (hW.w w hw).2
    generalize textG B a b c d e 0 W = G at e1 ho hne hGl
    have hGl : G.length ≤ 3000 := by omega
    have el : listD [.list (G.map .int)] = some (G.map .int) := rfl
    have eo := text_of_ok hB f (L := G) (by omega)
    rw [ho] at eo
    have etx : txD (some (TL.joinL [32] W)) = .str (txS W) := rfl
    rw [etx] at eo
    have n1 : neD (.str (txS W)) (.str (txS W)) = some (.bool false) := ne_same rfl
    have n2 : neD (.list (G.map .int)) (.list (G.map .int)) = some (.bool false) := ne_same (okD_ints G)
    have et : tupD [.list (G.map .int)] = some (.tuple (G.map .int)) := rfl
    have ek := key_ints G
    have ev : (valN kvs (.tup (G.map .num))).getD (.str (txS W)) = .str (txS W) := by
      cases hv : valN kvs (.tup (G.map .num)) with
      | none => rfl
      | some y => have := hK G y hv; rw [ho] at this; exact this
    unfold l_law_2
    simp only [g_bind, g_ok, g_ofO, g_var, g_peek, g_frz, g_C, g_op, g_opF, g_tOf, g_B, g_BF, g_nil, g_cons, ok_ite, g_tup, g_lst, g_fz, g_call, g_callF, g_callV, g_callF0, g_seq, g_next, g_set, g_setF, g_setV, g_drop, g_ret, g_retF, g_retV, g_retO, g_if, g_append, g_extend, g_to, g_par, g_aug, g_any, g_noP, g_part, g_sl, g_slF, g_isI, g_m1, g_tAnd, g_tOr, g_tNot, g_and, g_or, g_not, g_neg, g_eif, g_tru, g_for, g_comp, g_run, okO_some, slV_va, slP_va, slP_ml, slZ_va, slZ_ml, slM_ml, isB_b, isI_i, isS_s, isL_l, itO_l, itO_t, itO_s, isVl_z, isVl_f, nxF_nx, nxF_rt, nxF_ro, nxF_bk, nxF_ct, endF_nx, endF_rt, endF_ro, okR_ok, okR_fr, okR_er, two_ok, stepF_nx, stepF_ct, stepF_bk, stepF_rt, stepF_ro, List.getElem?_cons_zero, List.getElem?_cons_succ, List.set_cons_zero, List.set_cons_succ, List.length_cons, List.length_nil, List.map_cons, List.map_nil, List.replicate_succ, List.replicate_zero, List.cons_append, List.nil_append, Nat.reduceAdd, Nat.reduceSub, Nat.reduceLeDiff, decide_eq_true_eq, addInt, subInt, ltInt, mulInt, modInt, divInt, powInt, shlInt, shrInt, eqInt, neInt, cmpInt, lenScr, lenLst, lenTup, idxScr, idxLst, idxTup, true_and, tgN, wipeR, g_chain, g_iseq, g_setIx, g_lix, g_m1F, Option.bind_some, g_callB, g_vz, slK_md, g_setD, g_dnew, g_din, g_dget, g_dput, g_pop, keyStr, keyInt, g_frm, isFrm5, idxFrm, okF_frm, g_fix, slN_mn, g_newN, g_inN, g_nget, g_nput, g_nget2, g_insert, g_tryKey, orE_some, orE_none, g_dpairs, g_ifV, g_repl, eW]
    repeat (with_reducible refine And.intro (by first | decide | omega | exact cdiv (by first | decide | omega) (by first | decide | omega) | (apply cmul <;> omega) | assumption) ?_)
    unfold t_law_b1
    simp only [g_bind, g_ok, g_ofO, g_var, g_peek, g_frz, g_C, g_op, g_opF, g_tOf, g_B, g_BF, g_nil, g_cons, ok_ite, g_tup, g_lst, g_fz, g_call, g_callF, g_callV, g_callF0, g_seq, g_next, g_set, g_setF, g_setV, g_drop, g_ret, g_retF, g_retV, g_retO, g_if, g_append, g_extend, g_to, g_par, g_aug, g_any, g_noP, g_part, g_sl, g_slF, g_isI, g_m1, g_tAnd, g_tOr, g_tNot, g_and, g_or, g_not, g_neg, g_eif, g_tru, g_for, g_comp, g_run, okO_some, slV_va, slP_va, slP_ml, slZ_va, slZ_ml, slM_ml, isB_b, isI_i, isS_s, isL_l, itO_l, itO_t, itO_s, isVl_z, isVl_f, nxF_nx, nxF_rt, nxF_ro, nxF_bk, nxF_ct, endF_nx, endF_rt, endF_ro, okR_ok, okR_fr, okR_er, two_ok, stepF_nx, stepF_ct, stepF_bk, stepF_rt, stepF_ro, List.getElem?_cons_zero, List.getElem?_cons_succ, List.set_cons_zero, List.set_cons_succ, List.length_cons, List.length_nil, List.map_cons, List.map_nil, List.replicate_succ, List.replicate_zero, List.cons_append, List.nil_append, Nat.reduceAdd, Nat.reduceSub, Nat.reduceLeDiff, decide_eq_true_eq, addInt, subInt, ltInt, mulInt, modInt, divInt, powInt, shlInt, shrInt, eqInt, neInt, cmpInt, lenScr, lenLst, lenTup, idxScr, idxLst, idxTup, true_and, tgN, wipeR, g_chain, g_iseq, g_setIx, g_lix, g_m1F, Option.bind_some, g_callB, g_vz, slK_md, g_setD, g_dnew, g_din, g_dget, g_dput, g_pop, keyStr, keyInt, g_frm, isFrm5, idxFrm, okF_frm, g_fix, slN_mn, g_newN, g_inN, g_nget, g_nput, g_nget2, g_insert, g_tryKey, orE_some, orE_none, g_dpairs, g_ifV, g_repl, e1]
    unfold t_law_b2
    simp only [g_bind, g_ok, g_ofO, g_var, g_peek, g_frz, g_C, g_op, g_opF, g_tOf, g_B, g_BF, g_nil, g_cons, ok_ite, g_tup, g_lst, g_fz, g_call, g_callF, g_callV, g_callF0, g_seq, g_next, g_set, g_setF, g_setV, g_drop, g_ret, g_retF, g_retV, g_retO, g_if, g_append, g_extend, g_to, g_par, g_aug, g_any, g_noP, g_part, g_sl, g_slF, g_isI, g_m1, g_tAnd, g_tOr, g_tNot, g_and, g_or, g_not, g_neg, g_eif, g_tru, g_for, g_comp, g_run, okO_some, slV_va, slP_va, slP_ml, slZ_va, slZ_ml, slM_ml, isB_b, isI_i, isS_s, isL_l, itO_l, itO_t, itO_s, isVl_z, isVl_f, nxF_nx, nxF_rt, nxF_ro, nxF_bk, nxF_ct, endF_nx, endF_rt, endF_ro, okR_ok, okR_fr, okR_er, two_ok, stepF_nx, stepF_ct, stepF_bk, stepF_rt, stepF_ro, List.getElem?_cons_zero, List.getElem?_cons_succ, List.set_cons_zero, List.set_cons_succ, List.length_cons, List.length_nil, List.map_cons, List.map_nil, List.replicate_succ, List.replicate_zero, List.cons_append, List.nil_append, Nat.reduceAdd, Nat.reduceSub, Nat.reduceLeDiff, decide_eq_true_eq, addInt, subInt, ltInt, mulInt, modInt, divInt, powInt, shlInt, shrInt, eqInt, neInt, cmpInt, lenScr, lenLst, lenTup, idxScr, idxLst, idxTup, true_and, tgN, wipeR, g_chain, g_iseq, g_setIx, g_lix, g_m1F, Option.bind_some, g_callB, g_vz, slK_md, g_setD, g_dnew, g_din, g_dget, g_dput, g_pop, keyStr, keyInt, g_frm, isFrm5, idxFrm, okF_frm, g_fix, slN_mn, g_newN, g_inN, g_nget, g_nput, g_nget2, g_insert, g_tryKey, orE_some, orE_none, g_dpairs, g_ifV, g_repl, el]
    unfold t_law_b3
    simp only [g_bind, g_ok, g_ofO, g_var, g_peek, g_frz, g_C, g_op, g_opF, g_tOf, g_B, g_BF, g_nil, g_cons, ok_ite, g_tup, g_lst, g_fz, g_call, g_callF, g_callV, g_callF0, g_seq, g_next, g_set, g_setF, g_setV, g_drop, g_ret, g_retF, g_retV, g_retO, g_if, g_append, g_extend, g_to, g_par, g_aug, g_any, g_noP, g_part, g_sl, g_slF, g_isI, g_m1, g_tAnd, g_tOr, g_tNot, g_and, g_or, g_not, g_neg, g_eif, g_tru, g_for, g_comp, g_run, okO_some, slV_va, slP_va, slP_ml, slZ_va, slZ_ml, slM_ml, isB_b, isI_i, isS_s, isL_l, itO_l, itO_t, itO_s, isVl_z, isVl_f, nxF_nx, nxF_rt, nxF_ro, nxF_bk, nxF_ct, endF_nx, endF_rt, endF_ro, okR_ok, okR_fr, okR_er, two_ok, stepF_nx, stepF_ct, stepF_bk, stepF_rt, stepF_ro, List.getElem?_cons_zero, List.getElem?_cons_succ, List.set_cons_zero, List.set_cons_succ, List.length_cons, List.length_nil, List.map_cons, List.map_nil, List.replicate_succ, List.replicate_zero, List.cons_append, List.nil_append, Nat.reduceAdd, Nat.reduceSub, Nat.reduceLeDiff, decide_eq_true_eq, addInt, subInt, ltInt, mulInt, modInt, divInt, powInt, shlInt, shrInt, eqInt, neInt, cmpInt, lenScr, lenLst, lenTup, idxScr, idxLst, idxTup, true_and, tgN, wipeR, g_chain, g_iseq, g_setIx, g_lix, g_m1F, Option.bind_some, g_callB, g_vz, slK_md, g_setD, g_dnew, g_din, g_dget, g_dput, g_pop, keyStr, keyInt, g_frm, isFrm5, idxFrm, okF_frm, g_fix, slN_mn, g_newN, g_inN, g_nget, g_nput, g_nget2, g_insert, g_tryKey, orE_some, orE_none, g_dpairs, g_ifV, g_repl, eo, n1, n2, decide_true, decide_false, Bool.not_true, Bool.not_false, Bool.false_eq_true, if_false, if_true, Bool.true_and, Bool.and_true, Bool.false_and, Bool.and_false, Bool.true_or, Bool.false_or, Bool.or_true, Bool.or_false, eq_self, true_and, and_true, bne_self_eq_false, Bool.true_eq_false]
    unfold t_law_b4
    simp only [g_bind, g_ok, g_ofO, g_var, g_peek, g_frz, g_C, g_op, g_opF, g_tOf, g_B, g_BF, g_nil, g_cons, ok_ite, g_tup, g_lst, g_fz, g_call, g_callF, g_callV, g_callF0, g_seq, g_next, g_set, g_setF, g_setV, g_drop, g_ret, g_retF, g_retV, g_retO, g_if, g_append, g_extend, g_to, g_par, g_aug, g_any, g_noP, g_part, g_sl, g_slF, g_isI, g_m1, g_tAnd, g_tOr, g_tNot, g_and, g_or, g_not, g_neg, g_eif, g_tru, g_for, g_comp, g_run, okO_some, slV_va, slP_va, slP_ml, slZ_va, slZ_ml, slM_ml, isB_b, isI_i, isS_s, isL_l, itO_l, itO_t, itO_s, isVl_z, isVl_f, nxF_nx, nxF_rt, nxF_ro, nxF_bk, nxF_ct, endF_nx, endF_rt, endF_ro, okR_ok, okR_fr, okR_er, two_ok, stepF_nx, stepF_ct, stepF_bk, stepF_rt, stepF_ro, List.getElem?_cons_zero, List.getElem?_cons_succ, List.set_cons_zero, List.set_cons_succ, List.length_cons, List.length_nil, List.map_cons, List.map_nil, List.replicate_succ, List.replicate_zero, List.cons_append, List.nil_append, Nat.reduceAdd, Nat.reduceSub, Nat.reduceLeDiff, decide_eq_true_eq, addInt, subInt, ltInt, mulInt, modInt, divInt, powInt, shlInt, shrInt, eqInt, neInt, cmpInt, lenScr, lenLst, lenTup, idxScr, idxLst, idxTup, true_and, tgN, wipeR, g_chain, g_iseq, g_setIx, g_lix, g_m1F, Option.bind_some, g_callB, g_vz, slK_md, g_setD, g_dnew, g_din, g_dget, g_dput, g_pop, keyStr, keyInt, g_frm, isFrm5, idxFrm, okF_frm, g_fix, slN_mn, g_newN, g_inN, g_nget, g_nput, g_nget2, g_insert, g_tryKey, orE_some, orE_none, g_dpairs, g_ifV, g_repl, et, ek, ev, n1, decide_true, decide_false, Bool.not_true, Bool.not_false, Bool.false_eq_true, if_false, if_true, Bool.true_and, Bool.and_true, Bool.false_and, Bool.and_false, Bool.true_or, Bool.false_or, Bool.or_true, Bool.or_false, eq_self, true_and, and_true, bne_self_eq_false, Bool.true_eq_false]
    unfold t_law_b5
    simp only [g_bind, g_ok, g_ofO, g_var, g_peek, g_frz, g_C, g_op, g_opF, g_tOf, g_B, g_BF, g_nil, g_cons, ok_ite, g_tup, g_lst, g_fz, g_call, g_callF, g_callV, g_callF0, g_seq, g_next, g_set, g_setF, g_setV, g_drop, g_ret, g_retF, g_retV, g_retO, g_if, g_append, g_extend, g_to, g_par, g_aug, g_any, g_noP, g_part, g_sl, g_slF, g_isI, g_m1, g_tAnd, g_tOr, g_tNot, g_and, g_or, g_not, g_neg, g_eif, g_tru, g_for, g_comp, g_run, okO_some, slV_va, slP_va, slP_ml, slZ_va, slZ_ml, slM_ml, isB_b, isI_i, isS_s, isL_l, itO_l, itO_t, itO_s, isVl_z, isVl_f, nxF_nx, nxF_rt, nxF_ro, nxF_bk, nxF_ct, endF_nx, endF_rt, endF_ro, okR_ok, okR_fr, okR_er, two_ok, stepF_nx, stepF_ct, stepF_bk, stepF_rt, stepF_ro, List.getElem?_cons_zero, List.getElem?_cons_succ, List.set_cons_zero, List.set_cons_succ, List.length_cons, List.length_nil, List.map_cons, List.map_nil, List.replicate_succ, List.replicate_zero, List.cons_append, List.nil_append, Nat.reduceAdd, Nat.reduceSub, Nat.reduceLeDiff, decide_eq_true_eq, addInt, subInt, ltInt, mulInt, modInt, divInt, powInt, shlInt, shrInt, eqInt, neInt, cmpInt, lenScr, lenLst, lenTup, idxScr, idxLst, idxTup, true_and, tgN, wipeR, g_chain, g_iseq, g_setIx, g_lix, g_m1F, Option.bind_some, g_callB, g_vz, slK_md, g_setD, g_dnew, g_din, g_dget, g_dput, g_pop, keyStr, keyInt, g_frm, isFrm5, idxFrm, okF_frm, g_fix, slN_mn, g_newN, g_inN, g_nget, g_nput, g_nget2, g_insert, g_tryKey, orE_some, orE_none, g_dpairs, g_ifV, g_repl, et, ek]
    refine ⟨by rw [sizeLine_eq]; omega, ?_⟩
    unfold t_law_b6
    simp only [g_bind, g_ok, g_ofO, g_var, g_peek, g_frz, g_C, g_op, g_opF, g_tOf, g_B, g_BF, g_nil, g_cons, ok_ite, g_tup, g_lst, g_fz, g_call, g_callF, g_callV, g_callF0, g_seq, g_next, g_set, g_setF, g_setV, g_drop, g_ret, g_retF, g_retV, g_retO, g_if, g_append, g_extend, g_to, g_par, g_aug, g_any, g_noP, g_part, g_sl, g_slF, g_isI, g_m1, g_tAnd, g_tOr, g_tNot, g_and, g_or, g_not, g_neg, g_eif, g_tru, g_for, g_comp, g_run, okO_some, slV_va, slP_va, slP_ml, slZ_va, slZ_ml, slM_ml, isB_b, isI_i, isS_s, isL_l, itO_l, itO_t, itO_s, isVl_z, isVl_f, nxF_nx, nxF_rt, nxF_ro, nxF_bk, nxF_ct, endF_nx, endF_rt, endF_ro, okR_ok, okR_fr, okR_er, two_ok, stepF_nx, stepF_ct, stepF_bk, stepF_rt, stepF_ro, List.getElem?_cons_zero, List.getElem?_cons_succ, List.set_cons_zero, List.set_cons_succ, List.length_cons, List.length_nil, List.map_cons, List.map_nil, List.replicate_succ, List.replicate_zero, List.cons_append, List.nil_append, Nat.reduceAdd, Nat.reduceSub, Nat.reduceLeDiff, decide_eq_true_eq, addInt, subInt, ltInt, mulInt, modInt, divInt, powInt, shlInt, shrInt, eqInt, neInt, cmpInt, lenScr, lenLst, lenTup, idxScr, idxLst, idxTup, true_and, tgN, wipeR, g_chain, g_iseq, g_setIx, g_lix, g_m1F, Option.bind_some, g_callB, g_vz, slK_md, g_setD, g_dnew, g_din, g_dget, g_dput, g_pop, keyStr, keyInt, g_frm, isFrm5, idxFrm, okF_frm, g_fix, slN_mn, g_newN, g_inN, g_nget, g_nput, g_nget2, g_insert, g_tryKey, orE_some, orE_none, g_dpairs, g_ifV, g_repl, er8]
    refine j_loop hB f hL hk2 hne hGl fun v10 v11 => ?_
    rw [stepF_nx]
    refine ⟨_, _, _, _, _, _, _, ⟨fun K x h => ?_, Nat.le_trans put_len (by omega)⟩, rfl⟩
    rcases val_put h with ⟨h1, rfl⟩ | h
    · rw [num_inj h1, ho]; rfl
    · exact hK K x h
  · rintro ρ ⟨kvs, v6, v7, v8, v9, v10, v11, _, rfl⟩
    exact hQ _ _ _ _ _ _ _
end
theorem law_true (ns : List Int) (h : ns.length ≤ 63) : m_law [scr ns] = .ok (.bool true) := by
  refine okR_eq ?_
  unfold m_law b_law
  have er : rg1D [.int 2] = some (rgD 0 2) := rfl
  have er8 : rg1D [.int 8] = some (rgD 0 8) := rfl
  simp only [g_bind, g_ok, g_ofO, g_var, g_peek, g_frz, g_C, g_op, g_opF, g_tOf, g_B, g_BF, g_nil, g_cons, ok_ite, g_tup, g_lst, g_fz, g_call, g_callF, g_callV, g_callF0, g_seq, g_next, g_set, g_setF, g_setV, g_drop, g_ret, g_retF, g_retV, g_retO, g_if, g_append, g_extend, g_to, g_par, g_aug, g_any, g_noP, g_part, g_sl, g_slF, g_isI, g_m1, g_tAnd, g_tOr, g_tNot, g_and, g_or, g_not, g_neg, g_eif, g_tru, g_for, g_comp, g_run, okO_some, slV_va, slP_va, slP_ml, slZ_va, slZ_ml, slM_ml, isB_b, isI_i, isS_s, isL_l, itO_l, itO_t, itO_s, isVl_z, isVl_f, nxF_nx, nxF_rt, nxF_ro, nxF_bk, nxF_ct, endF_nx, endF_rt, endF_ro, okR_ok, okR_fr, okR_er, two_ok, stepF_nx, stepF_ct, stepF_bk, stepF_rt, stepF_ro, List.getElem?_cons_zero, List.getElem?_cons_succ, List.set_cons_zero, List.set_cons_succ, List.length_cons, List.length_nil, List.map_cons, List.map_nil, List.replicate_succ, List.replicate_zero, List.cons_append, List.nil_append, Nat.reduceAdd, Nat.reduceSub, Nat.reduceLeDiff, decide_eq_true_eq, addInt, subInt, ltInt, mulInt, modInt, divInt, powInt, shlInt, shrInt, eqInt, neInt, cmpInt, lenScr, lenLst, lenTup, idxScr, idxLst, idxTup, true_and, tgN, wipeR, g_chain, g_iseq, g_setIx, g_lix, g_m1F, Option.bind_some, g_callB, g_vz, slK_md, g_setD, g_dnew, g_din, g_dget, g_dput, g_pop, keyStr, keyInt, g_frm, isFrm5, idxFrm, okF_frm, g_fix, slN_mn, g_newN, g_inN, g_nget, g_nput, g_nget2, g_insert, g_tryKey, orE_some, orE_none, g_dpairs, g_ifV, g_repl, er]
  refine loop_inv (fun n ρ => n ≤ 2 ∧ ∃ v1 v2 v3 v4 v5 v6 v7 v8 v9 v10 v11 v12 v13, ρ = [.va (scr ns), v1, v2, v3, v4, v5, v6, v7, v8, v9, v10, v11, v12, v13]) ⟨by decide, _, _, _, _, _, _, _, _, _, _, _, _, _, rfl⟩ ?_ ?_
  · rintro n x ρ hn ⟨_, v1, v2, v3, v4, v5, v6, v7, v8, v9, v10, v11, v12, v13, rfl⟩
    obtain ⟨hn2, rfl⟩ := rgD_at hn
    rw [Int.zero_add]
    obtain ⟨most, em, m1, m2⟩ : ∃ most : Int, atI [PyData.int 9, .int 36] (n : Int) = some (.int most) ∧ 1 ≤ most ∧ most ≤ 36 := by
      match n, hn2 with
      | 0, _ => exact ⟨9, rfl, by decide, by decide⟩
      | 1, _ => exact ⟨36, rfl, by decide, by decide⟩
    obtain ⟨B, eB, hB, hB0, _⟩ := book_ok ns (6 * n) most (by omega) (by omega) m1 m2
    obtain ⟨a, b, c, d, e, ef, f⟩ := form_ok ns (6 * n + 2) (by omega) (by omega)
    obtain ⟨L, eL, hl, hx⟩ := draws_ok ns (6 * n + 4) 60 27720 (by omega) (by omega) (by decide) (by decide) (by decide) (by decide)
    unfold l_law_4
    simp only [g_bind, g_ok, g_ofO, g_var, g_peek, g_frz, g_C, g_op, g_opF, g_tOf, g_B, g_BF, g_nil, g_cons, ok_ite, g_tup, g_lst, g_fz, g_call, g_callF, g_callV, g_callF0, g_seq, g_next, g_set, g_setF, g_setV, g_drop, g_ret, g_retF, g_retV, g_retO, g_if, g_append, g_extend, g_to, g_par, g_aug, g_any, g_noP, g_part, g_sl, g_slF, g_isI, g_m1, g_tAnd, g_tOr, g_tNot, g_and, g_or, g_not, g_neg, g_eif, g_tru, g_for, g_comp, g_run, okO_some, slV_va, slP_va, slP_ml, slZ_va, slZ_ml, slM_ml, isB_b, isI_i, isS_s, isL_l, itO_l, itO_t, itO_s, isVl_z, isVl_f, nxF_nx, nxF_rt, nxF_ro, nxF_bk, nxF_ct, endF_nx, endF_rt, endF_ro, okR_ok, okR_fr, okR_er, two_ok, stepF_nx, stepF_ct, stepF_bk, stepF_rt, stepF_ro, List.getElem?_cons_zero, List.getElem?_cons_succ, List.set_cons_zero, List.set_cons_succ, List.length_cons, List.length_nil, List.map_cons, List.map_nil, List.replicate_succ, List.replicate_zero, List.cons_append, List.nil_append, Nat.reduceAdd, Nat.reduceSub, Nat.reduceLeDiff, decide_eq_true_eq, addInt, subInt, ltInt, mulInt, modInt, divInt, powInt, shlInt, shrInt, eqInt, neInt, cmpInt, lenScr, lenLst, lenTup, idxScr, idxLst, idxTup, true_and, tgN, wipeR, g_chain, g_iseq, g_setIx, g_lix, g_m1F, Option.bind_some, g_callB, g_vz, slK_md, g_setD, g_dnew, g_din, g_dget, g_dput, g_pop, keyStr, keyInt, g_frm, isFrm5, idxFrm, okF_frm, g_fix, slN_mn, g_newN, g_inN, g_nget, g_nput, g_nget2, g_insert, g_tryKey, orE_some, orE_none, g_dpairs, g_ifV, g_repl, em, eB]
    repeat (with_reducible refine And.intro (by first | decide | omega | exact cdiv (by first | decide | omega) (by first | decide | omega) | (apply cmul <;> omega) | assumption) ?_)
    unfold t_law_d1
    simp only [g_bind, g_ok, g_ofO, g_var, g_peek, g_frz, g_C, g_op, g_opF, g_tOf, g_B, g_BF, g_nil, g_cons, ok_ite, g_tup, g_lst, g_fz, g_call, g_callF, g_callV, g_callF0, g_seq, g_next, g_set, g_setF, g_setV, g_drop, g_ret, g_retF, g_retV, g_retO, g_if, g_append, g_extend, g_to, g_par, g_aug, g_any, g_noP, g_part, g_sl, g_slF, g_isI, g_m1, g_tAnd, g_tOr, g_tNot, g_and, g_or, g_not, g_neg, g_eif, g_tru, g_for, g_comp, g_run, okO_some, slV_va, slP_va, slP_ml, slZ_va, slZ_ml, slM_ml, isB_b, isI_i, isS_s, isL_l, itO_l, itO_t, itO_s, isVl_z, isVl_f, nxF_nx, nxF_rt, nxF_ro, nxF_bk, nxF_ct, endF_nx, endF_rt, endF_ro, okR_ok, okR_fr, okR_er, two_ok, stepF_nx, stepF_ct, stepF_bk, stepF_rt, stepF_ro, List.getElem?_cons_zero, List.getElem?_cons_succ, List.set_cons_zero, List.set_cons_succ, List.length_cons, List.length_nil, List.map_cons, List.map_nil, List.replicate_succ, List.replicate_zero, List.cons_append, List.nil_append, Nat.reduceAdd, Nat.reduceSub, Nat.reduceLeDiff, decide_eq_true_eq, addInt, subInt, ltInt, mulInt, modInt, divInt, powInt, shlInt, shrInt, eqInt, neInt, cmpInt, lenScr, lenLst, lenTup, idxScr, idxLst, idxTup, true_and, tgN, wipeR, g_chain, g_iseq, g_setIx, g_lix, g_m1F, Option.bind_some, g_callB, g_vz, slK_md, g_setD, g_dnew, g_din, g_dget, g_dput, g_pop, keyStr, keyInt, g_frm, isFrm5, idxFrm, okF_frm, g_fix, slN_mn, g_newN, g_inN, g_nget, g_nput, g_nget2, g_insert, g_tryKey, orE_some, orE_none, g_dpairs, g_ifV, g_repl, ef]
    repeat (with_reducible refine And.intro (by first | decide | omega | exact cdiv (by first | decide | omega) (by first | decide | omega) | (apply cmul <;> omega) | assumption) ?_)
    unfold t_law_d2
    simp only [g_bind, g_ok, g_ofO, g_var, g_peek, g_frz, g_C, g_op, g_opF, g_tOf, g_B, g_BF, g_nil, g_cons, ok_ite, g_tup, g_lst, g_fz, g_call, g_callF, g_callV, g_callF0, g_seq, g_next, g_set, g_setF, g_setV, g_drop, g_ret, g_retF, g_retV, g_retO, g_if, g_append, g_extend, g_to, g_par, g_aug, g_any, g_noP, g_part, g_sl, g_slF, g_isI, g_m1, g_tAnd, g_tOr, g_tNot, g_and, g_or, g_not, g_neg, g_eif, g_tru, g_for, g_comp, g_run, okO_some, slV_va, slP_va, slP_ml, slZ_va, slZ_ml, slM_ml, isB_b, isI_i, isS_s, isL_l, itO_l, itO_t, itO_s, isVl_z, isVl_f, nxF_nx, nxF_rt, nxF_ro, nxF_bk, nxF_ct, endF_nx, endF_rt, endF_ro, okR_ok, okR_fr, okR_er, two_ok, stepF_nx, stepF_ct, stepF_bk, stepF_rt, stepF_ro, List.getElem?_cons_zero, List.getElem?_cons_succ, List.set_cons_zero, List.set_cons_succ, List.length_cons, List.length_nil, List.map_cons, List.map_nil, List.replicate_succ, List.replicate_zero, List.cons_append, List.nil_append, Nat.reduceAdd, Nat.reduceSub, Nat.reduceLeDiff, decide_eq_true_eq, addInt, subInt, ltInt, mulInt, modInt, divInt, powInt, shlInt, shrInt, eqInt, neInt, cmpInt, lenScr, lenLst, lenTup, idxScr, idxLst, idxTup, true_and, tgN, wipeR, g_chain, g_iseq, g_setIx, g_lix, g_m1F, Option.bind_some, g_callB, g_vz, slK_md, g_setD, g_dnew, g_din, g_dget, g_dput, g_pop, keyStr, keyInt, g_frm, isFrm5, idxFrm, okF_frm, g_fix, slN_mn, g_newN, g_inN, g_nget, g_nput, g_nget2, g_insert, g_tryKey, orE_some, orE_none, g_dpairs, g_ifV, g_repl, eL]
    repeat (with_reducible refine And.intro (by first | decide | omega | exact cdiv (by first | decide | omega) (by first | decide | omega) | (apply cmul <;> omega) | assumption) ?_)
    unfold t_law_d3
    simp only [g_bind, g_ok, g_ofO, g_var, g_peek, g_frz, g_C, g_op, g_opF, g_tOf, g_B, g_BF, g_nil, g_cons, ok_ite, g_tup, g_lst, g_fz, g_call, g_callF, g_callV, g_callF0, g_seq, g_next, g_set, g_setF, g_setV, g_drop, g_ret, g_retF, g_retV, g_retO, g_if, g_append, g_extend, g_to, g_par, g_aug, g_any, g_noP, g_part, g_sl, g_slF, g_isI, g_m1, g_tAnd, g_tOr, g_tNot, g_and, g_or, g_not, g_neg, g_eif, g_tru, g_for, g_comp, g_run, okO_some, slV_va, slP_va, slP_ml, slZ_va, slZ_ml, slM_ml, isB_b, isI_i, isS_s, isL_l, itO_l, itO_t, itO_s, isVl_z, isVl_f, nxF_nx, nxF_rt, nxF_ro, nxF_bk, nxF_ct, endF_nx, endF_rt, endF_ro, okR_ok, okR_fr, okR_er, two_ok, stepF_nx, stepF_ct, stepF_bk, stepF_rt, stepF_ro, List.getElem?_cons_zero, List.getElem?_cons_succ, List.set_cons_zero, List.set_cons_succ, List.length_cons, List.length_nil, List.map_cons, List.map_nil, List.replicate_succ, List.replicate_zero, List.cons_append, List.nil_append, Nat.reduceAdd, Nat.reduceSub, Nat.reduceLeDiff, decide_eq_true_eq, addInt, subInt, ltInt, mulInt, modInt, divInt, powInt, shlInt, shrInt, eqInt, neInt, cmpInt, lenScr, lenLst, lenTup, idxScr, idxLst, idxTup, true_and, tgN, wipeR, g_chain, g_iseq, g_setIx, g_lix, g_m1F, Option.bind_some, g_callB, g_vz, slK_md, g_setD, g_dnew, g_din, g_dget, g_dput, g_pop, keyStr, keyInt, g_frm, isFrm5, idxFrm, okF_frm, g_fix, slN_mn, g_newN, g_inN, g_nget, g_nput, g_nget2, g_insert, g_tryKey, orE_some, orE_none, g_dpairs, g_ifV, g_repl]
    unfold t_law_d4
    simp only [g_bind, g_ok, g_ofO, g_var, g_peek, g_frz, g_C, g_op, g_opF, g_tOf, g_B, g_BF, g_nil, g_cons, ok_ite, g_tup, g_lst, g_fz, g_call, g_callF, g_callV, g_callF0, g_seq, g_next, g_set, g_setF, g_setV, g_drop, g_ret, g_retF, g_retV, g_retO, g_if, g_append, g_extend, g_to, g_par, g_aug, g_any, g_noP, g_part, g_sl, g_slF, g_isI, g_m1, g_tAnd, g_tOr, g_tNot, g_and, g_or, g_not, g_neg, g_eif, g_tru, g_for, g_comp, g_run, okO_some, slV_va, slP_va, slP_ml, slZ_va, slZ_ml, slM_ml, isB_b, isI_i, isS_s, isL_l, itO_l, itO_t, itO_s, isVl_z, isVl_f, nxF_nx, nxF_rt, nxF_ro, nxF_bk, nxF_ct, endF_nx, endF_rt, endF_ro, okR_ok, okR_fr, okR_er, two_ok, stepF_nx, stepF_ct, stepF_bk, stepF_rt, stepF_ro, List.getElem?_cons_zero, List.getElem?_cons_succ, List.set_cons_zero, List.set_cons_succ, List.length_cons, List.length_nil, List.map_cons, List.map_nil, List.replicate_succ, List.replicate_zero, List.cons_append, List.nil_append, Nat.reduceAdd, Nat.reduceSub, Nat.reduceLeDiff, decide_eq_true_eq, addInt, subInt, ltInt, mulInt, modInt, divInt, powInt, shlInt, shrInt, eqInt, neInt, cmpInt, lenScr, lenLst, lenTup, idxScr, idxLst, idxTup, true_and, tgN, wipeR, g_chain, g_iseq, g_setIx, g_lix, g_m1F, Option.bind_some, g_callB, g_vz, slK_md, g_setD, g_dnew, g_din, g_dget, g_dput, g_pop, keyStr, keyInt, g_frm, isFrm5, idxFrm, okF_frm, g_fix, slN_mn, g_newN, g_inN, g_nget, g_nput, g_nget2, g_insert, g_tryKey, orE_some, orE_none, g_dpairs, g_ifV, g_repl, er]
    refine k_loop hB hB0 f.o hn2 (by rw [hl]; rfl) fun v5 v6 v7 v8 v9 v10 v11 => ?_
    show Ok t_law_d5 _ _ _
    unfold t_law_d5
    simp only [g_bind, g_ok, g_ofO, g_var, g_peek, g_frz, g_C, g_op, g_opF, g_tOf, g_B, g_BF, g_nil, g_cons, ok_ite, g_tup, g_lst, g_fz, g_call, g_callF, g_callV, g_callF0, g_seq, g_next, g_set, g_setF, g_setV, g_drop, g_ret, g_retF, g_retV, g_retO, g_if, g_append, g_extend, g_to, g_par, g_aug, g_any, g_noP, g_part, g_sl, g_slF, g_isI, g_m1, g_tAnd, g_tOr, g_tNot, g_and, g_or, g_not, g_neg, g_eif, g_tru, g_for, g_comp, g_run, okO_some, slV_va, slP_va, slP_ml, slZ_va, slZ_ml, slM_ml, isB_b, isI_i, isS_s, isL_l, itO_l, itO_t, itO_s, isVl_z, isVl_f, nxF_nx, nxF_rt, nxF_ro, nxF_bk, nxF_ct, endF_nx, endF_rt, endF_ro, okR_ok, okR_fr, okR_er, two_ok, stepF_nx, stepF_ct, stepF_bk, stepF_rt, stepF_ro, List.getElem?_cons_zero, List.getElem?_cons_succ, List.set_cons_zero, List.set_cons_succ, List.length_cons, List.length_nil, List.map_cons, List.map_nil, List.replicate_succ, List.replicate_zero, List.cons_append, List.nil_append, Nat.reduceAdd, Nat.reduceSub, Nat.reduceLeDiff, decide_eq_true_eq, addInt, subInt, ltInt, mulInt, modInt, divInt, powInt, shlInt, shrInt, eqInt, neInt, cmpInt, lenScr, lenLst, lenTup, idxScr, idxLst, idxTup, true_and, tgN, wipeR, g_chain, g_iseq, g_setIx, g_lix, g_m1F, Option.bind_some, g_callB, g_vz, slK_md, g_setD, g_dnew, g_din, g_dget, g_dput, g_pop, keyStr, keyInt, g_frm, isFrm5, idxFrm, okF_frm, g_fix, slN_mn, g_newN, g_inN, g_nget, g_nput, g_nget2, g_insert, g_tryKey, orE_some, orE_none, g_dpairs, g_ifV, g_repl, er8]
    refine one_loop hB f.o (by rw [hl]; rfl) hx fun v6 v11 => ?_
    rw [stepF_nx]
    exact ⟨by omega, _, _, _, _, _, _, _, _, _, _, _, _, _, rfl⟩
  · rintro ρ ⟨_, v1, v2, v3, v4, v5, v6, v7, v8, v9, v10, v11, v12, v13, rfl⟩
    unfold t_law_e1
    simp only [g_bind, g_ok, g_ofO, g_var, g_peek, g_frz, g_C, g_op, g_opF, g_tOf, g_B, g_BF, g_nil, g_cons, ok_ite, g_tup, g_lst, g_fz, g_call, g_callF, g_callV, g_callF0, g_seq, g_next, g_set, g_setF, g_setV, g_drop, g_ret, g_retF, g_retV, g_retO, g_if, g_append, g_extend, g_to, g_par, g_aug, g_any, g_noP, g_part, g_sl, g_slF, g_isI, g_m1, g_tAnd, g_tOr, g_tNot, g_and, g_or, g_not, g_neg, g_eif, g_tru, g_for, g_comp, g_run, okO_some, slV_va, slP_va, slP_ml, slZ_va, slZ_ml, slM_ml, isB_b, isI_i, isS_s, isL_l, itO_l, itO_t, itO_s, isVl_z, isVl_f, nxF_nx, nxF_rt, nxF_ro, nxF_bk, nxF_ct, endF_nx, endF_rt, endF_ro, okR_ok, okR_fr, okR_er, two_ok, stepF_nx, stepF_ct, stepF_bk, stepF_rt, stepF_ro, List.getElem?_cons_zero, List.getElem?_cons_succ, List.set_cons_zero, List.set_cons_succ, List.length_cons, List.length_nil, List.map_cons, List.map_nil, List.replicate_succ, List.replicate_zero, List.cons_append, List.nil_append, Nat.reduceAdd, Nat.reduceSub, Nat.reduceLeDiff, decide_eq_true_eq, addInt, subInt, ltInt, mulInt, modInt, divInt, powInt, shlInt, shrInt, eqInt, neInt, cmpInt, lenScr, lenLst, lenTup, idxScr, idxLst, idxTup, true_and, tgN, wipeR, g_chain, g_iseq, g_setIx, g_lix, g_m1F, Option.bind_some, g_callB, g_vz, slK_md, g_setD, g_dnew, g_din, g_dget, g_dput, g_pop, keyStr, keyInt, g_frm, isFrm5, idxFrm, okF_frm, g_fix, slN_mn, g_newN, g_inN, g_nget, g_nput, g_nget2, g_insert, g_tryKey, orE_some, orE_none, g_dpairs, g_ifV, g_repl]
end LawK03

set_option Elab.async false
set_option linter.all false
set_option maxRecDepth 100000
set_option maxHeartbeats 4000000
namespace LawK03
open PySem PySem.Spec L2 DL
open PyProof.Rows hiding St
def topS (i : Nat) : Stmt := PySem.Challenge.pw_longshort_k03_whole_texts_told_back.main.body.getD i (.Pass ⟨0, 0, 0, 0⟩)
abbrev s_row_weights : Stmt := topS 4
theorem sc_row_weights : FnScope ["form", "row", "found", "sign"] ["form", "row"] (defScope s_row_weights) := ⟨rfl, rfl, rfl, by decide +kernel, rfl, by decide +kernel, by decide +kernel⟩
abbrev s_weights_of : Stmt := topS 5
theorem sc_weights_of : FnScope ["book", "form", "text", "rows", "found", "word", "rest", "sign", "row"] ["book", "form", "text"] (defScope s_weights_of) := ⟨rfl, rfl, rfl, by decide +kernel, rfl, by decide +kernel, by decide +kernel⟩
abbrev s_text_of : Stmt := topS 6
theorem sc_text_of : FnScope ["book", "form", "numbers", "signs", "sign", "row", "text", "at", "number"] ["book", "form", "numbers"] (defScope s_text_of) := ⟨rfl, rfl, rfl, by decide +kernel, rfl, by decide +kernel, by decide +kernel⟩
abbrev s__law_cell : Stmt := topS 8
theorem sc__law_cell : FnScope ["script", "k"] ["script", "k"] (defScope s__law_cell) := ⟨rfl, rfl, rfl, by decide +kernel, rfl, by decide +kernel, by decide +kernel⟩
abbrev s__law_draws : Stmt := topS 9
theorem sc__law_draws : FnScope ["script", "k", "many", "base", "primes", "cell", "rest", "row", "j", "mash"] ["script", "k", "many", "base"] (defScope s__law_draws) := ⟨rfl, rfl, rfl, by decide +kernel, rfl, by decide +kernel, by decide +kernel⟩
abbrev s__law_book : Stmt := topS 10
theorem sc__law_book : FnScope ["script", "at", "most", "plan", "draws", "signs", "rows", "found", "k", "draw", "long", "row", "j"] ["script", "at", "most"] (defScope s__law_book) := ⟨rfl, rfl, rfl, by decide +kernel, rfl, by decide +kernel, by decide +kernel⟩
abbrev s__law_form : Stmt := topS 11
theorem sc__law_form : FnScope ["script", "at", "plan", "short", "within", "between"] ["script", "at"] (defScope s__law_form) := ⟨rfl, rfl, rfl, by decide +kernel, rfl, by decide +kernel, by decide +kernel⟩
abbrev s__law_text : Stmt := topS 12
theorem sc__law_text : FnScope ["script", "at", "book", "most", "draws", "text", "k"] ["script", "at", "book", "most"] (defScope s__law_text) := ⟨rfl, rfl, rfl, by decide +kernel, rfl, by decide +kernel, by decide +kernel⟩
abbrev s__law_read : Stmt := topS 13
theorem sc__law_read : FnScope ["book", "form", "numbers", "signs", "sign", "row", "text", "k", "number"] ["book", "form", "numbers"] (defScope s__law_read) := ⟨rfl, rfl, rfl, by decide +kernel, rfl, by decide +kernel, by decide +kernel⟩
abbrev s__law_bent : Stmt := topS 14
theorem sc__law_bent : FnScope ["weights", "form", "row", "found", "at", "way"] ["weights", "form", "row"] (defScope s__law_bent) := ⟨rfl, rfl, rfl, by decide +kernel, rfl, by decide +kernel, by decide +kernel⟩
abbrev s_law : Stmt := topS 15
theorem sc_law : FnScope ["script", "at", "book", "form", "draws", "known", "k", "text", "weights", "handed", "j", "one", "draw", "number"] ["script"] (defScope s_law) := ⟨rfl, rfl, rfl, by decide +kernel, rfl, by decide +kernel, by decide +kernel⟩
def clsS (st : Stmt) (j : Nat) : Stmt := match st with
  | .ClassDef _ _ _ body _ _ _ _ _ _ _ => body.getD j (.Pass ⟨0, 0, 0, 0⟩)
  | _ => .Pass ⟨0, 0, 0, 0⟩
abbrev csL : List Str := ["NoSign"]
structure Txt (K : PySem.W.Frag) (mg : Str → Option Value) where
  a_x_NoSign : Addr
  g_x_NoSign : mg "NoSign" = some (.ref a_x_NoSign)
  x_NoSign : Exc0 K mg "NoSign" a_x_NoSign
  a_row_weights : Addr
  d_row_weights : FuncData
  F_row_weights : Fun K "row_weights" "row_weights" s_row_weights a_row_weights d_row_weights
  g_row_weights : mg "row_weights" = some (.ref a_row_weights)
  b_row_weights : Binds K d_row_weights ["form", "row"] []
  a_weights_of : Addr
  d_weights_of : FuncData
  F_weights_of : Fun K "weights_of" "weights_of" s_weights_of a_weights_of d_weights_of
  g_weights_of : mg "weights_of" = some (.ref a_weights_of)
  b_weights_of : Binds K d_weights_of ["book", "form", "text"] []
  a_text_of : Addr
  d_text_of : FuncData
  F_text_of : Fun K "text_of" "text_of" s_text_of a_text_of d_text_of
  g_text_of : mg "text_of" = some (.ref a_text_of)
  b_text_of : Binds K d_text_of ["book", "form", "numbers"] []
  a__law_cell : Addr
  d__law_cell : FuncData
  F__law_cell : Fun K "_law_cell" "_law_cell" s__law_cell a__law_cell d__law_cell
  g__law_cell : mg "_law_cell" = some (.ref a__law_cell)
  b__law_cell : Binds K d__law_cell ["script", "k"] []
  a__law_draws : Addr
  d__law_draws : FuncData
  F__law_draws : Fun K "_law_draws" "_law_draws" s__law_draws a__law_draws d__law_draws
  g__law_draws : mg "_law_draws" = some (.ref a__law_draws)
  b__law_draws : Binds K d__law_draws ["script", "k", "many", "base"] []
  a__law_book : Addr
  d__law_book : FuncData
  F__law_book : Fun K "_law_book" "_law_book" s__law_book a__law_book d__law_book
  g__law_book : mg "_law_book" = some (.ref a__law_book)
  b__law_book : Binds K d__law_book ["script", "at", "most"] []
  a__law_form : Addr
  d__law_form : FuncData
  F__law_form : Fun K "_law_form" "_law_form" s__law_form a__law_form d__law_form
  g__law_form : mg "_law_form" = some (.ref a__law_form)
  b__law_form : Binds K d__law_form ["script", "at"] []
  a__law_text : Addr
  d__law_text : FuncData
  F__law_text : Fun K "_law_text" "_law_text" s__law_text a__law_text d__law_text
  g__law_text : mg "_law_text" = some (.ref a__law_text)
  b__law_text : Binds K d__law_text ["script", "at", "book", "most"] []
  a__law_read : Addr
  d__law_read : FuncData
  F__law_read : Fun K "_law_read" "_law_read" s__law_read a__law_read d__law_read
  g__law_read : mg "_law_read" = some (.ref a__law_read)
  b__law_read : Binds K d__law_read ["book", "form", "numbers"] []
  a__law_bent : Addr
  d__law_bent : FuncData
  F__law_bent : Fun K "_law_bent" "_law_bent" s__law_bent a__law_bent d__law_bent
  g__law_bent : mg "_law_bent" = some (.ref a__law_bent)
  b__law_bent : Binds K d__law_bent ["weights", "form", "row"] []
  a_law : Addr
  d_law : FuncData
  F_law : Fun K "law" "law" s_law a_law d_law
  g_law : mg "law" = some (.ref a_law)
  b_law : Binds K d_law ["script"] []
  n_KeyError : mg "KeyError" = none
  n_dict : mg "dict" = none
  n_enumerate : mg "enumerate" = none
  n_int : mg "int" = none
  n_len : mg "len" = none
  n_list : mg "list" = none
  n_range : mg "range" = none
  n_tuple : mg "tuple" = none
section
variable {P : Program} {w : World} {K : PySem.W.Frag} {mg : Str → Option Value} {base : Heap}
theorem ok_row_weights (T : Txt K mg) : FnOk P w K mg base (L2.CX P w) 1 T.a_row_weights T.d_row_weights ["form", "row"] (spOf K P w cvL (XR K mg csL) m_row_weights) :=
  fn_okL (k := 0) (a := 4) (b := 2) (m := b_row_weights) rfl rfl T.F_row_weights sc_row_weights fun cdv A outer s H F0 E hr => by
    have hu := hr.units
    have tk : Takes (cxOf (L2.CX P w) P w K mg base ["form", "row", "found", "sign"] "row_weights" (defScope s_row_weights) T.a_row_weights cdv A outer s H E) (fun cls dd _ H' => E cls dd H') := takes_of rfl rfl rfl rfl
    have hx : ∀ σ, PassesAt (L2.CX P w) (cxOf (L2.CX P w) P w K mg base ["form", "row", "found", "sign"] "row_weights" (defScope s_row_weights) T.a_row_weights cdv A outer s H E) σ (WE (fun cls dd _ H' => E cls dd H') σ) := fun σ => passAt tk σ
    exact (s_cons (s_setF (n := False) (i := 2) sc_row_weights.nd rfl (by first | exact Or.inl rfl | exact Or.inr rfl) (kf_lst a_nil))
  (s_cons (s_for (n := False) (sem_name (i := 3)) (passes_of rfl) rfl (i_any rfl (k_var (pv 1))) (pg_name (i := 3) sc_row_weights.nd rfl (by first | exact Or.inl rfl | exact Or.inr rfl))
  (s_cons (s_if (n := False) (t_ne hu rfl (k_peek (pv 2)) (kp (kz (kf_lst a_nil))))
  (s_one (s_append (n := False) (pv 2) (a_cons (k_idx rfl (kp (k_var (pv 0))) (kp k_int) (fun _ _ => rfl)) a_nil) rfl))
  s_nil)
  (s_one (s_append (n := False) (pv 2) (a_cons (k_idx rfl (kp (k_var (pv 0))) (kp (k_ty call_int1 sem_intD (by rfl) T.n_int (by decide +kernel) (b_cons (kp (k_eq hu rfl (kp (k_var (pv 3))) (kp k_str))) b_nil))) (fun _ _ => rfl)) a_nil) rfl))))
  (s_one (s_retO (pv 2)))))
theorem ok_weights_of (T : Txt K mg) : FnOk P w K mg base (L2.CX P w) 2 T.a_weights_of T.d_weights_of ["book", "form", "text"] (spOf K P w cvL (XR K mg csL) m_weights_of) :=
  fn_okL (k := 1) (a := 9) (b := 3) (m := b_weights_of) rfl rfl T.F_weights_of sc_weights_of fun cdv A outer s H F0 E hr => by
    have hu := hr.units
    have tk : Takes (cxOf (L2.CX P w) P w K mg base ["book", "form", "text", "rows", "found", "word", "rest", "sign", "row"] "weights_of" (defScope s_weights_of) T.a_weights_of cdv A outer s H E) (fun cls dd _ H' => E cls dd H') := takes_of rfl rfl rfl rfl
    have hx : ∀ σ, PassesAt (L2.CX P w) (cxOf (L2.CX P w) P w K mg base ["book", "form", "text", "rows", "found", "word", "rest", "sign", "row"] "weights_of" (defScope s_weights_of) T.a_weights_of cdv A outer s H E) σ (WE (fun cls dd _ H' => E cls dd H') σ) := fun σ => passAt tk σ
    exact (s_cons (s_setD (n := False) (i := 3) sc_weights_of.nd rfl (by first | exact Or.inl rfl | exact Or.inr rfl) (kd_pairs rfl rfl (by rfl) T.n_dict (k_var (pv 0))))
  (s_cons (s_setF (n := False) (i := 4) sc_weights_of.nd rfl (by first | exact Or.inl rfl | exact Or.inr rfl) (kf_lst a_nil))
  (s_cons (s_for (n := False) (sem_name (i := 5)) (passes_of rfl) rfl (i_any rfl (kz (kf_split (k_var (pv 2)) (kp k_str)))) (pg_name (i := 5) sc_weights_of.nd rfl (by first | exact Or.inl rfl | exact Or.inr rfl))
  (s_cons (s_set (n := False) (i := 6) sc_weights_of.nd rfl (by first | exact Or.inl rfl | exact Or.inr rfl) (k_mul (kp (kz (kf_lst (a_cons (k_idx rfl (kp (k_var (pv 1))) (kp k_int) (fun _ _ => rfl)) a_nil)))) (kp (k_ty call_int1 sem_intD (by rfl) T.n_int (by decide +kernel) (b_cons (kp (k_ne hu rfl (k_peek (pv 4)) (kp (kz (kf_lst a_nil))))) b_nil)))))
  (s_cons (s_if (n := False) (t_eq hu rfl (kp (k_var (pv 5))) (kp k_str))
  (s_one (s_raise0 rfl tk rfl T.x_NoSign (by decide) (by rfl)))
  s_nil)
  (s_one (s_for (n := False) (sem_name (i := 7)) (passes_of rfl) rfl (i_any rfl (k_var (pv 5))) (pg_name (i := 7) sc_weights_of.nd rfl (by first | exact Or.inl rfl | exact Or.inr rfl))
  (s_cons (s_tryKey (yi := 8) (di := 3) (ki := 7) rfl rfl rfl hu sc_weights_of.nd rfl (by first | exact Or.inl rfl | exact Or.inr rfl) (.inl rfl) rfl (by first | exact Or.inl rfl | exact Or.inr (Or.inl rfl)) rfl (by first | exact Or.inl rfl | exact Or.inr (Or.inl rfl)) ⟨by rfl, by decide, .inr ⟨T.n_KeyError, by rfl, by decide⟩⟩ (L2H.passesAt_of rfl) tk rfl T.x_NoSign (by decide) (by rfl) rfl)
  (s_cons (s_extend (n := False) (pv 4) (a_cons (k_add (kp (k_var (pv 6))) (kp (k_call (ok_row_weights T) (hr.mono (by decide)) (by rfl) T.g_row_weights T.F_row_weights.kp T.b_row_weights hx (a_cons (k_var (pv 1)) (a_cons (k_var (pv 8)) a_nil))))) a_nil) rfl)
  (s_one (s_set (n := False) (i := 6) sc_weights_of.nd rfl (by first | exact Or.inl rfl | exact Or.inr rfl) (kz (kf_lst (a_cons (k_idx rfl (kp (k_var (pv 1))) (kp k_int) (fun _ _ => rfl)) a_nil))))))))))))
  (s_one (s_retO (pv 4))))))
theorem ok_text_of (T : Txt K mg) : FnOk P w K mg base (L2.CX P w) 1 T.a_text_of T.d_text_of ["book", "form", "numbers"] (spOf K P w cvL (XR K mg csL) m_text_of) :=
  fn_okL (k := 0) (a := 9) (b := 3) (m := b_text_of) rfl rfl T.F_text_of sc_text_of fun cdv A outer s H F0 E hr => by
    have hu := hr.units
    have tk : Takes (cxOf (L2.CX P w) P w K mg base ["book", "form", "numbers", "signs", "sign", "row", "text", "at", "number"] "text_of" (defScope s_text_of) T.a_text_of cdv A outer s H E) (fun cls dd _ H' => E cls dd H') := takes_of rfl rfl rfl rfl
    have hx : ∀ σ, PassesAt (L2.CX P w) (cxOf (L2.CX P w) P w K mg base ["book", "form", "numbers", "signs", "sign", "row", "text", "at", "number"] "text_of" (defScope s_text_of) T.a_text_of cdv A outer s H E) σ (WE (fun cls dd _ H' => E cls dd H') σ) := fun σ => passAt tk σ
    exact (s_cons (s_setD (n := False) (i := 3) sc_text_of.nd rfl (by first | exact Or.inl rfl | exact Or.inr rfl) kd_new)
  (s_cons (s_for (n := False) (sem_tupG (is := [4, 5]) (k := 2) rfl) (passes_of rfl) rfl (i_any rfl (k_var (pv 0))) (pg_tup rfl (pgs_cons (pg_name (i := 4) sc_text_of.nd rfl (by first | exact Or.inl rfl | exact Or.inr rfl)) (pgs_cons (pg_name (i := 5) sc_text_of.nd rfl (by first | exact Or.inl rfl | exact Or.inr rfl)) pgs_nil)))
  (s_one (s_dput (n := False) hu (pv 3) (k_var (pv 5)) (k_var (pv 4)))))
  (s_cons (s_if (n := False) (t_eq hu rfl (kp (k_mod (kp (k_bi call_len sem_len (by rfl) T.n_len (by decide +kernel) (b_cons (kp (k_var (pv 2))) b_nil))) (kp k_int))) (kp k_int))
  (s_one (s_ret (n := False) k_non))
  s_nil)
  (s_cons (s_set (n := False) (i := 6) sc_text_of.nd rfl (by first | exact Or.inl rfl | exact Or.inr rfl) k_str)
  (s_cons (s_set (n := False) (i := 5) sc_text_of.nd rfl (by first | exact Or.inl rfl | exact Or.inr rfl) k_str)
  (s_cons (s_for (n := False) (sem_tupG (is := [7, 8]) (k := 2) rfl) (passes_of rfl) rfl (i_enumA rfl (by rfl) T.n_enumerate (a_cons (k_var (pv 2)) a_nil)) (pg_tup rfl (pgs_cons (pg_name (i := 7) sc_text_of.nd rfl (by first | exact Or.inl rfl | exact Or.inr rfl)) (pgs_cons (pg_name (i := 8) sc_text_of.nd rfl (by first | exact Or.inl rfl | exact Or.inr rfl)) pgs_nil)))
  (s_one (s_if (n := False) (t_bool (w_and (t_eq hu rfl (kp (k_mod (kp (k_var (pv 7))) (kp k_int))) (kp k_int)) (w_one (t_in hu rfl (by rfl) (kp (k_var (pv 8))) (kp (k_sl rfl (kp (k_var (pv 1))) o_none (o_some k_int)))))))
  (s_one (s_aug (n := False) (i := 5) sem_ipAddS sc_text_of.nd rfl (by first | exact Or.inl rfl | exact Or.inr rfl) (k_idx rfl (kp k_str) (kp (k_fix rfl (k_var (pv 1)) (k_var (pv 8)))) (fun _ _ => rfl)) ip_addS))
  (s_one (s_if (n := False) (t_bool (w_and (t_eq hu rfl (kp (k_mod (kp (k_var (pv 7))) (kp k_int))) (kp k_int)) (w_and (t_in hu rfl (by rfl) (kp (k_var (pv 8))) (kp (k_sl rfl (kp (k_var (pv 1))) (o_some k_int) o_none))) (w_one (t_din hu (kp (k_var (pv 5))) (pv 3))))))
  (s_cons (s_aug (n := False) (i := 6) sem_ipAddS sc_text_of.nd rfl (by first | exact Or.inl rfl | exact Or.inr rfl) (k_add (kp (k_dget hu (pv 3) (k_var (pv 5)) (fun _ _ => rfl))) (kp (k_mulS (kp k_str) (kp (k_ty call_int1 sem_intD (by rfl) T.n_int (by decide +kernel) (b_cons (kp (k_eq hu rfl (kp (k_var (pv 8))) (kp (k_idx rfl (kp (k_var (pv 1))) (kp k_int) (fun _ _ => rfl))))) b_nil)))))) ip_addS)
  (s_one (s_set (n := False) (i := 5) sc_text_of.nd rfl (by first | exact Or.inl rfl | exact Or.inr rfl) k_str)))
  (s_one (s_if (n := False) (t_bool (w_or (t_eq hu rfl (kp (k_mod (kp (k_var (pv 7))) (kp k_int))) (kp k_int)) (w_one (t_ne hu rfl (kp (k_var (pv 8))) (kp (k_idx rfl (kp (k_var (pv 1))) (kp k_int) (fun _ _ => rfl)))))))
  (s_one (s_ret (n := False) k_non))
  s_nil)))))))
  (s_cons (s_if (n := False) (t_dnin hu (kp (k_var (pv 5))) (pv 3))
  (s_one (s_ret (n := False) k_non))
  s_nil)
  (s_one (s_ret (n := False) (k_add (kp (k_var (pv 6))) (kp (k_dget hu (pv 3) (k_var (pv 5)) (fun _ _ => rfl)))))))))))))
theorem ok__law_cell (T : Txt K mg) : FnOk P w K mg base (L2.CX P w) 1 T.a__law_cell T.d__law_cell ["script", "k"] (spOf K P w cvL (XR K mg csL) m__law_cell) :=
  fn_okL (k := 0) (a := 2) (b := 2) (m := b__law_cell) rfl rfl T.F__law_cell sc__law_cell fun cdv A outer s H F0 E hr => by
    have hu := hr.units
    have tk : Takes (cxOf (L2.CX P w) P w K mg base ["script", "k"] "_law_cell" (defScope s__law_cell) T.a__law_cell cdv A outer s H E) (fun cls dd _ H' => E cls dd H') := takes_of rfl rfl rfl rfl
    have hx : ∀ σ, PassesAt (L2.CX P w) (cxOf (L2.CX P w) P w K mg base ["script", "k"] "_law_cell" (defScope s__law_cell) T.a__law_cell cdv A outer s H E) σ (WE (fun cls dd _ H' => E cls dd H') σ) := fun σ => passAt tk σ
    exact (s_cons (s_if (n := False) (t_lt (kp (k_var (pv 1))) (kp (k_bi call_len sem_len (by rfl) T.n_len (by decide +kernel) (b_cons (kp (k_var (pv 0))) b_nil))))
  (s_one (s_ret (n := False) (k_idx rfl (kp (k_var (pv 0))) (kp (k_var (pv 1))) (fun _ _ => rfl))))
  s_nil)
  (s_cons (s_if (n := False) (t_eq hu rfl (kp (k_bi call_len sem_len (by rfl) T.n_len (by decide +kernel) (b_cons (kp (k_var (pv 0))) b_nil))) (kp k_int))
  (s_one (s_ret (n := False) (k_add (kp (k_mul (kp k_int) (kp (k_var (pv 1))))) (kp k_int))))
  s_nil)
  (s_one (s_ret (n := False) (k_add (kp (k_mod (kp (k_idx rfl (kp (k_var (pv 0))) (kp (k_mod (kp (k_var (pv 1))) (kp (k_bi call_len sem_len (by rfl) T.n_len (by decide +kernel) (b_cons (kp (k_var (pv 0))) b_nil))))) (fun _ _ => rfl))) (kp k_int))) (kp (k_mul (kp k_int) (kp (k_var (pv 1))))))))))
theorem ok__law_draws (T : Txt K mg) : FnOk P w K mg base (L2.CX P w) 2 T.a__law_draws T.d__law_draws ["script", "k", "many", "base"] (spOf K P w cvL (XR K mg csL) m__law_draws) :=
  fn_okL (k := 1) (a := 10) (b := 4) (m := b__law_draws) rfl rfl T.F__law_draws sc__law_draws fun cdv A outer s H F0 E hr => by
    have hu := hr.units
    have tk : Takes (cxOf (L2.CX P w) P w K mg base ["script", "k", "many", "base", "primes", "cell", "rest", "row", "j", "mash"] "_law_draws" (defScope s__law_draws) T.a__law_draws cdv A outer s H E) (fun cls dd _ H' => E cls dd H') := takes_of rfl rfl rfl rfl
    have hx : ∀ σ, PassesAt (L2.CX P w) (cxOf (L2.CX P w) P w K mg base ["script", "k", "many", "base", "primes", "cell", "rest", "row", "j", "mash"] "_law_draws" (defScope s__law_draws) T.a__law_draws cdv A outer s H E) σ (WE (fun cls dd _ H' => E cls dd H') σ) := fun σ => passAt tk σ
    exact (s_cons (s_set (n := False) (i := 4) sc__law_draws.nd rfl (by first | exact Or.inl rfl | exact Or.inr rfl) (k_tup (a_cons k_int (a_cons k_int (a_cons k_int (a_cons k_int (a_cons k_int (a_cons k_int (a_cons k_int (a_cons k_int a_nil))))))))))
  (s_cons (s_set (n := False) (i := 5) sc__law_draws.nd rfl (by first | exact Or.inl rfl | exact Or.inr rfl) (k_call (ok__law_cell T) (hr.mono (by decide)) (by rfl) T.g__law_cell T.F__law_cell.kp T.b__law_cell hx (a_cons (k_var (pv 0)) (a_cons (k_var (pv 1)) a_nil))))
  (s_cons (s_set (n := False) (i := 6) sc__law_draws.nd rfl (by first | exact Or.inl rfl | exact Or.inr rfl) k_int)
  (s_cons (s_if (n := False) (t_ge (kp (k_var (pv 5))) (kp (k_pow (kp k_int) (kp k_int))))
  (s_one (s_set (n := False) (i := 6) sc__law_draws.nd rfl (by first | exact Or.inl rfl | exact Or.inr rfl) (k_var (pv 5))))
  s_nil)
  (s_cons (s_setF (n := False) (i := 7) sc__law_draws.nd rfl (by first | exact Or.inl rfl | exact Or.inr rfl) (kf_lst a_nil))
  (s_cons (s_for (n := False) (sem_name (i := 8)) (passes_of rfl) rfl (i_range1 (by rfl) T.n_range (a_cons (k_var (pv 2)) a_nil)) (pg_name (i := 8) sc__law_draws.nd rfl (by first | exact Or.inl rfl | exact Or.inr rfl))
  (s_cons (s_set (n := False) (i := 9) sc__law_draws.nd rfl (by first | exact Or.inl rfl | exact Or.inr rfl) (k_mul (kp (k_mod (kp (k_var (pv 5))) (kp (k_idx rfl (kp (k_var (pv 4))) (kp (k_mod (kp (k_var (pv 8))) (kp k_int))) (fun _ _ => rfl))))) (kp (k_add (kp k_int) (kp (k_mul (kp (k_mul (kp k_int) (kp (k_var (pv 8))))) (kp (k_var (pv 8)))))))))
  (s_cons (s_set (n := False) (i := 9) sc__law_draws.nd rfl (by first | exact Or.inl rfl | exact Or.inr rfl) (k_add (kp (k_add (kp (k_var (pv 9))) (kp (k_mul (kp (k_mul (kp k_int) (kp (k_add (kp (k_var (pv 8))) (kp k_int))))) (kp (k_add (kp (k_var (pv 8))) (kp k_int))))))) (kp (k_mul (kp k_int) (kp (k_var (pv 1)))))))
  (s_cons (s_set (n := False) (i := 9) sc__law_draws.nd rfl (by first | exact Or.inl rfl | exact Or.inr rfl) (k_mod (kp (k_var (pv 9))) (kp (k_idx rfl (kp (k_var (pv 4))) (kp (k_mod (kp (k_add (kp (k_mul (kp k_int) (kp (k_var (pv 8))))) (kp (k_var (pv 1))))) (kp k_int))) (fun _ _ => rfl)))))
  (s_cons (s_set (n := False) (i := 9) sc__law_draws.nd rfl (by first | exact Or.inl rfl | exact Or.inr rfl) (k_mod (kp (k_mul (kp (k_mul (kp (k_var (pv 9))) (kp (k_var (pv 9))))) (kp (k_var (pv 9))))) (kp (k_idx rfl (kp (k_var (pv 4))) (kp (k_mod (kp (k_add (kp (k_var (pv 8))) (kp k_int))) (kp k_int))) (fun _ _ => rfl)))))
  (s_cons (s_if (n := False) (t_gt (kp (k_var (pv 6))) (kp k_int))
  (s_one (s_set (n := False) (i := 9) sc__law_draws.nd rfl (by first | exact Or.inl rfl | exact Or.inr rfl) (k_var (pv 6))))
  s_nil)
  (s_cons (s_append (n := False) (pv 7) (a_cons (k_mod (kp (k_var (pv 9))) (kp (k_var (pv 3)))) a_nil) rfl)
  (s_one (s_set (n := False) (i := 6) sc__law_draws.nd rfl (by first | exact Or.inl rfl | exact Or.inr rfl) (k_fdiv (kp (k_var (pv 6))) (kp (k_var (pv 3)))))))))))))
  (s_one (s_retO (pv 7)))))))))
theorem ok__law_book (T : Txt K mg) : FnOk P w K mg base (L2.CX P w) 3 T.a__law_book T.d__law_book ["script", "at", "most"] (spOf K P w cvL (XR K mg csL) m__law_book) :=
  fn_okL (k := 2) (a := 13) (b := 3) (m := b__law_book) rfl rfl T.F__law_book sc__law_book fun cdv A outer s H F0 E hr => by
    have hu := hr.units
    have tk : Takes (cxOf (L2.CX P w) P w K mg base ["script", "at", "most", "plan", "draws", "signs", "rows", "found", "k", "draw", "long", "row", "j"] "_law_book" (defScope s__law_book) T.a__law_book cdv A outer s H E) (fun cls dd _ H' => E cls dd H') := takes_of rfl rfl rfl rfl
    have hx : ∀ σ, PassesAt (L2.CX P w) (cxOf (L2.CX P w) P w K mg base ["script", "at", "most", "plan", "draws", "signs", "rows", "found", "k", "draw", "long", "row", "j"] "_law_book" (defScope s__law_book) T.a__law_book cdv A outer s H E) σ (WE (fun cls dd _ H' => E cls dd H') σ) := fun σ => passAt tk σ
    exact (s_cons (s_set (n := False) (i := 3) sc__law_book.nd rfl (by first | exact Or.inl rfl | exact Or.inr rfl) (k_call (ok__law_draws T) (hr.mono (by decide)) (by rfl) T.g__law_draws T.F__law_draws.kp T.b__law_draws hx (a_cons (k_var (pv 0)) (a_cons (k_var (pv 1)) (a_cons k_int (a_cons k_int a_nil))))))
  (s_cons (s_set (n := False) (i := 4) sc__law_book.nd rfl (by first | exact Or.inl rfl | exact Or.inr rfl) (k_call (ok__law_draws T) (hr.mono (by decide)) (by rfl) T.g__law_draws T.F__law_draws.kp T.b__law_draws hx (a_cons (k_var (pv 0)) (a_cons (k_add (kp (k_var (pv 1))) (kp k_int)) (a_cons k_int (a_cons k_int a_nil))))))
  (s_cons (s_setF (n := False) (i := 5) sc__law_book.nd rfl (by first | exact Or.inl rfl | exact Or.inr rfl) (kf_ty (cr_listS rfl) sem_listS (by rfl) T.n_list (by decide +kernel) (b_cons (kp k_str) b_nil)))
  (s_cons (s_setD (n := False) (i := 6) sc__law_book.nd rfl (by first | exact Or.inl rfl | exact Or.inr rfl) kd_new)
  (s_cons (s_setF (n := False) (i := 7) sc__law_book.nd rfl (by first | exact Or.inl rfl | exact Or.inr rfl) (kf_lst a_nil))
  (s_cons (s_for (n := False) (sem_name (i := 8)) (passes_of rfl) rfl (i_range1 (by rfl) T.n_range (a_cons (k_add (kp k_int) (kp (k_mod (kp (k_idx rfl (kp (k_var (pv 3))) (kp k_int) (fun _ _ => rfl))) (kp (k_var (pv 2)))))) a_nil)) (pg_name (i := 8) sc__law_book.nd rfl (by first | exact Or.inl rfl | exact Or.inr rfl))
  (s_cons (s_set (n := False) (i := 9) sc__law_book.nd rfl (by first | exact Or.inl rfl | exact Or.inr rfl) (k_idx rfl (kp (k_var (pv 4))) (kp (k_var (pv 8))) (fun _ _ => rfl)))
  (s_cons (s_set (n := False) (i := 10) sc__law_book.nd rfl (by first | exact Or.inl rfl | exact Or.inr rfl) (k_add (kp k_int) (kp (k_idx rfl (kp (kz (kf_lst (a_cons (k_mod (kp (k_var (pv 9))) (kp k_int)) (a_cons (k_mod (kp (k_var (pv 9))) (kp k_int)) (a_cons (k_mod (kp (k_var (pv 9))) (kp k_int)) (a_cons (k_mod (kp (k_var (pv 9))) (kp k_int)) a_nil))))))) (kp (k_mod (kp (k_fdiv (kp (k_var (pv 9))) (kp k_int))) (kp k_int))) (fun _ _ => rfl)))))
  (s_cons (s_set (n := False) (i := 11) sc__law_book.nd rfl (by first | exact Or.inl rfl | exact Or.inr rfl) (k_join rfl k_str (kp (kz (kf_comp (own := [("j", 12)]) (sem_name (i := 12)) (by decide) rfl sc__law_book.nd (ip_of (i_range1 (by rfl) T.n_range (a_cons (k_var (pv 10)) a_nil))) (blkOk_by (N := ["script", "at", "most", "plan", "draws", "signs", "rows", "found", "k", "draw", "long", "row", "j"]) (sc := (defScope s__law_book)) (own := [("j", 12)]) (by decide +kernel)) (fun _ _ _ _ _ => (pg_name (i := 12) sc__law_book.nd rfl (by first | exact Or.inl rfl | exact Or.inr rfl))) (fun _ _ _ _ _ => ts_nil) (fun _ _ _ _ _ => (k_idx rfl (kp k_str) (kp (k_mod (kp (k_fdiv (kp (k_fdiv (kp (k_var (pv 9))) (kp k_int))) (kp (k_shl (kp k_int) (kp (k_var (pv 12))))))) (kp k_int))) (fun _ _ => rfl))))))))
  (s_one (s_if (n := False) (t_dnin hu (kp (k_var (pv 11))) (pv 6))
  (s_cons (s_dput (n := False) hu (pv 6) (k_var (pv 11)) k_bl)
  (s_one (s_append (n := False) (pv 7) (a_cons (k_tup (a_cons (k_pop (pv 5) (a_cons (k_mod (kp (k_fdiv (kp (k_var (pv 9))) (kp k_int))) (kp (k_bi call_len sem_len (by rfl) T.n_len (by decide +kernel) (b_cons (k_peek (pv 5)) b_nil)))) a_nil)) (a_cons (k_var (pv 11)) a_nil))) a_nil) rfl)))
  s_nil))))))
  (s_one (s_retO (pv 7)))))))))
theorem ok__law_form (T : Txt K mg) : FnOk P w K mg base (L2.CX P w) 3 T.a__law_form T.d__law_form ["script", "at"] (spOf K P w cvL (XR K mg csL) m__law_form) :=
  fn_okL (k := 2) (a := 6) (b := 2) (m := b__law_form) rfl rfl T.F__law_form sc__law_form fun cdv A outer s H F0 E hr => by
    have hu := hr.units
    have tk : Takes (cxOf (L2.CX P w) P w K mg base ["script", "at", "plan", "short", "within", "between"] "_law_form" (defScope s__law_form) T.a__law_form cdv A outer s H E) (fun cls dd _ H' => E cls dd H') := takes_of rfl rfl rfl rfl
    have hx : ∀ σ, PassesAt (L2.CX P w) (cxOf (L2.CX P w) P w K mg base ["script", "at", "plan", "short", "within", "between"] "_law_form" (defScope s__law_form) T.a__law_form cdv A outer s H E) σ (WE (fun cls dd _ H' => E cls dd H') σ) := fun σ => passAt tk σ
    exact (s_cons (s_set (n := False) (i := 2) sc__law_form.nd rfl (by first | exact Or.inl rfl | exact Or.inr rfl) (k_call (ok__law_draws T) (hr.mono (by decide)) (by rfl) T.g__law_draws T.F__law_draws.kp T.b__law_draws hx (a_cons (k_var (pv 0)) (a_cons (k_var (pv 1)) (a_cons k_int (a_cons k_int a_nil))))))
  (s_cons (s_if (n := False) (t_eq hu rfl (kp (k_mod (kp (k_idx rfl (kp (k_var (pv 2))) (kp k_int) (fun _ _ => rfl))) (kp k_int))) (kp k_int))
  (s_one (s_ret (n := False) (k_frm (a_cons k_int (a_cons k_int (a_cons k_int (a_cons k_int (a_cons k_int a_nil))))))))
  s_nil)
  (s_cons (s_set (n := False) (i := 3) sc__law_form.nd rfl (by first | exact Or.inl rfl | exact Or.inr rfl) (k_add (kp k_int) (kp (k_mod (kp (k_idx rfl (kp (k_var (pv 2))) (kp k_int) (fun _ _ => rfl))) (kp (k_idx rfl (kp (kz (kf_lst (a_cons k_int (a_cons k_int a_nil))))) (kp (k_mod (kp (k_fdiv (kp (k_idx rfl (kp (k_var (pv 2))) (kp k_int) (fun _ _ => rfl))) (kp k_int))) (kp k_int))) (fun _ _ => rfl)))))))
  (s_cons (s_set (n := False) (i := 4) sc__law_form.nd rfl (by first | exact Or.inl rfl | exact Or.inr rfl) (k_add (kp k_int) (kp (k_mod (kp (k_idx rfl (kp (k_var (pv 2))) (kp k_int) (fun _ _ => rfl))) (kp k_int)))))
  (s_cons (s_set (n := False) (i := 5) sc__law_form.nd rfl (by first | exact Or.inl rfl | exact Or.inr rfl) (k_add (kp (k_add (kp (k_var (pv 4))) (kp k_int))) (kp (k_mod (kp (k_idx rfl (kp (k_var (pv 2))) (kp k_int) (fun _ _ => rfl))) (kp (k_idx rfl (kp (kz (kf_lst (a_cons k_int (a_cons k_int a_nil))))) (kp (k_mod (kp (k_fdiv (kp (k_idx rfl (kp (k_var (pv 2))) (kp k_int) (fun _ _ => rfl))) (kp k_int))) (kp k_int))) (fun _ _ => rfl)))))))
  (s_one (s_ret (n := False) (k_frm (a_cons (k_var (pv 3)) (a_cons (k_add (kp (k_add (kp (k_var (pv 3))) (kp k_int))) (kp (k_mod (kp (k_idx rfl (kp (k_var (pv 2))) (kp k_int) (fun _ _ => rfl))) (kp (k_idx rfl (kp (kz (kf_lst (a_cons k_int (a_cons k_int a_nil))))) (kp (k_mod (kp (k_fdiv (kp (k_idx rfl (kp (k_var (pv 2))) (kp k_int) (fun _ _ => rfl))) (kp k_int))) (kp k_int))) (fun _ _ => rfl)))))) (a_cons (k_var (pv 4)) (a_cons (k_var (pv 5)) (a_cons (k_add (kp (k_add (kp (k_var (pv 5))) (kp k_int))) (kp (k_mod (kp (k_idx rfl (kp (k_var (pv 2))) (kp k_int) (fun _ _ => rfl))) (kp k_int)))) a_nil)))))))))))))
theorem ok__law_text (T : Txt K mg) : FnOk P w K mg base (L2.CX P w) 3 T.a__law_text T.d__law_text ["script", "at", "book", "most"] (spOf K P w cvL (XR K mg csL) m__law_text) :=
  fn_okL (k := 2) (a := 7) (b := 4) (m := b__law_text) rfl rfl T.F__law_text sc__law_text fun cdv A outer s H F0 E hr => by
    have hu := hr.units
    have tk : Takes (cxOf (L2.CX P w) P w K mg base ["script", "at", "book", "most", "draws", "text", "k"] "_law_text" (defScope s__law_text) T.a__law_text cdv A outer s H E) (fun cls dd _ H' => E cls dd H') := takes_of rfl rfl rfl rfl
    have hx : ∀ σ, PassesAt (L2.CX P w) (cxOf (L2.CX P w) P w K mg base ["script", "at", "book", "most", "draws", "text", "k"] "_law_text" (defScope s__law_text) T.a__law_text cdv A outer s H E) σ (WE (fun cls dd _ H' => E cls dd H') σ) := fun σ => passAt tk σ
    exact (s_cons (s_set (n := False) (i := 4) sc__law_text.nd rfl (by first | exact Or.inl rfl | exact Or.inr rfl) (k_call (ok__law_draws T) (hr.mono (by decide)) (by rfl) T.g__law_draws T.F__law_draws.kp T.b__law_draws hx (a_cons (k_var (pv 0)) (a_cons (k_var (pv 1)) (a_cons k_int (a_cons k_int a_nil))))))
  (s_cons (s_set (n := False) (i := 5) sc__law_text.nd rfl (by first | exact Or.inl rfl | exact Or.inr rfl) k_str)
  (s_cons (s_for (n := False) (sem_name (i := 6)) (passes_of rfl) rfl (i_range1 (by rfl) T.n_range (a_cons (k_add (kp k_int) (kp (k_mod (kp (k_idx rfl (kp (k_var (pv 4))) (kp k_int) (fun _ _ => rfl))) (kp (k_var (pv 3)))))) a_nil)) (pg_name (i := 6) sc__law_text.nd rfl (by first | exact Or.inl rfl | exact Or.inr rfl))
  (s_cons (s_if (n := False) (t_bool (w_and (t_gt (kp (k_var (pv 6))) (kp k_int)) (w_one (t_eq hu rfl (kp (k_mod (kp (k_idx rfl (kp (k_var (pv 4))) (kp (k_add (kp k_int) (kp (k_var (pv 6))))) (fun _ _ => rfl))) (kp k_int))) (kp k_int)))))
  (s_one (s_set (n := False) (i := 5) sc__law_text.nd rfl (by first | exact Or.inl rfl | exact Or.inr rfl) (k_add (kp (k_var (pv 5))) (kp k_str))))
  s_nil)
  (s_one (s_set (n := False) (i := 5) sc__law_text.nd rfl (by first | exact Or.inl rfl | exact Or.inr rfl) (k_add (kp (k_var (pv 5))) (kp (k_idx rfl (kp (k_idx rfl (kp (k_var (pv 2))) (kp (k_mod (kp (k_fdiv (kp (k_idx rfl (kp (k_var (pv 4))) (kp (k_add (kp k_int) (kp (k_var (pv 6))))) (fun _ _ => rfl))) (kp k_int))) (kp (k_bi call_len sem_len (by rfl) T.n_len (by decide +kernel) (b_cons (kp (k_var (pv 2))) b_nil))))) (fun _ _ => rfl))) (kp k_int) (fun _ _ => rfl))))))))
  (s_one (s_ret (n := False) (k_var (pv 5)))))))
theorem ok__law_read (T : Txt K mg) : FnOk P w K mg base (L2.CX P w) 1 T.a__law_read T.d__law_read ["book", "form", "numbers"] (spOf K P w cvL (XR K mg csL) m__law_read) :=
  fn_okL (k := 0) (a := 9) (b := 3) (m := b__law_read) rfl rfl T.F__law_read sc__law_read fun cdv A outer s H F0 E hr => by
    have hu := hr.units
    have tk : Takes (cxOf (L2.CX P w) P w K mg base ["book", "form", "numbers", "signs", "sign", "row", "text", "k", "number"] "_law_read" (defScope s__law_read) T.a__law_read cdv A outer s H E) (fun cls dd _ H' => E cls dd H') := takes_of rfl rfl rfl rfl
    have hx : ∀ σ, PassesAt (L2.CX P w) (cxOf (L2.CX P w) P w K mg base ["book", "form", "numbers", "signs", "sign", "row", "text", "k", "number"] "_law_read" (defScope s__law_read) T.a__law_read cdv A outer s H E) σ (WE (fun cls dd _ H' => E cls dd H') σ) := fun σ => passAt tk σ
    exact (s_cons (s_setD (n := False) (i := 3) sc__law_read.nd rfl (by first | exact Or.inl rfl | exact Or.inr rfl) kd_new)
  (s_cons (s_for (n := False) (sem_tupG (is := [4, 5]) (k := 2) rfl) (passes_of rfl) rfl (i_any rfl (k_var (pv 0))) (pg_tup rfl (pgs_cons (pg_name (i := 4) sc__law_read.nd rfl (by first | exact Or.inl rfl | exact Or.inr rfl)) (pgs_cons (pg_name (i := 5) sc__law_read.nd rfl (by first | exact Or.inl rfl | exact Or.inr rfl)) pgs_nil)))
  (s_one (s_dput (n := False) hu (pv 3) (k_var (pv 5)) (k_var (pv 4)))))
  (s_cons (s_set (n := False) (i := 6) sc__law_read.nd rfl (by first | exact Or.inl rfl | exact Or.inr rfl) k_str)
  (s_cons (s_set (n := False) (i := 5) sc__law_read.nd rfl (by first | exact Or.inl rfl | exact Or.inr rfl) k_str)
  (s_cons (s_for (n := False) (sem_tupG (is := [7, 8]) (k := 2) rfl) (passes_of rfl) rfl (i_enumA rfl (by rfl) T.n_enumerate (a_cons (k_add (kp (k_var (pv 2))) (kp (kz (kf_lst (a_cons (k_idx rfl (kp (k_var (pv 1))) (kp k_int) (fun _ _ => rfl)) a_nil))))) a_nil)) (pg_tup rfl (pgs_cons (pg_name (i := 7) sc__law_read.nd rfl (by first | exact Or.inl rfl | exact Or.inr rfl)) (pgs_cons (pg_name (i := 8) sc__law_read.nd rfl (by first | exact Or.inl rfl | exact Or.inr rfl)) pgs_nil)))
  (s_one (s_if (n := False) (t_bool (w_and (t_eq hu rfl (kp (k_mod (kp (k_var (pv 7))) (kp k_int))) (kp k_int)) (w_one (t_lt (kp (k_var (pv 7))) (kp (k_bi call_len sem_len (by rfl) T.n_len (by decide +kernel) (b_cons (kp (k_var (pv 2))) b_nil)))))))
  (s_cons (s_if (n := False) (t_nin hu rfl (by rfl) (kp (k_var (pv 8))) (kp (k_sl rfl (kp (k_var (pv 1))) o_none (o_some k_int))))
  (s_one (s_ret (n := False) k_non))
  s_nil)
  (s_one (s_set (n := False) (i := 5) sc__law_read.nd rfl (by first | exact Or.inl rfl | exact Or.inr rfl) (k_add (kp (k_var (pv 5))) (kp (k_idx rfl (kp (kz (kf_lst (a_cons k_str (a_cons k_str a_nil))))) (kp (k_ty call_int1 sem_intD (by rfl) T.n_int (by decide +kernel) (b_cons (kp (k_eq hu rfl (kp (k_var (pv 8))) (kp (k_idx rfl (kp (k_var (pv 1))) (kp k_int) (fun _ _ => rfl))))) b_nil))) (fun _ _ => rfl)))))))
  (s_one (s_if (n := False) (t_bool (w_or (t_eq hu rfl (kp (k_mod (kp (k_var (pv 7))) (kp k_int))) (kp k_int)) (w_one (t_nin hu rfl (by rfl) (kp (k_var (pv 8))) (kp (k_sl rfl (kp (k_var (pv 1))) (o_some k_int) o_none))))))
  (s_one (s_ret (n := False) k_non))
  (s_one (s_if (n := False) (t_ne hu rfl (kp (k_var (pv 8))) (kp (k_idx rfl (kp (k_var (pv 1))) (kp k_int) (fun _ _ => rfl))))
  (s_cons (s_if (n := False) (t_dnin hu (kp (k_var (pv 5))) (pv 3))
  (s_one (s_ret (n := False) k_non))
  s_nil)
  (s_cons (s_set (n := False) (i := 6) sc__law_read.nd rfl (by first | exact Or.inl rfl | exact Or.inr rfl) (k_add (kp (k_add (kp (k_var (pv 6))) (kp (k_dget hu (pv 3) (k_var (pv 5)) (fun _ _ => rfl))))) (kp (k_idx rfl (kp (kz (kf_lst (a_cons k_str (a_cons k_str a_nil))))) (kp (k_ty call_int1 sem_intD (by rfl) T.n_int (by decide +kernel) (b_cons (kp (k_or (k_eq hu rfl (kp (k_var (pv 8))) (kp (k_idx rfl (kp (k_var (pv 1))) (kp k_int) (fun _ _ => rfl)))) (k_one (k_eq hu rfl (kp (k_var (pv 7))) (kp (k_bi call_len sem_len (by rfl) T.n_len (by decide +kernel) (b_cons (kp (k_var (pv 2))) b_nil))))))) b_nil))) (fun _ _ => rfl)))))
  (s_one (s_set (n := False) (i := 5) sc__law_read.nd rfl (by first | exact Or.inl rfl | exact Or.inr rfl) k_str))))
  s_nil)))))))
  (s_one (s_ret (n := False) (k_var (pv 6)))))))))
theorem ok__law_bent (T : Txt K mg) : FnOk P w K mg base (L2.CX P w) 1 T.a__law_bent T.d__law_bent ["weights", "form", "row"] (spOf K P w cvL (XR K mg csL) m__law_bent) :=
  fn_okL (k := 0) (a := 6) (b := 3) (m := b__law_bent) rfl rfl T.F__law_bent sc__law_bent fun cdv A outer s H F0 E hr => by
    have hu := hr.units
    have tk : Takes (cxOf (L2.CX P w) P w K mg base ["weights", "form", "row", "found", "at", "way"] "_law_bent" (defScope s__law_bent) T.a__law_bent cdv A outer s H E) (fun cls dd _ H' => E cls dd H') := takes_of rfl rfl rfl rfl
    have hx : ∀ σ, PassesAt (L2.CX P w) (cxOf (L2.CX P w) P w K mg base ["weights", "form", "row", "found", "at", "way"] "_law_bent" (defScope s__law_bent) T.a__law_bent cdv A outer s H E) σ (WE (fun cls dd _ H' => E cls dd H') σ) := fun σ => passAt tk σ
    exact (s_cons (s_setF (n := False) (i := 3) sc__law_bent.nd rfl (by first | exact Or.inl rfl | exact Or.inr rfl) (kf_ty call_list_of sem_list (by rfl) T.n_list (by decide +kernel) (b_cons (kp (k_var (pv 0))) b_nil)))
  (s_cons (s_set (n := False) (i := 4) sc__law_bent.nd rfl (by first | exact Or.inl rfl | exact Or.inr rfl) (k_mod (kp (k_idx rfl (kp (k_var (pv 2))) (kp k_int) (fun _ _ => rfl))) (kp (k_bi call_len sem_len (by rfl) T.n_len (by decide +kernel) (b_cons (k_peek (pv 3)) b_nil)))))
  (s_cons (s_set (n := False) (i := 5) sc__law_bent.nd rfl (by first | exact Or.inl rfl | exact Or.inr rfl) (k_mod (kp (k_idx rfl (kp (k_var (pv 2))) (kp k_int) (fun _ _ => rfl))) (kp k_int)))
  (s_cons (s_if (n := False) (t_lt (kp (k_var (pv 5))) (kp k_int))
  (s_one (s_setIx (n := False) (pv 3) (k_var (pv 4)) (k_idx rfl (kp (k_var (pv 1))) (kp (k_mod (kp (k_idx rfl (kp (k_var (pv 2))) (kp k_int) (fun _ _ => rfl))) (kp k_int))) (fun _ _ => rfl))))
  (s_one (s_if (n := False) (t_eq hu rfl (kp (k_var (pv 5))) (kp k_int))
  (s_one (s_setIx (n := False) (pv 3) (k_var (pv 4)) (k_add (kp (k_idx rfl (k_peek (pv 3)) (kp (k_var (pv 4))) (fun _ _ => rfl))) (kp (k_idx rfl (kp (kz (kf_lst (a_cons k_int (a_cons (k_neg (kp k_int)) a_nil))))) (kp (k_mod (kp (k_idx rfl (kp (k_var (pv 2))) (kp k_int) (fun _ _ => rfl))) (kp k_int))) (fun _ _ => rfl))))))
  (s_one (s_if (n := False) (t_eq hu rfl (kp (k_var (pv 5))) (kp k_int))
  (s_one (s_expr (n := False) (k_pop (pv 3) (a_cons (k_var (pv 4)) a_nil))))
  (s_one (s_if (n := False) (t_eq hu rfl (kp (k_var (pv 5))) (kp k_int))
  (s_one (s_insert (n := False) (pv 3) (a_cons (k_var (pv 4)) (a_cons (k_idx rfl (k_peek (pv 3)) (kp (k_mod (kp (k_idx rfl (kp (k_var (pv 2))) (kp k_int) (fun _ _ => rfl))) (kp (k_bi call_len sem_len (by rfl) T.n_len (by decide +kernel) (b_cons (k_peek (pv 3)) b_nil))))) (fun _ _ => rfl)) a_nil))))
  (s_one (s_setF (n := False) (i := 3) sc__law_bent.nd rfl (by first | exact Or.inl rfl | exact Or.inr rfl) (kf_cat (kp (k_add (kp (k_sl rfl (k_peek (pv 3)) o_none (o_some (k_var (pv 4))))) (kp (k_rev rfl (kp (k_sl rfl (k_peek (pv 3)) (o_some (k_var (pv 4))) (o_some (k_add (kp (k_var (pv 4))) (kp k_int))))))))) (kp (k_sl rfl (k_peek (pv 3)) (o_some (k_add (kp (k_var (pv 4))) (kp k_int))) o_none))))))))))))
  (s_one (s_retO (pv 3)))))))
theorem ok_law (T : Txt K mg) : FnOk P w K mg base (L2.CX P w) 4 T.a_law T.d_law ["script"] (spOf K P w cvL (XR K mg csL) m_law) :=
  fn_okL (k := 3) (a := 14) (b := 1) (m := b_law) rfl rfl T.F_law sc_law fun cdv A outer s H F0 E hr => by
    have hu := hr.units
    have tk : Takes (cxOf (L2.CX P w) P w K mg base ["script", "at", "book", "form", "draws", "known", "k", "text", "weights", "handed", "j", "one", "draw", "number"] "law" (defScope s_law) T.a_law cdv A outer s H E) (fun cls dd _ H' => E cls dd H') := takes_of rfl rfl rfl rfl
    have hx : ∀ σ, PassesAt (L2.CX P w) (cxOf (L2.CX P w) P w K mg base ["script", "at", "book", "form", "draws", "known", "k", "text", "weights", "handed", "j", "one", "draw", "number"] "law" (defScope s_law) T.a_law cdv A outer s H E) σ (WE (fun cls dd _ H' => E cls dd H') σ) := fun σ => passAt tk σ
    exact (s_cons (s_for (n := False) (sem_name (i := 1)) (passes_of rfl) rfl (i_range1 (by rfl) T.n_range (a_cons k_int a_nil)) (pg_name (i := 1) sc_law.nd rfl (by first | exact Or.inl rfl | exact Or.inr rfl))
  (s_cons (s_set (n := False) (i := 2) sc_law.nd rfl (by first | exact Or.inl rfl | exact Or.inr rfl) (k_call (ok__law_book T) (hr.mono (by decide)) (by rfl) T.g__law_book T.F__law_book.kp T.b__law_book hx (a_cons (k_var (pv 0)) (a_cons (k_mul (kp k_int) (kp (k_var (pv 1)))) (a_cons (k_idx rfl (kp (kz (kf_lst (a_cons k_int (a_cons k_int a_nil))))) (kp (k_var (pv 1))) (fun _ _ => rfl)) a_nil)))))
  (s_cons (s_set (n := False) (i := 3) sc_law.nd rfl (by first | exact Or.inl rfl | exact Or.inr rfl) (k_call (ok__law_form T) (hr.mono (by decide)) (by rfl) T.g__law_form T.F__law_form.kp T.b__law_form hx (a_cons (k_var (pv 0)) (a_cons (k_add (kp (k_mul (kp k_int) (kp (k_var (pv 1))))) (kp k_int)) a_nil))))
  (s_cons (s_set (n := False) (i := 4) sc_law.nd rfl (by first | exact Or.inl rfl | exact Or.inr rfl) (k_call (ok__law_draws T) (hr.mono (by decide)) (by rfl) T.g__law_draws T.F__law_draws.kp T.b__law_draws hx (a_cons (k_var (pv 0)) (a_cons (k_add (kp (k_mul (kp k_int) (kp (k_var (pv 1))))) (kp k_int)) (a_cons k_int (a_cons k_int a_nil))))))
  (s_cons (s_newN (i := 5) rfl rfl sc_law.nd rfl (by first | exact Or.inl rfl | exact Or.inr rfl))
  (s_cons (s_for (n := False) (sem_name (i := 6)) (passes_of rfl) rfl (i_range1 (by rfl) T.n_range (a_cons k_int a_nil)) (pg_name (i := 6) sc_law.nd rfl (by first | exact Or.inl rfl | exact Or.inr rfl))
  (s_cons (s_set (n := False) (i := 7) sc_law.nd rfl (by first | exact Or.inl rfl | exact Or.inr rfl) (k_call (ok__law_text T) (hr.mono (by decide)) (by rfl) T.g__law_text T.F__law_text.kp T.b__law_text hx (a_cons (k_var (pv 0)) (a_cons (k_add (kp (k_add (kp (k_mul (kp k_int) (kp (k_var (pv 1))))) (kp k_int))) (kp (k_mul (kp k_int) (kp (k_var (pv 6)))))) (a_cons (k_var (pv 2)) (a_cons k_int a_nil))))))
  (s_cons (s_set (n := False) (i := 8) sc_law.nd rfl (by first | exact Or.inl rfl | exact Or.inr rfl) (k_call (ok_weights_of T) (hr.mono (by decide)) (by rfl) T.g_weights_of T.F_weights_of.kp T.b_weights_of hx (a_cons (k_var (pv 2)) (a_cons (k_var (pv 3)) (a_cons (k_var (pv 7)) a_nil)))))
  (s_cons (s_set (n := False) (i := 9) sc_law.nd rfl (by first | exact Or.inl rfl | exact Or.inr rfl) (kz (kf_ty call_list_of sem_list (by rfl) T.n_list (by decide +kernel) (b_cons (kp (k_var (pv 8))) b_nil))))
  (s_cons (s_if (n := False) (t_bool (w_or (t_ne hu rfl (kp (k_call (ok_text_of T) (hr.mono (by decide)) (by rfl) T.g_text_of T.F_text_of.kp T.b_text_of hx (a_cons (k_var (pv 2)) (a_cons (k_var (pv 3)) (a_cons (k_var (pv 9)) a_nil))))) (kp (k_var (pv 7)))) (w_one (t_ne hu rfl (kp (k_var (pv 9))) (kp (k_var (pv 8)))))))
  (s_one (s_ret (n := False) k_bl))
  s_nil)
  (s_cons (s_if (n := False) (t_ne hu rfl (kp (k_nget2 hu rfl rfl rfl (pv 5) (k_ty call_tuple_of sem_tup (by rfl) T.n_tuple (by decide +kernel) (b_cons (kp (k_var (pv 8))) b_nil)) (k_var (pv 7)) ⟨rfl, rfl, rfl, rfl⟩)) (kp (k_var (pv 7))))
  (s_one (s_ret (n := False) k_bl))
  s_nil)
  (s_cons (s_nput (n := False) hu rfl rfl rfl (pv 5) (k_ty call_tuple_of sem_tup (by rfl) T.n_tuple (by decide +kernel) (b_cons (kp (k_var (pv 8))) b_nil)) (k_var (pv 7)))
  (s_one (s_for (n := False) (sem_name (i := 10)) (passes_of rfl) rfl (i_range1 (by rfl) T.n_range (a_cons k_int a_nil)) (pg_name (i := 10) sc_law.nd rfl (by first | exact Or.inl rfl | exact Or.inr rfl))
  (s_cons (s_set (n := False) (i := 11) sc_law.nd rfl (by first | exact Or.inl rfl | exact Or.inr rfl) (k_call (ok__law_bent T) (hr.mono (by decide)) (by rfl) T.g__law_bent T.F__law_bent.kp T.b__law_bent hx (a_cons (k_var (pv 8)) (a_cons (k_var (pv 3)) (a_cons (k_sl rfl (kp (k_var (pv 4))) (o_some (k_add (kp (k_mul (kp k_int) (kp (k_var (pv 10))))) (kp (k_mul (kp k_int) (kp (k_var (pv 6))))))) (o_some (k_add (kp (k_add (kp (k_mul (kp k_int) (kp (k_var (pv 10))))) (kp (k_mul (kp k_int) (kp (k_var (pv 6))))))) (kp k_int)))) a_nil)))))
  (s_one (s_if (n := False) (t_ne hu rfl (kp (k_call (ok_text_of T) (hr.mono (by decide)) (by rfl) T.g_text_of T.F_text_of.kp T.b_text_of hx (a_cons (k_var (pv 2)) (a_cons (k_var (pv 3)) (a_cons (kz (kf_ty call_list_of sem_list (by rfl) T.n_list (by decide +kernel) (b_cons (kp (k_var (pv 11))) b_nil))) a_nil))))) (kp (k_call (ok__law_read T) (hr.mono (by decide)) (by rfl) T.g__law_read T.F__law_read.kp T.b__law_read hx (a_cons (k_var (pv 2)) (a_cons (k_var (pv 3)) (a_cons (k_var (pv 11)) a_nil))))))
  (s_one (s_ret (n := False) k_bl))
  s_nil))))))))))))
  (s_one (s_for (n := False) (sem_name (i := 6)) (passes_of rfl) rfl (i_range1 (by rfl) T.n_range (a_cons k_int a_nil)) (pg_name (i := 6) sc_law.nd rfl (by first | exact Or.inl rfl | exact Or.inr rfl))
  (s_cons (s_setLcZ (n := False) (i := 11) (own := [("draw", 12)]) (sem_name (i := 12)) (by decide) rfl sc_law.nd rfl rfl (sw_true rfl rfl rfl (by decide +kernel)) (ip_of (i_any rfl (k_sl rfl (kp (k_var (pv 4))) (o_some (k_var (pv 6))) (o_some (k_mul (kp k_int) (kp (k_var (pv 6)))))))) (blkOk_by (N := ["script", "at", "book", "form", "draws", "known", "k", "text", "weights", "handed", "j", "one", "draw", "number"]) (sc := (defScope s_law)) (own := [("draw", 12)]) (by decide +kernel)) (fun _ _ _ _ _ => (pg_name (i := 12) sc_law.nd rfl (by first | exact Or.inl rfl | exact Or.inr rfl))) (fun _ _ _ _ _ => ts_nil) (fun _ _ _ _ _ => (k_idx rfl (kp (k_var (pv 3))) (kp (k_mod (kp (k_var (pv 12))) (kp k_int))) (fun _ _ => rfl))))
  (s_cons (s_setLcZ (n := False) (i := 11) (own := [("j", 10), ("number", 13)]) (sem_tupG (is := [10, 13]) (k := 2) rfl) (by decide) rfl sc_law.nd rfl rfl (sw_true rfl rfl rfl (by decide +kernel)) (ip_of (i_enumA rfl (by rfl) T.n_enumerate (a_cons (k_var (pv 11)) a_nil))) (blkOk_by (N := ["script", "at", "book", "form", "draws", "known", "k", "text", "weights", "handed", "j", "one", "draw", "number"]) (sc := (defScope s_law)) (own := [("j", 10), ("number", 13)]) (by decide +kernel)) (fun _ _ _ _ _ => (pg_tup rfl (pgs_cons (pg_name (i := 10) sc_law.nd rfl (by first | exact Or.inl rfl | exact Or.inr rfl)) (pgs_cons (pg_name (i := 13) sc_law.nd rfl (by first | exact Or.inl rfl | exact Or.inr rfl)) pgs_nil)))) (fun _ _ _ _ _ => ts_nil) (fun _ _ _ _ _ => (k_if (t_eq hu rfl (kp (k_mod (kp (k_var (pv 10))) (kp k_int))) (kp k_int)) (k_var (pv 13)) (k_idx rfl (kp (k_var (pv 3))) (kp (k_add (kp k_int) (kp (k_mod (kp (k_idx rfl (kp (k_var (pv 4))) (kp (k_var (pv 10))) (fun _ _ => rfl))) (kp k_int))))) (fun _ _ => rfl)))))
  (s_one (s_if (n := False) (t_ne hu rfl (kp (k_call (ok_text_of T) (hr.mono (by decide)) (by rfl) T.g_text_of T.F_text_of.kp T.b_text_of hx (a_cons (k_var (pv 2)) (a_cons (k_var (pv 3)) (a_cons (kz (kf_ty call_list_of sem_list (by rfl) T.n_list (by decide +kernel) (b_cons (kp (k_var (pv 11))) b_nil))) a_nil))))) (kp (k_call (ok__law_read T) (hr.mono (by decide)) (by rfl) T.g__law_read T.F__law_read.kp T.b__law_read hx (a_cons (k_var (pv 2)) (a_cons (k_var (pv 3)) (a_cons (k_var (pv 11)) a_nil))))))
  (s_one (s_ret (n := False) k_bl))
  s_nil))))))))))))
  (s_one (s_ret (n := False) k_bl)))
end
theorem all_mk (hT : ∀ ns : List Int, ns.length ≤ 63 → m_law [scr ns] = .ok (.bool true)) {l : PySem.W.OpenLaw} {w : World} {K : PySem.W.Frag} {h : Heap} {mg : Str → Option Value} {fa : Addr} (X : K.In h) (G : h.Ns mainGlobals mg) (hfa : mg "law" = some (.ref fa))
    {f0 : Addr} {od0 an0 : Option Addr} {sl0 : Array (Option Value)} {oc0 kV0 dc0 pm0 cd0 ct0 : Value}
    (a0 : PySem.W.nsIn K mainGlobals "row_weights" = some (some (.ref f0))) (l0 : K.lookup f0 = some ⟨oc0, od0, .func (PySem.W.fnOf "row_weights" "row_weights" (defArgs s_row_weights) (defBody s_row_weights) (defScope s_row_weights) .none kV0 dc0 pm0 an0 cd0 ct0), sl0⟩) (c0 : PySem.W.codeIn K cd0 "row_weights" = true) (k0 : PySem.W.keepIn K (.ref f0) = true)
    {f1 : Addr} {od1 an1 : Option Addr} {sl1 : Array (Option Value)} {oc1 kV1 dc1 pm1 cd1 ct1 : Value}
    (a1 : PySem.W.nsIn K mainGlobals "weights_of" = some (some (.ref f1))) (l1 : K.lookup f1 = some ⟨oc1, od1, .func (PySem.W.fnOf "weights_of" "weights_of" (defArgs s_weights_of) (defBody s_weights_of) (defScope s_weights_of) .none kV1 dc1 pm1 an1 cd1 ct1), sl1⟩) (c1 : PySem.W.codeIn K cd1 "weights_of" = true) (k1 : PySem.W.keepIn K (.ref f1) = true)
    {f2 : Addr} {od2 an2 : Option Addr} {sl2 : Array (Option Value)} {oc2 kV2 dc2 pm2 cd2 ct2 : Value}
    (a2 : PySem.W.nsIn K mainGlobals "text_of" = some (some (.ref f2))) (l2 : K.lookup f2 = some ⟨oc2, od2, .func (PySem.W.fnOf "text_of" "text_of" (defArgs s_text_of) (defBody s_text_of) (defScope s_text_of) .none kV2 dc2 pm2 an2 cd2 ct2), sl2⟩) (c2 : PySem.W.codeIn K cd2 "text_of" = true) (k2 : PySem.W.keepIn K (.ref f2) = true)
    {f3 : Addr} {od3 an3 : Option Addr} {sl3 : Array (Option Value)} {oc3 kV3 dc3 pm3 cd3 ct3 : Value}
    (a3 : PySem.W.nsIn K mainGlobals "_law_cell" = some (some (.ref f3))) (l3 : K.lookup f3 = some ⟨oc3, od3, .func (PySem.W.fnOf "_law_cell" "_law_cell" (defArgs s__law_cell) (defBody s__law_cell) (defScope s__law_cell) .none kV3 dc3 pm3 an3 cd3 ct3), sl3⟩) (c3 : PySem.W.codeIn K cd3 "_law_cell" = true) (k3 : PySem.W.keepIn K (.ref f3) = true)
    {f4 : Addr} {od4 an4 : Option Addr} {sl4 : Array (Option Value)} {oc4 kV4 dc4 pm4 cd4 ct4 : Value}
    (a4 : PySem.W.nsIn K mainGlobals "_law_draws" = some (some (.ref f4))) (l4 : K.lookup f4 = some ⟨oc4, od4, .func (PySem.W.fnOf "_law_draws" "_law_draws" (defArgs s__law_draws) (defBody s__law_draws) (defScope s__law_draws) .none kV4 dc4 pm4 an4 cd4 ct4), sl4⟩) (c4 : PySem.W.codeIn K cd4 "_law_draws" = true) (k4 : PySem.W.keepIn K (.ref f4) = true)
    {f5 : Addr} {od5 an5 : Option Addr} {sl5 : Array (Option Value)} {oc5 kV5 dc5 pm5 cd5 ct5 : Value}
    (a5 : PySem.W.nsIn K mainGlobals "_law_book" = some (some (.ref f5))) (l5 : K.lookup f5 = some ⟨oc5, od5, .func (PySem.W.fnOf "_law_book" "_law_book" (defArgs s__law_book) (defBody s__law_book) (defScope s__law_book) .none kV5 dc5 pm5 an5 cd5 ct5), sl5⟩) (c5 : PySem.W.codeIn K cd5 "_law_book" = true) (k5 : PySem.W.keepIn K (.ref f5) = true)
    {f6 : Addr} {od6 an6 : Option Addr} {sl6 : Array (Option Value)} {oc6 kV6 dc6 pm6 cd6 ct6 : Value}
    (a6 : PySem.W.nsIn K mainGlobals "_law_form" = some (some (.ref f6))) (l6 : K.lookup f6 = some ⟨oc6, od6, .func (PySem.W.fnOf "_law_form" "_law_form" (defArgs s__law_form) (defBody s__law_form) (defScope s__law_form) .none kV6 dc6 pm6 an6 cd6 ct6), sl6⟩) (c6 : PySem.W.codeIn K cd6 "_law_form" = true) (k6 : PySem.W.keepIn K (.ref f6) = true)
    {f7 : Addr} {od7 an7 : Option Addr} {sl7 : Array (Option Value)} {oc7 kV7 dc7 pm7 cd7 ct7 : Value}
    (a7 : PySem.W.nsIn K mainGlobals "_law_text" = some (some (.ref f7))) (l7 : K.lookup f7 = some ⟨oc7, od7, .func (PySem.W.fnOf "_law_text" "_law_text" (defArgs s__law_text) (defBody s__law_text) (defScope s__law_text) .none kV7 dc7 pm7 an7 cd7 ct7), sl7⟩) (c7 : PySem.W.codeIn K cd7 "_law_text" = true) (k7 : PySem.W.keepIn K (.ref f7) = true)
    {f8 : Addr} {od8 an8 : Option Addr} {sl8 : Array (Option Value)} {oc8 kV8 dc8 pm8 cd8 ct8 : Value}
    (a8 : PySem.W.nsIn K mainGlobals "_law_read" = some (some (.ref f8))) (l8 : K.lookup f8 = some ⟨oc8, od8, .func (PySem.W.fnOf "_law_read" "_law_read" (defArgs s__law_read) (defBody s__law_read) (defScope s__law_read) .none kV8 dc8 pm8 an8 cd8 ct8), sl8⟩) (c8 : PySem.W.codeIn K cd8 "_law_read" = true) (k8 : PySem.W.keepIn K (.ref f8) = true)
    {f9 : Addr} {od9 an9 : Option Addr} {sl9 : Array (Option Value)} {oc9 kV9 dc9 pm9 cd9 ct9 : Value}
    (a9 : PySem.W.nsIn K mainGlobals "_law_bent" = some (some (.ref f9))) (l9 : K.lookup f9 = some ⟨oc9, od9, .func (PySem.W.fnOf "_law_bent" "_law_bent" (defArgs s__law_bent) (defBody s__law_bent) (defScope s__law_bent) .none kV9 dc9 pm9 an9 cd9 ct9), sl9⟩) (c9 : PySem.W.codeIn K cd9 "_law_bent" = true) (k9 : PySem.W.keepIn K (.ref f9) = true)
    {f10 : Addr} {od10 an10 : Option Addr} {sl10 : Array (Option Value)} {oc10 kV10 dc10 pm10 cd10 ct10 : Value}
    (a10 : PySem.W.nsIn K mainGlobals "law" = some (some (.ref f10))) (l10 : K.lookup f10 = some ⟨oc10, od10, .func (PySem.W.fnOf "law" "law" (defArgs s_law) (defBody s_law) (defScope s_law) .none kV10 dc10 pm10 an10 cd10 ct10), sl10⟩) (c10 : PySem.W.codeIn K cd10 "law" = true) (k10 : PySem.W.keepIn K (.ref f10) = true)
    {ax_NoSign : Addr} (yx_NoSign : PySem.W.nsIn K mainGlobals "NoSign" = some (some (.ref ax_NoSign)))
    (xp_NoSign : PySem.W.excIn K ax_NoSign [.type "ValueError", .type "Exception", .type "BaseException", .type "object"] "ValueError.__new__" = true) (xk_NoSign : PySem.W.keepIn K (.ref ax_NoSign) = true) (xb_NoSign : PySem.W.subIn K (.ref ax_NoSign) (.type "BaseException") = some true) (xt_NoSign : PySem.W.typeIn K (.ref ax_NoSign) = some (.type "type"))
    (z_KeyError : PySem.W.nsIn K mainGlobals "KeyError" = some none)
    (z_dict : PySem.W.nsIn K mainGlobals "dict" = some none)
    (z_enumerate : PySem.W.nsIn K mainGlobals "enumerate" = some none)
    (z_int : PySem.W.nsIn K mainGlobals "int" = some none)
    (z_len : PySem.W.nsIn K mainGlobals "len" = some none)
    (z_list : PySem.W.nsIn K mainGlobals "list" = some none)
    (z_range : PySem.W.nsIn K mainGlobals "range" = some none)
    (z_tuple : PySem.W.nsIn K mainGlobals "tuple" = some none)
    : ∃ fd : FuncData, (∀ (s : Shared) (v : Value), BindsTo s fd ⟨[v], []⟩ [("script", v)]) ∧ ∀ base : Heap, K.In base → base.Ns mainGlobals mg → FnOk l.prog w K mg base (L2.CX l.prog w) 4 fa fd ["script"] (spLaw K) := by
  have e := hfa.symm.trans (PySem.W.mg_of X G a10)
  cases e
  have F0 := fun_mk (st := s_row_weights) l0 c0 k0
  have B0 := F0.binds (ps := ["form", "row"]) fun _ _ _ _ _ _ us hl => match us, hl with | [_, _], _ => rfl
  have F1 := fun_mk (st := s_weights_of) l1 c1 k1
  have B1 := F1.binds (ps := ["book", "form", "text"]) fun _ _ _ _ _ _ us hl => match us, hl with | [_, _, _], _ => rfl
  have F2 := fun_mk (st := s_text_of) l2 c2 k2
  have B2 := F2.binds (ps := ["book", "form", "numbers"]) fun _ _ _ _ _ _ us hl => match us, hl with | [_, _, _], _ => rfl
  have F3 := fun_mk (st := s__law_cell) l3 c3 k3
  have B3 := F3.binds (ps := ["script", "k"]) fun _ _ _ _ _ _ us hl => match us, hl with | [_, _], _ => rfl
  have F4 := fun_mk (st := s__law_draws) l4 c4 k4
  have B4 := F4.binds (ps := ["script", "k", "many", "base"]) fun _ _ _ _ _ _ us hl => match us, hl with | [_, _, _, _], _ => rfl
  have F5 := fun_mk (st := s__law_book) l5 c5 k5
  have B5 := F5.binds (ps := ["script", "at", "most"]) fun _ _ _ _ _ _ us hl => match us, hl with | [_, _, _], _ => rfl
  have F6 := fun_mk (st := s__law_form) l6 c6 k6
  have B6 := F6.binds (ps := ["script", "at"]) fun _ _ _ _ _ _ us hl => match us, hl with | [_, _], _ => rfl
  have F7 := fun_mk (st := s__law_text) l7 c7 k7
  have B7 := F7.binds (ps := ["script", "at", "book", "most"]) fun _ _ _ _ _ _ us hl => match us, hl with | [_, _, _, _], _ => rfl
  have F8 := fun_mk (st := s__law_read) l8 c8 k8
  have B8 := F8.binds (ps := ["book", "form", "numbers"]) fun _ _ _ _ _ _ us hl => match us, hl with | [_, _, _], _ => rfl
  have F9 := fun_mk (st := s__law_bent) l9 c9 k9
  have B9 := F9.binds (ps := ["weights", "form", "row"]) fun _ _ _ _ _ _ us hl => match us, hl with | [_, _, _], _ => rfl
  have F10 := fun_mk (st := s_law) l10 c10 k10
  have B10 := F10.binds (ps := ["script"]) fun _ _ _ _ _ _ us hl => match us, hl with | [_], _ => rfl
  let T : Txt K mg := {
    a_x_NoSign := _, g_x_NoSign := PySem.W.mg_of X G yx_NoSign,
    x_NoSign := ⟨PySem.W.mg_of X G yx_NoSign, xp_NoSign, xk_NoSign, xb_NoSign, xt_NoSign⟩,
    a_row_weights := _, d_row_weights := _, F_row_weights := F0, g_row_weights := PySem.W.mg_of X G a0, b_row_weights := B0,
    a_weights_of := _, d_weights_of := _, F_weights_of := F1, g_weights_of := PySem.W.mg_of X G a1, b_weights_of := B1,
    a_text_of := _, d_text_of := _, F_text_of := F2, g_text_of := PySem.W.mg_of X G a2, b_text_of := B2,
    a__law_cell := _, d__law_cell := _, F__law_cell := F3, g__law_cell := PySem.W.mg_of X G a3, b__law_cell := B3,
    a__law_draws := _, d__law_draws := _, F__law_draws := F4, g__law_draws := PySem.W.mg_of X G a4, b__law_draws := B4,
    a__law_book := _, d__law_book := _, F__law_book := F5, g__law_book := PySem.W.mg_of X G a5, b__law_book := B5,
    a__law_form := _, d__law_form := _, F__law_form := F6, g__law_form := PySem.W.mg_of X G a6, b__law_form := B6,
    a__law_text := _, d__law_text := _, F__law_text := F7, g__law_text := PySem.W.mg_of X G a7, b__law_text := B7,
    a__law_read := _, d__law_read := _, F__law_read := F8, g__law_read := PySem.W.mg_of X G a8, b__law_read := B8,
    a__law_bent := _, d__law_bent := _, F__law_bent := F9, g__law_bent := PySem.W.mg_of X G a9, b__law_bent := B9,
    a_law := _, d_law := _, F_law := F10, g_law := PySem.W.mg_of X G a10, b_law := B10,
    n_KeyError := PySem.W.mg_none_of X G z_KeyError,
    n_dict := PySem.W.mg_none_of X G z_dict,
    n_enumerate := PySem.W.mg_none_of X G z_enumerate,
    n_int := PySem.W.mg_none_of X G z_int,
    n_len := PySem.W.mg_none_of X G z_len,
    n_list := PySem.W.mg_none_of X G z_list,
    n_range := PySem.W.mg_none_of X G z_range,
    n_tuple := PySem.W.mg_none_of X G z_tuple }
  exact ⟨T.d_law, fun s v => .of_eq rfl, fun base _ _ => law_end (xr := XR K mg csL) hT (ok_law T)⟩
end LawK03

open PySem PySem.W PyProof.Rows
set_option maxHeartbeats 0 in
theorem PySem.Challenge.cw_longshort_k03_whole_texts_told_back_holds : PySem.Challenge.rw_longshort_k03_whole_texts_told_back.Holds := by
  w_on; o_law; k_head; (case hw => w_witness2)
  k_fill
  refine L2.walk_of (l := PySem.Challenge.rw_longshort_k03_whole_texts_told_back) (n := 63) (k := 4) (x := "script") (CX := fun w => L2.CX (PySem.Challenge.rw_longshort_k03_whole_texts_told_back).prog w) (sp := fun w => DL.spLaw _) rfl (by decide) rfl ⟨rfl, by decide, by decide⟩ (fun w h Y => PySem.W.kIn_of Y) ?F (fun _ _ a ns hl _ hS => ⟨a, ns, rfl, hS, hl, fun _ => rfl⟩) (fun _ _ _ _ _ h => DL.cx_no h)
  case F =>
    intro w mg fa h KX G hmg
    refine' LawK03.all_mk (fun ns hn => LawK03.law_true ns hn) KX G hmg ?a0 ?l0 ?c0 ?k0 ?a1 ?l1 ?c1 ?k1 ?a2 ?l2 ?c2 ?k2 ?a3 ?l3 ?c3 ?k3 ?a4 ?l4 ?c4 ?k4 ?a5 ?l5 ?c5 ?k5 ?a6 ?l6 ?c6 ?k6 ?a7 ?l7 ?c7 ?k7 ?a8 ?l8 ?c8 ?k8 ?a9 ?l9 ?c9 ?k9 ?a10 ?l10 ?c10 ?k10 ?yx_NoSign ?xp_NoSign ?xk_NoSign ?xb_NoSign ?xt_NoSign ?z_KeyError ?z_dict ?z_enumerate ?z_int ?z_len ?z_list ?z_range ?z_tuple
    (case a0 => k_is); (case l0 => k_is); (case c0 => k_is); (case k0 => k_is); (case a1 => k_is); (case l1 => k_is); (case c1 => k_is); (case k1 => k_is); (case a2 => k_is); (case l2 => k_is); (case c2 => k_is); (case k2 => k_is); (case a3 => k_is); (case l3 => k_is); (case c3 => k_is); (case k3 => k_is); (case a4 => k_is); (case l4 => k_is); (case c4 => k_is); (case k4 => k_is); (case a5 => k_is); (case l5 => k_is); (case c5 => k_is); (case k5 => k_is); (case a6 => k_is); (case l6 => k_is); (case c6 => k_is); (case k6 => k_is); (case a7 => k_is); (case l7 => k_is); (case c7 => k_is); (case k7 => k_is); (case a8 => k_is); (case l8 => k_is); (case c8 => k_is); (case k8 => k_is); (case a9 => k_is); (case l9 => k_is); (case c9 => k_is); (case k9 => k_is); (case a10 => k_is); (case l10 => k_is); (case c10 => k_is); (case k10 => k_is); (case yx_NoSign => k_is); (case xp_NoSign => k_exc); (case xk_NoSign => k_is); (case xb_NoSign => k_is); (case xt_NoSign => k_is); (case z_KeyError => k_is); (case z_dict => k_is); (case z_enumerate => k_is); (case z_int => k_is); (case z_len => k_is); (case z_list => k_is); (case z_range => k_is); (case z_tuple => k_is)

