import PyProof.Rows.All
import Wide.All
import OpenK.AllK
import Wide.FinOn
import HandS.ForMost
import HandS.ForExc
import HandS.IsInst
import HandS.TupAny
import HandS.TupMul
import HandS.Deep
import HandS.Zip
import HandS.Conv
import HandS.SetFor
import HandS.Lambda
import KE.SortData
import HandS.Set
import HandS.Iter
import KE.KExcIs
import HandS.EndTab
import KE.KNest
import KE.GoesMore
import KE.DataFind
import KE.KIndexOf
import HandS.Style
import HandS.Strs
import HandS.More
import HandS.TupSets
import HandS.Sort
import KE.KDictWalk
import KE.KDictKeyed
import KE.KDictDisplayH
import KE.KDictCopyH
import HandS.TupLen
import KE.DataMinMax
import HandS.CallLocal
import PySem.Challenge.RW_backgates_k20_hidden
set_option Elab.async false
set_option linter.all false
set_option maxRecDepth 100000
set_option maxHeartbeats 4000000
namespace BG
open PySem PySem.Spec PyProof.Rows L2
/-- a new tuple, its object kept -/
abbrev NewT (H : Hp) (Q : VK) (xs : List V) : Prop := ∀ p ob, H p = none → Obj.dict ob = none → Obj.cls ob = .type "tuple" → Q (.ref p) (upd H p (.frz ob (.tup xs)))
section
variable {X : Cx} {pins : List (Addr × Obj)} {σ : L2.St} {H : Hp} {s : Shared}
theorem newT_laid {xs : List V} {us : List Value} {Q : VK} {h1 : Heap} {tk : Nat} (I1 : Inv X pins σ H { s with heap := h1, toks := tk }) (r : Vals xs us) (z : xs.length ≤ sizeLine) (q : NewT H Q xs) :
    EP X pins σ Q (.ref h1.objs.size) { s with heap := h1.push { cls := .type "tuple", data := .seq us.toArray }, toks := tk } := by
  have gt : (h1.push { cls := .type "tuple", data := .seq us.toArray }).get? h1.objs.size = some { cls := .type "tuple", data := .seq us.toArray } := Heap.get?_push_size _ rfl
  refine ⟨.ref h1.objs.size, upd H h1.objs.size (.frz { cls := .type "tuple", data := .seq us.toArray } (.tup xs)), ?_, rfl, q _ _ (I1.hok.fresh (Nat.le_refl _)) rfl rfl⟩
  exact I1.laid (a := h1.objs.size) (t' := tk) (fun b u e => Heap.get?_push_of_some _ e) (Nat.le_refl _) ⟨gt, z, us, r, ⟨_, gt, rfl, _, rfl⟩⟩
end
section
variable {X : Cx}
def tTupN (t : TA) : TE := fun σ H Q => t σ H fun xs H1 => xs.length ≤ sizeLine ∧ NewT H1 Q xs
theorem pe_tupN {es : List Expr} {t : TA} {x1} {pos : Pos} (h : PA X es t) : PE X (.Tuple es x1 pos) (tTupN t) := ⟨fun pins s σ H Q I hq =>
  wpAny_Tuple_spliced (thn (h.run pos pins s σ H _ I hq) fun us s1 ⟨xs, H1, I1, r, z, q⟩ => ⟨r.length ▸ z, newT_laid (s := s1) (h1 := s1.heap) (tk := s1.toks) I1 r z q⟩)⟩
def rCatN (K : PySem.W.Frag) : R2 := fun x y H Q => ∃ a b xs ys, x = .ref a ∧ y = .ref b ∧ SqT K H a xs ∧ SqT K H b ys ∧ xs.length + ys.length ≤ sizeLine ∧
  (xs = [] → Q (.ref b) H) ∧ (xs ≠ [] → ys = [] → Q (.ref a) H) ∧ (xs ≠ [] → ys ≠ [] → NewT H Q (xs ++ ys))
theorem op_catN : OpR X (binaryOp .Add) (rCatN X.K) := fun pins s σ H x y v u Q I rx ry h => by
  obtain ⟨a, b, xs, ys, rfl, rfl, ha, hb, hz, q0, q1, q2⟩ := h
  cases rx; cases ry
  obtain ⟨us, r1, p1, _⟩ := I.tuple ha
  obtain ⟨ws, r2, p2, _⟩ := I.tuple hb
  by_cases hx : xs = []
  · subst hx
    cases r1
    exact L2.cat_tup0 p1 p2 ⟨.ref b, H, I, rfl, q0 rfl⟩
  · refine HT.cat_tup p1 p2 (fun z => hx (r1.nil_iff.mp z)) (fun z => ⟨.ref a, H, I, rfl, q1 hx (r2.nil_iff.mp z)⟩) (fun z => ?_) (by rw [← r1.length, ← r2.length]; exact hz)
    exact newT_laid (s := s) (h1 := s.heap) (tk := s.toks) I (r1.append r2) (by rw [List.length_append]; exact hz) (q2 hx fun e => z (r2.nil_iff.mpr e))
def rSlN (K : PySem.W.Frag) : V → Option Int → Option Int → Hp → VK → Prop := fun x lo hi H Q => ∃ a xs, x = .ref a ∧ SqT K H a xs ∧
  (HT.sIx xs.length 0 lo = 0 ∧ HT.sIx xs.length xs.length hi = xs.length → Q (.ref a) H) ∧ (¬ (HT.sIx xs.length 0 lo = 0 ∧ HT.sIx xs.length xs.length hi = xs.length) → NewT H Q (cutV xs lo hi))
theorem sl_tupN : SlR X (rSlN X.K) := fun pins s σ H x v vl vu lo hi sl Q I rx hs pl pu h => by
  obtain ⟨a, xs, rfl, hx, q1, q2⟩ := h
  cases rx
  obtain ⟨us, r, ht, hz⟩ := I.tuple hx
  have el : us.toArray.size = xs.length := by rw [List.size_toArray, r.length]
  refine ⟨"tuple", _, PyProof.Rows.slot_tuple_getitem.lookup, ht.typeIs, ?_⟩
  by_cases hw : HT.sIx xs.length 0 lo = 0 ∧ HT.sIx xs.length xs.length hi = xs.length
  · exact L2.getItem_tuple_whole ht hs pl pu (by rw [el]; exact hw) ⟨.ref a, H, I, rfl, q1 hw⟩
  · refine HT.getItem_tuple_cut ht hs pl pu (by rw [el]; exact hw) ?_ (by rw [el]; exact hz)
    rw [el]
    exact newT_laid (s := s) (h1 := s.heap) (tk := s.toks) I ((r.drop (HT.sIx xs.length 0 lo)).take (HT.sIx xs.length xs.length hi - HT.sIx xs.length 0 lo)) (Nat.le_trans (cutV_length xs lo hi) hz) (q2 hw)
theorem call_tupN : CallR X (.type "tuple") (fun xs H Q => ∃ p ys, xs = [.ref p] ∧ ((SqL X.K H p ys ∧ NewT H Q ys) ∨ (SqT X.K H p ys ∧ Q (.ref p) H))) := fun pins s σ H xs us Q I r h => by
  obtain ⟨p, ys, rfl, h⟩ := h
  obtain ⟨u, rfl, ru⟩ := vals1 r
  cases ru
  rcases h with ⟨hq, q⟩ | ⟨hq, q⟩
  · obtain ⟨ws, rw', pl, hz⟩ := I.list hq
    have el := rw'.length
    refine call_tuple_list pl.isList (fun h' kp => ?_) (by simp only [List.size_toArray] <;> omega)
    have I1 : Inv X pins σ H { s with heap := h' } := I.kept (t' := s.toks) kp
    exact newT_laid (s := s) (h1 := h') (tk := s.toks) I1 rw' hz q
  · obtain ⟨ws, _, pt, _⟩ := I.tuple hq
    exact call_tuple_same pt ⟨.ref p, H, I, rfl, q⟩
def rRepN (K : PySem.W.Frag) : R2 := fun x y H Q => ∃ l k xs, x = .ref l ∧ y = .int k ∧ SqT K H l xs ∧ xs ≠ [] ∧ 2 ≤ k ∧ k ≤ 1000 ∧ xs.length ≤ 1000 ∧ NewT H Q (List.replicate k.toNat xs).flatten
theorem op_repN : OpR X (binaryOp .Mult) (rRepN X.K) := fun pins s σ H x y v u Q I rx ry h => by
  obtain ⟨l, k, xs, rfl, rfl, hT, hne, h1, h2, hz, q⟩ := h
  cases rx
  obtain ⟨tok, rfl⟩ := ry
  obtain ⟨us, r, ⟨⟨cl, dd, dt, slt⟩, ho, hcl, m, hdt⟩, hs⟩ := I.tuple hT
  have ecl : cl = .type "tuple" := hcl
  have edt : dt = .seq us.toArray m := hdt
  subst ecl edt
  have el : us.length = xs.length := r.length.symm
  have es : us.toArray.size = xs.length := by rw [List.size_toArray, el]
  have emp : us.toArray.isEmpty = false := by
    cases us with
    | nil => exact absurd (List.eq_nil_of_length_eq_zero el.symm) hne
    | cons _ _ => rfl
  have small : ((us.toArray.size : Nat) : Int) * k ≤ 1000000 := by
    rw [es]
    exact Int.le_trans (Int.mul_le_mul_of_nonneg_right (show ((xs.length : Nat) : Int) ≤ 1000 by omega) (by omega)) (by omega)
  have wide : k.toNat * xs.length ≤ 1000 * 1000 := Nat.mul_le_mul (by omega) hz
  have fl : (List.replicate k.toNat us).flatten.length ≤ sizeLine := by rw [PyProof.Rows.lm_len_rep_flat, el, sizeLine_eq]; omega
  have b0 : (decide (k < -(2 ^ 63)) || decide (k ≥ 2 ^ 63)) = false := by simp; omega
  have b1 : (us.toArray.isEmpty || k == 1) = false := by rw [emp]; simp; omega
  have b2 : (decide (k ≤ 0) || us.toArray.isEmpty) = false := by rw [emp]; simp; omega
  have b4 : Builtin.Tuple.tupleTooMany (((us.toArray.size : Nat) : Int) * k) = false := by unfold Builtin.Tuple.tupleTooMany; rw [sizeLine_eq]; exact decide_eq_false (by omega)
  have fin := newT_laid (s := s) (h1 := s.heap) (tk := s.toks) I (r.rep k.toNat) (by rw [PyProof.Rows.lm_len_rep_flat, sizeLine_eq]; omega) q
  rw [← size_rep] at fin
  exact wpAny_binaryOp_repeat_ref (T := "tuple") (U := "int") (by decide) ⟨_, ho, rfl⟩ (fun s' => typeIs_int s' k tok) noFill_tuple_mul F.fills_int_mul F.slot_int_rmul repeat_tuple F.slot_int_index.lookup
    (call_meets F.slot_int_rmul (typeIs_int s k tok) F.entry_int_rmul (F.args_int_rmul_2 _ _) (int_rmul_tuple k tok l us.toArray m dd slt)
      ⟨ho, rfl, ⟨_, ho, rfl⟩, call_meets F.slot_tuple_mul ⟨_, ho, rfl⟩ F.entry_tuple_mul (F.args_tuple_mul_2 _ _) (tuple_mulW l us.toArray m dd slt k tok b0 b1 b2 (by omega) b4 (by rw [size_rep, List.size_toArray]; exact fl)) ⟨ho, fin⟩⟩)
def tTupRgN (te : L2.St → Hp → (Int → Int → Hp → Prop) → Prop) : TE := fun σ H Q => te σ H fun a b H1 => RgOk a b ∧ NewT H1 Q (rgV a b)
theorem pe_tupRgN {e : Expr} {te : L2.St → Hp → (Int → Int → Hp → Prop) → Prop} {p pos : Pos} (hc : X.calm = true) (hg : Gl X "tuple") (hm : X.mg "tuple" = none) (he : PRg X e te) (na : starEach [e] X.env = (false, eval e X.env) :: starEach [] X.env := by rfl) : PE X (.Call (.Name "tuple" p) [e] [] pos) (tTupRgN te) := ⟨fun pins s σ H Q I h => by
  refine Call_ (ld_blt I hg hm boot_tuple (PyProof.Rows.callWith_type1 (args_cons (thn (he pins s σ H _ I h) fun x s1 ⟨r, a, b, t, u, v, H1, ex, hr, I1, ok, q⟩ => args_nil ?_) na) na))
  subst ex
  obtain ⟨k1, k2, k3, k4, k5⟩ := ok
  refine call_tuple_range (n := (b - a).toNat) (I1.ok.hd hc) hr (small_one k1 k2 k3 k4) (rangeSize_nat a b) k5 fun h' tk acc hk hi => ?_
  have I2 : Inv X pins σ H1 { s1 with heap := h', toks := tk } := I1.kept hk
  have := newT_laid (s := s1) (h1 := h') (tk := tk) I2 (vals_rg hi) (by rw [rgV_length, sizeLine_eq]; omega) q
  rw [Array.toArray_toList] at this
  exact this⟩
end
end BG
set_option Elab.async false
set_option linter.all false
set_option maxRecDepth 100000
set_option maxHeartbeats 4000000
namespace BG
open PySem PySem.Spec PyProof.Rows L2
/-- a value as data: nothing of the heap -/
inductive D where
  | non | bl (b : Bool) | int (i : Int) | str (x : Str) | tup (xs : List D) | lst (xs : List D) | town | scr (ns : List Int) | dct (ks : List Key) (ds : List D) | dTT (ks : List (List Int)) (ds : List D) | hnd (n : Nat)
/-- what may be changed, by its number: a dict with tuples as keys, a list, an instance of the own class -/
inductive Ob where
  | td (ks : List (List Int × D)) | li (ds : List D) | ins (fs : List (Str × D))
/-- the objects, each with the number of its changes -/
abbrev Sto := List (Ob × Nat)
/-- the state: the draws' count and rests (none: not begun); the objects that may be changed -/
abbrev Tn := Option (Int × List (Int × Int)) × Sto
inductive Out (α : Type) where
  | ok (a : α) (t : Tn)
  | exc (c : Nat) (t : Tn)
abbrev M (α : Type) := Tn → Option (Out α)
section
variable {α β : Type}
def ret (a : α) : M α := fun t => some (.ok a t)
def bnd (m : M α) (f : α → M β) : M β := fun t => match m t with
  | some (.ok a t') => f a t'
  | some (.exc c t') => some (.exc c t')
  | none => none
def raise (c : Nat) : M α := fun t => some (.exc c t)
def stuck : M α := fun _ => none
/-- what raises is stuck -/
def calm (m : M α) : M α := fun t => match m t with
  | some (.ok a t') => some (.ok a t')
  | _ => none
theorem bnd_ok {m : M α} {f : α → M β} {t t' : Tn} {a : α} (h : m t = some (.ok a t')) : bnd m f t = f a t' := by
  unfold bnd; rw [h]
theorem bnd_exc {m : M α} {f : α → M β} {t t' : Tn} {c : Nat} (h : m t = some (.exc c t')) : bnd m f t = some (.exc c t') := by
  unfold bnd; rw [h]
theorem ret_bnd (a : α) (f : α → M β) : bnd (ret a) f = f a := rfl
end
/-- a slot: nothing, a value, a list of its own that may be changed -/
inductive SV where
  | un | val (d : D) | own (ds : List D) | dic (ks : List (Key × D)) | raw (v : V) | exn (c : Addr) | dcT (ks : List (List Int × D))
/-- an exception's object of the class cls -/
def ExK (cls : Value) (a : Addr) : HO := .ext fun h => ∃ (oe : Obj) (vs : Array Value), h.get? a = some oe ∧ oe.cls = cls ∧ oe.dict = none ∧ oe.data = .fields vs
/-- an object of one's own -/
def isOw : SV → Bool
  | .own _ => true
  | .dic _ => true
  | .dcT _ => true
  | _ => false
abbrev Sl := List SV
/-- what is frozen; the addresses of the draws' dicts -/
structure G where
  Fz : Hp
  tw : Option (Addr × Addr)
  ad : List Addr
  lg : Nat → Nat → Option HO
def G.isTw (g : G) (b : Addr) : Prop := (∃ p, g.tw = some p ∧ (b = p.1 ∨ b = p.2)) ∨ b ∈ g.ad
/-- the draws' dicts and the objects stay where they are -/
structure TwLe (g g' : G) : Prop where
  t : ∀ p, g.tw = some p → g'.tw = some p
  a : ∀ (n : Nat) (b : Addr), g.ad[n]? = some b → g'.ad[n]? = some b
  l : ∀ (n v : Nat) (o : HO), g.lg n v = some o → g'.lg n v = some o
theorem TwLe.refl (g : G) : TwLe g g := ⟨fun _ h => h, fun _ _ h => h, fun _ _ _ h => h⟩
theorem TwLe.trans {g g1 g2 : G} (x : TwLe g g1) (y : TwLe g1 g2) : TwLe g g2 := ⟨fun p h => y.t p (x.t p h), fun n b h => y.a n b (x.a n b h), fun n v o h => y.l n v o (x.l n v o h)⟩
theorem TwLe.of {g : G} {F : Hp} : TwLe g ⟨F, g.tw, g.ad, g.lg⟩ := ⟨fun _ h => h, fun _ _ h => h, fun _ _ _ h => h⟩
/-- a tuple whose object holds no dict -/
def SqN (K : PySem.W.Frag) (H : Hp) (a : Addr) (xs : List V) : Prop :=
  (∃ o, H a = some (.frz o (.tup xs)) ∧ o.dict = none ∧ o.cls = .type "tuple") ∨
    ∃ (o : Obj) (its : Array Value) (n : Nat), K.lookup a = some o ∧ o.cls = .type "tuple" ∧ o.data = .seq its n ∧ its.size ≤ sizeLine ∧ Vals xs its.toList ∧ o.dict = none
theorem SqN.t {K : PySem.W.Frag} {H : Hp} {a : Addr} {xs : List V} (h : SqN K H a xs) : SqT K H a xs := by
  rcases h with ⟨o, h, _⟩ | ⟨o, its, n, h1, h2, h3, h4, h5, _⟩
  · exact .inl (.inr ⟨o, h⟩)
  · exact .inr ⟨o, its, n, h1, h2, h3, h4, h5⟩
theorem SqN.mono {K : PySem.W.Frag} {H H' : Hp} {a : Addr} {xs : List V} (e : Same H H') (h : SqN K H a xs) : SqN K H' a xs := by
  rcases h with ⟨o, h, q⟩ | h
  · exact .inl ⟨o, e _ _ h, q⟩
  · exact .inr h
/-- a dict whose keys are tuples of ints, by its raw entries: key, the key's address, value -/
def thI (k : List Int) : Int := reduceHash (Builtin.Tuple.tupleHashOf (k.map hashInt))
/-- the epoch, and the entries -/
abbrev DL := Nat × List (List Int × Addr × V)
def DkP (p : Addr) (L : DL) (h : Heap) : Prop := ∃ o es us, h.get? p = some o ∧ o.ExactDict ∧ o.data = .dict es L.1 ∧ Vals (L.2.map (·.2.2)) us ∧ es.toList = (L.2.zip us).map (fun q => (⟨thI q.1.1, .ref q.1.2.1, q.2⟩ : DictEntry)) ∧ (p == sysModules) = false
def DkO (p : Addr) (L : DL) : HO := .ext (DkP p L)
mutual
inductive Rp (K : PySem.W.Frag) (g : G) : V → D → Prop
  | non : Rp K g .non .non
  | bl (b : Bool) : Rp K g (.bl b) (.bl b)
  | int (i : Int) : Rp K g (.int i) (.int i)
  | str (x : Str) : Rp K g (.str x) (.str x)
  | tup {a : Addr} {xs : List V} {ds : List D} : SqN K g.Fz a xs → RpA K g xs ds → Rp K g (.ref a) (.tup ds)
  | lst {a : Addr} {xs : List V} {ds : List D} : g.Fz a = some (.lst xs) → RpA K g xs ds → Rp K g (.ref a) (.lst ds)
  | town {a b : Addr} : g.tw = some (a, b) → Rp K g (.ref a) .town
  | scr {a : Addr} {ns : List Int} : SqL K g.Fz a (ns.map V.int) → Rp K g (.ref a) (.scr ns)
  | dct {a : Addr} {o : Obj} {ks : List Key} {vs : List V} {ds : List D} : g.Fz a = some (.frz o (.dK (ks.zip vs))) → ks.length = vs.length → RpA K g vs ds → Rp K g (.ref a) (.dct ks ds)
  | dTT {a : Addr} {L : DL} {ks : List (List Int)} {ds : List D} : g.Fz a = some (DkO a L) → L.2.map (·.1) = ks → ks.Nodup → (∀ x ∈ L.2, SqN K g.Fz x.2.1 (x.1.map V.int)) → RpA K g (L.2.map (·.2.2)) ds → Rp K g (.ref a) (.dTT ks ds)
  | hnd {a : Addr} {n : Nat} : g.ad[n]? = some a → Rp K g (.ref a) (.hnd n)
inductive RpA (K : PySem.W.Frag) (g : G) : List V → List D → Prop
  | nil : RpA K g [] []
  | cons {v : V} {vs : List V} {d : D} {ds : List D} : Rp K g v d → RpA K g vs ds → RpA K g (v :: vs) (d :: ds)
end
theorem Same.tseq {K : PySem.W.Frag} {H H' : Hp} {a : Addr} {xs : List V} (e : Same H H') (h : SqT K H a xs) : SqT K H' a xs := by
  rcases h with (h | ⟨o, h⟩) | h
  · exact .inl (.inl (e _ _ h))
  · exact .inl (.inr ⟨o, e _ _ h⟩)
  · exact .inr h
section
variable {K : PySem.W.Frag} {g g' : G}
mutual
theorem Rp.mono (f : Same g.Fz g'.Fz) (tw : TwLe g g') : ∀ {d : D} {v : V}, Rp K g v d → Rp K g' v d
  | .non, _, h => by cases h; exact .non
  | .bl b, _, h => by cases h; exact .bl b
  | .int i, _, h => by cases h; exact .int i
  | .str x, _, h => by cases h; exact .str x
  | .tup ds, _, h => by cases h with | tup s a => exact .tup (s.mono f) (RpA.mono f tw a)
  | .lst ds, _, h => by cases h with | lst s a => exact .lst (f _ _ s) (RpA.mono f tw a)
  | .town, _, h => by cases h with | town e => exact .town (tw.t _ e)
  | .scr ns, _, h => by cases h with | scr e => exact .scr (f.seq e)
  | .dct ks ds, _, h => by cases h with | dct e l a => exact .dct (f _ _ e) l (RpA.mono f tw a)
  | .dTT ks ds, _, h => by cases h with | dTT e l n k a => exact .dTT (f _ _ e) l n (fun x hx => (k x hx).mono f) (RpA.mono f tw a)
  | .hnd n, _, h => by cases h with | hnd e => exact .hnd (tw.a _ _ e)
theorem RpA.mono (f : Same g.Fz g'.Fz) (tw : TwLe g g') : ∀ {ds : List D} {vs : List V}, RpA K g vs ds → RpA K g' vs ds
  | [], _, h => by cases h; exact .nil
  | d :: ds, _, h => by cases h with | cons a b => exact .cons (Rp.mono f tw a) (RpA.mono f tw b)
end
theorem RpA.length : ∀ {ds : List D} {vs : List V}, RpA K g vs ds → vs.length = ds.length
  | [], _, h => by cases h; rfl
  | d :: ds, _, h => by cases h with | cons a b => rw [List.length_cons, List.length_cons, RpA.length b]
theorem RpA.get : ∀ {ds : List D} {vs : List V} {i : Nat} {d : D}, RpA K g vs ds → ds[i]? = some d → ∃ v, vs[i]? = some v ∧ Rp K g v d
  | [], _, _, _, h, e => by simp at e
  | d :: ds, _, 0, _, h, e => by
    cases h with
    | cons a b =>
      have e' : d = _ := Option.some.inj e
      subst e'
      exact ⟨_, rfl, a⟩
  | d :: ds, _, i + 1, _, h, e => by
    cases h with
    | cons a b =>
      obtain ⟨v, h1, h2⟩ := RpA.get (i := i) b e
      exact ⟨v, h1, h2⟩
theorem RpA.get' : ∀ {ds : List D} {vs : List V} {i : Nat} {v : V}, RpA K g vs ds → vs[i]? = some v → ∃ d, ds[i]? = some d ∧ Rp K g v d
  | [], _, _, _, h, e => by cases h; simp at e
  | d :: ds, _, 0, _, h, e => by
    cases h with
    | cons a b =>
      have e' := Option.some.inj e
      subst e'
      exact ⟨_, rfl, a⟩
  | d :: ds, _, i + 1, _, h, e => by
    cases h with
    | cons a b =>
      obtain ⟨v, h1, h2⟩ := RpA.get' (i := i) b e
      exact ⟨v, h1, h2⟩
theorem RpA.app : ∀ {ds es : List D} {vs ws : List V}, RpA K g vs ds → RpA K g ws es → RpA K g (vs ++ ws) (ds ++ es)
  | [], _, _, _, h, q => by cases h; exact q
  | d :: ds, _, _, _, h, q => by cases h with | cons a b => exact .cons a (RpA.app b q)
theorem RpA.one {v : V} {d : D} (h : Rp K g v d) : RpA K g [v] [d] := .cons h .nil
theorem RpA.take : ∀ {ds : List D} {vs : List V} (n : Nat), RpA K g vs ds → RpA K g (vs.take n) (ds.take n)
  | _, _, 0, _ => .nil
  | [], _, n + 1, h => by cases h; exact .nil
  | d :: ds, _, n + 1, h => by cases h with | cons a b => exact .cons a (RpA.take n b)
theorem RpA.drop : ∀ {ds : List D} {vs : List V} (n : Nat), RpA K g vs ds → RpA K g (vs.drop n) (ds.drop n)
  | _, _, 0, h => h
  | [], _, n + 1, h => by cases h; exact .nil
  | d :: ds, _, n + 1, h => by cases h with | cons a b => exact RpA.drop n b
theorem RpA.set {v : V} {d : D} (r : Rp K g v d) : ∀ {ds : List D} {vs : List V} (n : Nat), RpA K g vs ds → RpA K g (vs.set n v) (ds.set n d)
  | [], _, _, h => by cases h; exact .nil
  | _ :: ds, _, 0, h => by cases h with | cons a b => exact .cons r b
  | _ :: ds, _, n + 1, h => by cases h with | cons a b => exact .cons a (RpA.set r n b)
theorem RpA.rep {ds : List D} {vs : List V} (h : RpA K g vs ds) : ∀ k : Nat, RpA K g (List.replicate k vs).flatten (List.replicate k ds).flatten
  | 0 => .nil
  | k + 1 => by
    rw [List.replicate_succ, List.replicate_succ, List.flatten_cons, List.flatten_cons]
    exact h.app (RpA.rep h k)
theorem RpA.dropLast {ds : List D} {vs : List V} (h : RpA K g vs ds) : RpA K g vs.dropLast ds.dropLast := by
  rw [List.dropLast_eq_take, List.dropLast_eq_take, h.length]
  exact h.take _
end
/-- something is tracked there, and it is no table -/
def Nt (H : Hp) (b : Addr) : Prop := ∃ o, H b = some o ∧ ∀ ps, o ≠ .tbl ps
theorem Nt.no {H : Hp} {b : Addr} (h : H b = none) : ¬ Nt H b := fun ⟨o, e, _⟩ => by rw [h] at e; cases e
/-- a step: what was frozen stays, what stood stays (but the draws' dicts, the objects and the tables) -/
structure Stp (g : G) (H : Hp) (g' : G) (H' : Hp) : Prop where
  fz : Same g.Fz g'.Fz
  tw : TwLe g g'
  twn : (g.tw = none → ∀ a b, g'.tw = some (a, b) → ¬ Nt H a ∧ ¬ Nt H b) ∧ ∀ a ∈ g'.ad, a ∈ g.ad ∨ ¬ Nt H a
  frm : ∀ b o, H b = some o → ¬ g.isTw b → (∀ ps, o ≠ .tbl ps) → H' b = some o
  thr : ∀ b, Nt H b → Nt H' b
  new : ∀ b, Nt H b → g'.Fz b = g.Fz b
theorem Twn.refl (g : G) (H : Hp) : (g.tw = none → ∀ a b, g.tw = some (a, b) → ¬ Nt H a ∧ ¬ Nt H b) ∧ ∀ a ∈ g.ad, a ∈ g.ad ∨ ¬ Nt H a := ⟨fun h a b e => (by rw [h] at e; cases e), fun _ h => .inl h⟩
theorem Stp.refl (g : G) (H : Hp) : Stp g H g H := ⟨fun _ _ h => h, .refl g, Twn.refl g H, fun _ _ h _ _ => h, fun _ h => h, fun _ _ => rfl⟩
theorem isTw_back {g g1 : G} {H : Hp} {c : Addr} (tw : TwLe g g1) (twn : (g.tw = none → ∀ a b, g1.tw = some (a, b) → ¬ Nt H a ∧ ¬ Nt H b) ∧ ∀ a ∈ g1.ad, a ∈ g.ad ∨ ¬ Nt H a) (h : Nt H c) (n : ¬ g.isTw c) : ¬ g1.isTw c := fun z => by
  rcases z with ⟨p, hp, q⟩ | z
  · cases h1 : g.tw with
    | some p' =>
      have := tw.t p' h1
      rw [hp] at this
      cases this
      exact n (.inl ⟨p, h1, q⟩)
    | none =>
      obtain ⟨z1, z2⟩ := twn.1 h1 p.1 p.2 hp
      rcases q with q | q
      · exact z1 (by rw [← q]; exact h)
      · exact z2 (by rw [← q]; exact h)
  · exact (twn.2 c z).elim (fun k => n (.inr k)) fun k => k h
theorem Stp.trans {g g1 g2 : G} {H H1 H2 : Hp} (a : Stp g H g1 H1) (b : Stp g1 H1 g2 H2) : Stp g H g2 H2 where
  fz := a.fz.trans b.fz
  tw := a.tw.trans b.tw
  twn := ⟨fun h x y e => by
    cases h1 : g1.tw with
    | none =>
      obtain ⟨p, q⟩ := b.twn.1 h1 x y e
      exact ⟨fun z => p (a.thr x z), fun z => q (a.thr y z)⟩
    | some p =>
      have e2 := b.tw.t p h1
      rw [e] at e2
      cases e2
      exact a.twn.1 h x y h1, fun x hx => (b.twn.2 x hx).elim (a.twn.2 x) fun k => .inr fun z => k (a.thr x z)⟩
  frm := fun c o h n t => b.frm c o (a.frm c o h n t) (isTw_back a.tw a.twn ⟨o, h, t⟩ n) t
  thr := fun c h => b.thr c (a.thr c h)
  new := fun c h => (b.new c (a.thr c h)).trans (a.new c h)
theorem Rp.stp {K : PySem.W.Frag} {g g' : G} {H H' : Hp} {v : V} {d : D} (s : Stp g H g' H') (h : Rp K g v d) : Rp K g' v d := h.mono s.fz s.tw
theorem RpA.stp {K : PySem.W.Frag} {g g' : G} {H H' : Hp} {v : List V} {d : List D} (s : Stp g H g' H') (h : RpA K g v d) : RpA K g' v d := h.mono s.fz s.tw
def TownOk (g : G) (H : Hp) : Option (Int × List (Int × Int)) → Prop
  | none => g.tw = none
  | some (c, rs) => ∃ a b, g.tw = some (a, b) ∧ a ≠ b ∧ H a = some (.dK [(.inr "count", .int c), (.inr "rests", .ref b)]) ∧ H b = some (.dK (rs.map fun p => (Sum.inl p.1, V.int p.2)))
/-- constants of a row: the tables of code objects; the addresses of the exceptions' classes; the written part; the addresses of own classes -/
structure Cn where
  T : List (Addr × Str)
  ex : Nat → Addr
  K : PySem.W.Frag
  cl : Addr
structure RpD (K : PySem.W.Frag) (g : G) (L : DL) (ks : List (List Int × D)) : Prop where
  keys : L.2.map (·.1) = ks.map (·.1)
  nd : (L.2.map (·.1)).Nodup
  kt : ∀ x ∈ L.2, Rp K g (.ref x.2.1) (.tup (x.1.map D.int))
  vs : RpA K g (L.2.map (·.2.2)) (ks.map (·.2))
theorem RpD.mono {K : PySem.W.Frag} {g g' : G} {L : DL} {ks : List (List Int × D)} (f : Same g.Fz g'.Fz) (tw : TwLe g g') (r : RpD K g L ks) : RpD K g' L ks := ⟨r.keys, r.nd, fun x hx => (r.kt x hx).mono f tw, r.vs.mono f tw⟩
/-- attributes -/
def RpI (K : PySem.W.Frag) (g : G) : List (Str × V) → List (Str × D) → Prop
  | [], [] => True
  | (x, v) :: r, (y, d) :: q => x = y ∧ Rp K g v d ∧ RpI K g r q
  | _, _ => False
theorem RpI.mono {K : PySem.W.Frag} {g g' : G} (f : Same g.Fz g'.Fz) (tw : TwLe g g') : ∀ {fv : List (Str × V)} {fs : List (Str × D)}, RpI K g fv fs → RpI K g' fv fs
  | [], [], _ => trivial
  | (x, v) :: r, (y, d) :: q, ⟨h1, h2, h3⟩ => ⟨h1, h2.mono f tw, RpI.mono f tw h3⟩
/-- an object stands at its address -/
def ObOk (C : Cn) (g : G) (H : Hp) (a : Addr) : Ob → Prop
  | .td ks => ∃ L, H a = some (DkO a L) ∧ RpD C.K g L ks
  | .li ds => ∃ vs, H a = some (.lst vs) ∧ RpA C.K g vs ds
  | .ins fs => ∃ dx fv, H a = some (.ins C.cl dx fv) ∧ RpI C.K g fv fs
structure StOk (C : Cn) (g : G) (H : Hp) (st : Sto) : Prop where
  len : g.ad.length = st.length
  nd : g.ad.Nodup
  ok : ∀ (n : Nat) (a : Addr) (o : Ob × Nat), g.ad[n]? = some a → st[n]? = some o → ObOk C g H a o.1
  lg : ∀ (n : Nat) (a : Addr) (o : Ob × Nat), g.ad[n]? = some a → st[n]? = some o → H a = g.lg n o.2
  nw : ∀ (n : Nat) (o : Ob × Nat), st[n]? = some o → ∀ v, o.2 < v → g.lg n v = none
  no : ∀ n v, st.length ≤ n → g.lg n v = none
theorem DkO_tbl {p : Addr} {L : DL} : ∀ ps, DkO p L ≠ .tbl ps := fun _ z => by unfold DkO at z; cases z
theorem ObOk.at {C : Cn} {g : G} {H : Hp} {a : Addr} {o : Ob} (h : ObOk C g H a o) : ∃ ho, H a = some ho ∧ (∀ ps, ho ≠ .tbl ps) ∧ (∀ kvs, ho ≠ .dK kvs) ∧ (∀ ob u, ho ≠ .frz ob u) := by
  cases o with
  | td ks => obtain ⟨L, h, _⟩ := h; exact ⟨_, h, DkO_tbl, (fun _ z => by unfold DkO at z; cases z), (fun _ _ z => by unfold DkO at z; cases z)⟩
  | li ds => obtain ⟨L, h, _⟩ := h; exact ⟨_, h, (fun _ z => nomatch z), (fun _ z => nomatch z), (fun _ _ z => nomatch z)⟩
  | ins fs => obtain ⟨dx, vs, h, _⟩ := h; exact ⟨_, h, (fun _ z => nomatch z), (fun _ z => nomatch z), (fun _ _ z => nomatch z)⟩
theorem ObOk.keep {C : Cn} {g g' : G} {H H' : Hp} {a : Addr} {o : Ob} (h : ObOk C g H a o) (f : Same g.Fz g'.Fz) (tw : TwLe g g') (e : ∀ ho, H a = some ho → H' a = some ho) : ObOk C g' H' a o := by
  cases o with
  | td ks => obtain ⟨L, h, r⟩ := h; exact ⟨L, e _ h, r.mono f tw⟩
  | li ds => obtain ⟨L, h, r⟩ := h; exact ⟨L, e _ h, r.mono f tw⟩
  | ins fs => obtain ⟨dx, vs, h, r⟩ := h; exact ⟨dx, vs, e _ h, r.mono f tw⟩
theorem StOk.get {C : Cn} {g : G} {H : Hp} {st : Sto} (s : StOk C g H st) {a : Addr} (h : a ∈ g.ad) : ∃ (n : Nat) (o : Ob × Nat), g.ad[n]? = some a ∧ st[n]? = some o ∧ ObOk C g H a o.1 := by
  obtain ⟨n, hn, e⟩ := List.getElem_of_mem h
  have h2 : n < st.length := by rw [← s.len]; exact hn
  have e1 : g.ad[n]? = some a := by rw [List.getElem?_eq_getElem hn, e]
  exact ⟨n, st[n], e1, List.getElem?_eq_getElem h2, s.ok n a _ e1 (List.getElem?_eq_getElem h2)⟩
theorem StOk.keep {C : Cn} {g g' : G} {H H' : Hp} {st : Sto} (s : StOk C g H st) (f : Same g.Fz g'.Fz) (tw : TwLe g g') (ea : g'.ad = g.ad ∧ g'.lg = g.lg) (e : ∀ a ∈ g.ad, ∀ ho, H a = some ho → H' a = some ho) : StOk C g' H' st where
  len := by rw [ea.1]; exact s.len
  nd := by rw [ea.1]; exact s.nd
  ok := fun n a o h1 h2 => by
    rw [ea.1] at h1
    exact (s.ok n a o h1 h2).keep f tw (e a (List.mem_of_getElem? h1))
  lg := fun n a o h1 h2 => by
    rw [ea.1] at h1
    obtain ⟨ho, h3, _⟩ := (s.ok n a o h1 h2).at
    rw [ea.2, ← s.lg n a o h1 h2, h3]
    exact e a (List.mem_of_getElem? h1) ho h3
  nw := by rw [ea.2]; exact s.nw
  no := by rw [ea.2]; exact s.no
theorem StOk.frz {C : Cn} {g : G} {H : Hp} {st : Sto} {F : Hp} (s : StOk C g H st) (f : Same g.Fz F) : StOk C ⟨F, g.tw, g.ad, g.lg⟩ H st := s.keep f .of ⟨rfl, rfl⟩ fun _ _ _ h => h
structure Wf (C : Cn) (g : G) (H : Hp) (t : Tn) : Prop where
  fz : Same g.Fz H
  tw : TownOk g H t.1 ∧ StOk C g H t.2
  ntw : ∀ b, g.isTw b → g.Fz b = none
  tab : LamX.Tabs C.T H
  nft : ∀ b ps, g.Fz b ≠ some (.tbl ps)
theorem nft_upd {F : Hp} {p : Addr} {o : HO} (h : ∀ b ps, F b ≠ some (.tbl ps)) (ho : ∀ ps, o ≠ .tbl ps) : ∀ b ps, upd F p o b ≠ some (.tbl ps) := fun b ps e => by
  by_cases hb : b = p
  · rw [hb, upd_same] at e; exact ho ps (Option.some.inj e)
  · rw [upd_ne hb] at e; exact h b ps e
/-- something stands there -/
theorem Wf.twd {C : Cn} {g : G} {H : Hp} {t : Tn} (w : Wf C g H t) {b : Addr} (h : g.isTw b) : ∃ o, H b = some o ∧ (∀ ps, o ≠ .tbl ps) ∧ (∀ ob u, o ≠ .frz ob u) := by
  rcases h with ⟨p, hp, q⟩ | h
  · obtain ⟨t, st⟩ := t
    cases t with
    | none => rw [show g.tw = none from w.tw.1] at hp; cases hp
    | some cr =>
      obtain ⟨a, c, e, _, h1, h2⟩ := w.tw.1
      rw [hp] at e
      cases e
      rcases q with q | q
      · exact ⟨HO.dK _, by rw [q]; exact h1, (fun _ z => nomatch z), (fun _ _ z => nomatch z)⟩
      · exact ⟨HO.dK _, by rw [q]; exact h2, (fun _ z => nomatch z), (fun _ _ z => nomatch z)⟩
  · obtain ⟨n, o, _, _, ok⟩ := w.tw.2.get h
    obtain ⟨ho, h1, h2, _, h3⟩ := ok.at
    exact ⟨ho, h1, h2, h3⟩
theorem Wf.ntN {C : Cn} {g : G} {H : Hp} {t : Tn} (w : Wf C g H t) {b : Addr} (h : H b = none) : ¬ g.isTw b := fun z => by
  obtain ⟨kvs, e, _⟩ := w.twd z
  rw [h] at e; cases e
theorem Wf.fzN {C : Cn} {g : G} {H : Hp} {t : Tn} (w : Wf C g H t) {b : Addr} (h : H b = none) : g.Fz b = none := by
  cases z : g.Fz b with
  | none => rfl
  | some o => rw [w.fz b o z] at h; cases h
/-- a dict's pairs -/
def RpK (K : PySem.W.Frag) (g : G) (vs : List (Key × V)) (ks : List (Key × D)) : Prop := vs.map (·.1) = ks.map (·.1) ∧ RpA K g (vs.map (·.2)) (ks.map (·.2))
theorem heap_size : ∀ n : Nat, ∃ h : Heap, h.objs.size = n
  | 0 => ⟨{ objs := #[] }, rfl⟩
  | n + 1 => by
    obtain ⟨h, e⟩ := heap_size n
    exact ⟨h.push { cls := .none, data := .fields #[] }, by rw [Heap.size_push, e]⟩
/-- an exception's object is no dict -/
theorem exk_ne {cls : Value} {p : Addr} {L : DL} (e : ExK cls p = DkO p L) : False := by
  obtain ⟨h, e1⟩ := heap_size p
  have at_ : (h.push { cls := cls, data := .fields #[] }).get? p = some { cls := cls, data := .fields #[] } := by
    have := Heap.get?_push_size h (o := { cls := cls, data := .fields #[] }) rfl
    rw [e1] at this; exact this
  unfold ExK DkO at e
  injection e with e
  have k : (fun h : Heap => ∃ (oe : Obj) (vs : Array Value), h.get? p = some oe ∧ oe.cls = cls ∧ oe.dict = none ∧ oe.data = .fields vs) (h.push { cls := cls, data := .fields #[] }) := ⟨_, _, at_, rfl, rfl, rfl⟩
  rw [e] at k
  obtain ⟨o, es, us, ho, _, hd, _⟩ := k
  rw [at_] at ho
  cases ho
  cases hd
/-- what a slot tells -/
def SVok (K : PySem.W.Frag) (g : G) (H : Hp) : SV → Option (Option V) → Prop
  | .un, _ => True
  | .val d, o => ∃ v, o = some (some v) ∧ Rp K g v d
  | .own ds, o => ∃ p vs, o = some (some (.ref p)) ∧ H p = some (.lst vs) ∧ RpA K g vs ds ∧ g.Fz p = none ∧ ¬ g.isTw p
  | .dic ks, o => ∃ p vs, o = some (some (.ref p)) ∧ H p = some (.dK vs) ∧ RpK K g vs ks ∧ g.Fz p = none ∧ ¬ g.isTw p
  | .raw v, o => o = some (some v)
  | .exn c, o => ∃ p, o = some (some (.ref p)) ∧ H p = some (ExK (.ref c) p)
  | .dcT ks, o => ∃ p L, o = some (some (.ref p)) ∧ H p = some (DkO p L) ∧ RpD K g L ks ∧ g.Fz p = none ∧ ¬ g.isTw p
/-- the slots -/
structure SL (K : PySem.W.Frag) (g : G) (H : Hp) (σ : L2.St) (S : Sl) : Prop where
  len : σ.length = S.length
  ok : ∀ (i : Nat) x, S[i]? = some x → SVok K g H x σ[i]?
  dis : ∀ (i j : Nat) p x y, S[i]? = some x → S[j]? = some y → isOw x = true → isOw y = true → σ[i]? = some (some (.ref p)) → σ[j]? = some (some (.ref p)) → i = j
section
variable {K : PySem.W.Frag} {g : G} {H : Hp} {σ : L2.St} {S : Sl}
theorem SL.val (s : SL K g H σ S) (i : Nat) (d : D) (e : S[i]? = some (.val d)) : ∃ v, σ[i]? = some (some v) ∧ Rp K g v d := s.ok i _ e
theorem SL.own (s : SL K g H σ S) (i : Nat) (ds : List D) (e : S[i]? = some (.own ds)) : ∃ p vs, σ[i]? = some (some (.ref p)) ∧ H p = some (.lst vs) ∧ RpA K g vs ds ∧ g.Fz p = none ∧ ¬ g.isTw p := s.ok i _ e
theorem SL.dic (s : SL K g H σ S) (i : Nat) (ks : List (Key × D)) (e : S[i]? = some (.dic ks)) : ∃ p vs, σ[i]? = some (some (.ref p)) ∧ H p = some (.dK vs) ∧ RpK K g vs ks ∧ g.Fz p = none ∧ ¬ g.isTw p := s.ok i _ e
theorem SL.dcT (s : SL K g H σ S) (i : Nat) (ks : List (List Int × D)) (e : S[i]? = some (.dcT ks)) : ∃ p L, σ[i]? = some (some (.ref p)) ∧ H p = some (DkO p L) ∧ RpD K g L ks ∧ g.Fz p = none ∧ ¬ g.isTw p := s.ok i _ e
theorem SL.raw (s : SL K g H σ S) (i : Nat) (v : V) (e : S[i]? = some (.raw v)) : σ[i]? = some (some v) := s.ok i _ e
/-- the address of an object of one's own, and that it is there -/
theorem SL.ow (s : SL K g H σ S) {i : Nat} {x : SV} (e : S[i]? = some x) (h : isOw x = true) : ∃ p o, σ[i]? = some (some (.ref p)) ∧ H p = some o ∧ g.Fz p = none ∧ ∀ ps, o ≠ .tbl ps := by
  cases x with
  | own ds => obtain ⟨p, vs, h1, h2, h3, h4, _⟩ := s.own i ds e; exact ⟨p, _, h1, h2, h4, fun _ z => nomatch z⟩
  | dic ks => obtain ⟨p, vs, h1, h2, h3, h4, h5⟩ := s.dic i ks e; exact ⟨p, _, h1, h2, h4, fun _ z => nomatch z⟩
  | dcT ks => obtain ⟨p, L, h1, h2, h3, h4, _⟩ := s.dcT i ks e; exact ⟨p, _, h1, h2, h4, DkO_tbl⟩
  | _ => cases h
/-- a slot is set -/
theorem SL.put (s : SL K g H σ S) {i : Nat} {x : SV} {o : Option V} (hx : SVok K g H x (some o)) (hd : isOw x = true → ∀ p, o = some (.ref p) → ∀ (j : Nat) y, S[j]? = some y → isOw y = true → σ[j]? = some (some (.ref p)) → j = i) : SL K g H (σ.set i o) (S.set i x) where
  len := by rw [List.length_set, List.length_set]; exact s.len
  ok := fun j y e => by
    by_cases h : i = j
    · subst h
      by_cases hl : i < S.length
      · rw [List.getElem?_set_self hl] at e
        cases e
        rw [List.getElem?_set_self (by rw [s.len]; exact hl)]
        exact hx
      · rw [List.getElem?_eq_none (by rw [List.length_set]; omega)] at e; cases e
    · rw [List.getElem?_set_ne h] at e ⊢
      exact s.ok j y e
  dis := fun j k q y z e1 e2 o1 o2 e3 e4 => by
    have lt : ∀ {m} {y : SV}, (S.set i x)[m]? = some y → m < S.length := fun {m y} e => by
      obtain ⟨h, _⟩ := List.getElem?_eq_some_iff.mp e
      rw [List.length_set] at h
      exact h
    by_cases h1 : i = j
    · by_cases h2 : i = k
      · exact h1.symm.trans h2
      · subst h1
        have l1 := lt e1
        rw [List.getElem?_set_self l1] at e1
        rw [List.getElem?_set_self (by rw [s.len]; exact l1)] at e3
        cases e1
        rw [List.getElem?_set_ne h2] at e2 e4
        cases e3
        exact (hd o1 q rfl k z e2 o2 e4).symm
    · by_cases h2 : i = k
      · subst h2
        have l2 := lt e2
        rw [List.getElem?_set_self l2] at e2
        rw [List.getElem?_set_self (by rw [s.len]; exact l2)] at e4
        cases e2
        rw [List.getElem?_set_ne h1] at e1 e3
        cases e4
        exact hd o2 q rfl j y e1 o1 e3
      · rw [List.getElem?_set_ne h1] at e1 e3
        rw [List.getElem?_set_ne h2] at e2 e4
        exact s.dis j k q y z e1 e2 o1 o2 e3 e4
end
theorem RpK.stp {K : PySem.W.Frag} {g g' : G} {H H' : Hp} {vs : List (Key × V)} {ks : List (Key × D)} (r : RpK K g vs ks) (p : Stp g H g' H') : RpK K g' vs ks := ⟨r.1, r.2.stp p⟩
theorem Stp.ntw {g g' : G} {H H' : Hp} {b : Addr} {o : HO} (p : Stp g H g' H') (h : H b = some o) (n : ¬ g.isTw b) (nt : ∀ ps, o ≠ .tbl ps) : ¬ g'.isTw b := isTw_back p.tw p.twn ⟨o, h, nt⟩ n
theorem RpD.stp {K : PySem.W.Frag} {g g' : G} {H H' : Hp} {L : DL} {ks : List (List Int × D)} (r : RpD K g L ks) (p : Stp g H g' H') : RpD K g' L ks := r.mono p.fz p.tw
/-- an exception's object is none that may be changed -/
theorem Wf.ntX {C : Cn} {g : G} {H : Hp} {t : Tn} (w : Wf C g H t) {b : Addr} {c : Value} (h : H b = some (ExK c b)) : ¬ g.isTw b := fun z => by
  rcases z with ⟨p, hp, q⟩ | z
  · obtain ⟨t, st⟩ := t
    cases t with
    | none => rw [show g.tw = none from w.tw.1] at hp; cases hp
    | some cr =>
      obtain ⟨a, c, e, _, h1, h2⟩ := w.tw.1
      rw [hp] at e
      cases e
      rcases q with q | q
      · rw [q, h1] at h; unfold ExK at h; cases h
      · rw [q, h2] at h; unfold ExK at h; cases h
  · obtain ⟨n, ⟨o, vn⟩, _, _, ok⟩ := w.tw.2.get z
    cases o with
    | td ks => obtain ⟨L, h1, _⟩ := ok; rw [h] at h1; exact exk_ne (Option.some.inj h1)
    | li ds => obtain ⟨L, h1, _⟩ := ok; rw [h] at h1; unfold ExK at h1; cases h1
    | ins fs => obtain ⟨dx, vs, h1, _⟩ := ok; rw [h] at h1; unfold ExK at h1; cases h1
theorem SL.stp {K : PySem.W.Frag} {C : Cn} {g g' : G} {H H' : Hp} {t : Tn} {σ : L2.St} {S : Sl} (s : SL K g H σ S) (w : Wf C g H t) (p : Stp g H g' H') : SL K g' H' σ S where
  len := s.len
  ok := fun i x e => by
    have h := s.ok i x e
    cases x with
    | un => trivial
    | val d => obtain ⟨v, h1, h2⟩ := h; exact ⟨v, h1, h2.stp p⟩
    | own ds =>
      obtain ⟨a, vs, h1, h2, h3, h4, h5⟩ := h
      exact ⟨a, vs, h1, p.frm _ _ h2 h5 (fun _ z => nomatch z), h3.stp p, by rw [p.new a ⟨_, h2, fun _ z => nomatch z⟩]; exact h4, p.ntw h2 h5 (fun _ z => nomatch z)⟩
    | dic ks =>
      obtain ⟨a, vs, h1, h2, h3, h4, h5⟩ := h
      exact ⟨a, vs, h1, p.frm _ _ h2 h5 (fun _ z => nomatch z), h3.stp p, by rw [p.new a ⟨_, h2, fun _ z => nomatch z⟩]; exact h4, p.ntw h2 h5 (fun _ z => nomatch z)⟩
    | dcT ks =>
      obtain ⟨a, L, h1, h2, h3, h4, h5⟩ := h
      exact ⟨a, L, h1, p.frm _ _ h2 h5 DkO_tbl, h3.stp p, by rw [p.new a ⟨_, h2, DkO_tbl⟩]; exact h4, p.ntw h2 h5 DkO_tbl⟩
    | raw v => exact h
    | exn c =>
      obtain ⟨p0, h1, h2⟩ := h
      exact ⟨p0, h1, p.frm _ _ h2 (w.ntX h2) (fun _ z => by unfold ExK at z; cases z)⟩
  dis := s.dis
/-- what is wanted behind -/
def Post {α : Type} (C : Cn) (E : XK) (g : G) (H : Hp) (Rok : α → Tn → G → Hp → Prop) : Option (Out α) → Prop
  | none => False
  | some (.ok a t') => ∀ g' H', Stp g H g' H' → Wf C g' H' t' → Rok a t' g' H'
  | some (.exc c t') => ∀ g' H', Stp g H g' H' → Wf C g' H' t' → E (.ref (C.ex c)) none H'
section
variable {α β : Type} {C : Cn} {E : XK} {g g1 : G} {H H1 : Hp} {Rok : α → Tn → G → Hp → Prop}
theorem Post.stp {r : Option (Out α)} (h : Post C E g H Rok r) (s : Stp g H g1 H1) : Post C E g1 H1 Rok r := by
  cases r with
  | none => exact h
  | some o =>
    cases o with
    | ok a t' => exact fun g' H' s' w => h g' H' (s.trans s') w
    | exc c t' => exact fun g' H' s' w => h g' H' (s.trans s') w
theorem Post.imp {r : Option (Out α)} {Rok' : α → Tn → G → Hp → Prop} (h : Post C E g H Rok r) (f : ∀ a t' g' H', Stp g H g' H' → Wf C g' H' t' → Rok a t' g' H' → Rok' a t' g' H') : Post C E g H Rok' r := by
  cases r with
  | none => exact h
  | some o =>
    cases o with
    | ok a t' => exact fun g' H' s' w => f a t' g' H' s' w (h g' H' s' w)
    | exc c t' => exact h
theorem Post.bnd {Rok : β → Tn → G → Hp → Prop} {m : M α} {k : α → M β} {t : Tn} (h : Post C E g H Rok (bnd m k t)) : Post C E g H (fun a t1 g1 H1 => Post C E g1 H1 Rok (k a t1)) (m t) := by
  unfold BG.bnd at h
  cases e : m t with
  | none => rw [e] at h; exact h
  | some o =>
    rw [e] at h
    cases o with
    | ok a t' => exact fun g' H' s' w => Post.stp h s'
    | exc c t' => exact h
theorem postRet {a : α} {t : Tn} (h : Post C E g H Rok (ret a t)) (w : Wf C g H t) : Rok a t g H := h g H (.refl g H) w
theorem Post.calm {m : M α} {t : Tn} (h : Post C E g H Rok (calm m t)) (E' : XK) : Post C E' g H Rok (m t) := by
  unfold BG.calm at h
  cases e : m t with
  | none => rw [e] at h; exact h.elim
  | some o =>
    rw [e] at h
    cases o with
    | ok a t' => exact h
    | exc c t' => exact h.elim
end
/-- the weak relation: data, or a list of one's own -/
def RpW (K : PySem.W.Frag) (g : G) (H : Hp) (v : V) (d : D) : Prop := Rp K g v d ∨ ∃ p vs ds, d = .lst ds ∧ v = .ref p ∧ H p = some (.lst vs) ∧ RpA K g vs ds ∧ ¬ g.isTw p
theorem RpW.stp {K : PySem.W.Frag} {C : Cn} {g g' : G} {H H' : Hp} {t : Tn} {v : V} {d : D} (w : Wf C g H t) (s : Stp g H g' H') (h : RpW K g H v d) : RpW K g' H' v d := by
  rcases h with h | ⟨p, vs, ds, e1, e2, e3, e4, e5⟩
  · exact .inl (h.stp s)
  · exact .inr ⟨p, vs, ds, e1, e2, s.frm _ _ e3 e5 (fun _ z => nomatch z), e4.stp s, s.ntw e3 e5 (fun _ z => nomatch z)⟩
/-- a list that was just made -/
def RpF (K : PySem.W.Frag) (H0 : Hp) (g : G) (H : Hp) (v : V) (d : D) : Prop := ∃ p vs ds, d = .lst ds ∧ v = .ref p ∧ ¬ Nt H0 p ∧ H p = some (.lst vs) ∧ RpA K g vs ds ∧ g.Fz p = none ∧ ¬ g.isTw p
abbrev Ex := Sl → M D
def tE (K : PySem.W.Frag) (C : Cn) (E : XK) (f : Ex) : TE := fun σ H Q => ∃ g S t, Wf C g H t ∧ SL K g H σ S ∧ Post C E g H (fun d _ g' H' => ∀ v, Rp K g' v d → Q v H') (f S t)
def tW (K : PySem.W.Frag) (C : Cn) (E : XK) (f : Ex) : TE := fun σ H Q => ∃ g S t, Wf C g H t ∧ SL K g H σ S ∧ Post C E g H (fun d _ g' H' => ∀ v, RpW K g' H' v d → Q v H') (f S t)
def tF (K : PySem.W.Frag) (C : Cn) (E : XK) (f : Ex) : TE := fun σ H Q => ∃ g S t, Wf C g H t ∧ SL K g H σ S ∧ Post C E g H (fun d _ g' H' => ∀ v, RpF K H g' H' v d → Q v H') (f S t)
def tT (K : PySem.W.Frag) (C : Cn) (E : XK) (f : Ex) : TT := fun σ H Q => ∃ g S t, Wf C g H t ∧ SL K g H σ S ∧ Post C E g H (fun d _ g' H' => ∃ b, d = .bl b ∧ Q b H') (f S t)
def tAs (K : PySem.W.Frag) (C : Cn) (E : XK) (f : Sl → M (List D)) : TA := fun σ H Q => ∃ g S t, Wf C g H t ∧ SL K g H σ S ∧ Post C E g H (fun ds _ g' H' => ∀ vs, RpA K g' vs ds → Q vs H') (f S t)
abbrev CE (X : Cx) (C : Cn) (E : XK) (e : Expr) (f : Ex) : Prop := PE X e (tE X.K C E f)
abbrev CW (X : Cx) (C : Cn) (E : XK) (e : Expr) (f : Ex) : Prop := PE X e (tW X.K C E f)
abbrev CF (X : Cx) (C : Cn) (E : XK) (e : Expr) (f : Ex) : Prop := PE X e (tF X.K C E f)
abbrev CT (X : Cx) (C : Cn) (E : XK) (e : Expr) (f : Ex) : Prop := PT X e (tT X.K C E f)
abbrev CA (X : Cx) (C : Cn) (E : XK) (es : List Expr) (f : Sl → M (List D)) : Prop := PA X es (tAs X.K C E f)
theorem PE.imp {X : Cx} {e : Expr} {t t' : TE} (h : PE X e t) (f : ∀ σ H Q, t' σ H Q → t σ H Q) : PE X e t' := ⟨fun pins s σ H Q I q => h.run pins s σ H Q I (f σ H Q q)⟩
theorem PT.imp {X : Cx} {e : Expr} {t t' : TT} (h : PT X e t) (f : ∀ σ H Q, t' σ H Q → t σ H Q) : PT X e t' := ⟨fun pins s σ H Q I q => h.run pins s σ H Q I (f σ H Q q)⟩
theorem PA.imp {X : Cx} {e : List Expr} {t t' : TA} (h : PA X e t) (f : ∀ σ H Q, t' σ H Q → t σ H Q) : PA X e t' := ⟨fun pos pins s σ H Q I q => h.run pos pins s σ H Q I (f σ H Q q)⟩
theorem PS.imp {X : Cx} {e : Stmt} {t t' : TS} (h : PS X e t) (f : ∀ D σ H, t' D σ H → t D σ H) : PS X e t' := ⟨fun pins s σ H D I q => h.run pins s σ H D I (f D σ H q)⟩
theorem PSs.imp {X : Cx} {e : List Stmt} {t t' : TS} (h : PSs X e t) (f : ∀ D σ H, t' D σ H → t D σ H) : PSs X e t' := ⟨fun pins s σ H D I q => h.run pins s σ H D I (f D σ H q)⟩
section
variable {X : Cx} {C : Cn} {E : XK} {e : Expr} {f : Ex}
theorem e2w (h : CE X C E e f) : CW X C E e f := PE.imp h fun σ H Q ⟨g, S, t, w, s, p⟩ => ⟨g, S, t, w, s, p.imp fun d t' g' H' _ _ q v r => q v (.inl r)⟩
/-- the list that was just made is frozen -/
theorem Rp.frz {K : PySem.W.Frag} {g0 g : G} {H0 H : Hp} {t : Tn} {v : V} {d : D} (r : RpF K H0 g H v d) (s : Stp g0 H0 g H) (w : Wf C g H t) : ∃ g', Stp g0 H0 g' H ∧ Wf C g' H t ∧ Rp K g' v d := by
  obtain ⟨p, vs, ds, rfl, rfl, e0, e1, ra, e2, e3⟩ := r
  have sm : Same g.Fz (upd g.Fz p (.lst vs)) := fun b o h => by
    rw [upd_ne (ne_of_none h e2)]; exact h
  refine ⟨⟨upd g.Fz p (.lst vs), g.tw, g.ad, g.lg⟩, ⟨s.fz.trans sm, s.tw.trans .of, s.twn, s.frm, s.thr, fun b h => ?_⟩, ⟨fun b o h => ?_, ⟨w.tw.1, w.tw.2.frz sm⟩, fun b h => ?_, w.tab, nft_upd w.nft fun _ z => by cases z⟩, ?_⟩
  · have nb : b ≠ p := fun z => e0 (by rw [← z]; exact h)
    show upd g.Fz p (.lst vs) b = _
    rw [upd_ne nb]
    exact s.new b h
  · have h : upd g.Fz p (.lst vs) b = some o := h
    by_cases hb : b = p
    · rw [hb, upd_same] at h
      cases h
      rw [hb]; exact e1
    · rw [upd_ne hb] at h
      exact w.fz b o h
  · have nb : b ≠ p := fun z => e3 (by rw [← z]; exact h)
    show upd g.Fz p (.lst vs) b = _
    rw [upd_ne nb]
    exact w.ntw b h
  · exact .lst upd_same (RpA.mono (g' := ⟨upd g.Fz p (.lst vs), g.tw, g.ad, g.lg⟩) sm .of ra)
theorem f2e (h : CF X C E e f) : CE X C E e f := PE.imp h fun σ H Q ⟨g, S, t, w, s, p⟩ => by
  refine ⟨g, S, t, w, s, ?_⟩
  cases r : f S t with
  | none => rw [r] at p; exact p
  | some o =>
    rw [r] at p
    cases o with
    | exc c t' => exact p
    | ok d t' =>
      intro g' H' s' w' v rf
      obtain ⟨g2, s2, w2, r2⟩ := Rp.frz rf s' w'
      exact p g2 H' s2 w2 v r2
theorem f2w (h : CF X C E e f) : CW X C E e f := e2w (f2e h)
end
theorem RpW.lst {K : PySem.W.Frag} {C : Cn} {g : G} {H : Hp} {t : Tn} {v : V} {ds : List D} (w : Wf C g H t) (h : RpW K g H v (.lst ds)) : ∃ p vs, v = .ref p ∧ H p = some (.lst vs) ∧ RpA K g vs ds := by
  rcases h with h | ⟨p, vs, ds', e1, e2, e3, e4, _⟩
  · cases h with
    | lst a b => exact ⟨_, _, rfl, w.fz _ _ a, b⟩
  · cases e1
    exact ⟨p, vs, e2, e3, e4⟩
theorem RpW.tup {K : PySem.W.Frag} {C : Cn} {g : G} {H : Hp} {t : Tn} {v : V} {ds : List D} (w : Wf C g H t) (h : RpW K g H v (.tup ds)) : ∃ p vs, v = .ref p ∧ SqT K H p vs ∧ RpA K g vs ds := by
  rcases h with h | ⟨p, vs, ds', e1, e2, e3, e4⟩
  · cases h with
    | tup a b => exact ⟨_, _, rfl, Same.tseq w.fz a.t, b⟩
  · cases e1
theorem RpW.int {K : PySem.W.Frag} {g : G} {H : Hp} {v : V} {i : Int} (h : RpW K g H v (.int i)) : v = .int i := by
  rcases h with h | ⟨p, vs, ds', e1, e2, e3, e4⟩
  · cases h; rfl
  · cases e1
theorem RpW.str {K : PySem.W.Frag} {g : G} {H : Hp} {v : V} {i : Str} (h : RpW K g H v (.str i)) : v = .str i := by
  rcases h with h | ⟨p, vs, ds', e1, e2, e3, e4⟩
  · cases h; rfl
  · cases e1
theorem RpW.bl {K : PySem.W.Frag} {g : G} {H : Hp} {v : V} {i : Bool} (h : RpW K g H v (.bl i)) : v = .bl i := by
  rcases h with h | ⟨p, vs, ds', e1, e2, e3, e4⟩
  · cases h; rfl
  · cases e1
theorem RpW.non {K : PySem.W.Frag} {g : G} {H : Hp} {v : V} (h : RpW K g H v .non) : v = .non := by
  rcases h with h | ⟨p, vs, ds', e1, e2, e3, e4⟩
  · cases h; rfl
  · cases e1
/-- an operand, then what follows -/
theorem tE.seq {K : PySem.W.Frag} {C : Cn} {E : XK} {fa : Ex} {k : Sl → D → M D} {σ : L2.St} {H : Hp} {Q Q1 : VK} (h : tE K C E (fun S => bnd (fa S) (k S)) σ H Q)
    (f : ∀ g S t x d H1, Wf C g H1 t → SL K g H1 σ S → Rp K g x d → Post C E g H1 (fun d _ g' H' => ∀ v, Rp K g' v d → Q v H') (k S d t) → Q1 x H1) : tE K C E fa σ H Q1 := by
  obtain ⟨g, S, t, w, s, p⟩ := h
  exact ⟨g, S, t, w, s, p.bnd.imp fun d t' g' H' st w' q v r => f g' S t' v d H' w' (s.stp w st) r q⟩
theorem tW.seq {K : PySem.W.Frag} {C : Cn} {E : XK} {fa : Ex} {k : Sl → D → M D} {σ : L2.St} {H : Hp} {Q Q1 : VK} (h : tE K C E (fun S => bnd (fa S) (k S)) σ H Q)
    (f : ∀ g S t x d H1, Wf C g H1 t → SL K g H1 σ S → RpW K g H1 x d → Post C E g H1 (fun d _ g' H' => ∀ v, Rp K g' v d → Q v H') (k S d t) → Q1 x H1) : tW K C E fa σ H Q1 := by
  obtain ⟨g, S, t, w, s, p⟩ := h
  exact ⟨g, S, t, w, s, p.bnd.imp fun d t' g' H' st w' q v r => f g' S t' v d H' w' (s.stp w st) r q⟩
/-- a new object laid, tracked, not frozen -/
theorem Stp.lay {C : Cn} {g : G} {H : Hp} {t : Tn} {p : Addr} {o : HO} (w : Wf C g H t) (hp : H p = none) : Stp g H g (upd H p o) :=
  ⟨fun _ _ h => h, .refl g, Twn.refl g H, fun b o' h _ _ => (by rw [upd_ne (ne_of_none h hp)]; exact h), fun b ⟨o', h, n⟩ => ⟨o', by rw [upd_ne (ne_of_none h hp)]; exact h, n⟩, fun _ _ => rfl⟩
theorem TownOk.ext {g : G} {H H' : Hp} {t : Option (Int × List (Int × Int))} (h : TownOk g H t) (e : ∀ b kvs, H b = some (.dK kvs) → (∃ p, g.tw = some p ∧ (b = p.1 ∨ b = p.2)) → H' b = some (.dK kvs)) : TownOk g H' t := by
  cases t with
  | none => exact h
  | some cr =>
    obtain ⟨a, b, e1, e2, e3, e4⟩ := h
    exact ⟨a, b, e1, e2, e _ _ e3 ⟨_, e1, .inl rfl⟩, e _ _ e4 ⟨_, e1, .inr rfl⟩⟩
theorem Wf.lay {C : Cn} {g : G} {H : Hp} {t : Tn} {p : Addr} {o : HO} (w : Wf C g H t) (hp : H p = none) : Wf C g (upd H p o) t where
  fz := fun b o' h => by rw [upd_ne (ne_of_none (w.fz b o' h) hp)]; exact w.fz b o' h
  tw := ⟨w.tw.1.ext fun b kvs h _ => by rw [upd_ne (ne_of_none h hp)]; exact h, w.tw.2.keep (fun _ _ h => h) (.refl g) ⟨rfl, rfl⟩ fun a _ ho h => by rw [upd_ne (ne_of_none h hp)]; exact h⟩
  ntw := w.ntw
  tab := w.tab.ext fun b o' h => by rw [upd_ne (ne_of_none h hp)]; exact h
  nft := w.nft
/-- .. frozen: a tuple -/
theorem layT {K : PySem.W.Frag} {C : Cn} {g : G} {H : Hp} {t : Tn} {p : Addr} {vs : List V} {ds : List D} {ob : Obj} (w : Wf C g H t) (hp : H p = none) (hd : ob.dict = none) (hc : ob.cls = .type "tuple") (r : RpA K g vs ds) :
    ∃ g', Stp g H g' (upd H p (.frz ob (.tup vs))) ∧ Wf C g' (upd H p (.frz ob (.tup vs))) t ∧ Rp K g' (.ref p) (.tup ds) := by
  have f0 : g.Fz p = none := w.fzN hp
  have sm : Same g.Fz (upd g.Fz p (.frz ob (.tup vs))) := fun b o h => by
    rw [upd_ne (ne_of_none h f0)]; exact h
  have s1 := Stp.lay (o := HO.frz ob (.tup vs)) w hp
  have w1 := Wf.lay (o := HO.frz ob (.tup vs)) w hp
  refine ⟨⟨upd g.Fz p (.frz ob (.tup vs)), g.tw, g.ad, g.lg⟩, ⟨sm, .of, s1.twn, s1.frm, s1.thr, fun b h => ?_⟩, ⟨fun b o h => ?_, ⟨w1.tw.1, w1.tw.2.frz sm⟩, fun b h => ?_, w1.tab, nft_upd w1.nft fun _ z => by cases z⟩, ?_⟩
  · have nb : b ≠ p := fun z => Nt.no hp (by rw [← z]; exact h)
    show upd g.Fz p (.frz ob (.tup vs)) b = _
    rw [upd_ne nb]
  · have h : upd g.Fz p (.frz ob (.tup vs)) b = some o := h
    by_cases hb : b = p
    · rw [hb, upd_same] at h
      cases h
      rw [hb]; exact upd_same
    · rw [upd_ne hb] at h
      exact w1.fz b o h
  · have nb : b ≠ p := fun z => w.ntN hp (by rw [← z]; exact h)
    show upd g.Fz p (.frz ob (.tup vs)) b = _
    rw [upd_ne nb]
    exact w.ntw b h
  · exact .tup (.inl ⟨ob, upd_same, hd, hc⟩) (RpA.mono (g' := ⟨upd g.Fz p (.frz ob (.tup vs)), g.tw, g.ad, g.lg⟩) sm .of r)
/-- a new list, not frozen yet -/
theorem layL {K : PySem.W.Frag} {C : Cn} {g : G} {H : Hp} {t : Tn} {p : Addr} {vs : List V} {ds : List D} (w : Wf C g H t) (hp : H p = none) (r : RpA K g vs ds) : RpF K H g (upd H p (.lst vs)) (.ref p) (.lst ds) :=
  ⟨p, vs, ds, rfl, rfl, Nt.no hp, upd_same, r, w.fzN hp, w.ntN hp⟩
/-- neither frozen nor one of the objects -/
def Fre (g : G) (p : Addr) : Prop := g.Fz p = none ∧ ¬ g.isTw p
theorem Fre.stp {g g' : G} {H H' : Hp} {p : Addr} {o : HO} (f : Fre g p) (s : Stp g H g' H') (h : H p = some o) (n : ∀ ps, o ≠ .tbl ps) : Fre g' p := ⟨by rw [s.new p ⟨o, h, n⟩]; exact f.1, s.ntw h f.2 n⟩
theorem Wf.fre {C : Cn} {g : G} {H : Hp} {t : Tn} (w : Wf C g H t) {p : Addr} (h : H p = none) : Fre g p := ⟨w.fzN h, w.ntN h⟩
end BG
set_option Elab.async false
set_option linter.all false
set_option maxRecDepth 100000
set_option maxHeartbeats 4000000
namespace BG
open PySem PySem.Spec PyProof.Rows L2
def eVar (i : Nat) : Ex := fun S => match S[i]? with
  | some (.val d) => ret d
  | _ => stuck
def ePeek (i : Nat) : Ex := fun S => match S[i]? with
  | some (.val d) => ret d
  | some (.own ds) => ret (.lst ds)
  | _ => stuck
def eC (d : D) : Ex := fun _ => ret d
def eBin (op : D → D → M D) (a b : Ex) : Ex := fun S => bnd (a S) fun x => bnd (b S) fun y => op x y
def eUn (op : D → M D) (a : Ex) : Ex := fun S => bnd (a S) fun x => op x
def evs : List Ex → Sl → M (List D)
  | [], _ => ret []
  | f :: fs, S => bnd (f S) fun d => bnd (evs fs S) fun ds => ret (d :: ds)
def eTup (fs : List Ex) : Ex := fun S => bnd (evs fs S) fun ds => ret (.tup ds)
def eLst (fs : List Ex) : Ex := fun S => bnd (evs fs S) fun ds => ret (.lst ds)
def eAnd (a b : Ex) : Ex := fun S => bnd (a S) fun x => match x with
  | .bl true => b S
  | .bl false => ret (.bl false)
  | _ => stuck
def eOr (a b : Ex) : Ex := fun S => bnd (a S) fun x => match x with
  | .bl true => ret (.bl true)
  | .bl false => b S
  | _ => stuck
def oNot (x : D) : M D := match x with
  | .bl b => ret (.bl (!b))
  | _ => stuck
def eIf (c a b : Ex) : Ex := fun S => bnd (c S) fun x => match x with
  | .bl true => a S
  | .bl false => b S
  | _ => stuck
theorem evs_length : ∀ {fs : List Ex} {S : Sl} {t t' : Tn} {ds : List D}, evs fs S t = some (.ok ds t') → ds.length = fs.length
  | [], _, _, _, ds, h => by
    have h : some (Out.ok ([] : List D) _) = some (Out.ok ds _) := h
    cases h; rfl
  | f :: fs, S, t, t', ds, h => by
    unfold evs bnd at h
    cases e : f S t with
    | none => rw [e] at h; cases h
    | some o =>
      rw [e] at h
      cases o with
      | exc c t1 => cases h
      | ok d t1 =>
        cases e2 : evs fs S t1 with
        | none => simp only [e2] at h; cases h
        | some o2 =>
          simp only [e2] at h
          cases o2 with
          | exc c t2 => cases h
          | ok ds2 t2 =>
            have h : some (Out.ok (d :: ds2) t2) = some (Out.ok ds t') := h
            cases h
            rw [List.length_cons, List.length_cons, evs_length e2]
section
variable {α : Type} {C : Cn} {E : XK} {g : G} {H : Hp} {Rok Rok' : α → Tn → G → Hp → Prop}
theorem Post.impE {r : Option (Out α)} (h : Post C E g H Rok r) (f : ∀ a t', r = some (.ok a t') → ∀ g' H', Stp g H g' H' → Wf C g' H' t' → Rok a t' g' H' → Rok' a t' g' H') : Post C E g H Rok' r := by
  cases r with
  | none => exact h
  | some o =>
    cases o with
    | ok a t' => exact fun g' H' s' w => f a t' rfl g' H' s' w (h g' H' s' w)
    | exc c t' => exact h
end
section
variable {X : Cx} {C : Cn} {E : XK}
theorem ce_var (i : Nat) {x : Str} {pos : Pos} (hN : X.N[i]? = some x := by rfl) (hv : Vis X.env.scope x := by first | exact Or.inl rfl | exact Or.inr (Or.inl rfl) | exact Or.inr (Or.inr rfl)) (hd : (x == ("__debug__" : Str)) = false := by decide)
    (hcd : (x == ("__classdict__" : Str)) = false := by decide) : CE X C E (.Name x pos) (eVar i) := by
  refine PE.imp (pe_var hN hv hd hcd) fun σ H Q ⟨g, S, t, w, s, p⟩ => ?_
  unfold eVar at p
  cases e : S[i]? with
  | none => rw [e] at p; exact p.elim
  | some sv =>
    rw [e] at p
    cases sv with
    | un => exact p.elim
    | own ds => exact p.elim
    | dic ks => exact p.elim
    | dcT ks => exact p.elim
    | raw v => exact p.elim
    | exn v => exact p.elim
    | val d =>
      obtain ⟨v, h1, h2⟩ := s.val i d e
      exact ⟨v, h1, postRet p w v h2⟩
theorem cw_peek (i : Nat) {x : Str} {pos : Pos} (hN : X.N[i]? = some x := by rfl) (hv : Vis X.env.scope x := by first | exact Or.inl rfl | exact Or.inr (Or.inl rfl) | exact Or.inr (Or.inr rfl)) (hd : (x == ("__debug__" : Str)) = false := by decide)
    (hcd : (x == ("__classdict__" : Str)) = false := by decide) : CW X C E (.Name x pos) (ePeek i) := by
  refine PE.imp (pe_var hN hv hd hcd) fun σ H Q ⟨g, S, t, w, s, p⟩ => ?_
  unfold ePeek at p
  cases e : S[i]? with
  | none => rw [e] at p; exact p.elim
  | some sv =>
    rw [e] at p
    cases sv with
    | un => exact p.elim
    | dic ks => exact p.elim
    | dcT ks => exact p.elim
    | raw v => exact p.elim
    | exn v => exact p.elim
    | own ds =>
      obtain ⟨a, vs, h1, h2, h3, h4⟩ := s.own i ds e
      exact ⟨_, h1, postRet p w _ (.inr ⟨a, vs, ds, rfl, rfl, h2, h3, h4.2⟩)⟩
    | val d =>
      obtain ⟨v, h1, h2⟩ := s.val i d e
      exact ⟨v, h1, postRet p w v (.inl h2)⟩
theorem ce_int {i j pos} : CE X C E (.Constant (.int i) j pos) (eC (.int i)) := PE.imp pe_int fun σ H Q ⟨g, S, t, w, s, p⟩ => postRet p w _ (.int i)
theorem ce_bl {i j pos} : CE X C E (.Constant (.bool i) j pos) (eC (.bl i)) := PE.imp pe_bl fun σ H Q ⟨g, S, t, w, s, p⟩ => postRet p w _ (.bl i)
theorem ce_non {j pos} : CE X C E (.Constant .none j pos) (eC .non) := PE.imp pe_non fun σ H Q ⟨g, S, t, w, s, p⟩ => postRet p w _ .non
theorem ce_str {x j pos} : CE X C E (.Constant (.str x) j pos) (eC (.str x)) := PE.imp pe_str fun σ H Q ⟨g, S, t, w, s, p⟩ => postRet p w _ (.str x)
/-- a module's constant: its value in the written part -/
theorem ce_glob {x : Str} {v : V} {u : Value} {d : D} {pos : Pos} (hm : X.mg x = some u) (hr : RelV v u) (r : ∀ g, Rp X.K g v d) (hg : Gl X x := by rfl) (hd : (x == ("__debug__" : Str)) = false := by decide) : CE X C E (.Name x pos) (eC d) :=
  PE.imp (pe_glob hg hm hr hd) fun σ H Q ⟨g, S, t, w, s, p⟩ => postRet p w _ (r g)
/-- two operands by values: a law of an operation -/
def rD (K : PySem.W.Frag) (C : Cn) (E : XK) (prim : D → D → M D) : R2 := fun x y H Q => ∃ g t p q, Wf C g H t ∧ RpW K g H x p ∧ RpW K g H y q ∧ Post C E g H (fun d _ g' H' => ∀ v, Rp K g' v d → Q v H') (prim p q t)
abbrev BinOk (X : Cx) (C : Cn) (E : XK) (f : Value → Value → Sem Value) (prim : D → D → M D) : Prop := OpR X f (rD X.K C E prim)
theorem OpR.imp {f : Value → Value → Sem Value} {r r' : R2} (h : OpR X f r) (i : ∀ x y H Q, r' x y H Q → r x y H Q) : OpR X f r' := fun pins s σ H x y v u Q I rx ry q => h pins s σ H x y v u Q I rx ry (i x y H Q q)
theorem tW.two {prim : D → D → M D} {fa fb : Ex} {σ : L2.St} {H : Hp} {Q : VK} (h : tE X.K C E (eBin prim fa fb) σ H Q) : tOp (rD X.K C E prim) (tW X.K C E fa) (tW X.K C E fb) σ H Q := by
  refine tW.seq h fun g S t x d H1 w s rx p1 => ?_
  exact ⟨g, S, t, w, s, p1.bnd.imp fun d2 t2 g2 H2 st w2 q v r2 => ⟨g2, t2, d, d2, w2, rx.stp w st, r2, q⟩⟩
theorem ce_bin {op : Operator} {prim : D → D → M D} {a b : Expr} {fa fb : Ex} {pos : Pos} (ho : BinOk X C E (binaryOp op) prim) (ha : CW X C E a fa) (hb : CW X C E b fb) : CE X C E (.BinOp a op b pos) (eBin prim fa fb) :=
  PE.imp (pe_op ho ha hb) fun σ H Q h => tW.two h
theorem ce_cmp {op : CmpOp} {prim : D → D → M D} {a b : Expr} {fa fb : Ex} {pos : Pos} (ho : BinOk X C E (compareOp op) prim) (ha : CW X C E a fa) (hb : CW X C E b fb) (hm : behindInMarks op b = false := by rfl) :
    CE X C E (.Compare a [op] [b] pos) (eBin prim fa fb) := PE.imp (pe_cmpR ho ha hb hm) fun σ H Q h => tW.two h
theorem tT.tE {f : Ex} {σ : L2.St} {H : Hp} {Q : Bool → Hp → Prop} (h : tT X.K C E f σ H Q) : tE X.K C E f σ H (fun x H' => ∃ k, x = .bl k ∧ Q k H') := by
  obtain ⟨g, S, t, w, s, p⟩ := h
  exact ⟨g, S, t, w, s, p.imp fun d t' g' H' _ _ ⟨b, e, q⟩ v r => by
    subst e
    cases r
    exact ⟨b, rfl, q⟩⟩
theorem ct_cmp {op : CmpOp} {prim : D → D → M D} {a b : Expr} {fa fb : Ex} {pos : Pos} (ho : BinOk X C E (compareOp op) prim) (ha : CW X C E a fa) (hb : CW X C E b fb) (hm : behindInMarks op b = false := by rfl) :
    CT X C E (.Compare a [op] [b] pos) (eBin prim fa fb) := PT.imp (pt_cmpR ho ha hb hm) fun σ H Q h => tW.two (tT.tE h)
/-- any expression that gives a bool, as a test -/
theorem ct_val {e : Expr} {f : Ex} (h : CE X C E e f) (he : ∀ whole, isTrue e X.env whole = (do let v ← whole; standAt e.pos; holding [v] (truthy v)) := by intro _; rfl) : CT X C E e f :=
  PT.imp (pt_val h he) fun σ H Q h => tT.tE h
theorem tE.and {fa fb : Ex} {σ : L2.St} {H : Hp} {Q : VK} (h : tE X.K C E (eAnd fa fb) σ H Q) : tAndV (tE X.K C E fa) (tE X.K C E fb) σ H Q := by
  refine tE.seq h fun g S t x d H1 w s rx p1 => ?_
  cases d with
  | bl b =>
    cases rx
    refine ⟨b, rfl, ?_⟩
    cases b with
    | true => exact iteT ⟨g, S, t, w, s, p1⟩
    | false => exact iteF (postRet p1 w _ (.bl false))
  | _ => exact p1.elim
theorem tE.or {fa fb : Ex} {σ : L2.St} {H : Hp} {Q : VK} (h : tE X.K C E (eOr fa fb) σ H Q) : tOrV (tE X.K C E fa) (tE X.K C E fb) σ H Q := by
  refine tE.seq h fun g S t x d H1 w s rx p1 => ?_
  cases d with
  | bl b =>
    cases rx
    refine ⟨b, rfl, ?_⟩
    cases b with
    | false => exact iteF ⟨g, S, t, w, s, p1⟩
    | true => exact iteT (postRet p1 w _ (.bl true))
  | _ => exact p1.elim
theorem ce_one {op} {a : Expr} {f : Ex} {pos : Pos} (h : CE X C E a f) : CE X C E (.BoolOp op [a] pos) f := pe_one h
theorem ce_and {a b : Expr} {rest : List Expr} {fa fb : Ex} {pos : Pos} (ha : CE X C E a fa) (hb : CE X C E (.BoolOp .And (b :: rest) pos) fb) : CE X C E (.BoolOp .And (a :: b :: rest) pos) (eAnd fa fb) := PE.imp (pe_and ha hb) fun σ H Q h => tE.and h
theorem ce_not {a : Expr} {fa : Ex} {pos : Pos} (ha : CE X C E a fa) : CE X C E (.UnaryOp .Not a pos) (eUn oNot fa) := PE.imp (pe_not ha) fun σ H Q h => by
  refine tE.seq h fun g S t x d H1 w s rx p1 => ?_
  cases d with
  | bl b =>
    cases rx
    exact ⟨b, rfl, postRet p1 w _ (.bl _)⟩
  | _ => exact p1.elim
/-- a test, then what follows -/
theorem tT.seq {fa : Ex} {k : D → M D} {σ : L2.St} {H : Hp} {Rr : D → Tn → G → Hp → Prop} {Q1 : Bool → Hp → Prop} {g : G} {S : Sl} {t : Tn} (w : Wf C g H t) (s : SL X.K g H σ S) (p : Post C E g H Rr (bnd (fa S) k t)) (nb : ∀ d t, (∀ b, d ≠ .bl b) → k d t = none)
    (f : ∀ g t b H1, Wf C g H1 t → SL X.K g H1 σ S → Post C E g H1 Rr (k (.bl b) t) → Q1 b H1) : tT X.K C E fa σ H Q1 := by
  refine ⟨g, S, t, w, s, p.bnd.imp fun d t' g' H' st w' q => ?_⟩
  by_cases h : ∃ b, d = .bl b
  · obtain ⟨b, rfl⟩ := h
    exact ⟨b, rfl, f g' t' b H' w' (s.stp w st) q⟩
  · have q : Post C E g' H' Rr (k d t') := q
    rw [nb d t' (fun b z => h ⟨b, z⟩)] at q
    exact q.elim
theorem cw_and {a b : Expr} {rest : List Expr} {fa fb : Ex} {pos : Pos} (ha : CT X C E a fa) (hb : PW X (.BoolOp .And (b :: rest) pos) (tT X.K C E fb)) : PW X (.BoolOp .And (a :: b :: rest) pos) (tT X.K C E (eAnd fa fb)) := by
  refine ⟨fun wh pins s σ H Q I h => (pw_and ha hb).run wh pins s σ H Q I ?_⟩
  obtain ⟨g, S, t, w, sl, p⟩ := h
  refine tT.seq (k := fun x => match x with | .bl true => fb S | .bl false => ret (.bl false) | _ => stuck) w sl p (fun d t h => ?_) fun g t b H1 w s p => ?_
  · cases d <;> first | rfl | exact absurd rfl (h _)
  · cases b with
    | true => exact iteT ⟨g, S, t, w, s, p⟩
    | false =>
      obtain ⟨b, e, q⟩ := postRet p w
      cases e
      exact iteF q
theorem cw_or {a b : Expr} {rest : List Expr} {fa fb : Ex} {pos : Pos} (ha : CT X C E a fa) (hb : PW X (.BoolOp .Or (b :: rest) pos) (tT X.K C E fb)) : PW X (.BoolOp .Or (a :: b :: rest) pos) (tT X.K C E (eOr fa fb)) := by
  refine ⟨fun wh pins s σ H Q I h => (pw_or ha hb).run wh pins s σ H Q I ?_⟩
  obtain ⟨g, S, t, w, sl, p⟩ := h
  refine tT.seq (k := fun x => match x with | .bl true => ret (.bl true) | .bl false => fb S | _ => stuck) w sl p (fun d t h => ?_) fun g t b H1 w s p => ?_
  · cases d <;> first | rfl | exact absurd rfl (h _)
  · cases b with
    | false => exact iteF ⟨g, S, t, w, s, p⟩
    | true =>
      obtain ⟨b, e, q⟩ := postRet p w
      cases e
      exact iteT q
theorem ct_w {e : Expr} {f : Ex} (h : PW X e (tT X.K C E f)) : CT X C E e f := h.pt
theorem ct_not {a : Expr} {fa : Ex} {pos : Pos} (ha : CT X C E a fa) : CT X C E (.UnaryOp .Not a pos) (eUn oNot fa) := PT.imp (pt_not ha) fun σ H Q h => by
  obtain ⟨g, S, t, w, sl, p⟩ := h
  refine tT.seq (k := oNot) w sl p (fun d t h => ?_) fun g t b H1 w s p => ?_
  · cases d <;> first | rfl | exact absurd rfl (h _)
  · obtain ⟨b, e, q⟩ := postRet p w
    cases e
    exact q
theorem ce_if {c a b : Expr} {fc fa fb : Ex} {pos : Pos} (hc : CT X C E c fc) (ha : CE X C E a fa) (hb : CE X C E b fb) : CE X C E (.IfExp c a b pos) (eIf fc fa fb) := PE.imp (pe_ifExp hc ha hb) fun σ H Q h => by
  obtain ⟨g, S, t, w, sl, p⟩ := h
  refine tT.seq (k := fun x => match x with | .bl true => fa S | .bl false => fb S | _ => stuck) w sl p (fun d t h => ?_) fun g t b H1 w s p => ?_
  · cases d <;> first | rfl | exact absurd rfl (h _)
  · cases b with
    | true => exact iteT ⟨g, S, t, w, s, p⟩
    | false => exact iteF ⟨g, S, t, w, s, p⟩
theorem ca_nil : CA X C E [] (evs []) := PA.imp pa_nil fun σ H Q ⟨g, S, t, w, s, p⟩ => postRet p w _ .nil
theorem ca_cons {e : Expr} {es : List Expr} {f : Ex} {fs : List Ex} (ha : CE X C E e f) (hr : CA X C E es (evs fs)) (hs : starEach (e :: es) X.env = (false, eval e X.env) :: starEach es X.env := by rfl) : CA X C E (e :: es) (evs (f :: fs)) :=
  PA.imp (pa_cons ha hr hs) fun σ H Q ⟨g, S, t, w, s, p⟩ => ⟨g, S, t, w, s, p.bnd.imp fun d t1 g1 H1 st1 w1 q v r => ⟨g1, S, t1, w1, s.stp w st1, q.bnd.imp fun ds t2 g2 H2 st2 w2 q2 vs rs => postRet q2 w2 _ (.cons (r.stp st2) rs)⟩⟩
theorem Post.evs {fs : List Ex} {S : Sl} {t : Tn} {g : G} {H : Hp} {Rok : List D → Tn → G → Hp → Prop} (p : Post C E g H Rok (evs fs S t)) : Post C E g H (fun ds t' g' H' => ds.length = fs.length ∧ Rok ds t' g' H') (evs fs S t) :=
  p.impE fun a t' e g' H' _ _ r => ⟨evs_length e, r⟩
theorem ce_tup {es : List Expr} {fs : List Ex} {x1} {pos : Pos} (h : CA X C E es (evs fs)) (hl : fs.length ≤ sizeLine := by decide) : CE X C E (.Tuple es x1 pos) (eTup fs) := PE.imp (pe_tupN h) fun σ H Q ⟨g, S, t, w, s, p⟩ =>
  ⟨g, S, t, w, s, (Post.evs p.bnd).imp fun ds t1 g1 H1 st1 w1 ⟨el, q⟩ vs rs => ⟨by rw [rs.length, el]; exact hl, fun a ob ha hd hcl => by
    obtain ⟨g2, s2, w2, r2⟩ := layT w1 ha hd hcl rs
    exact q g2 _ s2 w2 _ r2⟩⟩
theorem cf_lst {es : List Expr} {fs : List Ex} {pos : Pos} (h : CA X C E es (evs fs)) (hl : fs.length ≤ sizeLine := by decide) : CF X C E (.List es pos) (eLst fs) := PE.imp (pe_lst h) fun σ H Q ⟨g, S, t, w, s, p⟩ =>
  ⟨g, S, t, w, s, (Post.evs p.bnd).imp fun ds t1 g1 H1 st1 w1 ⟨el, q⟩ vs rs => ⟨by rw [rs.length, el]; exact hl, fun a ha => by
    obtain ⟨p', vs', ds', e1, e2, e3, e4, e5, e6⟩ := layL (H := H1) w1 ha rs
    have h0 : ¬ Nt H a := fun z => Nt.no ha (st1.thr a z)
    exact q g1 _ (Stp.lay w1 ha) (Wf.lay w1 ha) _ ⟨a, vs, ds, rfl, rfl, h0, upd_same, rs, w1.fzN ha, w1.ntN ha⟩⟩⟩
end
end BG
set_option Elab.async false
set_option linter.all false
set_option maxRecDepth 100000
set_option maxHeartbeats 4000000
namespace BG
open PySem PySem.Spec PyProof.Rows L2
mutual
def D.py : D → PyData
  | .non => .none
  | .bl b => .bool b
  | .int i => .int i
  | .str x => .str x
  | .tup xs => .tuple (pyA xs)
  | .lst xs => .list (pyA xs)
  | .town => .none
  | .scr _ => .none
  | .dct _ _ => .none
  | .dTT _ _ => .none
  | .hnd _ => .none
def pyA : List D → List PyData
  | [] => []
  | d :: ds => d.py :: pyA ds
end
mutual
def okD : D → Nat → Bool
  | .non, _ => true
  | .bl _, _ => true
  | .int _, _ => true
  | .str x, _ => PyData.strOk x
  | .tup xs, n => match n with
    | 0 => false
    | m + 1 => okA xs m
  | .lst xs, n => match n with
    | 0 => false
    | m + 1 => okA xs m
  | .town, _ => false
  | .scr _, _ => false
  | .dct _ _, _ => false
  | .dTT _ _, _ => false
  | .hnd _, _ => false
def okA : List D → Nat → Bool
  | [], _ => true
  | d :: ds, n => okD d n && okA ds n
end
theorem pyA_map : ∀ ds : List D, pyA ds = ds.map D.py
  | [] => rfl
  | d :: ds => by rw [pyA, List.map_cons, pyA_map ds]
theorem okA_all : ∀ (ds : List D) (n : Nat), okA ds n = ds.all fun d => okD d n
  | [], _ => rfl
  | d :: ds, n => by rw [okA, List.all_cons, okA_all ds n]
mutual
theorem okD_lay : ∀ (d : D) (n : Nat), okD d n = true → d.py.canLay0 = true ∧ d.py.depth ≤ n
  | .non, _, _ => by rw [D.py]; exact ⟨rfl, Nat.zero_le _⟩
  | .bl _, _, _ => by rw [D.py]; exact ⟨rfl, Nat.zero_le _⟩
  | .int _, _, _ => by rw [D.py]; exact ⟨rfl, Nat.zero_le _⟩
  | .str x, _, h => by rw [D.py]; exact ⟨h, Nat.zero_le _⟩
  | .tup xs, 0, h => by cases h
  | .tup xs, n + 1, h => by
    obtain ⟨a, b⟩ := okA_lay xs n h
    rw [D.py]
    exact ⟨a, Nat.succ_le_succ b⟩
  | .lst xs, 0, h => by cases h
  | .lst xs, n + 1, h => by
    obtain ⟨a, b⟩ := okA_lay xs n h
    rw [D.py]
    exact ⟨a, Nat.succ_le_succ b⟩
  | .town, _, h => by cases h
  | .scr _, _, h => by cases h
  | .dct _ _, _, h => by cases h
  | .dTT _ _, _, h => by cases h
  | .hnd _, _, h => by cases h
theorem okA_lay : ∀ (ds : List D) (n : Nat), okA ds n = true → PyData.canLayAll0 (pyA ds) = true ∧ PyData.depthAll (pyA ds) ≤ n
  | [], _, _ => ⟨rfl, Nat.zero_le _⟩
  | d :: ds, n, h => by
    have h : (okD d n && okA ds n) = true := h
    rw [Bool.and_eq_true] at h
    obtain ⟨a1, a2⟩ := okD_lay d n h.1
    obtain ⟨b1, b2⟩ := okA_lay ds n h.2
    refine ⟨?_, ?_⟩
    · show (d.py.canLay0 && PyData.canLayAll0 (pyA ds)) = true
      rw [a1, b1]; rfl
    · show max d.py.depth (PyData.depthAll (pyA ds)) ≤ n
      exact Nat.max_le.mpr ⟨a2, b2⟩
end
theorem shaped_of {d : D} {n : Nat} (h : okD d n = true) (hn : n ≤ 64) : SeqAt.shaped d.py = true := by
  obtain ⟨a, b⟩ := okD_lay d n h
  unfold SeqAt.shaped
  rw [a, decide_eq_true (Nat.le_trans b hn)]; rfl
section
variable {K : PySem.W.Frag} {C : Cn} {g : G} {H : Hp} {t : Tn}
mutual
theorem Rp.dp (w : Wf C g H t) : ∀ {d : D} {v : V} {n : Nat}, Rp K g v d → okD d n = true → Dp K H v d.py
  | .non, _, _, h, _ => by cases h; rw [D.py]; exact .non
  | .bl b, _, _, h, _ => by cases h; rw [D.py]; exact .bl b
  | .int i, _, _, h, _ => by cases h; rw [D.py]; exact .int i
  | .str x, _, _, h, _ => by cases h; rw [D.py]; exact .str x
  | .tup ds, _, 0, h, o => by cases o
  | .tup ds, _, n + 1, h, o => by
    cases h with
    | tup s a => rw [D.py]; exact .tup (Same.tseq w.fz s.t) (RpA.dp w a o)
  | .lst ds, _, 0, h, o => by cases o
  | .lst ds, _, n + 1, h, o => by
    cases h with
    | lst s a => rw [D.py]; exact .lst (.inl (.inl (w.fz _ _ s))) (RpA.dp w a o)
  | .town, _, _, h, o => by cases o
  | .scr _, _, _, h, o => by cases o
  | .dct _ _, _, _, h, o => by cases o
  | .dTT _ _, _, _, h, o => by cases o
  | .hnd _, _, _, h, o => by cases o
theorem RpA.dp (w : Wf C g H t) : ∀ {ds : List D} {vs : List V} {n : Nat}, RpA K g vs ds → okA ds n = true → DpAll K H vs (pyA ds)
  | [], _, _, h, _ => by cases h; exact .nil
  | d :: ds, _, n, h, o => by
    have o : (okD d n && okA ds n) = true := o
    rw [Bool.and_eq_true] at o
    cases h with
    | cons a b => exact .cons (Rp.dp w a o.1) (RpA.dp w b o.2)
end
theorem RpW.dp (w : Wf C g H t) {d : D} {v : V} {n : Nat} (h : RpW K g H v d) (o : okD d n = true) : Dp K H v d.py := by
  rcases h with h | ⟨p, vs, ds, rfl, rfl, e3, e4, _⟩
  · exact h.dp w o
  · cases n with
    | zero => cases o
    | succ n => rw [D.py]; exact .lst (.inl (.inl e3)) (e4.dp w o)
end
section
variable {K : PySem.W.Frag} {C : Cn} {E : XK} {g : G} {H : Hp} {t : Tn} {Q : VK}
abbrev PostQ (K : PySem.W.Frag) (C : Cn) (E : XK) (g : G) (H : Hp) (Q : VK) (r : Option (Out D)) : Prop := Post C E g H (fun d _ g' H' => ∀ v, Rp K g' v d → Q v H') r
theorem pRetV {d : D} {v : V} (p : PostQ K C E g H Q (ret d t)) (w : Wf C g H t) (r : Rp K g v d) : Q v H := postRet p w v r
theorem pRetT {ds : List D} {vs : List V} (p : PostQ K C E g H Q (ret (.tup ds) t)) (w : Wf C g H t) (r : RpA K g vs ds) : NewT H Q vs := fun a ob ha hd hcl => by
  obtain ⟨g2, s2, w2, r2⟩ := layT w ha hd hcl r
  exact p g2 _ s2 w2 _ r2
theorem pRetL {ds : List D} {vs : List V} (p : PostQ K C E g H Q (ret (.lst ds) t)) (w : Wf C g H t) (r : RpA K g vs ds) (a : Addr) (ha : H a = none) : Q (.ref a) (upd H a (.lst vs)) := by
  obtain ⟨g2, s2, w2, r2⟩ := Rp.frz (layL w ha r) (Stp.lay w ha) (Wf.lay w ha)
  exact p g2 _ s2 w2 _ r2
end
def pAdd : D → D → M D
  | .int i, .int j => ret (.int (i + j))
  | .str x, .str y => if x.length + y.length ≤ sizeLine then ret (.str (x ++ y)) else stuck
  | .tup xs, .tup ys => if xs.length + ys.length ≤ sizeLine then ret (.tup (xs ++ ys)) else stuck
  | .lst xs, .lst ys => if xs.length + ys.length ≤ sizeLine then ret (.lst (xs ++ ys)) else stuck
  | _, _ => stuck
def pSub : D → D → M D
  | .int i, .int j => ret (.int (i - j))
  | _, _ => stuck
def pMul : D → D → M D
  | .int i, .int j => if -(2 ^ 64) < i ∧ i < 2 ^ 64 then ret (.int (i * j)) else stuck
  | .tup xs, .int k => if xs ≠ [] ∧ 2 ≤ k ∧ k ≤ 1000 ∧ xs.length ≤ 1000 then ret (.tup (List.replicate k.toNat xs).flatten) else stuck
  | .lst xs, .int k => if 0 ≤ k ∧ k ≤ 1000 ∧ xs.length ≤ 1000 then ret (.lst (List.replicate k.toNat xs).flatten) else stuck
  | _, _ => stuck
def pMod : D → D → M D
  | .int i, .int j => if 0 < j then ret (.int (i % j)) else stuck
  | _, _ => stuck
def pDiv : D → D → M D
  | .int i, .int j => if 0 < j ∧ j < 1073741824 then ret (.int (i / j)) else stuck
  | _, _ => stuck
def pXor : D → D → M D
  | .int i, .int j => ret (.int (Builtin.bitXor i j))
  | _, _ => stuck
def pEq (p q : D) : M D := if okD p 60 = true ∧ okD q 60 = true then ret (.bl (PyData.eqv p.py q.py)) else stuck
def pNe (p q : D) : M D := if okD p 60 = true ∧ okD q 60 = true then ret (.bl (!PyData.eqv p.py q.py)) else stuck
def pLt : D → D → M D
  | .int i, .int j => ret (.bl (decide (i < j)))
  | .str i, .str j => ret (.bl (decide (i.cps.toList < j.cps.toList)))
  | _, _ => stuck
def pLe : D → D → M D
  | .int i, .int j => ret (.bl (decide (i ≤ j)))
  | _, _ => stuck
def pGt : D → D → M D
  | .int i, .int j => ret (.bl (decide (j < i)))
  | _, _ => stuck
def pGe : D → D → M D
  | .int i, .int j => ret (.bl (decide (j ≤ i)))
  | _, _ => stuck
def inD (p : D) (ds : List D) : Bool := ds.any fun d => PyData.eqv d.py p.py
def pIn : D → D → M D
  | p, .tup ds => if okD p 60 = true ∧ okA ds 60 = true then ret (.bl (inD p ds)) else stuck
  | p, .lst ds => if okD p 60 = true ∧ okA ds 60 = true then ret (.bl (inD p ds)) else stuck
  | _, _ => stuck
def isN : D → Bool
  | .non => true
  | _ => false
def pIs : D → D → M D
  | p, .non => ret (.bl (isN p))
  | _, _ => stuck
def pIsNot : D → D → M D
  | p, .non => ret (.bl (!isN p))
  | _, _ => stuck
section
variable {X : Cx} {C : Cn} {E : XK}
theorem bin_add : BinOk X C E (binaryOp .Add) pAdd := OpR.imp (op_add.or (op_add_str.or (op_catN.or op_cat))) fun x y H Q ⟨g, t, p, q, w, rx, ry, h⟩ => by
  cases p with
  | int i =>
    cases q with
    | int j => exact .inl ⟨i, j, rx.int, ry.int, pRetV h w (.int _)⟩
    | _ => exact h.elim
  | str i =>
    cases q with
    | str j =>
      have h : PostQ X.K C E g H Q ((if i.length + j.length ≤ sizeLine then ret (.str (i ++ j)) else stuck) t) := h
      split at h
      · exact .inr (.inl ⟨i, j, rx.str, ry.str, by assumption, pRetV h w (.str _)⟩)
      · exact h.elim
    | _ => exact h.elim
  | tup xs =>
    cases q with
    | tup ys =>
      have h : PostQ X.K C E g H Q ((if xs.length + ys.length ≤ sizeLine then ret (.tup (xs ++ ys)) else stuck) t) := h
      split at h
      · obtain ⟨a, vs, rfl, e1, r1⟩ := rx.tup w
        obtain ⟨b, us, rfl, e2, r2⟩ := ry.tup w
        refine .inr (.inr (.inl ⟨a, b, vs, us, rfl, rfl, e1, e2, by rw [r1.length, r2.length]; assumption, fun z => ?_, fun z z2 => ?_, fun _ _ => pRetT h w (r1.app r2)⟩))
        · subst z
          have e0 : xs = [] := List.eq_nil_of_length_eq_zero r1.length.symm
          subst e0
          rcases ry with ry | ⟨_, _, _, z, _⟩
          · exact pRetV h w ry
          · cases z
        · subst z2
          have e0 : ys = [] := List.eq_nil_of_length_eq_zero r2.length.symm
          subst e0
          rw [List.append_nil] at h
          rcases rx with rx | ⟨_, _, _, z, _⟩
          · exact pRetV h w rx
          · cases z
      · exact h.elim
    | _ => exact h.elim
  | lst xs =>
    cases q with
    | lst ys =>
      have h : PostQ X.K C E g H Q ((if xs.length + ys.length ≤ sizeLine then ret (.lst (xs ++ ys)) else stuck) t) := h
      split at h
      · obtain ⟨a, vs, rfl, e1, r1⟩ := rx.lst w
        obtain ⟨b, us, rfl, e2, r2⟩ := ry.lst w
        exact .inr (.inr (.inr ⟨a, b, vs, us, rfl, rfl, e1, e2, by rw [r1.length, r2.length]; assumption, fun p hp => pRetL h w (r1.app r2) p hp⟩))
      · exact h.elim
    | _ => exact h.elim
  | _ => cases q <;> exact h.elim
theorem bin_sub : BinOk X C E (binaryOp .Sub) pSub := OpR.imp op_sub fun x y H Q ⟨g, t, p, q, w, rx, ry, h⟩ => by
  cases p <;> cases q <;> first | exact ⟨_, _, rx.int, ry.int, pRetV h w (.int _)⟩ | exact h.elim
theorem bin_mod : BinOk X C E (binaryOp .Mod) pMod := OpR.imp op_mod fun x y H Q ⟨g, t, p, q, w, rx, ry, h⟩ => by
  cases p <;> cases q <;> first | exact h.elim | skip
  rename_i i j
  have h : PostQ X.K C E g H Q ((if 0 < j then ret (.int (i % j)) else stuck) t) := h
  split at h
  · exact ⟨_, _, rx.int, ry.int, by assumption, pRetV h w (.int _)⟩
  · exact h.elim
theorem bin_div : BinOk X C E (binaryOp .FloorDiv) pDiv := OpR.imp op_fdiv fun x y H Q ⟨g, t, p, q, w, rx, ry, h⟩ => by
  cases p <;> cases q <;> first | exact h.elim | skip
  rename_i i j
  have h : PostQ X.K C E g H Q ((if 0 < j ∧ j < 1073741824 then ret (.int (i / j)) else stuck) t) := h
  split at h
  · exact ⟨_, _, rx.int, ry.int, by assumption, pRetV h w (.int _)⟩
  · exact h.elim
theorem bin_xor : BinOk X C E (binaryOp .BitXor) pXor := OpR.imp op_xor fun x y H Q ⟨g, t, p, q, w, rx, ry, h⟩ => by
  cases p <;> cases q <;> first | exact ⟨_, _, rx.int, ry.int, pRetV h w (.int _)⟩ | exact h.elim
theorem bin_mul : BinOk X C E (binaryOp .Mult) pMul := OpR.imp (op_mul.or (op_repN.or op_rep)) fun x y H Q ⟨g, t, p, q, w, rx, ry, h⟩ => by
  cases p with
  | int i =>
    cases q with
    | int j =>
      have h : PostQ X.K C E g H Q ((if -(2 ^ 64) < i ∧ i < 2 ^ 64 then ret (.int (i * j)) else stuck) t) := h
      split at h
      · exact .inl ⟨i, j, rx.int, ry.int, .inl (by assumption), pRetV h w (.int _)⟩
      · exact h.elim
    | _ => exact h.elim
  | tup xs =>
    cases q with
    | int k =>
      have h : PostQ X.K C E g H Q ((if xs ≠ [] ∧ 2 ≤ k ∧ k ≤ 1000 ∧ xs.length ≤ 1000 then ret (.tup (List.replicate k.toNat xs).flatten) else stuck) t) := h
      split at h
      · rename_i hc
        obtain ⟨a, vs, rfl, e1, r1⟩ := rx.tup w
        refine .inr (.inl ⟨a, k, vs, rfl, ry.int, e1, fun z => hc.1 ?_, hc.2.1, hc.2.2.1, by rw [r1.length]; exact hc.2.2.2, pRetT h w (r1.rep _)⟩)
        subst z
        exact List.eq_nil_of_length_eq_zero r1.length.symm
      · exact h.elim
    | _ => exact h.elim
  | lst xs =>
    cases q with
    | int k =>
      have h : PostQ X.K C E g H Q ((if 0 ≤ k ∧ k ≤ 1000 ∧ xs.length ≤ 1000 then ret (.lst (List.replicate k.toNat xs).flatten) else stuck) t) := h
      split at h
      · rename_i hc
        obtain ⟨a, vs, rfl, e1, r1⟩ := rx.lst w
        refine .inr (.inr ⟨a, k, vs, rfl, ry.int, e1, by omega, by omega, ?_, fun p hp => pRetL h w (r1.rep _) p hp⟩)
        rw [r1.length, sizeLine_eq]
        have a1 : xs.length * k.toNat ≤ 1000 * 1000 := Nat.mul_le_mul hc.2.2 (by omega)
        omega
      · exact h.elim
    | _ => exact h.elim
  | _ => cases q <;> exact h.elim
theorem bin_eq (hu : X.A.units + 64 < cLine) : BinOk X C E (compareOp .Eq) pEq := OpR.imp (op_eqD hu) fun x y H Q ⟨g, t, p, q, w, rx, ry, h⟩ => by
  unfold pEq at h
  split at h
  · rename_i hc
    exact ⟨p.py, q.py, rx.dp w hc.1, ry.dp w hc.2, shaped_of hc.1 (by decide), shaped_of hc.2 (by decide), pRetV h w (.bl _)⟩
  · exact h.elim
theorem bin_ne (hu : X.A.units + 64 < cLine) : BinOk X C E (compareOp .NotEq) pNe := OpR.imp (op_neD hu) fun x y H Q ⟨g, t, p, q, w, rx, ry, h⟩ => by
  unfold pNe at h
  split at h
  · rename_i hc
    exact ⟨p.py, q.py, rx.dp w hc.1, ry.dp w hc.2, shaped_of hc.1 (by decide), shaped_of hc.2 (by decide), pRetV h w (.bl _)⟩
  · exact h.elim
theorem bin_lt : BinOk X C E (compareOp .Lt) pLt := OpR.imp (op_lt.or op_lt_str) fun x y H Q ⟨g, t, p, q, w, rx, ry, h⟩ => by
  cases p <;> cases q <;> first | exact h.elim | exact .inl ⟨_, _, rx.int, ry.int, pRetV h w (.bl _)⟩ | exact .inr ⟨_, _, rx.str, ry.str, pRetV h w (.bl _)⟩
theorem bin_le : BinOk X C E (compareOp .LtE) pLe := OpR.imp op_le fun x y H Q ⟨g, t, p, q, w, rx, ry, h⟩ => by
  cases p <;> cases q <;> first | exact h.elim | exact ⟨_, _, rx.int, ry.int, pRetV h w (.bl _)⟩
theorem bin_gt : BinOk X C E (compareOp .Gt) pGt := OpR.imp op_gt fun x y H Q ⟨g, t, p, q, w, rx, ry, h⟩ => by
  cases p <;> cases q <;> first | exact h.elim | exact ⟨_, _, rx.int, ry.int, pRetV h w (.bl _)⟩
theorem bin_ge : BinOk X C E (compareOp .GtE) pGe := OpR.imp op_ge fun x y H Q ⟨g, t, p, q, w, rx, ry, h⟩ => by
  cases p <;> cases q <;> first | exact h.elim | exact ⟨_, _, rx.int, ry.int, pRetV h w (.bl _)⟩
/-- in, of data at any depth -/
def rInA (K : PySem.W.Frag) (neg : Bool) : R2 := fun x y H Q => ∃ d ds, Dp K H x d ∧ (Dp K H y (.list ds) ∨ Dp K H y (.tuple ds)) ∧ SeqAt.shaped d = true ∧ PyData.canLayAll0 ds = true ∧ Q (.bl (if neg then !(ds.any fun z => PyData.eqv z d) else (ds.any fun z => PyData.eqv z d))) H
theorem op_inA (hu : X.A.units + 65 < cLine) : OpR X (compareOp .In) (rInA X.K false) := by
  intro pins s σ H x y v u Q I rx ry h
  obtain ⟨d, ds, hd, he, sd, se, q⟩ := h
  obtain ⟨as, r1⟩ := Dp.reads I d x v hd rx
  rcases he with he | he
  · obtain ⟨bs, r2⟩ := Dp.reads I (.list ds) y u he ry
    exact SeqAt.in_list_reads r2 r1 se (SeqAt.canLay_of_shaped sd) (PyProof.Rows.room_in_shaped sd hu) ⟨.bl _, H, I, rfl, q⟩
  · obtain ⟨bs, r2⟩ := Dp.reads I (.tuple ds) y u he ry
    exact SeqAt.in_tuple_reads r2 r1 se (SeqAt.canLay_of_shaped sd) (PyProof.Rows.room_in_shaped sd hu) ⟨.bl _, H, I, rfl, q⟩
theorem any_py (p : D) (ds : List D) : ((pyA ds).any fun z => PyData.eqv z p.py) = inD p ds := by
  rw [pyA_map, List.any_map]; rfl
theorem okA_up : ∀ {ds : List D} {n : Nat}, okA ds n = true → okD (.tup ds) (n + 1) = true ∧ okD (.lst ds) (n + 1) = true := fun h => ⟨h, h⟩
theorem bin_in (hu : X.A.units + 65 < cLine) : BinOk X C E (compareOp .In) pIn := OpR.imp (op_inA hu) fun x y H Q ⟨g, t, p, q, w, rx, ry, h⟩ => by
  cases q with
  | tup ds =>
    have h : PostQ X.K C E g H Q ((if okD p 60 = true ∧ okA ds 60 = true then ret (.bl (inD p ds)) else stuck) t) := h
    split at h
    · rename_i hc
      exact ⟨p.py, pyA ds, rx.dp w hc.1, .inr (by have := ry.dp w (okA_up hc.2).1; rw [D.py] at this; exact this), shaped_of hc.1 (by decide), (okA_lay ds 60 hc.2).1, by rw [any_py]; exact pRetV h w (.bl _)⟩
    · exact h.elim
  | lst ds =>
    have h : PostQ X.K C E g H Q ((if okD p 60 = true ∧ okA ds 60 = true then ret (.bl (inD p ds)) else stuck) t) := h
    split at h
    · rename_i hc
      exact ⟨p.py, pyA ds, rx.dp w hc.1, .inl (by have := ry.dp w (okA_up hc.2).2; rw [D.py] at this; exact this), shaped_of hc.1 (by decide), (okA_lay ds 60 hc.2).1, by rw [any_py]; exact pRetV h w (.bl _)⟩
    · exact h.elim
  | _ => cases p <;> exact h.elim
end
end BG
set_option Elab.async false
set_option linter.all false
set_option maxRecDepth 100000
set_option maxHeartbeats 4000000
namespace BG
open PySem PySem.Spec PyProof.Rows L2
def pIdx : D → D → M D
  | .tup ds, .int i => match atI ds i with
    | some d => ret d
    | none => stuck
  | .lst ds, .int i => match atI ds i with
    | some d => ret d
    | none => stuck
  | .scr ns, .int i => match atI ns i with
    | some n => ret (.int n)
    | none => stuck
  | _, _ => stuck
theorem RpW.scr {K : PySem.W.Frag} {C : Cn} {g : G} {H : Hp} {t : Tn} {v : V} {ns : List Int} (w : Wf C g H t) (h : RpW K g H v (.scr ns)) : ∃ p, v = .ref p ∧ SqL K H p (ns.map V.int) := by
  rcases h with h | ⟨p, vs, ds', e1, e2, e3, e4⟩
  · cases h with
    | scr a => exact ⟨_, rfl, Same.seq w.fz a⟩
  · cases e1
theorem RpA.atI {K : PySem.W.Frag} {g : G} {vs : List V} {ds : List D} {i : Int} {d : D} (r : RpA K g vs ds) (h : atI ds i = some d) : ∃ v, L2.atI vs i = some v ∧ Rp K g v d := by
  unfold L2.atI at h ⊢
  rw [r.length]
  cases e : ixN ds.length i with
  | none => rw [e] at h; cases h
  | some j =>
    rw [e] at h
    exact r.get h
section
variable {X : Cx} {C : Cn} {E : XK}
theorem IxR.imp {r r' : R2} (h : IxR X r) (i : ∀ x y H Q, r' x y H Q → r x y H Q) : IxR X r' := fun value slice pins s σ H x y v u Q I rx ry q => h value slice pins s σ H x y v u Q I rx ry (i x y H Q q)
theorem ix_D : IxR X (rD X.K C E pIdx) := IxR.imp (ix_list.or ix_tup) fun x y H Q ⟨g, t, p, q, w, rx, ry, h⟩ => by
  cases p with
  | tup ds =>
    cases q with
    | int i =>
      have h : PostQ X.K C E g H Q ((match L2.atI ds i with | some d => ret d | none => stuck) t) := h
      obtain ⟨a, vs, rfl, e1, r1⟩ := rx.tup w
      cases e : L2.atI ds i with
      | none => rw [e] at h; exact h.elim
      | some d =>
        rw [e] at h
        obtain ⟨v, e2, r2⟩ := r1.atI e
        exact .inr ⟨a, vs, i, v, rfl, ry.int, e1, e2, pRetV h w r2⟩
    | _ => exact h.elim
  | lst ds =>
    cases q with
    | int i =>
      have h : PostQ X.K C E g H Q ((match L2.atI ds i with | some d => ret d | none => stuck) t) := h
      obtain ⟨a, vs, rfl, e1, r1⟩ := rx.lst w
      cases e : L2.atI ds i with
      | none => rw [e] at h; exact h.elim
      | some d =>
        rw [e] at h
        obtain ⟨v, e2, r2⟩ := r1.atI e
        exact .inl ⟨a, vs, i, v, rfl, ry.int, .of e1, e2, pRetV h w r2⟩
    | _ => exact h.elim
  | scr ns =>
    cases q with
    | int i =>
      have h : PostQ X.K C E g H Q ((match L2.atI ns i with | some n => ret (D.int n) | none => stuck) t) := h
      obtain ⟨a, rfl, e1⟩ := rx.scr w
      cases e : L2.atI ns i with
      | none => rw [e] at h; exact h.elim
      | some n =>
        rw [e] at h
        refine .inl ⟨a, _, i, .int n, rfl, ry.int, e1, ?_, pRetV h w (Rp.int n)⟩
        unfold L2.atI at e ⊢
        rw [List.length_map]
        cases z : ixN ns.length i with
        | none => rw [z] at e; cases e
        | some j =>
          rw [z] at e
          have e : ns[j]? = some n := e
          show (ns.map V.int)[j]? = some (.int n)
          rw [List.getElem?_map, e]; rfl
    | _ => exact h.elim
  | _ => cases q <;> exact h.elim
theorem ce_ix {a b : Expr} {fa fb : Ex} {pos : Pos} (ha : CW X C E a fa) (hb : CW X C E b fb) (hs : PlainIx b := by exact fun _ _ => rfl) : CE X C E (.Subscript a b pos) (eBin pIdx fa fb) := PE.imp (pe_ix ix_D ha hb hs) fun σ H Q h => tW.two h
def oEx (o : Option Ex) (S : Sl) : M (Option Int) := match o with
  | none => ret none
  | some f => bnd (f S) fun d => match d with
    | .int i => ret (some i)
    | _ => stuck
def cutD (ds : List D) (lo hi : Option Int) : List D := (ds.drop (HT.sIx ds.length 0 lo)).take (HT.sIx ds.length ds.length hi - HT.sIx ds.length 0 lo)
def pSlice (x : D) (lo hi : Option Int) : M D := match x with
  | .tup ds => ret (.tup (cutD ds lo hi))
  | .lst ds => ret (.lst (cutD ds lo hi))
  | _ => stuck
def eSlice (a : Ex) (lo hi : Option Ex) : Ex := fun S => bnd (a S) fun x => bnd (oEx lo S) fun l => bnd (oEx hi S) fun h => pSlice x l h
def tOp1 (K : PySem.W.Frag) (C : Cn) (E : XK) (o : Option Ex) : TO := fun σ H Q => ∃ g S t, Wf C g H t ∧ SL K g H σ S ∧ Post C E g H (fun d _ g' H' => Q d H') (oEx o S t)
theorem PO.imp {e : Option Expr} {t t' : TO} (h : PO X e t) (f : ∀ σ H Q, t' σ H Q → t σ H Q) : PO X e t' := ⟨fun pins s σ H Q I q => h.run pins s σ H Q I (f σ H Q q)⟩
theorem co_none : PO X none (tOp1 X.K C E none) := PO.imp po_none fun σ H Q ⟨g, S, t, w, s, p⟩ => postRet p w
theorem co_some {e : Expr} {f : Ex} (h : CE X C E e f) : PO X (some e) (tOp1 X.K C E (some f)) := PO.imp (po_some h) fun σ H Q ⟨g, S, t, w, s, p⟩ => ⟨g, S, t, w, s, p.bnd.imp fun d t1 g1 H1 st1 w1 q v r => by
  cases d with
  | int i => cases r; exact ⟨i, rfl, postRet q w1⟩
  | _ => exact q.elim⟩
theorem RpA.cut {K : PySem.W.Frag} {g : G} {vs : List V} {ds : List D} (r : RpA K g vs ds) (lo hi : Option Int) : RpA K g (cutV vs lo hi) (cutD ds lo hi) := by
  unfold cutV cutD
  rw [r.length]
  exact (r.drop _).take _
theorem ce_slice {a : Expr} {lo hi : Option Expr} {fa : Ex} {fl fh : Option Ex} {p2 pos : Pos} (ha : CW X C E a fa) (hl : PO X lo (tOp1 X.K C E fl)) (hh : PO X hi (tOp1 X.K C E fh)) : CE X C E (.Subscript a (.Slice lo hi none p2) pos) (eSlice fa fl fh) := by
  refine PE.imp (pe_slice (sl_tupN.or sl_list) ha hl hh) fun σ H Q h => ?_
  refine tW.seq h fun g S t x d H1 w s rx p1 => ?_
  refine ⟨g, S, t, w, s, p1.bnd.imp fun l t2 g2 H2 st2 w2 q2 => ?_⟩
  refine ⟨g2, S, t2, w2, s.stp w st2, q2.bnd.imp fun hh t3 g3 H3 st3 w3 q3 => ?_⟩
  have rx3 := (rx.stp w st2).stp w2 st3
  cases d with
  | tup ds =>
    obtain ⟨b, vs, rfl, e1, r1⟩ := rx3.tup w3
    refine .inl ⟨b, vs, rfl, e1, fun hw => ?_, fun _ => pRetT q3 w3 (r1.cut l hh)⟩
    have e : cutD ds l hh = ds := by
      unfold cutD
      rw [r1.length] at hw
      rw [hw.1, hw.2, List.drop_zero, Nat.sub_zero, List.take_length]
    have q3 : PostQ X.K C E g3 H3 Q (ret (.tup (cutD ds l hh)) t3) := q3
    rw [e] at q3
    rcases rx3 with rx3 | ⟨_, _, _, z, _⟩
    · exact pRetV q3 w3 rx3
    · cases z
  | lst ds =>
    obtain ⟨b, vs, rfl, e1, r1⟩ := rx3.lst w3
    exact .inr ⟨b, vs, rfl, .of e1, fun p hp => pRetL q3 w3 (r1.cut l hh) p hp⟩
  | _ => exact q3.elim
end
def c1D (K : PySem.W.Frag) (C : Cn) (E : XK) (prim : D → M D) : List V → Hp → VK → Prop := fun xs H Q => ∃ x g t d, xs = [x] ∧ Wf C g H t ∧ RpW K g H x d ∧ PostQ K C E g H Q (prim d t)
section
variable {X : Cx} {C : Cn} {E : XK}
theorem CallR.imp {f : Value} {r r' : List V → Hp → VK → Prop} (h : CallR X f r) (i : ∀ xs H Q, r' xs H Q → r xs H Q) : CallR X f r' := fun pins s σ H xs us Q I rs q => h pins s σ H xs us Q I rs (i xs H Q q)
theorem tW.call1 {prim : D → M D} {f : Ex} {σ : L2.St} {H : Hp} {Q : VK} (h : tE X.K C E (eUn prim f) σ H Q) : tCB (c1D X.K C E prim) (tCons (tW X.K C E f) tNil) σ H Q :=
  tW.seq h fun g S t x d H1 w s rx p1 => ⟨x, g, t, d, rfl, w, rx, p1⟩
theorem ce_callB1 {prim : D → M D} {id : String} {x : Str} {e : Expr} {f : Ex} {p pos : Pos} (hc : CallR X (.builtin id) (c1D X.K C E prim)) (hm : X.mg x = none) (hv : bootBuiltins x = some (.builtin id)) (ha : CW X C E e f) (hg : Gl X x := by rfl)
    (hn : x ≠ "__name__" := by decide) (hdb : (x == ("__debug__" : Str)) = false := by decide) (hs : starEach [e] X.env = (false, eval e X.env) :: starEach [] X.env := by rfl) (hp : (backTo pos (starEach [] X.env)).any (·.1) = false := by rfl) :
    CE X C E (.Call (.Name x p) [e] [] pos) (eUn prim f) := PE.imp (pe_callB hc hg hm hv (pa_cons ha pa_nil hs) hn hdb hs hp) fun σ H Q h => tW.call1 h
theorem ce_callTy1 {prim : D → M D} {T : String} {x : Str} {e : Expr} {f : Ex} {p pos : Pos} (hc : CallR X (.type T) (c1D X.K C E prim)) (hm : X.mg x = none) (hv : bootBuiltins x = some (.type T)) (ha : CW X C E e f) (hg : Gl X x := by rfl)
    (hn : x ≠ "__name__" := by decide) (hdb : (x == ("__debug__" : Str)) = false := by decide) (hs : starEach [e] X.env = (false, eval e X.env) :: starEach [] X.env := by rfl) (hp : (backTo pos (starEach [] X.env)).any (·.1) = false := by rfl) :
    CE X C E (.Call (.Name x p) [e] [] pos) (eUn prim f) := PE.imp (pe_callTy hc hg hm hv (pa_cons ha pa_nil hs) hn hdb hs hp) fun σ H Q h => tW.call1 h
def bLen : D → M D
  | .tup ds => ret (.int ds.length)
  | .lst ds => ret (.int ds.length)
  | .str z => if z.length ≤ sizeLine then ret (.int z.length) else stuck
  | .scr ns => ret (.int ns.length)
  | _ => stuck
def bools : List D → Option (List Bool)
  | [] => some []
  | .bl b :: ds => (bools ds).map (b :: ·)
  | _ => none
def intsD : List D → Option (List Int)
  | [] => some []
  | .int b :: ds => (intsD ds).map (b :: ·)
  | _ => none
def bAll : D → M D
  | .lst ds => match bools ds with
    | some bs => ret (.bl (bs.all id))
    | none => stuck
  | _ => stuck
def bTuple : D → M D
  | .lst ds => ret (.tup ds)
  | .tup ds => ret (.tup ds)
  | _ => stuck
def bList : D → M D
  | .lst ds => ret (.lst ds)
  | .tup ds => ret (.lst ds)
  | _ => stuck
theorem RpA.bools {K : PySem.W.Frag} {g : G} : ∀ {ds : List D} {vs : List V} {bs : List Bool}, RpA K g vs ds → bools ds = some bs → vs = bs.map V.bl
  | [], _, bs, h, e => by cases h; cases e; rfl
  | .bl b :: ds, _, bs, h, e => by
    cases h with
    | cons a r =>
      cases a
      have e : (BG.bools ds).map (b :: ·) = some bs := e
      cases z : BG.bools ds with
      | none => rw [z] at e; cases e
      | some cs =>
        rw [z] at e
        cases e
        rw [RpA.bools r z]; rfl
  | .non :: _, _, _, _, e => by cases e
  | .int _ :: _, _, _, _, e => by cases e
  | .str _ :: _, _, _, _, e => by cases e
  | .tup _ :: _, _, _, _, e => by cases e
  | .lst _ :: _, _, _, _, e => by cases e
  | .town :: _, _, _, _, e => by cases e
  | .scr _ :: _, _, _, _, e => by cases e
  | .dct _ _ :: _, _, _, _, e => by cases e
  | .dTT _ _ :: _, _, _, _, e => by cases e
  | .hnd _ :: _, _, _, _, e => by cases e
theorem RpA.intsD {K : PySem.W.Frag} {g : G} : ∀ {ds : List D} {vs : List V} {bs : List Int}, RpA K g vs ds → intsD ds = some bs → vs = bs.map V.int
  | [], _, bs, h, e => by cases h; cases e; rfl
  | .int b :: ds, _, bs, h, e => by
    cases h with
    | cons a r =>
      cases a
      have e : (BG.intsD ds).map (b :: ·) = some bs := e
      cases z : BG.intsD ds with
      | none => rw [z] at e; cases e
      | some cs =>
        rw [z] at e
        cases e
        rw [RpA.intsD r z]; rfl
  | .non :: _, _, _, _, e => by cases e
  | .bl _ :: _, _, _, _, e => by cases e
  | .str _ :: _, _, _, _, e => by cases e
  | .tup _ :: _, _, _, _, e => by cases e
  | .lst _ :: _, _, _, _, e => by cases e
  | .town :: _, _, _, _, e => by cases e
  | .scr _ :: _, _, _, _, e => by cases e
  | .dct _ _ :: _, _, _, _, e => by cases e
  | .dTT _ _ :: _, _, _, _, e => by cases e
  | .hnd _ :: _, _, _, _, e => by cases e
theorem cr_len : CallR X (.builtin "len") (c1D X.K C E bLen) := CallR.imp (call_len_seq.or call_len_str) fun xs H Q ⟨x, g, t, d, ex, w, a, h⟩ => by
  subst ex
  cases d with
  | tup ds =>
    obtain ⟨p, vs, rfl, e1, r1⟩ := a.tup w
    exact .inl ⟨p, vs, rfl, .inr e1, by rw [r1.length]; exact pRetV h w (.int _)⟩
  | lst ds =>
    obtain ⟨p, vs, rfl, e1, r1⟩ := a.lst w
    exact .inl ⟨p, vs, rfl, .inl (.of e1), by rw [r1.length]; exact pRetV h w (.int _)⟩
  | str z =>
    have h : PostQ X.K C E g H Q ((if z.length ≤ sizeLine then ret (.int z.length) else stuck) t) := h
    split at h
    · exact .inr ⟨z, by rw [a.str], by assumption, pRetV h w (.int _)⟩
    · exact h.elim
  | scr ns =>
    obtain ⟨p, rfl, e1⟩ := a.scr w
    exact .inl ⟨p, _, rfl, .inl e1, by rw [List.length_map]; exact pRetV h w (.int _)⟩
  | _ => exact h.elim
theorem cr_allD (hc : X.calm = true) : CallR X (.builtin "all") (c1D X.K C E bAll) := CallR.imp (cr_all hc) fun xs H Q ⟨x, g, t, d, ex, w, a, h⟩ => by
  subst ex
  cases d with
  | lst ds =>
    obtain ⟨p, vs, rfl, e1, r1⟩ := a.lst w
    have h : PostQ X.K C E g H Q ((match bools ds with | some bs => ret (D.bl (bs.all id)) | none => stuck) t) := h
    cases z : bools ds with
    | none => rw [z] at h; exact h.elim
    | some bs =>
      rw [z] at h
      exact ⟨p, bs, rfl, .of (by rw [e1, r1.bools z]), pRetV h w (Rp.bl _)⟩
  | _ => exact h.elim
theorem cr_tuple : CallR X (.type "tuple") (c1D X.K C E bTuple) := CallR.imp call_tupN fun xs H Q ⟨x, g, t, d, ex, w, a, h⟩ => by
  subst ex
  cases d with
  | lst ds =>
    obtain ⟨p, vs, rfl, e1, r1⟩ := a.lst w
    exact ⟨p, vs, rfl, .inl ⟨.of e1, pRetT h w r1⟩⟩
  | tup ds =>
    obtain ⟨p, vs, rfl, e1, r1⟩ := a.tup w
    rcases a with a | ⟨_, _, _, z, _⟩
    · exact ⟨p, vs, rfl, .inr ⟨e1, pRetV h w a⟩⟩
    · cases z
  | _ => exact h.elim
theorem Stp.back {g g1 : G} {H H1 : Hp} (s : Stp g H g1 H1) {l : Addr} (h : H1 l = none) : ¬ Nt H l := fun z => Nt.no h (s.thr l z)
theorem Stp.backN {g g1 : G} {H H1 : Hp} (s : Stp g H g1 H1) {l : Addr} (h : ¬ Nt H1 l) : ¬ Nt H l := fun z => h (s.thr l z)
/-- list(x) to be changed -/
theorem cf_list {x : Str} {e : Expr} {f : Ex} {p pos : Pos} (hm : X.mg x = none) (hv : bootBuiltins x = some (.type "list")) (ha : CW X C E e f) (hg : Gl X x := by rfl)
    (hn : x ≠ "__name__" := by decide) (hdb : (x == ("__debug__" : Str)) = false := by decide) (hs : starEach [e] X.env = (false, eval e X.env) :: starEach [] X.env := by rfl) (hp : (backTo pos (starEach [] X.env)).any (·.1) = false := by rfl) :
    CF X C E (.Call (.Name x p) [e] [] pos) (eUn bList f) := by
  refine PE.imp (pe_callTy call_list_of hg hm hv (pa_cons ha pa_nil hs) hn hdb hs hp) fun σ H Q ⟨g, S, t, w, s, p⟩ => ?_
  refine ⟨g, S, t, w, s, p.bnd.imp fun d t1 g1 H1 st1 w1 q v r => ?_⟩
  have key : ∀ {es us}, d = .lst es ∨ d = .tup es → RpA X.K g1 us es → ∀ l, H1 l = none → Q (.ref l) (upd H1 l (.lst us)) := fun {es us} hds ra l hl => by
    have q : Post C E g1 H1 (fun d _ g' H' => ∀ v, RpF X.K H g' H' v d → Q v H') (ret (.lst es) t1) := by
      rcases hds with rfl | rfl <;> exact q
    exact q g1 _ (Stp.lay w1 hl) (Wf.lay w1 hl) _ ⟨l, us, es, rfl, rfl, st1.back hl, upd_same, ra, w1.fzN hl, w1.ntN hl⟩
  cases d with
  | lst ds =>
    obtain ⟨p, vs, rfl, e1, r1⟩ := r.lst w1
    exact ⟨p, vs, rfl, .inl (.of e1), key (.inl rfl) r1⟩
  | tup ds =>
    obtain ⟨p, vs, rfl, e1, r1⟩ := r.tup w1
    exact ⟨p, vs, rfl, .inr e1, key (.inr rfl) r1⟩
  | _ => exact q.elim
end
inductive Ty where
  | tuple | int | bool | str
def Ty.name : Ty → String
  | .tuple => "tuple" | .int => "int" | .bool => "bool" | .str => "str"
def isTy : Ty → D → Option Bool
  | _, .town => none
  | _, .scr _ => none
  | _, .dct _ _ => none
  | _, .dTT _ _ => none
  | _, .hnd _ => none
  | .tuple, .tup _ => some true
  | .int, .int _ => some true
  | .int, .bl _ => some true
  | .bool, .bl _ => some true
  | .str, .str _ => some true
  | _, _ => some false
def pIsi (T : Ty) (d : D) : M D := match isTy T d with
  | some b => ret (.bl b)
  | none => stuck
def tyN : D → Option String
  | .non => some "NoneType" | .bl _ => some "bool" | .int _ => some "int" | .str _ => some "str" | .tup _ => some "tuple" | .lst _ => some "list" | _ => none
theorem tyX_of {K : PySem.W.Frag} {C : Cn} {g : G} {H : Hp} {t : Tn} (w : Wf C g H t) {v : V} {d : D} {n : String} (r : RpW K g H v d) (h : tyN d = some n) : TyX K H v (.type n) := by
  cases d with
  | non => cases h; rw [r.non]; exact .base .non
  | bl b => cases h; rw [r.bl]; exact .base (.bl b)
  | int i => cases h; rw [r.int]; exact .base (.int i)
  | str x => cases h; rw [r.str]; exact .base (.str x)
  | tup ds =>
    cases h
    obtain ⟨p, vs, rfl, e1, r1⟩ := r.tup w
    rcases e1 with (e1 | ⟨o, e1⟩) | ⟨o, its, n, e1, c, _⟩
    · exact .base (.tup e1)
    · exact .fTuple e1
    · exact .kTuple e1 c
  | lst ds =>
    cases h
    obtain ⟨p, vs, rfl, e1, r1⟩ := r.lst w
    exact .base (.lst e1)
  | town => cases h
  | scr _ => cases h
  | dct _ _ => cases h
  | dTT _ _ => cases h
  | hnd _ => cases h
theorem kit_isi {K : PySem.W.Frag} {T : Ty} {d : D} {b : Bool} (h : isTy T d = some b) : ∃ n, tyN d = some n ∧ PySem.W.kitOne K (.type n) (.type T.name) = some b := by
  cases T <;> cases d <;> first | cases h; done | (cases h; exact ⟨_, rfl, kit_ty (by decide +kernel)⟩)
section
variable {X : Cx} {C : Cn} {E : XK}
theorem ce_isi (T : Ty) {a : Expr} {fa : Ex} {x : Str} {p q pos : Pos} (hm : X.mg "isinstance" = none) (hmT : X.mg x = none) (hv : bootBuiltins x = some (.type T.name)) (ha : CW X C E a fa) (hg : Gl X "isinstance" := by rfl) (hgT : Gl X x := by rfl)
    (hvi : bootBuiltins "isinstance" = some (.builtin "isinstance") := by decide +kernel) (hn : x ≠ "__name__" := by decide) (hdb : (x == ("__debug__" : Str)) = false := by decide)
    (hs : starEach [a, .Name x q] X.env = (false, eval a X.env) :: starEach [.Name x q] X.env := by rfl) (hs2 : starEach [.Name x q] X.env = (false, eval (.Name x q) X.env) :: starEach [] X.env := by rfl) (hp : (backTo pos (starEach [.Name x q] X.env)).any (·.1) = false := by rfl) :
    CE X C E (.Call (.Name "isinstance" p) [a, .Name x q] [] pos) (eUn (pIsi T) fa) := by
  refine PE.imp (pe_callB call_isi hg hm hvi (pa_cons ha (pa_cons (pe_bltn (v := .ty T.name) hgT hmT hv rfl hn hdb) pa_nil hs2) hs) (by decide) (by decide) hs hp) fun σ H Q h => ?_
  refine tW.seq h fun g S t x d H1 w s rx p1 => ?_
  have p1 : PostQ X.K C E g H1 Q ((match isTy T d with | some b => ret (D.bl b) | none => stuck) t) := p1
  cases e : isTy T d with
  | none => rw [e] at p1; exact p1.elim
  | some b =>
    rw [e] at p1
    obtain ⟨n, e1, e2⟩ := kit_isi (K := X.K) e
    exact ⟨x, .ty T.name, .type n, .type T.name, b, rfl, .ty _, tyX_of w rx e1, e2, pRetV p1 w (Rp.bl b)⟩
/-- -n, a written number -/
def pNeg : D → M D
  | .int i => ret (.int (-i))
  | _ => stuck
theorem ce_neg {a : Expr} {fa : Ex} {pos : Pos} (ha : CE X C E a fa) : CE X C E (.UnaryOp .USub a pos) (eUn pNeg fa) := PE.imp (pe_un un_neg ha) fun σ H Q h => by
  refine tE.seq h fun g S t x d H1 w s rx p1 => ?_
  cases d with
  | int i => cases rx; exact ⟨i, rfl, pRetV p1 w (.int _)⟩
  | _ => exact p1.elim
/-- a < b < c -/
def eChain (o1 o2 : D → D → M D) (a b c : Ex) : Ex := fun S => bnd (a S) fun x => bnd (b S) fun y => bnd (o1 x y) fun z => match z with
  | .bl true => bnd (c S) fun u => o2 y u
  | .bl false => ret (.bl false)
  | _ => stuck
theorem ce_chain {op op' : CmpOp} {o1 o2 : D → D → M D} {a b c : Expr} {fa fb fc : Ex} {pos : Pos} (ho : BinOk X C E (compareOp op) o1) (ho' : BinOk X C E (compareOp op') o2) (ha : CW X C E a fa) (hb : CW X C E b fb) (hc : CW X C E c fc)
    (hm : lastMarks [op, op'] [b, c] = false := by rfl) : CE X C E (.Compare a [op, op'] [b, c] pos) (eChain o1 o2 fa fb fc) := by
  refine PE.imp (pe_chain ho ho' ha hb hc hm) fun σ H Q h => ?_
  refine tW.seq h fun g S t x d H1 w s rx p1 => ?_
  refine ⟨g, S, t, w, s, p1.bnd.imp fun d2 t2 g2 H2 st2 w2 q2 v r2 => ?_⟩
  have rx2 := rx.stp w st2
  have s2 := s.stp w st2
  refine ⟨g2, t2, d, d2, w2, rx2, r2, q2.bnd.imp fun z t3 g3 H3 st3 w3 q3 u ru => ?_⟩
  have r3 := r2.stp w2 st3
  have s3 := s2.stp w2 st3
  cases z with
  | bl k =>
    cases ru
    refine ⟨k, rfl, ?_⟩
    cases k with
    | true => exact iteT ⟨g3, S, t3, w3, s3, q3.bnd.imp fun d4 t4 g4 H4 st4 w4 q4 v4 r4 => ⟨g4, t4, d2, d4, w4, r3.stp w3 st4, r4, q4⟩⟩
    | false => exact iteF (pRetV q3 w3 (.bl false))
  | _ => exact q3.elim
end
abbrev Fn := List D → M D
/-- the promise of a def that is read as F -/
def spF (K : PySem.W.Frag) (C : Cn) (n : Nat) (F : Fn) : Sp := fun vs H Q E => ∃ g ds t, RpA K g vs ds ∧ Wf C g H t ∧ vs.length = n ∧ PostQ K C E g H Q (F ds t)
def eCall (F : Fn) (fs : List Ex) : Ex := fun S => bnd (evs fs S) fun ds => F ds
/-- a def as it stands in the module -/
structure Fd (P : Program) (w : World) (K : PySem.W.Frag) (mg : Str → Option Value) (base : Heap) (C : Cn) (k : Nat) (x : Str) (n : Nat) (F : Fn) : Prop where
  ex : ∃ f fd ps, FnOk P w K mg base (L2.CX P w) k f fd ps (spF K C n F) ∧ mg x = some (.ref f) ∧ PySem.W.keepIn K (.ref f) = true ∧ Binds K fd ps []
section
variable {X : Cx} {C : Cn} {E : XK}
theorem ce_call {k j : Nat} {x : Str} {F : Fn} {e : Expr} {es : List Expr} {fs : List Ex} {p pos : Pos} (hf : Fd X.prog X.w X.K X.mg X.base C k x fs.length F) (hr : Room j X.A) (hk : k ≤ j) (hx : Passes (L2.CX X.prog X.w) X E) (ha : CA X C E (e :: es) (evs fs)) (hg : Gl X x := by rfl)
    (hn : (x == ("__debug__" : Str)) = false := by decide) (hs : starEach (e :: es) X.env = (false, eval e X.env) :: starEach es X.env := by rfl) (hp : (backTo pos (starEach es X.env)).any (·.1) = false := by rfl) : CE X C E (.Call (.Name x p) (e :: es) [] pos) (eCall F fs) := by
  obtain ⟨f, fd, ps, F', hm, hkp, hb⟩ := hf.ex
  refine PE.imp (pe_call F' (hr.mono hk) hg hm hkp hb .nil hx ha hn hs hp) fun σ H Q ⟨g, S, t, w, s, p⟩ => ?_
  exact ⟨g, S, t, w, s, (Post.evs p.bnd).imp fun ds t1 g1 H1 st1 w1 ⟨el, q⟩ vs rs => ⟨g1, ds, t1, by rw [List.append_nil]; exact rs, w1, by rw [List.append_nil, rs.length, el], q⟩⟩
theorem ce_call0 {k j : Nat} {x : Str} {F : Fn} {p pos : Pos} (hf : Fd X.prog X.w X.K X.mg X.base C k x 0 F) (hr : Room j X.A) (hk : k ≤ j) (hx : Passes (L2.CX X.prog X.w) X E) (hg : Gl X x := by rfl) (hn : (x == ("__debug__" : Str)) = false := by decide) : CE X C E (.Call (.Name x p) [] [] pos) (eCall F []) := by
  obtain ⟨f, fd, ps, F', hm, hkp, hb⟩ := hf.ex
  refine PE.imp (pe_call0 F' (hr.mono hk) hg hm hkp hb .nil hx hn) fun σ H Q ⟨g, S, t, w, s, p⟩ => ?_
  exact ⟨g, [], t, .nil, w, rfl, p⟩
end
end BG
set_option Elab.async false
set_option linter.all false
set_option maxRecDepth 100000
set_option maxHeartbeats 4000000
namespace BG
open PySem PySem.Spec PyProof.Rows L2
theorem bnd_assoc {α β γ : Type} (m : M α) (f : α → M β) (k : β → M γ) : bnd (bnd m f) k = bnd m fun a => bnd (f a) k := by
  funext t
  unfold bnd
  cases m t with
  | none => rfl
  | some o => cases o <;> rfl
/-- as Post.bnd, the start kept -/
theorem Post.bnd0 {α β : Type} {C : Cn} {E : XK} {g : G} {H : Hp} {Rok : β → Tn → G → Hp → Prop} {m : M α} {k : α → M β} {t : Tn} (h : Post C E g H Rok (BG.bnd m k t)) : Post C E g H (fun a t1 _ _ => Post C E g H Rok (k a t1)) (m t) := by
  unfold BG.bnd at h
  cases e : m t with
  | none => rw [e] at h; exact h
  | some o =>
    rw [e] at h
    cases o with
    | ok a t' => exact fun g' H' s' w => h
    | exc c t' => exact h
theorem SL.set {K : PySem.W.Frag} {g : G} {H : Hp} {σ : L2.St} {S : Sl} {i : Nat} {v : V} {d : D} (s : SL K g H σ S) (r : Rp K g v d) : SL K g H (σ.set i (some v)) (S.set i (.val d)) := s.put ⟨v, rfl, r⟩ (fun h => nomatch h)
def wipeS (S : Sl) : List Nat → Sl
  | [] => S
  | v :: vs => (wipeS S vs).set v .un
theorem SL.un {K : PySem.W.Frag} {g : G} {H : Hp} {σ : L2.St} {S : Sl} {i : Nat} (s : SL K g H σ S) (o : Option V) : SL K g H (σ.set i o) (S.set i .un) := s.put trivial (fun h => nomatch h)
theorem SL.wipe {K : PySem.W.Frag} {g : G} {H : Hp} {σ : L2.St} {S : Sl} (s : SL K g H σ S) : ∀ vs : List Nat, SL K g H (wipe σ vs) (wipeS S vs)
  | [] => s
  | v :: vs => (SL.wipe s vs).un none
theorem wipe_in {σ : L2.St} {j : Nat} : ∀ {vs : List Nat}, j ∈ vs → j < σ.length → (wipe σ vs)[j]? = some none
  | [], h, _ => by cases h
  | v :: vs, h, hl => by
    unfold wipe
    by_cases e : v = j
    · subst e
      rw [List.getElem?_set_self (by rw [wipe_length]; exact hl)]
    · rw [List.getElem?_set_ne e]
      exact wipe_in ((List.mem_cons.mp h).resolve_left fun z => e z.symm) hl
/-- what differs at wiped places alone is wiped to the same -/
theorem wipe_eq {σ σ2 : L2.St} {vs : List Nat} (hl : σ2.length = σ.length) (h : ∀ j : Nat, j ∉ vs → σ2[j]? = (L2.wipe σ vs)[j]?) : L2.wipe σ2 vs = L2.wipe σ vs := by
  apply List.ext_getElem?
  intro j
  by_cases hj : j ∈ vs
  · by_cases hlt : j < σ.length
    · rw [wipe_in hj hlt, wipe_in hj (by omega)]
    · rw [List.getElem?_eq_none (by rw [wipe_length]; omega), List.getElem?_eq_none (by rw [wipe_length]; omega)]
  · rw [wipe_out hj, h j hj]
theorem set_ow {S : Sl} {i m : Nat} {d : D} {x : SV} (e : (S.set i (.val d))[m]? = some x) (h : isOw x = true) : i ≠ m := fun z => by
  subst z
  by_cases hl : i < S.length
  · rw [List.getElem?_set_self hl] at e; cases e; cases h
  · rw [List.getElem?_eq_none (by rw [List.length_set]; omega)] at e; cases e
abbrev Tg := D → Sl → Option Sl
def gN (i : Nat) : Tg := fun d S => some (S.set i (.val d))
def gP (i j : Nat) : Tg := fun d S => match d with
  | .tup [a, b] => some ((S.set i (.val a)).set j (.val b))
  | _ => none
def tG (K : PySem.W.Frag) (C : Cn) (is : List Nat) (f : Tg) : TG := fun v σ H Q => ∃ g S t d S', Wf C g H t ∧ SL K g H σ S ∧ Rp K g v d ∧ f d S = some S' ∧ ∀ σ', SL K g H σ' S' → σ'.length = σ.length → (∀ j : Nat, j ∉ is → σ'[j]? = σ[j]?) → (∀ (j : Nat) x, S'[j]? = some x → isOw x = true → S[j]? = some x ∧ σ'[j]? = σ[j]?) → Q σ' H
abbrev CG (X : Cx) (C : Cn) (is : List Nat) (tg : Expr) (f : Tg) : Prop := PG X tg (tG X.K C is f)
theorem PG.imp {X : Cx} {e : Expr} {t t' : TG} (h : PG X e t) (f : ∀ v σ H Q, t' v σ H Q → t v σ H Q) : PG X e t' := ⟨fun pins s σ H v u Q I r q => h.run pins s σ H v u Q I r (f v σ H Q q)⟩
section
variable {X : Cx} {C : Cn} {E : XK}
theorem cg_name (i : Nat) {x : Str} {pos : Pos} (hN : X.N.Nodup) (hi : X.N[i]? = some x := by rfl) (hx : Loc X.env.scope x := by first | exact .inl rfl | exact .inr rfl) (hf : X.fn x = true ∨ X.env.scope.names.lookup x = some .local := by first | exact .inl rfl | exact .inr rfl | assumption) : CG X C [i] (.Name x pos) (gN i) :=
  PG.imp (pg_name hN hi hx hf) fun v σ H Q ⟨g, S, t, d, S', w, s, r, e, q⟩ => by
    cases e
    refine q _ (s.set r) (by rw [List.length_set]) (fun j hj => ?_) fun j ds e ho => ?_
    · rw [List.getElem?_set_ne fun z => hj (by rw [z]; exact List.mem_singleton.mpr rfl)]
    · have n := set_ow e ho
      rw [List.getElem?_set_ne n] at e
      exact ⟨e, by rw [List.getElem?_set_ne n]⟩
theorem cg_pair (i j : Nat) {x y : Str} {p1 p2 pos : Pos} {k : Nat} (hN : X.N.Nodup) (hc : X.calm = true := by rfl) (hi : X.N[i]? = some x := by rfl) (hj : X.N[j]? = some y := by rfl) (hx : Loc X.env.scope x := by first | exact .inl rfl | exact .inr rfl) (hy : Loc X.env.scope y := by first | exact .inl rfl | exact .inr rfl)
    (hf : X.fn x = true ∨ X.env.scope.names.lookup x = some .local := by first | exact .inl rfl | exact .inr rfl | assumption) (hf2 : X.fn y = true ∨ X.env.scope.names.lookup y = some .local := by first | exact .inl rfl | exact .inr rfl | assumption) :
    CG X C [i, j] (.Tuple [.Name x p1, .Name y p2] k pos) (gP i j) :=
  PG.imp (pg_tup hc (pgs_cons (pg_name (i := i) hN hi hx hf) (pgs_cons (pg_name (i := j) hN hj hy hf2) pgs_nil rfl) rfl) rfl rfl) fun v σ H Q ⟨g, S, t, d, S', w, s, r, e, q⟩ => by
    cases d with
    | tup ds =>
      match ds, e with
      | [a, b], e =>
        cases e
        cases r with
        | tup sq ra =>
          cases ra with
          | cons r1 ra =>
            cases ra with
            | cons r2 ra =>
              cases ra
              refine ⟨_, _, rfl, Same.tseq w.fz sq.t, rfl, _, _, rfl, _, _, rfl, rfl, q _ ((s.set r1).set r2) (by rw [List.length_set, List.length_set]) (fun m hm => ?_) fun m ds e ho => ?_⟩
              · rw [List.getElem?_set_ne fun z => hm (by rw [z]; simp), List.getElem?_set_ne fun z => hm (by rw [z]; simp)]
              · have n := set_ow e ho
                rw [List.getElem?_set_ne n] at e
                have n2 := set_ow e ho
                rw [List.getElem?_set_ne n2] at e
                exact ⟨e, by rw [List.getElem?_set_ne n, List.getElem?_set_ne n2]⟩
    | _ => cases e
end
def Yl (K : PySem.W.Frag) (g : G) (H : Hp) (x : V) (H' : Hp) (d : D) : Prop := (H' = H ∧ Rp K g x d) ∨ ∃ T vs ds, x = .ref T ∧ H T = none ∧ (∃ ob, H' = upd H T (.frz ob (.tup vs)) ∧ ob.dict = none ∧ ob.cls = .type "tuple") ∧ d = .tup ds ∧ RpA K g vs ds
def WalkD (K : PySem.W.Frag) (B : Hp) (J : It) (ds : List D) (g : G) : Prop := ∀ i H, Same B H → (∀ d, ds[i]? = some d → J.go i H ∧ ∀ x H', J.yld i H x H' → Yl K g H x H' d) ∧ (ds.length ≤ i → J.stop i H)
def Kp (C : Cn) (g : G) (H : Hp) (B : Hp) : Prop := ∀ g2 H2 t2, Stp g H g2 H2 → Wf C g2 H2 t2 → Same B H2
/-- strict: what is walked is frozen -/
def tI (K : PySem.W.Frag) (C : Cn) (E : XK) (f : Sl → M (List D)) : TI := fun σ H R => ∃ g S t, Wf C g H t ∧ SL K g H σ S ∧ Post C E g H (fun ds _ g' H' => ∀ J, WalkD K g'.Fz J ds g' → R J H') (f S t)
def tIW (K : PySem.W.Frag) (C : Cn) (E : XK) (f : Sl → M (List D)) : TI := fun σ H R => ∃ g S t, Wf C g H t ∧ SL K g H σ S ∧ Post C E g H (fun ds _ g' H' => ∀ J B, Kp C g' H' B → WalkD K B J ds g' → R J H') (f S t)
abbrev CI (X : Cx) (C : Cn) (E : XK) (tg it : Expr) (f : Sl → M (List D)) : Prop := PI X tg it (tI X.K C E f)
abbrev CIW (X : Cx) (C : Cn) (E : XK) (tg it : Expr) (f : Sl → M (List D)) : Prop := PI X tg it (tIW X.K C E f)
theorem PI.imp {X : Cx} {tg e : Expr} {t t' : TI} (h : PI X tg e t) (f : ∀ σ H Q, t' σ H Q → t σ H Q) : PI X tg e t' := ⟨fun pins s σ H Q I q => h.run pins s σ H Q I (f σ H Q q)⟩
/-- the items of a list or tuple -/
def itSeq (f : Ex) : Sl → M (List D) := fun S => bnd (f S) fun d => match d with
  | .tup ds => ret ds
  | .lst ds => ret ds
  | _ => stuck
def itRange1 (f : Ex) : Sl → M (List D) := fun S => bnd (f S) fun d => match d with
  | .int j => if -(2 ^ 62) ≤ j ∧ j < 2 ^ 62 then ret ((List.range j.toNat).map fun (i : Nat) => .int ((0 : Int) + (i : Int))) else stuck
  | _ => stuck
theorem walkL {K : PySem.W.Frag} {g : G} {B : Hp} {a : Addr} {vs : List V} {ds : List D} (h : B a = some (.lst vs)) (r : RpA K g vs ds) : WalkD K B (Itl K a) ds g := fun i H sm => by
  have sq : SqL K H a vs := .of (sm _ _ h)
  refine ⟨fun d e => ?_, fun hl => ⟨vs, sq, by rw [r.length]; exact hl⟩⟩
  obtain ⟨v, e1, r1⟩ := r.get e
  refine ⟨⟨vs, v, sq, e1⟩, fun x H' ⟨e2, e3⟩ => .inl ⟨e2, ?_⟩⟩
  have := e3 vs sq
  rw [e1] at this
  cases this
  exact r1
theorem walkT {K : PySem.W.Frag} {g : G} {B : Hp} {a : Addr} {vs : List V} {ds : List D} (h : SqT K B a vs) (r : RpA K g vs ds) : WalkD K B (Itt K a) ds g := fun i H sm => by
  have sq : SqT K H a vs := Same.tseq sm h
  refine ⟨fun d e => ?_, fun hl => ⟨vs, sq, by rw [r.length]; exact hl⟩⟩
  obtain ⟨v, e1, r1⟩ := r.get e
  refine ⟨⟨vs, v, sq, e1⟩, fun x H' ⟨e2, e3⟩ => .inl ⟨e2, ?_⟩⟩
  have := e3 vs sq
  rw [e1] at this
  cases this
  exact r1
theorem walkR {K : PySem.W.Frag} {g : G} {B : Hp} {a : Int} {n : Nat} : WalkD K B (Itr a n) ((List.range n).map fun (i : Nat) => D.int (a + (i : Int))) g := fun i H sm => by
  refine ⟨fun d e => ?_, fun hl => by rw [List.length_map, List.length_range] at hl; exact hl⟩
  rw [List.getElem?_map] at e
  cases z : (List.range n)[i]? with
  | none => rw [z] at e; cases e
  | some m =>
    rw [z] at e
    cases e
    obtain ⟨h1, h2⟩ := List.getElem?_eq_some_iff.mp z
    rw [List.getElem_range] at h2
    subst h2
    rw [List.length_range] at h1
    refine ⟨h1, fun x H' ⟨e2, e3⟩ => .inl ⟨e2, ?_⟩⟩
    subst e3
    exact .int _
section
variable {X : Cx} {C : Cn} {E : XK} {tg : Expr}
/-- a list or a tuple that is walked -/
theorem pi_seq {l : Expr} {tl : TE} (hl : PE X l tl) : PI X tg l (fun σ H R => tl σ H fun x H1 => ∃ a, x = .ref a ∧ ((∃ xs, SqL X.K H1 a xs ∧ R (Itl X.K a) H1) ∨ (∃ xs, SqT X.K H1 a xs ∧ R (Itt X.K a) H1))) := by
  refine ⟨fun pins s σ H R I h => ?_⟩
  refine thn (hl.run pins s σ H _ I h) fun v s1 ⟨x, H1, I1, r1, q1⟩ => ?_
  obtain ⟨a, e, h2⟩ := q1
  subst e
  cases r1
  rcases h2 with ⟨xs, hq, q⟩ | ⟨xs, hq, q⟩
  · obtain ⟨its, rv, p, hz⟩ := I1.list hq
    refine wpAny_pyIter_list p.isList ?_
    refine ⟨s1.heap.objs.size, [s1.heap.objs.size], _, _, H1, rfl, I1.kept (t' := s1.toks) fun b o e => Heap.get?_push_of_some _ e, turn_list a _, ⟨_, Heap.get?_push_size _ rfl, rfl, rfl⟩, fun b hb => ?_, q⟩
    have e : b = s1.heap.objs.size := by simpa using hb
    subst e
    exact I1.fpOk (Nat.le_refl _) (I1.hok.fresh (Nat.le_refl _))
  · obtain ⟨its, rv, p, hz⟩ := I1.tuple hq
    refine wpAny_pyIter_tuple (show s1.heap.IsTuple a its.toArray from p) ?_
    refine ⟨s1.heap.objs.size, [s1.heap.objs.size], _, _, H1, rfl, I1.kept (t' := s1.toks) fun b o e => Heap.get?_push_of_some _ e, turn_tuple a _, ⟨_, Heap.get?_push_size _ rfl, rfl, rfl⟩, fun b hb => ?_, q⟩
    have e : b = s1.heap.objs.size := by simpa using hb
    subst e
    exact I1.fpOk (Nat.le_refl _) (I1.hok.fresh (Nat.le_refl _))
theorem ci_seq {l : Expr} {f : Ex} (h : CE X C E l f) : CI X C E tg l (itSeq f) := PI.imp (pi_seq h) fun σ H R ⟨g, S, t, w, s, p⟩ => ⟨g, S, t, w, s, p.bnd.imp fun d t1 g1 H1 st1 w1 q v r => by
  cases d with
  | tup ds =>
    cases r with
    | tup sq ra => exact ⟨_, rfl, .inr ⟨_, Same.tseq w1.fz sq.t, postRet q w1 _ (walkT sq.t ra)⟩⟩
  | lst ds =>
    cases r with
    | lst sq ra => exact ⟨_, rfl, .inl ⟨_, .of (w1.fz _ _ sq), postRet q w1 _ (walkL sq ra)⟩⟩
  | _ => exact q.elim⟩
theorem ciw_seq {l : Expr} {f : Ex} (h : CW X C E l f) : CIW X C E tg l (itSeq f) := PI.imp (pi_seq h) fun σ H R ⟨g, S, t, w, s, p⟩ => ⟨g, S, t, w, s, p.bnd.imp fun d t1 g1 H1 st1 w1 q v r => by
  cases d with
  | tup ds =>
    rcases r with r | ⟨_, _, _, z, _⟩
    · cases r with
      | tup sq ra => exact ⟨_, rfl, .inr ⟨_, Same.tseq w1.fz sq.t, postRet q w1 _ g1.Fz (fun g2 H2 t2 s2 w2 => s2.fz.trans w2.fz) (walkT sq.t ra)⟩⟩
    · cases z
  | lst ds =>
    obtain ⟨a, vs, rfl, e1, r1, kept⟩ : ∃ a vs, v = .ref a ∧ H1 a = some (.lst vs) ∧ RpA X.K g1 vs ds ∧ ∀ g2 H2 t2, Stp g1 H1 g2 H2 → Wf C g2 H2 t2 → H2 a = some (.lst vs) := by
      rcases r with r | ⟨p, vs, ds', z1, z2, z3, z4, z5⟩
      · cases r with
        | lst a b => exact ⟨_, _, rfl, w1.fz _ _ a, b, fun g2 H2 t2 s2 w2 => w2.fz _ _ (s2.fz _ _ a)⟩
      · cases z1
        exact ⟨p, vs, z2, z3, z4, fun g2 H2 t2 s2 w2 => s2.frm _ _ z3 z5 (fun _ z => nomatch z)⟩
    refine ⟨_, rfl, .inl ⟨_, .of e1, postRet q w1 _ (fun b => if b = a then some (.lst vs) else none) (fun g2 H2 t2 s2 w2 b o e => ?_) (walkL (vs := vs) (by rw [if_pos rfl]) r1)⟩⟩
    have e : (if b = a then some (HO.lst vs) else none) = some o := e
    by_cases hb : b = a
    · rw [if_pos hb] at e
      cases e
      rw [hb]
      exact kept g2 H2 t2 s2 w2
    · rw [if_neg hb] at e; cases e
  | _ => exact q.elim⟩
theorem ci_w {l : Expr} {f : Sl → M (List D)} (h : CI X C E tg l f) : CIW X C E tg l f := PI.imp h fun σ H R ⟨g, S, t, w, s, p⟩ => ⟨g, S, t, w, s, p.imp fun ds t1 g1 H1 st1 w1 q J wk => q J g1.Fz (fun g2 H2 t2 s2 w2 => s2.fz.trans w2.fz) wk⟩
theorem ci_range1 {a : Expr} {f : Ex} {p pos : Pos} (hm : X.mg "range" = none) (ha : CE X C E a f) (hg : Gl X "range" := by rfl) (hs : starEach [a] X.env = (false, eval a X.env) :: starEach [] X.env := by rfl) : CI X C E tg (.Call (.Name "range" p) [a] [] pos) (itRange1 f) :=
  PI.imp (pi_range1 hg hm (pa_cons ha pa_nil hs) hs) fun σ H R ⟨g, S, t, w, s, p⟩ => ⟨g, S, t, w, s, p.bnd.imp fun d t1 g1 H1 st1 w1 q v r => by
    cases d with
    | int j =>
      cases r
      have q : Post C E g1 H1 (fun ds _ g' H' => ∀ J, WalkD X.K g'.Fz J ds g' → R J H') ((if -(2 ^ 62) ≤ j ∧ j < 2 ^ 62 then ret ((List.range j.toNat).map fun (i : Nat) => D.int ((0 : Int) + (i : Int))) else stuck) t1) := q
      split at q
      · rename_i hc
        exact ⟨j, rfl, hc.1, hc.2, postRet q w1 _ walkR⟩
      · exact q.elim
    | _ => exact q.elim⟩
end
/-- an object of one's own is changed -/
theorem SL.updX {K : PySem.W.Frag} {g : G} {H : Hp} {σ : L2.St} {S : Sl} {i : Nat} {a : Addr} {x y : SV} {o : HO} (s : SL K g H σ S) (e : S[i]? = some x) (ox : isOw x = true) (h1 : σ[i]? = some (some (.ref a))) (oy : isOw y = true) (hy : SVok K g (upd H a o) y (some (some (.ref a)))) : SL K g (upd H a o) σ (S.set i y) where
  len := by rw [List.length_set]; exact s.len
  ok := fun j z e2 => by
    by_cases hj : i = j
    · subst hj
      obtain ⟨hl, _⟩ := List.getElem?_eq_some_iff.mp e
      rw [List.getElem?_set_self hl] at e2
      cases e2
      rw [h1]; exact hy
    · rw [List.getElem?_set_ne hj] at e2
      have h := s.ok j z e2
      cases z with
      | own ds =>
        obtain ⟨b, us, k1, k2, k3, k4⟩ := h
        have nb : b ≠ a := fun z => hj (s.dis i j a x _ e e2 ox rfl h1 (by rw [← z]; exact k1))
        exact ⟨b, us, k1, by rw [upd_ne nb]; exact k2, k3, k4⟩
      | dic ks =>
        obtain ⟨b, us, k1, k2, k3⟩ := h
        have nb : b ≠ a := fun z => hj (s.dis i j a x _ e e2 ox rfl h1 (by rw [← z]; exact k1))
        exact ⟨b, us, k1, by rw [upd_ne nb]; exact k2, k3⟩
      | dcT ks =>
        obtain ⟨b, us, k1, k2, k3⟩ := h
        have nb : b ≠ a := fun z => hj (s.dis i j a x _ e e2 ox rfl h1 (by rw [← z]; exact k1))
        exact ⟨b, us, k1, by rw [upd_ne nb]; exact k2, k3⟩
      | un => exact h
      | val d => exact h
      | raw v => exact h
      | exn c =>
        obtain ⟨b, k1, k2⟩ := h
        refine ⟨b, k1, ?_⟩
        obtain ⟨p0, o0, q1, q2, _⟩ := s.ow e ox
        rw [h1] at q1
        cases q1
        have nb : b ≠ a := fun z => by
          cases x with
          | own ds => obtain ⟨p1, vs1, r1, r2, _⟩ := s.own i ds e; rw [h1] at r1; cases r1; rw [← z, k2] at r2; unfold ExK at r2; cases r2
          | dic ks => obtain ⟨p1, vs1, r1, r2, _⟩ := s.dic i ks e; rw [h1] at r1; cases r1; rw [← z, k2] at r2; unfold ExK at r2; cases r2
          | dcT ks => obtain ⟨p1, L1, r1, r2, _⟩ := s.dcT i ks e; rw [h1] at r1; cases r1; rw [← z, k2] at r2; exact exk_ne (Option.some.inj r2)
          | _ => cases ox
        rw [upd_ne nb]; exact k2
  dis := fun j k p z1 z2 e1 e2 o1 o2 e3 e4 => by
    have at_ : ∀ {m : Nat} {z : SV}, (S.set i y)[m]? = some z → isOw z = true → ∃ z', S[m]? = some z' ∧ isOw z' = true := fun {m z} e2 oz => by
      by_cases hj : i = m
      · subst hj; exact ⟨x, e, ox⟩
      · rw [List.getElem?_set_ne hj] at e2
        exact ⟨z, e2, oz⟩
    obtain ⟨d1, e1, o1⟩ := at_ e1 o1
    obtain ⟨d2, e2, o2⟩ := at_ e2 o2
    exact s.dis j k p d1 d2 e1 e2 o1 o2 e3 e4
/-- a list that is not frozen is changed -/
theorem Wf.updL {C : Cn} {g : G} {H : Hp} {t : Tn} {p : Addr} {xs ys : List V} (w : Wf C g H t) (hp : H p = some (.lst xs)) (fp : Fre g p) : Wf C g (upd H p (.lst ys)) t where
  fz := fun b o' h => by
    rw [upd_ne (ne_of_none h fp.1)]
    exact w.fz b o' h
  tw := ⟨w.tw.1.ext fun b kvs h _ => by rw [upd_ne (ne_of h hp (fun z => nomatch z))]; exact h, w.tw.2.keep (fun _ _ h => h) (.refl g) ⟨rfl, rfl⟩ fun a ha ho h => by rw [upd_ne fun z => fp.2 (.inr (by rw [← z]; exact ha))]; exact h⟩
  ntw := w.ntw
  nft := w.nft
  tab := fun q hq => by
    obtain ⟨ps, h1, h2, h3⟩ := w.tab q hq
    refine ⟨ps, by rw [upd_ne (ne_of h1 hp (fun z => nomatch z))]; exact h1, h2, fun pos cv e => ?_⟩
    obtain ⟨c, e1, e2⟩ := h3 pos cv e
    exact ⟨c, e1, by rw [upd_ne (ne_of e2 hp (fun z => by unfold LamX.CodeO at z; cases z))]; exact e2⟩
def cmpL (tg : Tg) (cond elt : Ex) (S : Sl) : List D → M (List D)
  | [] => ret []
  | d :: ds => match tg d S with
    | none => stuck
    | some S' => bnd (calm (cond S')) fun b => match b with
      | .bl true => bnd (calm (elt S')) fun r => bnd (cmpL tg cond elt S ds) fun rs => ret (r :: rs)
      | .bl false => cmpL tg cond elt S ds
      | _ => stuck
def eComp (vs : List Nat) (it : Sl → M (List D)) (tg : Tg) (cond elt : Ex) : Ex := fun S => bnd (it S) fun ds => if ds.length ≤ sizeLine then bnd (cmpL tg cond elt (wipeS S vs) ds) fun rs => ret (.lst rs) else stuck
abbrev CTs (X : Cx) (C : Cn) (E : XK) (ifs : List Expr) (f : Ex) : Prop := PTs X ifs (tT X.K C E f)
theorem PTs.imp {X : Cx} {e : List Expr} {t t' : TT} (h : PTs X e t) (f : ∀ σ H Q, t' σ H Q → t σ H Q) : PTs X e t' := ⟨fun pins s σ H Q I q => h.run pins s σ H Q I (f σ H Q q)⟩
section
variable {X : Cx} {C : Cn} {E : XK}
theorem cts_nil : CTs X C E [] (eC (.bl true)) := PTs.imp pts_nil fun σ H Q ⟨g, S, t, w, s, p⟩ => by
  obtain ⟨b, e, q⟩ := postRet p w
  cases e
  exact q
theorem cts_one {c : Expr} {f : Ex} (h : CT X C E c f) : CTs X C E [c] f := pts_one h
/-- a list that is built at D: a step leaves it -/
theorem Yl.stp {K : PySem.W.Frag} {g g1 : G} {H H' : Hp} {t : Tn} {x : V} {d : D} (h : Yl K g1 H x H' d) (f : Same g1.Fz g.Fz) (tw : TwLe g1 g) (w : Wf C g H t) : ∃ g', Stp g H g' H' ∧ Wf C g' H' t ∧ Rp K g' x d ∧ ∀ b, H b ≠ none → H' b = H b := by
  rcases h with ⟨rfl, r⟩ | ⟨T, vs, ds, rfl, hT, ⟨ob, rfl, od, oc⟩, rfl, ra⟩
  · exact ⟨g, .refl _ _, w, r.mono f tw, fun _ _ => rfl⟩
  · obtain ⟨g2, s2, w2, r2⟩ := layT w hT od oc (ra.mono f tw)
    refine ⟨g2, s2, w2, r2, fun b hb => ?_⟩
    rw [upd_ne fun z => hb (by rw [z]; exact hT)]
theorem tF.lc {own : List (Str × Nat)} {is : List Nat} {fi : Sl → M (List D)} {ft : Tg} {fc fe : Ex} {σ : L2.St} {H : Hp} {Q : VK} (hv : ∀ i ∈ is, i ∈ own.map (·.2)) (h : tF X.K C E (eComp (own.map (·.2)) fi ft fc fe) σ H Q) :
    tLc (tIW X.K C E fi) (tG X.K C is ft) (tT X.K C E0 fc) (tE X.K C E0 fe) (own.map (·.2)) σ H Q := by
  obtain ⟨g, S, t, w, s, p⟩ := h
  refine ⟨g, S, t, w, s, p.bnd.imp fun ds t1 g1 H1 st1 w1 q J B kp wk => ?_⟩
  have q : Post C E g1 H1 (fun d _ g' H' => ∀ v, RpF X.K H g' H' v d → Q v H') ((if ds.length ≤ sizeLine then bnd (cmpL ft fc fe (wipeS S (own.map (·.2))) ds) fun rs => ret (BG.D.lst rs) else stuck) t1) := q
  split at q
  case isFalse => exact q.elim
  rename_i hsz
  intro La hD
  have s1 := s.stp w st1
  refine ⟨fun i m Hk => m = ds.length - i ∧ i ≤ ds.length ∧ ∃ gk tk av ad, Stp g1 H1 gk Hk ∧ Wf C gk Hk tk ∧ Hk La = some (.lst av) ∧ Fre gk La ∧ RpA X.K gk av ad ∧ ad.length ≤ i ∧
    Post C E g1 H1 (fun d _ g' H' => ∀ v, RpF X.K H g' H' v d → Q v H') (bnd (cmpL ft fc fe (wipeS S (own.map (·.2))) (ds.drop i)) (fun rs => ret (BG.D.lst (ad ++ rs))) tk), ⟨ds.length, by simp, Nat.zero_le _, g1, t1, [], [], Stp.lay w1 hD, Wf.lay w1 hD, upd_same, w1.fre hD, .nil, Nat.zero_le _, ?_⟩, ?_⟩
  · rw [List.drop_zero]
    exact q
  rintro i m Hk ⟨rfl, hi', gk, tk, av, ad, stk, wk', eD, fD, ra, hal, pk⟩
  obtain ⟨wgo, wstop⟩ := wk i Hk (kp gk Hk tk stk wk')
  by_cases hlt : i < ds.length
  · have ed : ds[i]? = some ds[i] := List.getElem?_eq_getElem hlt
    obtain ⟨go, yl⟩ := wgo _ ed
    have edr : ds.drop i = ds[i] :: ds.drop (i + 1) := List.drop_eq_getElem_cons hlt
    rw [edr] at pk
    refine .inr ⟨go, fun Hn => ∃ gn tn bv bd, Stp g1 H1 gn Hn ∧ Wf C gn Hn tn ∧ Hn La = some (.lst bv) ∧ Fre gn La ∧ RpA X.K gn bv bd ∧ bd.length ≤ i + 1 ∧
      Post C E g1 H1 (fun d _ g' H' => ∀ v, RpF X.K H g' H' v d → Q v H') (bnd (cmpL ft fc fe (wipeS S (own.map (·.2))) (ds.drop (i + 1))) (fun rs => ret (BG.D.lst (bd ++ rs))) tn), fun H' hn => ⟨_, Nat.sub_lt_sub_left hlt (Nat.lt_succ_self i), rfl, hlt, hn⟩, fun x H' hy => ?_⟩
    obtain ⟨g3, st3, w3, r3, kp3⟩ := (yl x H' hy).stp stk.fz stk.tw wk'
    have st13 : Stp g1 H1 g3 H' := stk.trans st3
    have eD3 : H' La = some (.lst av) := by rw [kp3 La (by rw [eD]; exact fun z => nomatch z)]; exact eD
    have fD3 : Fre g3 La := fD.stp st3 eD (fun _ z => nomatch z)
    have ra3 := ra.stp st3
    have sl3 : SL X.K g3 H' (L2.wipe σ (own.map (·.2))) (wipeS S (own.map (·.2))) := (s1.stp w1 st13).wipe _
    have pk : Post C E g1 H1 (fun d _ g' H' => ∀ v, RpF X.K H g' H' v d → Q v H') (bnd (match ft ds[i] (wipeS S (own.map (·.2))) with
      | none => stuck
      | some S' => bnd (calm (fc S')) fun b => match b with
        | .bl true => bnd (calm (fe S')) fun r => bnd (cmpL ft fc fe (wipeS S (own.map (·.2))) (ds.drop (i + 1))) fun rs => ret (r :: rs)
        | .bl false => cmpL ft fc fe (wipeS S (own.map (·.2))) (ds.drop (i + 1))
        | _ => stuck) (fun rs => ret (BG.D.lst (ad ++ rs))) tk) := pk
    cases eft : ft ds[i] (wipeS S (own.map (·.2))) with
    | none => rw [eft] at pk; exact pk.elim
    | some S' =>
      rw [eft] at pk
      refine ⟨g3, _, tk, _, S', w3, sl3, r3, eft, fun σ2 sl2 hl2 hout _ => ⟨wipe_eq (by rw [hl2, wipe_length]) fun j hj => hout j fun z => hj (hv j z), ?_⟩⟩
      have pk : Post C E g1 H1 (fun d _ g' H' => ∀ v, RpF X.K H g' H' v d → Q v H') (bnd (bnd (calm (fc S')) fun b => match b with
        | .bl true => bnd (calm (fe S')) fun r => bnd (cmpL ft fc fe (wipeS S (own.map (·.2))) (ds.drop (i + 1))) fun rs => ret (r :: rs)
        | .bl false => cmpL ft fc fe (wipeS S (own.map (·.2))) (ds.drop (i + 1))
        | _ => stuck) (fun rs => ret (BG.D.lst (ad ++ rs))) tk) := pk
      rw [bnd_assoc] at pk
      have pc := (Post.calm pk.bnd0 E0).stp st13
      refine ⟨g3, S', tk, w3, sl2, pc.imp fun b tb gb Hb stb wb qb => ?_⟩
      have st1b := st13.trans stb
      have eDb : Hb La = some (.lst av) := stb.frm _ _ eD3 fD3.2 (fun _ z => nomatch z)
      have fDb : Fre gb La := fD3.stp stb eD3 (fun _ z => nomatch z)
      have rab := ra3.stp stb
      cases b with
      | bl b =>
        refine ⟨b, rfl, ?_⟩
        cases b with
        | false => exact iteF ⟨gb, tb, av, ad, st1b, wb, eDb, fDb, rab, Nat.le_succ_of_le hal, qb⟩
        | true =>
          refine iteT ?_
          have qb : Post C E g1 H1 (fun d _ g' H' => ∀ v, RpF X.K H g' H' v d → Q v H') (bnd (bnd (calm (fe S')) fun r => bnd (cmpL ft fc fe (wipeS S (own.map (·.2))) (ds.drop (i + 1))) fun rs => ret (r :: rs)) (fun rs => ret (BG.D.lst (ad ++ rs))) tb) := qb
          rw [bnd_assoc] at qb
          have pe := (Post.calm qb.bnd0 E0).stp st1b
          refine ⟨gb, S', tb, wb, sl2.stp w3 stb, pe.imp fun r tr gr Hr str wr qr y ry => ?_⟩
          have eDr : Hr La = some (.lst av) := str.frm _ _ eDb fDb.2 (fun _ z => nomatch z)
          have fDr : Fre gr La := fDb.stp str eDb (fun _ z => nomatch z)
          have rar := rab.stp str
          have st1r := st1b.trans str
          have hH1D : H1 La = none := hD
          refine ⟨av, eDr, ?_, gr, tr, av ++ [y], ad ++ [r], ⟨st1r.fz, st1r.tw, st1r.twn, fun b o e1 e2 e3 => ?_, fun b e1 => ?_, st1r.new⟩, ?_, upd_same, fDr, rar.app (.one ry), by rw [List.length_append]; exact Nat.succ_le_succ hal, ?_⟩
          · rw [rar.length]
            exact Nat.lt_of_lt_of_le (Nat.lt_of_le_of_lt hal hlt) hsz
          · rw [upd_ne (ne_of_none e1 hH1D)]
            exact st1r.frm b o e1 e2 e3
          · by_cases hb : b = La
            · exact ⟨_, by rw [hb]; exact upd_same, fun _ z => by cases z⟩
            · obtain ⟨o', e', n'⟩ := st1r.thr b e1
              exact ⟨o', by rw [upd_ne hb]; exact e', n'⟩
          · exact wr.updL eDr fDr
          · rw [bnd_assoc] at qr
            have er : (fun rs => ret (BG.D.lst (ad ++ [r] ++ rs))) = (fun rs => bnd (ret (r :: rs)) fun rs => ret (BG.D.lst (ad ++ rs))) := by
              funext rs
              rw [ret_bnd, List.append_assoc]; rfl
            rw [er]
            exact qr
      | _ => exact qb.elim
  · have e : i = ds.length := by omega
    subst e
    refine .inl ⟨wstop (Nat.le_refl _), ?_⟩
    rw [List.drop_length] at pk
    have pk : Post C E g1 H1 (fun d _ g' H' => ∀ v, RpF X.K H g' H' v d → Q v H') (ret (BG.D.lst (ad ++ [])) tk) := pk
    rw [List.append_nil] at pk
    exact pk gk Hk stk wk' _ ⟨La, av, ad, rfl, rfl, st1.back hD, eD, ra, fD⟩
theorem cf_comp {elt tg iter : Expr} {ifs : List Expr} {scope : Scope} {own : List (Str × Nat)} {pos : Pos} {is : List Nat} {fi : Sl → M (List D)} {ft : Tg} {fc fe : Ex} (hc : X.calm = true) (hN : X.N.Nodup) (hi : CIW X C E tg iter fi) (ok : BlkOk X.N X.env.scope scope own) (hv : ∀ i ∈ is, i ∈ own.map (·.2))
    (hg : ∀ (s : Shared) (H : Hp) (Ca : Addr) (cl : List (Str × Addr)) (fp : List Addr), CG (X.blk s H scope (compEnvC scope cl Ca X.env) fp) C is tg ft) (ht : ∀ (s : Shared) (H : Hp) (Ca : Addr) (cl : List (Str × Addr)) (fp : List Addr), CTs (X.blk s H scope (compEnvC scope cl Ca X.env) fp) C E0 ifs fc)
    (he : ∀ (s : Shared) (H : Hp) (Ca : Addr) (cl : List (Str × Addr)) (fp : List Addr), CE (X.blk s H scope (compEnvC scope cl Ca X.env) fp) C E0 elt fe) (hs : ∀ x, foldedSetIterable iter X.env x = pure x := by intro _; rfl) :
    CF X C E (.ListComp elt [⟨tg, iter, ifs, 0⟩] scope pos) (eComp (own.map (·.2)) fi ft fc fe) := by
  exact PE.imp (pe_lc (te := tE X.K C E0 fe) (g := tG X.K C is ft) (tt := tT X.K C E0 fc) hc hN hi ok hg ht he hs) fun σ H Q h => tF.lc hv h
end
end BG
set_option Elab.async false
set_option linter.all false
set_option maxRecDepth 100000
set_option maxHeartbeats 4000000
namespace BG
open PySem PySem.Spec PyProof.Rows L2
inductive Fl where
  | nx (S : Sl)
  | ret (d : D)
abbrev Stm := Sl → M Fl
def OwnF (H0 : Hp) (σ : L2.St) (S : Sl) : Prop := ∀ (j : Nat) x p, S[j]? = some x → isOw x = true → σ[j]? = some (some (.ref p)) → ¬ Nt H0 p
/-- what is frozen stays frozen -/
structure Gw (g g' : G) : Prop where
  fz : Same g.Fz g'.Fz
  tw : TwLe g g'
theorem Gw.refl (g : G) : Gw g g := ⟨fun _ _ h => h, .refl g⟩
theorem Gw.trans {g g1 g2 : G} (a : Gw g g1) (b : Gw g1 g2) : Gw g g2 := ⟨a.fz.trans b.fz, a.tw.trans b.tw⟩
theorem Stp.gw {g g' : G} {H H' : Hp} (s : Stp g H g' H') : Gw g g' := ⟨s.fz, s.tw⟩
/-- what follows a statement -/
def Rs (K : PySem.W.Frag) (H0 : Hp) (gs : G) (De : Ends) : Fl → Tn → G → Hp → Prop
  | .nx S', _, g', H' => ∀ σ', Gw gs g' → SL K g' H' σ' S' → OwnF H0 σ' S' → De.nx σ' H'
  | .ret d, _, g', H' => ∀ v, Gw gs g' → Rp K g' v d → De.rt v H'
def tS (K : PySem.W.Frag) (C : Cn) (E : XK) (f : Stm) : TS := fun De σ H => ∃ g0 H0 gs g S t, Stp g0 H0 g H ∧ Gw gs g ∧ Wf C g H t ∧ SL K g H σ S ∧ OwnF H0 σ S ∧ Post C E g0 H0 (Rs K H0 gs De) (f S t)
abbrev CS (X : Cx) (C : Cn) (E : XK) (st : Stmt) (f : Stm) : Prop := PS X st (tS X.K C E f)
abbrev CSs (X : Cx) (C : Cn) (E : XK) (st : List Stmt) (f : Stm) : Prop := PSs X st (tS X.K C E f)
def sNil : Stm := fun S => ret (.nx S)
def sSeq (a b : Stm) : Stm := fun S => bnd (a S) fun fl => match fl with
  | .nx S' => b S'
  | .ret d => ret (.ret d)
def sAsg (i : Nat) (e : Ex) : Stm := fun S => bnd (e S) fun d => ret (.nx (S.set i (.val d)))
def sOwn (i : Nat) (e : Ex) : Stm := fun S => bnd (e S) fun d => match d with
  | .lst ds => ret (.nx (S.set i (.own ds)))
  | _ => stuck
def sAsgG (tg : Tg) (e : Ex) : Stm := fun S => bnd (e S) fun d => match tg d S with
  | some S' => ret (.nx S')
  | none => stuck
def sPar (i j : Nat) (a b : Ex) : Stm := fun S => bnd (a S) fun x => bnd (b S) fun y => ret (.nx ((S.set i (.val x)).set j (.val y)))
def sParO (i j : Nat) (a b : Ex) : Stm := fun S => bnd (a S) fun x => bnd (b S) fun y => match y with
  | .lst ds => ret (.nx ((S.set i (.val x)).set j (.own ds)))
  | _ => stuck
def sApp (i : Nat) (e : Ex) : Stm := fun S => match S[i]? with
  | some (.own _) => bnd (e S) fun d => match S[i]? with
    | some (.own ds) => if ds.length < sizeLine then ret (.nx (S.set i (.own (ds ++ [d])))) else stuck
    | _ => stuck
  | _ => stuck
def sExt (i : Nat) (e : Ex) : Stm := fun S => match S[i]? with
  | some (.own _) => bnd (e S) fun d => match S[i]?, d with
    | some (.own ds), .lst es => if ds.length + es.length ≤ sizeLine then ret (.nx (S.set i (.own (ds ++ es)))) else stuck
    | _, _ => stuck
  | _ => stuck
def sPut (i : Nat) (k e : Ex) : Stm := fun S => match S[i]? with
  | some (.own _) => bnd (e S) fun d => bnd (k S) fun n => match S[i]?, n with
    | some (.own ds), .int n => match ixN ds.length n with
      | some j => ret (.nx (S.set i (.own (ds.set j d))))
      | none => stuck
    | _, _ => stuck
  | _ => stuck
def sExpr (e : Ex) : Stm := fun S => bnd (e S) fun _ => ret (.nx S)
def sIf (c : Ex) (a b : Stm) : Stm := fun S => bnd (c S) fun d => match d with
  | .bl true => a S
  | .bl false => b S
  | _ => stuck
def sRet (e : Ex) : Stm := fun S => bnd (e S) fun d => ret (.ret d)
def sFrz (i : Nat) (a : Stm) : Stm := fun S => match S[i]? with
  | some (.own ds) => a (S.set i (.val (.lst ds)))
  | _ => a S
def sRaise (c : Nat) : Stm := fun _ => raise c
def forL (tg : Tg) (body : Stm) : List D → Stm
  | [], S => ret (.nx S)
  | d :: ds, S => match tg d S with
    | none => stuck
    | some S' => bnd (calm (body S')) fun fl => match fl with
      | .nx S'' => forL tg body ds S''
      | .ret v => ret (.ret v)
def sFor (it : Sl → M (List D)) (tg : Tg) (body : Stm) : Stm := fun S => bnd (calm (it S)) fun ds => forL tg body ds S
def whileL (c : Ex) (body : Stm) : Nat → Stm
  | 0, _ => stuck
  | n + 1, S => bnd (calm (c S)) fun d => match d with
    | .bl true => bnd (calm (body S)) fun fl => match fl with
      | .nx S'' => whileL c body n S''
      | .ret v => ret (.ret v)
    | .bl false => ret (.nx S)
    | _ => stuck
def sWhile (n : Nat) (c : Ex) (body : Stm) : Stm := whileL c body n
section
variable {K : PySem.W.Frag} {C : Cn} {E : XK}
theorem OwnF.set {H0 : Hp} {σ : L2.St} {S : Sl} {i : Nat} {v : V} {d : D} (h : OwnF H0 σ S) : OwnF H0 (σ.set i (some v)) (S.set i (.val d)) := fun j ds p e1 ox e2 => by
  have n := set_ow e1 ox
  rw [List.getElem?_set_ne n] at e1 e2
  exact h j ds p e1 ox e2
theorem OwnF.keep {H0 : Hp} {σ σ' : L2.St} {S S' : Sl} (h : OwnF H0 σ S) (k : ∀ (j : Nat) x, S'[j]? = some x → isOw x = true → S[j]? = some x ∧ σ'[j]? = σ[j]?) : OwnF H0 σ' S' := fun j ds p e1 ox e2 => by
  obtain ⟨a, b⟩ := k j ds e1 ox
  rw [b] at e2
  exact h j ds p a ox e2
/-- an expression within a statement -/
theorem tS.ex {f : Ex} {k : D → M Fl} {σ : L2.St} {H : Hp} {De : Ends} {g0 gs g : G} {H0 : Hp} {S : Sl} {t : Tn} {Q : VK} (st : Stp g0 H0 g H) (gr : Gw gs g) (w : Wf C g H t) (s : SL K g H σ S) (p : Post C E g0 H0 (Rs K H0 gs De) (bnd (f S) k t))
    (h : ∀ d t1 g1 H1 v, Stp g H g1 H1 → Stp g0 H0 g1 H1 → Gw gs g1 → Wf C g1 H1 t1 → SL K g1 H1 σ S → Rp K g1 v d → Post C E g0 H0 (Rs K H0 gs De) (k d t1) → Q v H1) : tE K C E f σ H Q :=
  ⟨g, S, t, w, s, (p.bnd0.stp st).imp fun d t1 g1 H1 st1 w1 q v r => h d t1 g1 H1 v st1 (st.trans st1) (gr.trans st1.gw) w1 (s.stp w st1) r q⟩
theorem tS.exW {f : Ex} {k : D → M Fl} {σ : L2.St} {H : Hp} {De : Ends} {g0 gs g : G} {H0 : Hp} {S : Sl} {t : Tn} {Q : VK} (st : Stp g0 H0 g H) (gr : Gw gs g) (w : Wf C g H t) (s : SL K g H σ S) (p : Post C E g0 H0 (Rs K H0 gs De) (bnd (f S) k t))
    (h : ∀ d t1 g1 H1 v, Stp g H g1 H1 → Stp g0 H0 g1 H1 → Gw gs g1 → Wf C g1 H1 t1 → SL K g1 H1 σ S → RpW K g1 H1 v d → Post C E g0 H0 (Rs K H0 gs De) (k d t1) → Q v H1) : tW K C E f σ H Q :=
  ⟨g, S, t, w, s, (p.bnd0.stp st).imp fun d t1 g1 H1 st1 w1 q v r => h d t1 g1 H1 v st1 (st.trans st1) (gr.trans st1.gw) w1 (s.stp w st1) r q⟩
theorem tS.exF {f : Ex} {k : D → M Fl} {σ : L2.St} {H : Hp} {De : Ends} {g0 gs g : G} {H0 : Hp} {S : Sl} {t : Tn} {Q : VK} (st : Stp g0 H0 g H) (gr : Gw gs g) (w : Wf C g H t) (s : SL K g H σ S) (p : Post C E g0 H0 (Rs K H0 gs De) (bnd (f S) k t))
    (h : ∀ d t1 g1 H1 v, Stp g H g1 H1 → Stp g0 H0 g1 H1 → Gw gs g1 → Wf C g1 H1 t1 → SL K g1 H1 σ S → RpF K H g1 H1 v d → Post C E g0 H0 (Rs K H0 gs De) (k d t1) → Q v H1) : tF K C E f σ H Q :=
  ⟨g, S, t, w, s, (p.bnd0.stp st).imp fun d t1 g1 H1 st1 w1 q v r => h d t1 g1 H1 v st1 (st.trans st1) (gr.trans st1.gw) w1 (s.stp w st1) r q⟩
theorem tS.tst {f : Ex} {k : D → M Fl} {σ : L2.St} {H : Hp} {De : Ends} {g0 gs g : G} {H0 : Hp} {S : Sl} {t : Tn} {Q : Bool → Hp → Prop} (st : Stp g0 H0 g H) (gr : Gw gs g) (w : Wf C g H t) (s : SL K g H σ S) (p : Post C E g0 H0 (Rs K H0 gs De) (bnd (f S) k t))
    (nb : ∀ d t, (∀ b, d ≠ .bl b) → k d t = none) (h : ∀ b t1 g1 H1, Stp g H g1 H1 → Stp g0 H0 g1 H1 → Gw gs g1 → Wf C g1 H1 t1 → SL K g1 H1 σ S → Post C E g0 H0 (Rs K H0 gs De) (k (.bl b) t1) → Q b H1) : tT K C E f σ H Q :=
  ⟨g, S, t, w, s, (p.bnd0.stp st).imp fun d t1 g1 H1 st1 w1 q => by
    by_cases hb : ∃ b, d = .bl b
    · obtain ⟨b, rfl⟩ := hb
      exact ⟨b, rfl, h b t1 g1 H1 st1 (st.trans st1) (gr.trans st1.gw) w1 (s.stp w st1) q⟩
    · rw [nb d t1 fun b z => hb ⟨b, z⟩] at q
      exact q.elim⟩
/-- the slot gets a list of its own -/
theorem SL.setO {g : G} {H : Hp} {σ : L2.St} {S : Sl} {i : Nat} {p : Addr} {vs : List V} {ds : List D} (s : SL K g H σ S) (hp : H p = some (.lst vs)) (r : RpA K g vs ds) (fp : Fre g p) (hn : ∀ (j : Nat) x, S[j]? = some x → isOw x = true → σ[j]? = some (some (.ref p)) → j = i) :
    SL K g H (σ.set i (some (.ref p))) (S.set i (.own ds)) := s.put ⟨p, vs, rfl, hp, r, fp⟩ fun _ q e => by cases e; exact hn
theorem SL.setD {g : G} {H : Hp} {σ : L2.St} {S : Sl} {i : Nat} {p : Addr} {vs : List (Key × V)} {ks : List (Key × D)} (s : SL K g H σ S) (hp : H p = some (.dK vs)) (r : RpK K g vs ks) (fp : g.Fz p = none) (nt : ¬ g.isTw p) (hn : ∀ (j : Nat) x, S[j]? = some x → isOw x = true → σ[j]? = some (some (.ref p)) → j = i) :
    SL K g H (σ.set i (some (.ref p))) (S.set i (.dic ks)) := s.put ⟨p, vs, rfl, hp, r, fp, nt⟩ fun _ q e => by cases e; exact hn
theorem OwnF.put {H0 : Hp} {σ : L2.St} {S : Sl} {i : Nat} {p : Addr} {x : SV} (h : OwnF H0 σ S) (hp : ¬ Nt H0 p) : OwnF H0 (σ.set i (some (.ref p))) (S.set i x) := fun j dj q e1 ox e2 => by
  by_cases hj : i = j
  · subst hj
    obtain ⟨hl, _⟩ := List.getElem?_eq_some_iff.mp e2
    rw [List.length_set] at hl
    rw [List.getElem?_set_self hl] at e2
    cases e2
    exact hp
  · rw [List.getElem?_set_ne hj] at e1 e2
    exact h j dj q e1 ox e2
theorem OwnF.setO {H0 : Hp} {σ : L2.St} {S : Sl} {i : Nat} {p : Addr} {ds : List D} (h : OwnF H0 σ S) (hp : ¬ Nt H0 p) : OwnF H0 (σ.set i (some (.ref p))) (S.set i (.own ds)) := h.put hp
/-- an object that was just made is nobody's -/
theorem SL.noOne {g : G} {H : Hp} {σ : L2.St} {S : Sl} {p : Addr} (s : SL K g H σ S) (hp : ¬ Nt H p) (i : Nat) : ∀ (j : Nat) x, S[j]? = some x → isOw x = true → σ[j]? = some (some (.ref p)) → j = i := fun j x e1 ox e2 => by
  obtain ⟨a, o, h1, h2, _, h4⟩ := s.ow e1 ox
  rw [e2] at h1
  cases h1
  exact absurd ⟨o, h2, h4⟩ hp
end
section
variable {X : Cx} {C : Cn} {E : XK}
theorem css_nil : CSs X C E [] sNil := PSs.imp pss_nil fun De σ H ⟨g0, H0, gs, g, S, t, st, gr, w, s, o, p⟩ => p g H st w σ gr s o
theorem css_cons {st : Stmt} {rest : List Stmt} {a b : Stm} (h1 : CS X C E st a) (h2 : CSs X C E rest b) : CSs X C E (st :: rest) (sSeq a b) := PSs.imp (pss_cons h1 h2) fun De σ H ⟨g0, H0, gs, g, S, t, st, gr, w, s, o, p⟩ =>
  ⟨g0, H0, gs, g, S, t, st, gr, w, s, o, p.bnd0.imp fun fl t1 g1 H1 st1 w1 q => by
    cases fl with
    | nx S' => exact fun σ' gr' s' o' => ⟨g0, H0, gs, g1, S', t1, st1, gr', w1, s', o', q⟩
    | ret d => exact q g1 H1 st1 w1⟩
theorem css_one {st : Stmt} {a : Stm} (h1 : CS X C E st a) : CSs X C E [st] a := PSs.imp (pss_one h1) fun De σ H h => h
theorem cs_asg (i : Nat) {x : Str} {e : Expr} {f : Ex} {pos pos' : Pos} (hN : X.N.Nodup) (he : CE X C E e f) (hi : X.N[i]? = some x := by rfl) (hx : Loc X.env.scope x := by first | exact .inl rfl | exact .inr rfl) (hs : swapsWith e (some (.Name x pos')) pos.line X.env = pure false := by rfl)
    (hf : X.fn x = true ∨ X.env.scope.names.lookup x = some .local := by first | exact .inl rfl | exact .inr rfl | assumption) : CS X C E (.Assign [.Name x pos'] e pos) (sAsg i f) :=
  PS.imp (ps_set hN hi hx he hs hf) fun De σ H ⟨g0, H0, gs, g, S, t, st, gr, w, s, o, p⟩ => tS.ex st gr w s p fun d t1 g1 H1 v st1 st01 gr1 w1 s1 r q => q g1 H1 st01 w1 _ gr1 (s1.set r) o.set
theorem cs_own (i : Nat) {x : Str} {e : Expr} {f : Ex} {pos pos' : Pos} (hN : X.N.Nodup) (he : CF X C E e f) (hi : X.N[i]? = some x := by rfl) (hx : Loc X.env.scope x := by first | exact .inl rfl | exact .inr rfl) (hs : swapsWith e (some (.Name x pos')) pos.line X.env = pure false := by rfl)
    (hf : X.fn x = true ∨ X.env.scope.names.lookup x = some .local := by first | exact .inl rfl | exact .inr rfl | assumption) : CS X C E (.Assign [.Name x pos'] e pos) (sOwn i f) :=
  PS.imp (ps_set hN hi hx he hs hf) fun De σ H ⟨g0, H0, gs, g, S, t, st, gr, w, s, o, p⟩ => tS.exF st gr w s p fun d t1 g1 H1 v st1 st01 gr1 w1 s1 r q => by
    obtain ⟨a, vs, ds, rfl, rfl, e0, e1, ra, e2⟩ := r
    refine q g1 H1 st01 w1 _ gr1 (s1.setO e1 ra e2 fun j dj h1 hx h2 => s.noOne e0 i j dj h1 hx h2) (o.setO (st.backN e0))
theorem cs_asgG {tg e : Expr} {f : Ex} {is : List Nat} {ft : Tg} {pos : Pos} (he : CE X C E e f) (hg : CG X C is tg ft) (hs : swapsWithSole [tg] e pos.line X.env = pure false := by rfl) (hw : swappedStores [tg] e X.env = pure none := by rfl)
    (h1 : (assignEach [tg] X.env).map (·.2) = [assign tg X.env] := by rfl) : CS X C E (.Assign [tg] e pos) (sAsgG ft f) :=
  PS.imp (ps_asg he hg hs hw h1) fun De σ H ⟨g0, H0, gs, g, S, t, st, gr, w, s, o, p⟩ => tS.ex st gr w s p fun d t1 g1 H1 v st1 st01 gr1 w1 s1 r q => by
    have q : Post C E g0 H0 (Rs X.K H0 gs De) ((match ft d S with | some S' => ret (Fl.nx S') | none => stuck) t1) := q
    cases z : ft d S with
    | none => rw [z] at q; exact q.elim
    | some S' =>
      rw [z] at q
      exact ⟨g1, S, t1, d, S', w1, s1, r, z, fun σ' s' _ _ k => q g1 H1 st01 w1 _ gr1 s' (o.keep k)⟩
theorem cs_par (i j : Nat) {x y : Str} {a b : Expr} {fa fb : Ex} {px py pt : Pos} {kt k2 pt2} {pos : Pos} (hN : X.N.Nodup) (ha : CE X C E a fa) (hb : CE X C E b fb) (hc : X.calm = true := by rfl) (hi : X.N[i]? = some x := by rfl) (hj : X.N[j]? = some y := by rfl) (hij : i ≠ j := by decide)
    (hx : X.env.scope.names.lookup x = some .local := by rfl) (hy : X.env.scope.names.lookup y = some .local := by rfl)
    (hw : swappedStores [.Tuple [.Name x px, .Name y py] kt pt] (.Tuple [a, b] k2 pt2) X.env = pure (some [x, y]) := by rfl) (hs : swapsWithSole [.Tuple [.Name x px, .Name y py] kt pt] (.Tuple [a, b] k2 pt2) pos.line X.env = pure false := by rfl)
    (s1 : starEach [a, b] X.env = (false, eval a X.env) :: starEach [b] X.env := by rfl) (s2 : starEach [b] X.env = (false, eval b X.env) :: starEach [] X.env := by rfl) :
    CS X C E (.Assign [.Tuple [.Name x px, .Name y py] kt pt] (.Tuple [a, b] k2 pt2) pos) (sPar i j fa fb) :=
  PS.imp (ps_par hc hN hi hj hij hx hy (pa_cons ha (pa_cons hb pa_nil s2) s1) hw hs) fun De σ H ⟨g0, H0, gs, g, S, t, st, gr, w, s, o, p⟩ => tS.ex st gr w s p fun d t1 g1 H1 v st1 st01 gr1 w1 s1 r q =>
    tS.ex st01 gr1 w1 s1 q fun d2 t2 g2 H2 v2 st2 st02 gr2 w2 s2 r2 q2 => ⟨v, v2, rfl, q2 g2 H2 st02 w2 _ gr2 ((s2.set (r.stp st2)).set r2) o.set.set⟩
theorem cs_expr {e : Expr} {f : Ex} {pos : Pos} (he : CE X C E e f) (hs : swapsWith e none pos.line X.env = pure false := by rfl) : CS X C E (.Expr e pos) (sExpr f) :=
  PS.imp (ps_expr he hs) fun De σ H ⟨g0, H0, gs, g, S, t, st, gr, w, s, o, p⟩ => tS.ex st gr w s p fun d t1 g1 H1 v st1 st01 gr1 w1 s1 r q => q g1 H1 st01 w1 _ gr1 s1 o
theorem cs_ret {e : Expr} {f : Ex} {pos : Pos} (he : CE X C E e f) : CS X C E (.Return (some e) pos) (sRet f) :=
  PS.imp (ps_ret he) fun De σ H ⟨g0, H0, gs, g, S, t, st, gr, w, s, o, p⟩ => tS.ex st gr w s p fun d t1 g1 H1 v st1 st01 gr1 w1 s1 r q => q g1 H1 st01 w1 v gr1 r
theorem cs_if {c : Expr} {a b : List Stmt} {fc : Ex} {fa fb : Stm} {pos : Pos} (hc : CT X C E c fc) (ha : CSs X C E a fa) (hb : CSs X C E b fb) : CS X C E (.If c a b pos) (sIf fc fa fb) :=
  PS.imp (ps_if hc ha hb) fun De σ H ⟨g0, H0, gs, g, S, t, st, gr, w, s, o, p⟩ => tS.tst (k := fun d => match d with | .bl true => fa S | .bl false => fb S | _ => stuck) st gr w s p (fun d t h => by cases d <;> first | rfl | exact absurd rfl (h _)) fun b t1 g1 H1 st1 st01 gr1 w1 s1 q => by
    cases b with
    | true => exact iteT ⟨g0, H0, gs, g1, S, t1, st01, gr1, w1, s1, o, q⟩
    | false => exact iteF ⟨g0, H0, gs, g1, S, t1, st01, gr1, w1, s1, o, q⟩
/-- a list of one's own is frozen (a ghost's step) -/
theorem cs_frz (i : Nat) {st : Stmt} {f : Stm} (h : CS X C E st f) : CS X C E st (sFrz i f) := PS.imp h fun De σ H ⟨g0, H0, gs, g, S, t, st, gr, w, s, o, p⟩ => by
  unfold sFrz at p
  cases e : S[i]? with
  | none => rw [e] at p; exact ⟨g0, H0, gs, g, S, t, st, gr, w, s, o, p⟩
  | some sv =>
    rw [e] at p
    cases sv with
    | un => exact ⟨g0, H0, gs, g, S, t, st, gr, w, s, o, p⟩
    | val d => exact ⟨g0, H0, gs, g, S, t, st, gr, w, s, o, p⟩
    | dic d => exact ⟨g0, H0, gs, g, S, t, st, gr, w, s, o, p⟩
    | dcT d => exact ⟨g0, H0, gs, g, S, t, st, gr, w, s, o, p⟩
    | raw d => exact ⟨g0, H0, gs, g, S, t, st, gr, w, s, o, p⟩
    | exn d => exact ⟨g0, H0, gs, g, S, t, st, gr, w, s, o, p⟩
    | own ds =>
      obtain ⟨a, vs, h1, h2, h3, h4⟩ := s.own i ds e
      have h0 := o i _ a e rfl h1
      obtain ⟨g2, st2, w2, r2⟩ : ∃ g', Stp g0 H0 g' H ∧ Wf C g' H t ∧ (Rp X.K g' (.ref a) (.lst ds) ∧ Same g.Fz g'.Fz ∧ (TwLe g g' ∧ ∀ b, g'.isTw b → g.isTw b) ∧ ∀ b, b ≠ a → g'.Fz b = g.Fz b) := by
        have sm : Same g.Fz (upd g.Fz a (.lst vs)) := fun b o h => by
          rw [upd_ne (ne_of_none h h4.1)]; exact h
        refine ⟨⟨upd g.Fz a (.lst vs), g.tw, g.ad, g.lg⟩, ⟨st.fz.trans sm, st.tw.trans .of, st.twn, st.frm, st.thr, fun b h => ?_⟩, ⟨fun b o h => ?_, ⟨w.tw.1, w.tw.2.frz sm⟩, fun b h => ?_, w.tab, nft_upd w.nft fun _ z => by cases z⟩, ?_, sm, ⟨.of, fun _ h => h⟩, fun b hb => upd_ne hb⟩
        · have nb : b ≠ a := fun z => h0 (by rw [← z]; exact h)
          show upd g.Fz a (.lst vs) b = _
          rw [upd_ne nb]
          exact st.new b h
        · have h : upd g.Fz a (.lst vs) b = some o := h
          by_cases hb : b = a
          · rw [hb, upd_same] at h
            cases h
            rw [hb]; exact h2
          · rw [upd_ne hb] at h
            exact w.fz b o h
        · have nb : b ≠ a := fun z => h4.2 (by rw [← z]; exact h)
          show upd g.Fz a (.lst vs) b = _
          rw [upd_ne nb]
          exact w.ntw b h
        · exact .lst upd_same (RpA.mono (g' := ⟨upd g.Fz a (.lst vs), g.tw, g.ad, g.lg⟩) sm .of h3)
      obtain ⟨r2, sm, tw, nw⟩ := r2
      have tw' := tw.1
      have s2 : SL X.K g2 H σ (S.set i (.val (.lst ds))) := by
        refine ⟨by rw [List.length_set]; exact s.len, fun j x e2 => ?_, fun j k p x y e1 e2 o1 o2 e3 e4 => ?_⟩
        · by_cases hj : i = j
          · subst hj
            obtain ⟨hl, _⟩ := List.getElem?_eq_some_iff.mp e
            rw [List.getElem?_set_self hl] at e2
            cases e2
            exact ⟨_, h1, r2⟩
          · rw [List.getElem?_set_ne hj] at e2
            have h := s.ok j x e2
            cases x with
            | un => trivial
            | raw v => exact h
            | exn v => exact h
            | val d => obtain ⟨v, k1, k2⟩ := h; exact ⟨v, k1, k2.mono sm tw'⟩
            | own dj =>
              obtain ⟨b, us, k1, k2, k3, k4⟩ := h
              have nb : b ≠ a := fun z => hj (s.dis i j a _ _ e e2 rfl rfl h1 (by rw [← z]; exact k1))
              exact ⟨b, us, k1, k2, k3.mono sm tw', by rw [nw b nb]; exact k4.1, fun z => k4.2 (tw.2 b z)⟩
            | dcT kj =>
              obtain ⟨b, L, k1, k2, k3, k4⟩ := h
              have nb : b ≠ a := fun z => hj (s.dis i j a _ _ e e2 rfl rfl h1 (by rw [← z]; exact k1))
              exact ⟨b, L, k1, k2, ⟨k3.keys, k3.nd, fun x hx => (k3.kt x hx).mono sm tw', k3.vs.mono sm tw'⟩, by rw [nw b nb]; exact k4.1, fun z => k4.2 (tw.2 b z)⟩
            | dic kj =>
              obtain ⟨b, us, k1, k2, k3, k4, k5⟩ := h
              have nb : b ≠ a := fun z => hj (s.dis i j a _ _ e e2 rfl rfl h1 (by rw [← z]; exact k1))
              exact ⟨b, us, k1, k2, ⟨k3.1, k3.2.mono sm tw'⟩, by rw [nw b nb]; exact k4, fun z => k5 (tw.2 b z)⟩
        · have n1 := set_ow e1 o1
          have n2 := set_ow e2 o2
          rw [List.getElem?_set_ne n1] at e1
          rw [List.getElem?_set_ne n2] at e2
          exact s.dis j k p x y e1 e2 o1 o2 e3 e4
      refine ⟨g0, H0, gs, g2, _, t, st2, gr.trans ⟨sm, tw'⟩, w2, s2, fun j dj p e1 ox e2 => ?_, p⟩
      have n := set_ow e1 ox
      rw [List.getElem?_set_ne n] at e1
      exact o j dj p e1 ox e2
/-- a list of one's own is changed -/
theorem SL.updO {K : PySem.W.Frag} {g : G} {H : Hp} {σ : L2.St} {S : Sl} {i : Nat} {a : Addr} {vs : List V} {ds0 ds : List D} (s : SL K g H σ S) (e : S[i]? = some (.own ds0)) (h1 : σ[i]? = some (some (.ref a))) (ra : RpA K g vs ds) : SL K g (upd H a (.lst vs)) σ (S.set i (.own ds)) := by
  obtain ⟨b, us, k1, k2, k3, k4⟩ := s.own i ds0 e
  rw [h1] at k1
  cases k1
  exact s.updX e rfl h1 rfl ⟨a, vs, rfl, upd_same, ra, k4⟩
theorem OwnF.updX {H0 : Hp} {σ : L2.St} {S : Sl} {i : Nat} {x y : SV} (o : OwnF H0 σ S) (e : S[i]? = some x) (ox : isOw x = true) : OwnF H0 σ (S.set i y) := fun j dj p e1 oy e2 => by
  by_cases hj : i = j
  · subst hj; exact o i x p e ox e2
  · rw [List.getElem?_set_ne hj] at e1
    exact o j dj p e1 oy e2
theorem OwnF.updO {H0 : Hp} {σ : L2.St} {S : Sl} {i : Nat} {ds0 ds : List D} (o : OwnF H0 σ S) (e : S[i]? = some (.own ds0)) : OwnF H0 σ (S.set i (.own ds)) := o.updX e rfl
theorem Stp.updO {g0 g : G} {H0 H : Hp} {a : Addr} {ob : HO} (st : Stp g0 H0 g H) (h0 : ¬ Nt H0 a) : Stp g0 H0 g (upd H a ob) := ⟨st.fz, st.tw, st.twn, fun b o e1 e2 e3 => by rw [upd_ne (fun z => h0 ⟨o, by rw [← z]; exact e1, e3⟩)]; exact st.frm b o e1 e2 e3, fun b e1 => by
  obtain ⟨o', e', n'⟩ := st.thr b e1
  exact ⟨o', by rw [upd_ne (fun z => h0 (by rw [← z]; exact e1))]; exact e', n'⟩, st.new⟩
theorem cs_app (i : Nat) {x : Str} {e : Expr} {f : Ex} {p1 apos cpos pos : Pos} (he : CE X C E e f) (hN : X.N[i]? = some x := by rfl) (hv : Vis X.env.scope x := by first | exact Or.inl rfl | exact Or.inr (Or.inl rfl) | exact Or.inr (Or.inr rfl)) (hd : (x == ("__debug__" : Str)) = false := by decide)
    (hcd : (x == ("__classdict__" : Str)) = false := by decide) (hbase : attributeBase (.Name x p1) "append" X.env (eval (.Name x p1) X.env) = eval (.Name x p1) X.env := by rfl)
    (hfew : ((backTo cpos (starEach [e] X.env)).all (fun x => !x.1) && (backToKw cpos (keywordEach [] X.env)).all (fun x => x.1.isSome) && decide ([e].length + ([] : List Keyword).length + (if ([] : List Keyword).isEmpty then 0 else 1) < 30)) = true := by rfl)
    (hline : (apos.endLine == cpos.line) = true := by rfl) (hs : starEach [e] X.env = (false, eval e X.env) :: starEach [] X.env := by rfl) (hplain : (backTo cpos (starEach [] X.env)).any (·.1) = false := by rfl) (hsw : swapsWith (.Call (.Attribute (.Name x p1) "append" apos) [e] [] cpos) none pos.line X.env = pure false := by rfl) :
    CS X C E (.Expr (.Call (.Attribute (.Name x p1) "append" apos) [e] [] cpos) pos) (sApp i f) :=
  PS.imp (ps_expr (pe_bm PySem.F.plainAttrs_list PySem.F.slot_list_append PySem.F.type_list_append mt_append (pe_var hN hv hd hcd) (pa_cons he pa_nil hs) hbase hfew hline hs hplain) hsw) fun De σ H ⟨g0, H0, gs, g, S, t, st, gr, w, s, o, p⟩ => by
    unfold sApp at p
    cases e : S[i]? with
    | none => rw [e] at p; exact p.elim
    | some sv =>
      rw [e] at p
      cases sv with
      | un => exact p.elim
      | val d => exact p.elim
      | dic d => exact p.elim
      | dcT d => exact p.elim
      | raw d => exact p.elim
      | exn d => exact p.elim
      | own ds =>
        obtain ⟨a, vs, h1, h2, h3, h4⟩ := s.own i ds e
        refine ⟨_, h1, .inl ⟨rfl, vs, .of h2⟩, tS.ex st gr w s p fun d t1 g1 H1 v st1 st01 gr1 w1 s1 r q => ?_⟩
        have q : Post C E g0 H0 (Rs X.K H0 gs De) ((if ds.length < sizeLine then ret (Fl.nx (S.set i (.own (ds ++ [d])))) else stuck) t1) := q
        split at q
        · rename_i hz
          obtain ⟨a', vs', k1, k2, k3, k4⟩ := s1.own i ds e
          rw [h1] at k1
          cases k1
          refine ⟨a, vs', v, rfl, rfl, k2, by rw [k3.length]; exact hz, ?_⟩
          exact q g1 _ (st01.updO (o i _ a e rfl h1)) (w1.updL k2 k4) _ gr1 (s1.updO e h1 (k3.app (.one r))) (o.updO e)
        · exact q.elim
theorem cs_ext (i : Nat) {x : Str} {e : Expr} {f : Ex} {p1 apos cpos pos : Pos} (he : CW X C E e f) (hN : X.N[i]? = some x := by rfl) (hv : Vis X.env.scope x := by first | exact Or.inl rfl | exact Or.inr (Or.inl rfl) | exact Or.inr (Or.inr rfl)) (hd : (x == ("__debug__" : Str)) = false := by decide)
    (hcd : (x == ("__classdict__" : Str)) = false := by decide) (hbase : attributeBase (.Name x p1) "extend" X.env (eval (.Name x p1) X.env) = eval (.Name x p1) X.env := by rfl)
    (hfew : ((backTo cpos (starEach [e] X.env)).all (fun x => !x.1) && (backToKw cpos (keywordEach [] X.env)).all (fun x => x.1.isSome) && decide ([e].length + ([] : List Keyword).length + (if ([] : List Keyword).isEmpty then 0 else 1) < 30)) = true := by rfl)
    (hline : (apos.endLine == cpos.line) = true := by rfl) (hs : starEach [e] X.env = (false, eval e X.env) :: starEach [] X.env := by rfl) (hplain : (backTo cpos (starEach [] X.env)).any (·.1) = false := by rfl) (hsw : swapsWith (.Call (.Attribute (.Name x p1) "extend" apos) [e] [] cpos) none pos.line X.env = pure false := by rfl) :
    CS X C E (.Expr (.Call (.Attribute (.Name x p1) "extend" apos) [e] [] cpos) pos) (sExt i f) :=
  PS.imp (ps_expr (pe_bm PySem.F.plainAttrs_list PySem.F.slot_list_extend PySem.F.type_list_extend mt_extend (pe_var hN hv hd hcd) (pa_cons he pa_nil hs) hbase hfew hline hs hplain) hsw) fun De σ H ⟨g0, H0, gs, g, S, t, st, gr, w, s, o, p⟩ => by
    unfold sExt at p
    cases e : S[i]? with
    | none => rw [e] at p; exact p.elim
    | some sv =>
      rw [e] at p
      cases sv with
      | un => exact p.elim
      | val d => exact p.elim
      | dic d => exact p.elim
      | dcT d => exact p.elim
      | raw d => exact p.elim
      | exn d => exact p.elim
      | own ds =>
        obtain ⟨a, vs, h1, h2, h3, h4⟩ := s.own i ds e
        refine ⟨_, h1, .inl ⟨rfl, vs, .of h2⟩, tS.exW st gr w s p fun d t1 g1 H1 v st1 st01 gr1 w1 s1 r q => ?_⟩
        cases d with
        | lst es =>
          have q : Post C E g0 H0 (Rs X.K H0 gs De) ((if ds.length + es.length ≤ sizeLine then ret (Fl.nx (S.set i (.own (ds ++ es)))) else stuck) t1) := q
          split at q
          · rename_i hz
            obtain ⟨a', vs', k1, k2, k3, k4⟩ := s1.own i ds e
            rw [h1] at k1
            cases k1
            obtain ⟨b, us, rfl, m1, m2⟩ := r.lst w1
            refine ⟨a, b, vs', us, rfl, rfl, k2, m1, by rw [k3.length, m2.length]; exact hz, ?_⟩
            exact q g1 _ (st01.updO (o i _ a e rfl h1)) (w1.updL k2 k4) _ gr1 (s1.updO e h1 (k3.app m2)) (o.updO e)
          · exact q.elim
        | _ => exact q.elim
/-- x[k] = e of a list of one's own -/
theorem cs_put (i : Nat) {x : Str} {k e : Expr} {fk f : Ex} {p1 pos' pos : Pos} (he : CE X C E e f) (hk : CE X C E k fk) (hN : X.N[i]? = some x := by rfl) (hv : Vis X.env.scope x := by first | exact Or.inl rfl | exact Or.inr (Or.inl rfl) | exact Or.inr (Or.inr rfl)) (hd : (x == ("__debug__" : Str)) = false := by decide)
    (hcd : (x == ("__classdict__" : Str)) = false := by decide)
    (ha : ∀ v, assign (.Subscript (.Name x p1) k pos') X.env v = (do
      let ov ← holding [v] (eval (.Name x p1) X.env)
      let iv ← holding [v, ov] (eval k X.env)
      standAt pos'
      holding [v, ov, iv] (setItem ov iv v)
      release [v, ov, iv] []) := by intro _; rfl) (hs : swapsWithSole [.Subscript (.Name x p1) k pos'] e pos.line X.env = pure false := by rfl) (hw : swappedStores [.Subscript (.Name x p1) k pos'] e X.env = pure none := by rfl)
    (h1 : (assignEach [.Subscript (.Name x p1) k pos'] X.env).map (·.2) = [assign (.Subscript (.Name x p1) k pos') X.env] := by rfl) : CS X C E (.Assign [.Subscript (.Name x p1) k pos'] e pos) (sPut i fk f) :=
  PS.imp (ps_asg he (pg_sub (pe_var hN hv hd hcd) hk set_list ha) hs hw h1) fun De σ H ⟨g0, H0, gs, g, S, t, st, gr, w, s, o, p⟩ => by
    unfold sPut at p
    cases e : S[i]? with
    | none => rw [e] at p; exact p.elim
    | some sv =>
      rw [e] at p
      cases sv with
      | un => exact p.elim
      | val d => exact p.elim
      | dic d => exact p.elim
      | dcT d => exact p.elim
      | raw d => exact p.elim
      | exn d => exact p.elim
      | own ds =>
        refine tS.ex st gr w s p fun d t1 g1 H1 v st1 st01 gr1 w1 s1 r q => ?_
        obtain ⟨a, vs, h1, h2, h3, h4⟩ := s1.own i ds e
        refine ⟨_, h1, tS.ex st01 gr1 w1 s1 q fun n t2 g2 H2 v2 st2 st02 gr2 w2 s2 r2 q2 => ?_⟩
        cases n with
        | int n =>
          have q2 : Post C E g0 H0 (Rs X.K H0 gs De) ((match ixN ds.length n with | some j => ret (Fl.nx (S.set i (.own (ds.set j d)))) | none => stuck) t2) := q2
          cases z : ixN ds.length n with
          | none => rw [z] at q2; exact q2.elim
          | some j =>
            rw [z] at q2
            cases r2
            obtain ⟨a', vs', k1, k2, k3, k4⟩ := s2.own i ds e
            rw [h1] at k1
            cases k1
            refine ⟨a, vs', n, j, rfl, rfl, k2, by rw [k3.length]; exact z, ?_⟩
            exact q2 g2 _ (st02.updO (o i _ a e rfl h1)) (w2.updL k2 k4) _ gr2 (s2.updO e h1 (RpA.set (r.stp st2) j k3)) (o.updO e)
        | _ => exact q2.elim
theorem PS.nox {st : Stmt} {t : TS} (h : PS X.nox st t) : PS X st t := ⟨fun pins s σ H D I hw =>
  wpAny_mono (h.run pins s σ H D (I.wish _) hw) (fun _ _ q => q.unwish) fun _ _ z => False.elim z⟩
theorem cs_for {tg iter : Expr} {body : List Stmt} {fi : Sl → M (List D)} {is : List Nat} {ft : Tg} {fb : Stm} {pos : Pos} (hc : X.calm = true) (hi : CI X.nox C E0 tg iter fi) (hg : CG X.nox C is tg ft) (hb : CSs X.nox C E0 body fb)
    (hs : ∀ x, foldedSetIterable iter X.env x = pure x := by intro _; rfl) : CS X C E (.For tg iter body [] pos) (sFor fi ft fb) := by
  refine PS.imp (PS.nox (ps_for (X := X.nox) PassesOwn.never hc hi hg hb hs)) fun De σ H ⟨g0, H0, gs, g, S, t, st, gr, w, s, o, p⟩ => ?_
  refine ⟨g, S, t, w, s, (Post.calm p.bnd0 E0 |>.stp st).imp fun ds t1 g1 H1 st1 w1 q J wk => ?_⟩
  have gr1 := gr.trans st1.gw
  refine ⟨fun i m σk Hk => m = ds.length - i ∧ i ≤ ds.length ∧ ∃ gk Sk tk, Stp g0 H0 gk Hk ∧ Gw g1 gk ∧ Wf C gk Hk tk ∧ SL X.K gk Hk σk Sk ∧ OwnF H0 σk Sk ∧ Post C E g0 H0 (Rs X.K H0 gs De) (forL ft fb (ds.drop i) Sk tk),
    ⟨ds.length, by simp, Nat.zero_le _, g1, S, t1, st.trans st1, .refl _, w1, s.stp w st1, o, by rw [List.drop_zero]; exact q⟩, ?_⟩
  rintro i m σk Hk ⟨rfl, hi', gk, Sk, tk, stk, gwk, wk', sk, ok, pk⟩
  obtain ⟨wgo, wstop⟩ := wk i Hk (gwk.fz.trans wk'.fz)
  by_cases hlt : i < ds.length
  · have ed : ds[i]? = some ds[i] := List.getElem?_eq_getElem hlt
    obtain ⟨go, yl⟩ := wgo _ ed
    have edr : ds.drop i = ds[i] :: ds.drop (i + 1) := List.drop_eq_getElem_cons hlt
    rw [edr] at pk
    refine .inr ⟨go, fun σn Hn => ∃ gn Sn tn, Stp g0 H0 gn Hn ∧ Gw g1 gn ∧ Wf C gn Hn tn ∧ SL X.K gn Hn σn Sn ∧ OwnF H0 σn Sn ∧ Post C E g0 H0 (Rs X.K H0 gs De) (forL ft fb (ds.drop (i + 1)) Sn tn), fun σ' H' hn => ⟨_, Nat.sub_lt_sub_left hlt (Nat.lt_succ_self i), rfl, hlt, hn⟩, fun x H' hy => ?_⟩
    obtain ⟨g3, st3, w3, r3, kp3⟩ := (yl x H' hy).stp gwk.fz gwk.tw wk'
    have sl3 := sk.stp wk' st3
    have pk : Post C E g0 H0 (Rs X.K H0 gs De) ((match ft ds[i] Sk with
      | none => stuck
      | some S' => bnd (calm (fb S')) fun fl => match fl with
        | .nx S'' => forL ft fb (ds.drop (i + 1)) S''
        | .ret v => ret (.ret v)) tk) := pk
    cases eft : ft ds[i] Sk with
    | none => rw [eft] at pk; exact pk.elim
    | some S' =>
      rw [eft] at pk
      refine ⟨g3, Sk, tk, _, S', w3, sl3, r3, eft, fun σ2 sl2 _ _ k2 => ?_⟩
      have pb := Post.calm pk.bnd0 E0
      refine ⟨g0, H0, g1, g3, S', tk, stk.trans st3, gwk.trans st3.gw, w3, sl2, ok.keep k2, pb.imp fun fl t4 g4 H4 st4 w4 q4 => ?_⟩
      cases fl with
      | nx S'' => exact fun σ' gw' s' o' => ⟨g4, S'', t4, st4, gw', w4, s', o', q4⟩
      | ret d => exact fun v gw' r => q4 g4 H4 st4 w4 v (gr1.trans gw') r
  · have e : i = ds.length := by omega
    subst e
    rw [List.drop_length] at pk
    exact .inl ⟨wstop (Nat.le_refl _), pk gk Hk stk wk' σk (gr1.trans gwk) sk ok⟩
theorem cs_while {c : Expr} {body : List Stmt} {n : Nat} {fc : Ex} {fb : Stm} {pos : Pos} (hc : CT X.nox C E0 c fc) (hb : CSs X.nox C E0 body fb) : CS X C E (.While c body [] pos) (sWhile n fc fb) := by
  refine PS.imp (PS.nox (ps_while (X := X.nox) PassesOwn.never hc hb)) fun De σ H ⟨g0, H0, gs, g, S, t, st, gr, w, s, o, p⟩ => ?_
  refine ⟨fun m σk Hk => ∃ gk Sk tk, Stp g0 H0 gk Hk ∧ Gw gs gk ∧ Wf C gk Hk tk ∧ SL X.K gk Hk σk Sk ∧ OwnF H0 σk Sk ∧ Post C E g0 H0 (Rs X.K H0 gs De) (whileL fc fb m Sk tk), ⟨n, g, S, t, st, gr, w, s, o, p⟩, ?_⟩
  rintro m σk Hk ⟨gk, Sk, tk, stk, gwk, wk, sk, ok, pk⟩
  cases m with
  | zero => exact pk.elim
  | succ m =>
    have pk : Post C E g0 H0 (Rs X.K H0 gs De) (bnd (calm (fc Sk)) (fun d => match d with
      | .bl true => bnd (calm (fb Sk)) fun fl => match fl with
        | .nx S'' => whileL fc fb m S''
        | .ret v => ret (.ret v)
      | .bl false => ret (.nx Sk)
      | _ => stuck) tk) := pk
    refine ⟨gk, Sk, tk, wk, sk, (Post.calm pk.bnd0 E0 |>.stp stk).imp fun d t1 g1 H1 st1 w1 q => ?_⟩
    cases d with
    | bl b =>
      refine ⟨b, rfl, ?_⟩
      cases b with
      | true =>
        refine iteT ⟨fun σn Hn => ∃ gn Sn tn, Stp g0 H0 gn Hn ∧ Gw gs gn ∧ Wf C gn Hn tn ∧ SL X.K gn Hn σn Sn ∧ OwnF H0 σn Sn ∧ Post C E g0 H0 (Rs X.K H0 gs De) (whileL fc fb m Sn tn), fun σ' H' hn => ⟨m, Nat.lt_succ_self m, hn⟩, ?_⟩
        have pb := Post.calm q.bnd0 E0
        refine ⟨g0, H0, gs, g1, Sk, t1, stk.trans st1, gwk.trans st1.gw, w1, sk.stp wk st1, ok, pb.imp fun fl t4 g4 H4 st4 w4 q4 => ?_⟩
        cases fl with
        | nx S'' => exact fun σ' gw' s' o' => ⟨g4, S'', t4, st4, gw', w4, s', o', q4⟩
        | ret d => exact fun v gw' r => q4 g4 H4 st4 w4 v gw' r
      | false => exact iteF (q g1 H1 (stk.trans st1) w1 σk (gwk.trans st1.gw) (sk.stp wk st1) ok)
    | _ => exact q.elim
theorem cs_asgLc (i : Nat) {y : Str} {py : Pos} {elt tg iter : Expr} {ifs : List Expr} {scope : Scope} {own : List (Str × Nat)} {pos spos : Pos} {is : List Nat} {fi : Sl → M (List D)} {ft : Tg} {fc fe : Ex} (hc : X.calm = true) (hN : X.N.Nodup) (hyl : X.env.scope.names.lookup y = some .local)
    (hsw : swapsWith (.ListComp elt [⟨tg, iter, ifs, 0⟩] scope pos) (some (.Name y py)) spos.line X.env = pure true) (hi : CIW X C E tg iter fi) (ok : BlkOk X.N X.env.scope scope own) (hv : ∀ i ∈ is, i ∈ own.map (·.2))
    (hg : ∀ (s : Shared) (H : Hp) (Ca : Addr) (cl : List (Str × Addr)) (fp : List Addr), CG (X.blk s H scope (compEnvC scope cl Ca X.env) fp) C is tg ft) (ht : ∀ (s : Shared) (H : Hp) (Ca : Addr) (cl : List (Str × Addr)) (fp : List Addr), CTs (X.blk s H scope (compEnvC scope cl Ca X.env) fp) C E0 ifs fc)
    (he : ∀ (s : Shared) (H : Hp) (Ca : Addr) (cl : List (Str × Addr)) (fp : List Addr), CE (X.blk s H scope (compEnvC scope cl Ca X.env) fp) C E0 elt fe) (hy : X.N[i]? = some y := by rfl) (hs : ∀ x, foldedSetIterable iter X.env x = pure x := by intro _; rfl) :
    CS X C E (.Assign [.Name y py] (.ListComp elt [⟨tg, iter, ifs, 0⟩] scope pos) spos) (sAsg i (eComp (own.map (·.2)) fi ft fc fe)) :=
  PS.imp (ps_setLc (te := tE X.K C E0 fe) (g := tG X.K C is ft) (tt := tT X.K C E0 fc) hc hN hy hyl hsw hi ok hg ht he hs) fun De σ H ⟨g0, H0, gs, g, S, t, st, gr, w, s, o, p⟩ => tF.lc hv (tS.exF st gr w s p fun d t1 g1 H1 v st1 st01 gr1 w1 s1 r q => by
    obtain ⟨g2, st2, w2, r2⟩ := Rp.frz r st1 w1
    exact q g2 H1 (st.trans st2) w2 _ (gr.trans st2.gw) ((s.stp w st2).set r2) o.set)
end
def slots0 (n : Nat) (ds : List D) : Sl := ds.map SV.val ++ List.replicate (n - ds.length) .un
def fnOf (n : Nat) (body : Stm) : Fn := fun ds => bnd (body (slots0 n ds)) fun fl => match fl with
  | .nx _ => ret .non
  | .ret d => ret d
theorem SL.start {K : PySem.W.Frag} {g : G} {H : Hp} {N : List Str} {vs : List V} {ds : List D} (r : RpA K g vs ds) : SL K g H (L2.start N vs) (slots0 N.length ds) := by
  have hl := r.length
  have un : ∀ {i : Nat} {x : SV}, (slots0 N.length ds)[i]? = some x → x ≠ .un → i < ds.length ∧ ∃ d, ds[i]? = some d ∧ x = .val d := fun {i x} e hx => by
    unfold slots0 at e
    by_cases h : i < ds.length
    · rw [List.getElem?_append_left (by rw [List.length_map]; exact h), List.getElem?_map] at e
      cases z : ds[i]? with
      | none => rw [z] at e; cases e
      | some d =>
        rw [z] at e
        cases e
        exact ⟨h, d, rfl, rfl⟩
    · rw [List.getElem?_append_right (by rw [List.length_map]; omega), List.getElem?_replicate] at e
      split at e
      · cases e; exact absurd rfl hx
      · cases e
  refine ⟨by unfold L2.start slots0; rw [List.length_append, List.length_append, List.length_map, List.length_map, List.length_replicate, List.length_replicate, hl], fun i x e => ?_, fun i j p x y e1 _ ox => ?_⟩
  · by_cases hx : x = .un
    · subst hx; trivial
    · obtain ⟨h, d', e1, e2⟩ := un e hx
      subst e2
      obtain ⟨v, e3, r3⟩ := r.get e1
      refine ⟨v, ?_, r3⟩
      unfold L2.start
      rw [List.getElem?_append_left (by rw [List.length_map]; omega), List.getElem?_map, e3]; rfl
  · obtain ⟨h, d', _, e2⟩ := un e1 (fun z => by subst z; cases ox)
    subst e2
    cases ox
theorem OwnF.start {H0 : Hp} {σ : L2.St} {n : Nat} {ds : List D} : OwnF H0 σ (slots0 n ds) := fun j x p e ox _ => by
  unfold slots0 at e
  by_cases h : j < ds.length
  · rw [List.getElem?_append_left (by rw [List.length_map]; exact h), List.getElem?_map] at e
    cases z : ds[j]? with
    | none => rw [z] at e; cases e
    | some d => rw [z] at e; cases e; cases ox
  · rw [List.getElem?_append_right (by rw [List.length_map]; omega), List.getElem?_replicate] at e
    split at e
    · cases e; cases ox
    · cases e
/-- THE RULE: a def of the text, its body as read -/
theorem fn_ok {P : Program} {w : World} {K : PySem.W.Frag} {mg : Str → Option Value} {base : Heap} {C : Cn} {x qual : Str} {st : Stmt} {f : Addr} {fd : FuncData} {N ps : List Str} {k : Nat} {body : Stm} (F : Fun K x qual st f fd) (S : FnScope N ps (defScope st))
    (hb : ∀ (cdv : Value) (A : Around) (outer : List Env) (s : Shared) (H : Hp) (E : XK), Room k (A.deeper (envOfC qual (defScope st) s.heap.objs.size f cdv)) →
      CSs (cxOf (L2.CX P w) P w K mg base N qual (defScope st) f cdv A outer s H E) C E (defBody st) body) : FnOk P w K mg base (L2.CX P w) (k + 1) f fd ps (spF K C ps.length (fnOf N.length body)) := by
  refine F.okX S (fun vs H Q E ⟨g, ds, t, r, w, hl, p⟩ => hl) fun cdv A outer s H vs Q E hr ⟨g, ds, t, r, w, hl, p⟩ => ⟨_, hb cdv A outer s H E hr, ?_⟩
  refine ⟨g, H, g, g, _, t, .refl _ _, .refl _, w, SL.start r, OwnF.start, p.bnd0.imp fun fl t1 g1 H1 st1 w1 q => ?_⟩
  cases fl with
  | nx S' => exact fun _ _ _ _ => q g1 H1 st1 w1 _ .non
  | ret d => exact fun v _ r => q g1 H1 st1 w1 v r
end BG
set_option Elab.async false
set_option linter.all false
set_option maxRecDepth 100000
set_option maxHeartbeats 4000000
namespace BG
open PySem PySem.Spec PyProof.Rows L2
def pPow : D → D → M D
  | .int i, .int j => if 0 ≤ j ∧ j ≤ 1000000 ∧ i.natAbs < 2 ^ 64 then ret (.int (i ^ j.toNat)) else stuck
  | _, _ => stuck
section
variable {X : Cx} {C : Cn} {E : XK}
theorem bin_pow : BinOk X C E (binaryOp .Pow) pPow := OpR.imp op_pow fun x y H Q ⟨g, t, p, q, w, rx, ry, h⟩ => by
  cases p <;> cases q <;> first | exact h.elim | skip
  rename_i i j
  have h : PostQ X.K C E g H Q ((if 0 ≤ j ∧ j ≤ 1000000 ∧ i.natAbs < 2 ^ 64 then ret (.int (i ^ j.toNat)) else stuck) t) := h
  split at h
  · exact ⟨_, _, rx.int, ry.int, by assumption, pRetV h w (.int _)⟩
  · exact h.elim
def isTown (S : Sl) (i : Nat) : Bool := match S[i]? with
  | some (.val .town) => true
  | _ => false
theorem isTown_eq {S : Sl} {i : Nat} (h : isTown S i = true) : S[i]? = some (.val .town) := by
  unfold isTown at h
  cases e : S[i]? with
  | none => rw [e] at h; cases h
  | some sv =>
    rw [e] at h
    cases sv with
    | val d => cases d <;> first | rfl | cases h
    | un => cases h
    | dic ds => cases h
    | dcT ds => cases h
    | raw ds => cases h
    | exn ds => cases h
    | own ds => cases h
def scrAt (S : Sl) (i : Nat) : Option (List Int) := match S[i]? with
  | some (.val (.scr ns)) => some ns
  | _ => none
theorem scrAt_eq {S : Sl} {i : Nat} {ns : List Int} (h : scrAt S i = some ns) : S[i]? = some (.val (.scr ns)) := by
  unfold scrAt at h
  cases e : S[i]? with
  | none => rw [e] at h; cases h
  | some sv =>
    rw [e] at h
    cases sv with
    | val d => cases d <;> first | (cases h; rfl) | cases h
    | un => cases h
    | dic ds => cases h
    | dcT ds => cases h
    | raw ds => cases h
    | exn ds => cases h
    | own ds => cases h
def oTC : M D := fun t => match t with
  | (some (c, rs), st) => some (.ok (.int c) (some (c, rs), st))
  | (none, _) => none
def eTC (i : Nat) : Ex := fun S => if isTown S i = true then oTC else stuck
theorem val_count {a b : V} : valV [((.inr "count" : Key), a), (.inr "rests", b)] (.inr "count") = some a := valV_pos rfl
theorem val_rests {a b : V} : valV [((.inr "count" : Key), a), (.inr "rests", b)] (.inr "rests") = some b := by
  rw [valV_neg (show ¬ ((Sum.inr "count" : Key) = .inr "rests") by decide +kernel)]
  exact valV_pos rfl
theorem town_at {K : PySem.W.Frag} {g : G} {H : Hp} {σ : L2.St} {S : Sl} {i : Nat} {c : Int} {rs : List (Int × Int)} {ob : Sto} (w : Wf C g H (some (c, rs), ob)) (s : SL K g H σ S) (e : S[i]? = some (.val .town)) :
    ∃ a b, g.tw = some (a, b) ∧ a ≠ b ∧ σ[i]? = some (some (.ref a)) ∧ H a = some (.dK [(.inr "count", .int c), (.inr "rests", .ref b)]) ∧ H b = some (.dK (rs.map fun p => (Sum.inl p.1, V.int p.2))) := by
  obtain ⟨a, b, e1, e2, e3, e4⟩ := w.tw.1
  obtain ⟨v, h1, h2⟩ := s.val i _ e
  cases h2 with
  | town e5 =>
    rw [e1] at e5
    cases e5
    exact ⟨a, b, e1, e2, h1, e3, e4⟩
theorem ce_tc (i : Nat) {x : Str} {j : Nat} {p1 p2 pos : Pos} (hu : X.A.units + 1 < cLine) (hN : X.N[i]? = some x := by rfl) (hv : Vis X.env.scope x := by first | exact Or.inl rfl | exact Or.inr (Or.inl rfl) | exact Or.inr (Or.inr rfl)) (hd : (x == ("__debug__" : Str)) = false := by decide)
    (hcd : (x == ("__classdict__" : Str)) = false := by decide) (hs : NoSl (.Constant (.str "count") j p2) := by exact fun _ _ => rfl) : CE X C E (.Subscript (.Name x p1) (.Constant (.str "count") j p2) pos) (eTC i) :=
  PE.imp (pe_dget hu (pe_var hN hv hd hcd) pe_str hs) fun σ H Q ⟨g, S, t, w, s, p⟩ => by
    unfold eTC at p
    by_cases hT : isTown S i = true
    · rw [if_pos hT] at p
      have e := isTown_eq hT
      obtain ⟨t, ob⟩ := t
      cases t with
      | none => exact p.elim
      | some cr =>
        obtain ⟨c, rs⟩ := cr
        have p : PostQ X.K C E g H Q (some (.ok (.int c) (some (c, rs), ob))) := p
        obtain ⟨a, b, e1, e2, e3, e4, e5⟩ := town_at w s e
        refine ⟨_, e3, a, .int c, rfl, ?_, p g H (.refl _ _) w _ (.int c)⟩
        have := DGet.k (k := .inr "count") e4
        rw [val_count] at this
        exact this
    · rw [if_neg hT] at p; exact p.elim
/-- a step that changes a draws' dict -/
theorem Stp.tww {g0 g : G} {H0 H : Hp} {a : Addr} {o : HO} (st : Stp g0 H0 g H) (h : g.isTw a) (ho : ∀ ps, o ≠ .tbl ps := by intro _ z; cases z) : Stp g0 H0 g (upd H a o) := ⟨st.fz, st.tw, st.twn, fun b o' e1 e2 e3 => by
  have nb : b ≠ a := fun z => by
    subst z
    exact st.ntw e1 e2 e3 h
  rw [upd_ne nb]
  exact st.frm b o' e1 e2 e3, fun b e1 => by
  by_cases hb : b = a
  · exact ⟨o, by rw [hb]; exact upd_same, ho⟩
  · obtain ⟨o', e', n'⟩ := st.thr b e1
    exact ⟨o', by rw [upd_ne hb]; exact e', n'⟩, st.new⟩
theorem SL.tww {K : PySem.W.Frag} {g : G} {H : Hp} {t : Tn} {σ : L2.St} {S : Sl} {a : Addr} {o : HO} (s : SL K g H σ S) (w : Wf C g H t) (ht : g.isTw a) : SL K g (upd H a o) σ S := ⟨s.len, fun i x e => by
  have q := s.ok i x e
  cases x with
  | un => trivial
  | raw v => exact q
  | exn c =>
    obtain ⟨p, h1, h2⟩ := q
    exact ⟨p, h1, by rw [upd_ne (fun z => w.ntX h2 (by rw [z]; exact ht))]; exact h2⟩
  | val d => exact q
  | own ds =>
    obtain ⟨p, vs, h1, h2, h3, h4⟩ := q
    exact ⟨p, vs, h1, by rw [upd_ne (fun z => h4.2 (by rw [z]; exact ht))]; exact h2, h3, h4⟩
  | dcT ks =>
    obtain ⟨p, L, h1, h2, h3, h4⟩ := q
    exact ⟨p, L, h1, by rw [upd_ne (fun z => h4.2 (by rw [z]; exact ht))]; exact h2, h3, h4⟩
  | dic ks =>
    obtain ⟨p, vs, h1, h2, h3, h4, h5⟩ := q
    exact ⟨p, vs, h1, by rw [upd_ne (fun z => h5 (by rw [z]; exact ht))]; exact h2, h3, h4, h5⟩, s.dis⟩
/-- what is no object of the store -/
theorem StOk.ndK {g : G} {H : Hp} {st : Sto} (s : StOk C g H st) {a : Addr} {kvs : List (Key × V)} (h : H a = some (.dK kvs)) : a ∉ g.ad := fun z => by
  obtain ⟨n, o, _, _, ok⟩ := s.get z
  obtain ⟨ho, h1, _, h2, _⟩ := ok.at
  rw [h] at h1
  exact h2 kvs (Option.some.inj h1).symm
theorem Wf.tww {g : G} {H : Hp} {t t' : Tn} {a : Addr} {kvs kvs' : List (Key × V)} (w : Wf C g H t) (h : H a = some (.dK kvs)) (ht : g.isTw a) (n : TownOk g (upd H a (.dK kvs')) t'.1) (es : t'.2 = t.2) : Wf C g (upd H a (.dK kvs')) t' := ⟨fun b o e => by
  have nb : b ≠ a := fun z => by rw [z, w.ntw a ht] at e; cases e
  rw [upd_ne nb]; exact w.fz b o e, ⟨n, by rw [es]; exact w.tw.2.keep (fun _ _ h => h) (.refl g) ⟨rfl, rfl⟩ fun b hb ho e => by rw [upd_ne fun z => w.tw.2.ndK h (by rw [← z]; exact hb)]; exact e⟩, w.ntw, fun q hq => by
  obtain ⟨ps, h1, h2, h3⟩ := w.tab q hq
  refine ⟨ps, by rw [upd_ne (ne_of h1 h (fun z => nomatch z))]; exact h1, h2, fun pos cv e => ?_⟩
  obtain ⟨c, e1, e2⟩ := h3 pos cv e
  exact ⟨c, e1, by rw [upd_ne (ne_of e2 h (fun z => by unfold LamX.CodeO at z; cases z))]; exact e2⟩, w.nft⟩
def sTC (i : Nat) (e : Ex) : Stm := fun S => if isTown S i = true then bnd (e S) fun d t => match d, t with
    | .int n, (some (_, rs), st) => some (.ok (.nx S) (some (n, rs), st))
    | _, _ => none
  else stuck
theorem put_count {a b v : V} : putK [((.inr "count" : Key), a), (.inr "rests", b)] (.inr "count") v = [(.inr "count", v), (.inr "rests", b)] := by
  have h : ([((.inr "count" : Key), a), (.inr "rests", b)].any fun kv => decide (kv.1 = .inr "count")) = true := by
    show (decide ((Sum.inr "count" : Key) = .inr "count") || (decide ((Sum.inr "rests" : Key) = .inr "count") || false)) = true
    decide +kernel
  unfold putK
  rw [if_pos h]
  show [if (Sum.inr "count" : Key) = .inr "count" then ((.inr "count" : Key), v) else (.inr "count", a), if (Sum.inr "rests" : Key) = .inr "count" then (.inr "rests", v) else (.inr "rests", b)] = _
  rw [if_pos rfl, if_neg (by decide +kernel)]
theorem cs_tc (i : Nat) {x : Str} {j : Nat} {e : Expr} {f : Ex} {p1 p2 pos' pos : Pos} (hu : X.A.units + 1 < cLine) (he : CE X C E e f) (hN : X.N[i]? = some x := by rfl) (hv : Vis X.env.scope x := by first | exact Or.inl rfl | exact Or.inr (Or.inl rfl) | exact Or.inr (Or.inr rfl)) (hd : (x == ("__debug__" : Str)) = false := by decide)
    (hcd : (x == ("__classdict__" : Str)) = false := by decide) (hs : swapsWith e (some (.Subscript (.Name x p1) (.Constant (.str "count") j p2) pos')) pos.line X.env = pure false := by rfl) : CS X C E (.Assign [.Subscript (.Name x p1) (.Constant (.str "count") j p2) pos'] e pos) (sTC i f) :=
  PS.imp (ps_dput hu (pe_var hN hv hd hcd) pe_str he hs) fun De σ H ⟨g0, H0, gs, g, S, t, st, gr, w, s, o, p⟩ => by
    unfold sTC at p
    by_cases hT : isTown S i = true
    case neg => rw [if_neg hT] at p; exact p.elim
    · rw [if_pos hT] at p
      have e := isTown_eq hT
      refine tS.ex st gr w s p fun d t1 g1 H1 v st1 st01 gr1 w1 s1 r q => ?_
      cases d with
      | int n =>
        obtain ⟨t1, ob⟩ := t1
        cases t1 with
        | none => exact q.elim
        | some cr =>
          obtain ⟨c, rs⟩ := cr
          cases r
          obtain ⟨a, b, e1, e2, e3, e4, e5⟩ := town_at w1 s1 e
          have q : Post C E g0 H0 (Rs X.K H0 gs De) (some (.ok (.nx S) (some (n, rs), ob))) := q
          have ht : g1.isTw a := .inl ⟨_, e1, .inl rfl⟩
          refine ⟨_, e3, a, _, rfl, DPut.k (k := .inr "count") e4 (show 2 < sizeLine by decide), ?_⟩
          rw [put_count]
          exact q g1 _ (st01.tww ht) (w1.tww e4 ht ⟨a, b, e1, e2, upd_same, by rw [upd_ne (Ne.symm e2)]; exact e5⟩ rfl) _ gr1 (s1.tww w1 ht) o
      | _ => exact q.elim
def rLook (rs : List (Int × Int)) (k : Int) : Option Int := (rs.find? fun p => decide (p.1 = k)).map (·.2)
def rPut (rs : List (Int × Int)) (k v : Int) : List (Int × Int) := if (rs.any fun p => decide (p.1 = k)) = true then rs.map fun p => if p.1 = k then (p.1, v) else p else rs ++ [(k, v)]
theorem rLook_val (k : Int) : ∀ rs : List (Int × Int), valV (rs.map fun p => ((Sum.inl p.1 : Key), V.int p.2)) (.inl k) = (rLook rs k).map V.int
  | [] => rfl
  | (a, b) :: r => by
    have ih := rLook_val k r
    by_cases h : a = k
    · subst h
      show valV (((Sum.inl a : Key), V.int b) :: _) (.inl a) = _
      rw [valV_pos rfl]
      unfold rLook
      rw [List.find?_cons]
      simp
    · show valV (((Sum.inl a : Key), V.int b) :: _) (.inl k) = _
      rw [valV_neg (fun z => h (Sum.inl.inj z)), ih]
      unfold rLook
      rw [List.find?_cons]
      simp [h]
theorem rPut_put (rs : List (Int × Int)) (k v : Int) : putK (rs.map fun p => ((Sum.inl p.1 : Key), V.int p.2)) (.inl k) (.int v) = (rPut rs k v).map fun p => ((Sum.inl p.1 : Key), V.int p.2) := by
  unfold putK rPut
  have e : ((rs.map fun p => ((Sum.inl p.1 : Key), V.int p.2)).any fun kv => decide (kv.1 = .inl k)) = rs.any fun p => decide (p.1 = k) := by
    rw [List.any_map]
    congr 1
    funext p
    show decide ((Sum.inl p.1 : Key) = .inl k) = decide (p.1 = k)
    exact decide_eq_decide.mpr ⟨fun z => Sum.inl.inj z, fun z => by rw [z]⟩
  rw [e]
  split
  · rw [List.map_map, List.map_map]
    congr 1
    funext p
    show (if (Sum.inl p.1 : Key) = .inl k then _ else _) = _
    by_cases h : p.1 = k
    · rw [if_pos (by rw [h]), Function.comp, if_pos h]
    · rw [if_neg (fun z => h (Sum.inl.inj z)), Function.comp, if_neg h]
  · rw [List.map_append]; rfl
/-- town['rests'].get(k, d) -/
def eTR (i : Nat) (k d : Ex) : Ex := fun S => if isTown S i = true then bnd (k S) fun a => bnd (d S) fun b t => match a, t with
    | .int n, (some (c, rs), st) => some (.ok (match rLook rs n with | some v => .int v | none => b) (some (c, rs), st))
    | _, _ => none
  else stuck
theorem ce_tr (i : Nat) {x : Str} {j : Nat} {k d : Expr} {fk fd : Ex} {p1 p2 p3 apos cpos : Pos} (hu : X.A.units + 1 < cLine) (hk : CE X C E k fk) (hdf : CE X C E d fd) (hN : X.N[i]? = some x := by rfl) (hv : Vis X.env.scope x := by first | exact Or.inl rfl | exact Or.inr (Or.inl rfl) | exact Or.inr (Or.inr rfl)) (hd : (x == ("__debug__" : Str)) = false := by decide)
    (hcd : (x == ("__classdict__" : Str)) = false := by decide) (hs : NoSl (.Constant (.str "rests") j p2) := by exact fun _ _ => rfl) (m : M2 X (.Subscript (.Name x p1) (.Constant (.str "rests") j p2) p3) "get" apos k d cpos := by exact ⟨rfl, rfl, rfl, rfl⟩) :
    CE X C E (.Call (.Attribute (.Subscript (.Name x p1) (.Constant (.str "rests") j p2) p3) "get" apos) [k, d] [] cpos) (eTR i fk fd) :=
  PE.imp (pe_dget2 hu (pe_dget hu (pe_var hN hv hd hcd) pe_str hs) hk hdf m) fun σ H Q ⟨g, S, t, w, s, p⟩ => by
    unfold eTR at p
    by_cases hT : isTown S i = true
    case neg => rw [if_neg hT] at p; exact p.elim
    · rw [if_pos hT] at p
      have e := isTown_eq hT
      obtain ⟨t, ob0⟩ := t
      cases t with
      | none =>
        obtain ⟨v, h1, h2⟩ := s.val i _ e
        cases h2 with
        | town e5 => rw [show g.tw = none from w.tw.1] at e5; cases e5
      | some cr =>
        obtain ⟨c, rs⟩ := cr
        obtain ⟨a, b, e1, e2, e3, e4, e5⟩ := town_at w s e
        refine ⟨_, e3, a, .ref b, rfl, ?_, b, rfl, .inl ⟨_, .inl e5⟩, ?_⟩
        · have := DGet.k (k := .inr "rests") e4
          rw [val_rests] at this
          exact this
        · refine ⟨g, S, _, w, s, p.bnd.imp fun n t1 g1 H1 st1 w1 q v r => ?_⟩
          refine ⟨g1, S, t1, w1, s.stp w st1, q.bnd.imp fun d2 t2 g2 H2 st2 w2 q2 v2 r2 => ?_⟩
          cases n with
          | int n =>
            cases r
            obtain ⟨t2, ob⟩ := t2
            cases t2 with
            | none => exact q2.elim
            | some cr2 =>
              obtain ⟨c2, rs2⟩ := cr2
              obtain ⟨a', b', f1, f2, f3, f4, f5⟩ := town_at w2 ((s.stp w st1).stp w1 st2) e
              have ea := st2.tw.t _ (st1.tw.t _ e1)
              rw [f1] at ea
              cases ea
              have q2 : PostQ X.K C E g2 H2 Q (some (.ok (match rLook rs2 n with | some v => .int v | none => d2) (some (c2, rs2), ob))) := q2
              refine ⟨_, DGet.k (k := .inl n) f5, ?_⟩
              rw [rLook_val]
              cases z : rLook rs2 n with
              | none => rw [z] at q2; exact q2 g2 H2 (.refl _ _) w2 _ r2
              | some m => rw [z] at q2; exact q2 g2 H2 (.refl _ _) w2 _ (Rp.int m)
          | _ => exact q2.elim
/-- town['rests'][k] = e -/
def sTR (i : Nat) (k e : Ex) : Stm := fun S => if isTown S i = true then bnd (e S) fun d => bnd (k S) fun a t => match d, a, t with
    | .int v, .int n, (some (c, rs), st) => if rs.length < 1000000 then some (.ok (.nx S) (some (c, rPut rs n v), st)) else none
    | _, _, _ => none
  else stuck
theorem cs_tr (i : Nat) {x : Str} {j : Nat} {k e : Expr} {fk f : Ex} {p1 p2 p3 pos' pos : Pos} (hu : X.A.units + 1 < cLine) (he : CE X C E e f) (hk : CE X C E k fk) (hN : X.N[i]? = some x := by rfl) (hv : Vis X.env.scope x := by first | exact Or.inl rfl | exact Or.inr (Or.inl rfl) | exact Or.inr (Or.inr rfl)) (hd : (x == ("__debug__" : Str)) = false := by decide)
    (hcd : (x == ("__classdict__" : Str)) = false := by decide) (hns : NoSl (.Constant (.str "rests") j p2) := by exact fun _ _ => rfl) (hs : swapsWith e (some (.Subscript (.Subscript (.Name x p1) (.Constant (.str "rests") j p2) p3) k pos')) pos.line X.env = pure false := by rfl) :
    CS X C E (.Assign [.Subscript (.Subscript (.Name x p1) (.Constant (.str "rests") j p2) p3) k pos'] e pos) (sTR i fk f) :=
  PS.imp (ps_dput hu (pe_dget hu (pe_var hN hv hd hcd) pe_str hns) hk he hs) fun De σ H ⟨g0, H0, gs, g, S, t, st, gr, w, s, o, p⟩ => by
    unfold sTR at p
    by_cases hT : isTown S i = true
    case neg => rw [if_neg hT] at p; exact p.elim
    · rw [if_pos hT] at p
      have e := isTown_eq hT
      refine tS.ex st gr w s p fun d t1 g1 H1 v st1 st01 gr1 w1 s1 r q => ?_
      obtain ⟨t1, ob1⟩ := t1
      cases t1 with
      | none =>
        obtain ⟨v, h1, h2⟩ := s1.val i _ e
        cases h2 with
        | town e5 => rw [show g1.tw = none from w1.tw.1] at e5; cases e5
      | some cr =>
        obtain ⟨c, rs⟩ := cr
        obtain ⟨a, b, e1, e2, e3, e4, e5⟩ := town_at w1 s1 e
        refine ⟨_, e3, a, .ref b, rfl, ?_, tS.ex st01 gr1 w1 s1 q fun n t2 g2 H2 v2 st2 st02 gr2 w2 s2 r2 q2 => ?_⟩
        · have := DGet.k (k := .inr "rests") e4
          rw [val_rests] at this
          exact this
        · cases d with
          | int vv =>
            cases n with
            | int n =>
              obtain ⟨t2, ob⟩ := t2
              cases t2 with
              | none => exact q2.elim
              | some cr2 =>
                obtain ⟨c2, rs2⟩ := cr2
                have q2 : Post C E g0 H0 (Rs X.K H0 gs De) (if rs2.length < 1000000 then some (.ok (.nx S) (some (c2, rPut rs2 n vv), ob)) else none) := q2
                split at q2
                · rename_i hz
                  cases r
                  cases r2
                  obtain ⟨a', b', f1, f2, f3, f4, f5⟩ := town_at w2 s2 e
                  have ea := st2.tw.t _ e1
                  rw [f1] at ea
                  cases ea
                  have ht : g2.isTw b := .inl ⟨_, f1, .inr rfl⟩
                  refine ⟨b, _, rfl, DPut.k (k := .inl n) f5 (by rw [List.length_map, sizeLine_eq]; omega), ?_⟩
                  rw [rPut_put]
                  exact q2 g2 _ (st02.tww ht) (w2.tww f5 ht ⟨a, b, f1, e2, by rw [upd_ne e2]; exact f4, upd_same⟩ rfl) _ gr2 (s2.tww w2 ht) o
                · exact q2.elim
            | _ => exact q2.elim
          | _ => cases n <;> exact q2.elim
/-- the script's truth -/
def eScr (i : Nat) : Ex := fun S => match scrAt S i with
  | some ns => ret (.bl (!ns.isEmpty))
  | none => stuck
theorem ct_scr (i : Nat) {x : Str} {pos : Pos} (hN : X.N[i]? = some x := by rfl) (hv : Vis X.env.scope x := by first | exact Or.inl rfl | exact Or.inr (Or.inl rfl) | exact Or.inr (Or.inr rfl)) (hd : (x == ("__debug__" : Str)) = false := by decide)
    (hcd : (x == ("__classdict__" : Str)) = false := by decide) : CT X C E (.Name x pos) (eScr i) := PT.imp (pt_truth (pe_var hN hv hd hcd) (by intro _; rfl)) fun σ H Q ⟨g, S, t, w, s, p⟩ => by
  unfold eScr at p
  cases e : scrAt S i with
  | none => rw [e] at p; exact p.elim
  | some ns =>
    rw [e] at p
    obtain ⟨v, h1, h2⟩ := s.val i _ (scrAt_eq e)
    cases h2 with
    | scr sq =>
      obtain ⟨b, eb, q⟩ := postRet p w
      cases eb
      exact ⟨_, h1, _, .inl ⟨_, Same.seq w.fz sq, by cases ns <;> rfl⟩, q⟩
/-- {'count': 0, 'rests': {}} -/
def eBegun : Ex := fun _ t => match t with
  | (none, st) => some (.ok .town (some (0, []), st))
  | (some _, _) => none
theorem ce_begun {j1 j2 j3 : Nat} {p1 p2 p3 p4 pos : Pos} : CE X C E (.Dict [some (.Constant (.str "count") j1 p1), some (.Constant (.str "rests") j2 p2)] [.Constant (.int 0) j3 p3, .Dict [] [] p4] pos) eBegun :=
  PE.imp (pe_disp (pps_cons pe_str pe_int (pps_cons pe_str pe_dnewK pps_nil)) rfl rfl (fun z => by cases z) (show 2 ≤ 15 by decide)) fun σ H Q ⟨g, S, t, w, s, p⟩ => by
    obtain ⟨t, ob⟩ := t
    cases t with
    | some cr => exact p.elim
    | none =>
      have p : PostQ X.K C E g H Q (some (.ok .town (some (0, []), ob))) := p
      intro a ha b hb
      have nba : b ≠ a := fun z => by rw [z, upd_same] at hb; cases hb
      have hb0 : H b = none := by rw [upd_ne nba] at hb; exact hb
      have g0 : g.tw = none := w.tw.1
      refine ⟨by rw [upd_ne (Ne.symm nba), upd_same], [(.inr "count", .int 0), (.inr "rests", .ref b)], rfl, (show 2 ≤ 15 by decide), ?_⟩
      have em : mergeK [] [((.inr "count" : Key), V.int 0), (.inr "rests", .ref b)] = [((.inr "count" : Key), V.int 0), (.inr "rests", .ref b)] := by
        show putK (putK [] (Sum.inr "count" : Key) (V.int 0)) (Sum.inr "rests") (V.ref b) = _
        have e1 : putK ([] : List (Key × V)) (.inr "count") (.int 0) = [((.inr "count" : Key), V.int 0)] := rfl
        rw [e1]
        have h : ¬ ([((.inr "count" : Key), V.int 0)].any fun kv => decide (kv.1 = .inr "rests")) = true := by
          show ¬ (decide ((Sum.inr "count" : Key) = .inr "rests") || false) = true
          decide +kernel
        unfold putK
        rw [if_neg h]; rfl
      rw [em]
      have at_ : ∀ c, c ≠ a → c ≠ b → upd (upd (upd H a (.dK [])) b (.dK [])) a (.dK [(.inr "count", .int 0), (.inr "rests", .ref b)]) c = H c := fun c h1 h2 => by rw [upd_ne h1, upd_ne h2, upd_ne h1]
      have sm : ∀ c o, H c = some o → upd (upd (upd H a (.dK [])) b (.dK [])) a (.dK [(.inr "count", .int 0), (.inr "rests", .ref b)]) c = some o := fun c o e => by
        rw [at_ c (ne_of_none e ha) (ne_of_none e hb0)]; exact e
      refine p ⟨g.Fz, some (a, b), g.ad, g.lg⟩ _ ⟨fun _ _ h => h, ⟨fun p e => (by rw [g0] at e; cases e), fun _ _ h => h, fun _ _ _ h => h⟩, ⟨fun _ x y e => (by cases e; exact ⟨Nt.no ha, Nt.no hb0⟩), fun _ h => .inl h⟩, fun c o e _ _ => sm c o e, fun c e => ?_, fun _ _ => rfl⟩ ⟨fun c o e => sm c o (w.fz c o e), ⟨⟨a, b, rfl, Ne.symm nba, upd_same, by rw [upd_ne nba, upd_same]; rfl⟩, w.tw.2.keep (fun _ _ h => h) ⟨fun p e => (by rw [g0] at e; cases e), fun _ _ h => h, fun _ _ _ h => h⟩ ⟨rfl, rfl⟩ fun c _ o e => sm c o e⟩, fun c z => ?_, w.tab.ext sm, w.nft⟩ _ (.town rfl)
      · obtain ⟨o', e', n'⟩ := e
        exact ⟨o', sm c o' e', n'⟩
      · rcases z with ⟨p, hp, q⟩ | z
        · cases hp
          rcases q with q | q
          · rw [q]; exact w.fzN ha
          · rw [q]; exact w.fzN hb0
        · exact w.ntw c (.inr z)
structure FdK (P : Program) (w : World) (K : PySem.W.Frag) (mg : Str → Option Value) (base : Heap) (C : Cn) (k : Nat) (x : Str) (n : Nat) (ks : List Str) (F : Fn) : Prop where
  ex : ∃ f fd ps, FnOk P w K mg base (L2.CX P w) k f fd ps (spF K C (n + ks.length) F) ∧ mg x = some (.ref f) ∧ PySem.W.keepIn K (.ref f) = true ∧
    ∀ (s : Shared) (us ws : List Value), K.In s.heap → us.length = n → ws.length = ks.length → BindsTo s fd ⟨us, ks.zip ws⟩ (ps.zip (us ++ ws))
abbrev CK (X : Cx) (C : Cn) (E : XK) (kws : List Keyword) (f : Sl → M (List D)) : Prop := PK X kws (tAs X.K C E f)
theorem PK.imp {e : List Keyword} {t t' : TA} (h : PK X e t) (f : ∀ σ H Q, t' σ H Q → t σ H Q) : PK X e t' := ⟨fun pos pins s σ H Q I q => h.run pos pins s σ H Q I (f σ H Q q)⟩
theorem ck_nil : CK X C E [] (evs []) := PK.imp pk_nil fun σ H Q ⟨g, S, t, w, s, p⟩ => postRet p w _ .nil
theorem ck_cons {e : Expr} {nm : Option Str} {kpos : Pos} {kws : List Keyword} {f : Ex} {fs : List Ex} (ha : CE X C E e f) (hr : CK X C E kws (evs fs)) : CK X C E (⟨nm, e, kpos⟩ :: kws) (evs (f :: fs)) :=
  PK.imp (pk_cons ha hr) fun σ H Q ⟨g, S, t, w, s, p⟩ => ⟨g, S, t, w, s, p.bnd.imp fun d t1 g1 H1 st1 w1 q v r => ⟨g1, S, t1, w1, s.stp w st1, q.bnd.imp fun ds t2 g2 H2 st2 w2 q2 vs rs => postRet q2 w2 _ (.cons (r.stp st2) rs)⟩⟩
/-- the values in their order -/
theorem kbinds_of {fd : FuncData} {ps ks : List Str} {n : Nat} (hb : ∀ (s : Shared) (us ws : List Value), X.K.In s.heap → us.length = n → ws.length = ks.length → BindsTo s fd ⟨us, ks.zip ws⟩ (ps.zip (us ++ ws))) :
    KBinds X.K fd ps ks (fun us ws => if us.length = n ∧ ws.length = ks.length then us ++ ws else List.replicate (ps.length + 1) .none) (fun vs zs => if vs.length = n ∧ zs.length = ks.length then vs ++ zs else List.replicate (ps.length + 1) .non) where
  to := fun s us ws h1 h2 => by
    split at h2
    · rename_i hc
      rw [if_pos hc]
      exact hb s us ws h1 hc.1 hc.2
    · rw [List.length_replicate] at h2; omega
  rel := fun {vs us zs ws} r1 r2 => by
    have e1 := r1.length
    have e2 := r2.length
    rw [← e1, ← e2]
    split
    · exact r1.append r2
    · have : ∀ m : Nat, Vals (List.replicate m V.non) (List.replicate m Value.none) := fun m => by
        induction m with
        | zero => exact .nil
        | succ m ih => exact .cons rfl ih
      exact this _
theorem evs_app : ∀ (fs hs : List Ex) (S : Sl), evs (fs ++ hs) S = bnd (evs fs S) fun ds => bnd (evs hs S) fun es => ret (ds ++ es)
  | [], hs, S => by
    show evs hs S = bnd (ret []) _
    rw [ret_bnd]
    funext t
    show evs hs S t = bnd (evs hs S) (fun es => ret ([] ++ es)) t
    unfold bnd
    cases evs hs S t with
    | none => rfl
    | some o => cases o <;> rfl
  | f :: fs, hs, S => by
    show bnd (f S) _ = bnd (bnd (f S) _) _
    rw [bnd_assoc]
    congr 1
    funext d
    show bnd (evs (fs ++ hs) S) _ = _
    rw [evs_app fs hs S, bnd_assoc, bnd_assoc]
    congr 1
    funext ds
    rw [bnd_assoc, ret_bnd]
    rfl
/-- f(a, .., k = v, ..) -/
theorem ce_callK {k jj n : Nat} {x : Str} {F : Fn} {ks : List Str} {fs hs : List Ex} {e : Expr} {es : List Expr} {kws : List Keyword} {p pos : Pos} (hf : FdK X.prog X.w X.K X.mg X.base C k x n ks F) (hr : Room jj X.A) (hkj : k ≤ jj) (hx : Passes (L2.CX X.prog X.w) X E) (ha : CA X C E (e :: es) (evs fs)) (hkw : CK X C E kws (evs hs)) (hn : fs.length = n := by rfl) (hl : hs.length = ks.length := by rfl) (hg : Gl X x := by rfl)
    (hall : (backToKw pos (keywordEach kws X.env)).all (·.1.isSome) = true := by rfl) (hks : (backToKw pos (keywordEach kws X.env)).filterMap (·.1) = ks := by rfl)
    (hdb : (x == ("__debug__" : Str)) = false := by decide) (he : starEach (e :: es) X.env = (false, eval e X.env) :: starEach es X.env := by rfl)
    (hpl : ((backTo pos (starEach (e :: es) X.env)).any (·.1) || (backToKw pos (keywordEach kws X.env)).any (·.1.isNone)) = false := by rfl) : CE X C E (.Call (.Name x p) (e :: es) kws pos) (eCall F (fs ++ hs)) := by
  obtain ⟨f, fd, ps, F', hm, hk, hb⟩ := hf.ex
  refine PE.imp (pe_callK F' (hr.mono hkj) hg hm hk (kbinds_of hb) hx ha hkw hall hks hdb he hpl) fun σ H Q ⟨g, S, t, w, s, p⟩ => ?_
  unfold eCall at p
  rw [evs_app, bnd_assoc] at p
  refine ⟨g, S, t, w, s, (Post.evs p.bnd).imp fun ds t1 g1 H1 st1 w1 ⟨el, q⟩ vs rs => ?_⟩
  rw [bnd_assoc] at q
  refine ⟨g1, S, t1, w1, s.stp w st1, (Post.evs q.bnd).imp fun ds2 t2 g2 H2 st2 w2 ⟨el2, q2⟩ vs2 rs2 => ?_⟩
  have e : vs.length = n ∧ vs2.length = ks.length := ⟨by rw [rs.length, el, hn], by rw [rs2.length, el2, hl]⟩
  dsimp only
  rw [if_pos e]
  rw [ret_bnd] at q2
  exact ⟨g2, ds ++ ds2, t2, (rs.stp st2).app rs2, w2, by rw [List.length_append, e.1, e.2], q2⟩
/-- raise x('..') of the class number c -/
theorem cs_raise (c : Nat) {x m : Str} {j : Nat} {p p2 pos pos' : Pos} {B newId initId bmB} {W : WX} (F : ExcBaseFacts B newId initId bmB) (q : PySem.W.excIn X.K (C.ex c) bmB newId = true) (gC : X.mg x = some (.ref (C.ex c))) (kC : PySem.W.keepIn X.K (.ref (C.ex c)) = true) (r : Raises X (.ref (C.ex c)))
    (tk : Takes X (fun cls d _ H => E cls d H)) (hc : X.calm = true := by rfl) (hg : Gl X x := by rfl) (hdb : (x == ("__debug__" : Str)) = false := by decide) : CS X C E (.Raise (some (.Call (.Name x p) [.Constant (.str m) j p2] [] pos)) none pos') (sRaise c) :=
  PS.imp (ps_raise hc tk (pmk_own F q gC kC r hg hdb)) fun De σ H ⟨g0, H0, gs, g, S, t, st, gr, w, s, o, p⟩ => p g H st w
def pRng : D → M D
  | .int j => if 0 ≤ j ∧ j ≤ 1000000 then ret (.lst ((List.range j.toNat).map fun (i : Nat) => .int (i : Int))) else stuck
  | _ => stuck
theorem rg_RpA {K : PySem.W.Frag} {g : G} (n : Nat) : RpA K g (rgV 0 (n : Int)) ((List.range n).map fun (i : Nat) => D.int (i : Int)) := by
  unfold rgV
  rw [show ((n : Int) - 0).toNat = n by omega]
  have : ∀ l : List Nat, RpA K g (l.map fun (i : Nat) => V.int (0 + (i : Int))) (l.map fun (i : Nat) => D.int (i : Int)) := fun l => by
    induction l with
    | nil => exact .nil
    | cons a r ih =>
      refine .cons ?_ ih
      show Rp K g (V.int (0 + (a : Int))) (D.int (a : Int))
      rw [Int.zero_add]
      exact .int _
  exact this _
theorem ce_tupRg {a : Expr} {f : Ex} {p1 p2 pos pos2 : Pos} (hc : X.calm = true) (hm : X.mg "tuple" = none) (hm2 : X.mg "range" = none) (ha : CE X C E a f) (hg : Gl X "tuple" := by rfl) (hg2 : Gl X "range" := by rfl) (na : starEach [a] X.env = (false, eval a X.env) :: starEach [] X.env := by rfl)
    (nb : starEach [.Call (.Name "range" p2) [a] [] pos2] X.env = (false, eval (.Call (.Name "range" p2) [a] [] pos2) X.env) :: starEach [] X.env := by rfl) : CE X C E (.Call (.Name "tuple" p1) [.Call (.Name "range" p2) [a] [] pos2] [] pos) (eUn bTuple (eUn pRng f)) :=
  PE.imp (pe_tupRgN hc hg hm (prg_1 hg2 hm2 ha na) nb) fun σ H Q h => by
    have h : tE X.K C E (fun S => bnd (f S) fun d => bnd (pRng d) bTuple) σ H Q := by
      obtain ⟨g, S, t, w, s, p⟩ := h
      refine ⟨g, S, t, w, s, ?_⟩
      have e : bnd (f S) (fun d => bnd (pRng d) bTuple) = eUn bTuple (eUn pRng f) S := by
        show _ = bnd (bnd (f S) fun x => pRng x) fun x => bTuple x
        rw [bnd_assoc]
      show Post C E g H _ (bnd (f S) (fun d => bnd (pRng d) bTuple) t)
      rw [e]
      exact p
    refine tE.seq h fun g S t x d H1 w s rx p1 => ?_
    cases d with
    | int j =>
      cases rx
      have p1 : PostQ X.K C E g H1 Q (bnd ((if 0 ≤ j ∧ j ≤ 1000000 then ret (.lst ((List.range j.toNat).map fun (i : Nat) => D.int (i : Int))) else stuck)) bTuple t) := p1
      split at p1
      · rename_i hc
        refine ⟨j, rfl, .of_le (by omega) (by omega) (by omega) hc.1, ?_⟩
        obtain ⟨n, rfl⟩ : ∃ n : Nat, j = (n : Int) := ⟨j.toNat, by omega⟩
        exact pRetT (ds := (List.range n).map fun (i : Nat) => D.int (i : Int)) p1 w (rg_RpA n)
      · exact p1.elim
    | _ => exact p1.elim
end
end BG
set_option Elab.async false
set_option linter.all false
set_option maxRecDepth 100000
set_option maxHeartbeats 4000000
namespace BG
open PySem PySem.Spec PyProof.Rows L2
def leD (a b : D) : Bool := PySem.W.dataLe false D.py a b
section
variable {α : Type} (le : α → α → Bool)
def insr (x : α) : List α → List α
  | [] => [x]
  | y :: r => if le x y = true then x :: y :: r else y :: insr x r
def isrt : List α → List α
  | [] => []
  | x :: r => insr le x (isrt r)
theorem insr_mem {x z : α} : ∀ {l : List α}, z ∈ insr le x l ↔ z = x ∨ z ∈ l
  | [] => by simp [insr]
  | y :: r => by
    unfold insr
    split
    · simp
    · rw [List.mem_cons, insr_mem, List.mem_cons]
      constructor
      · rintro (h | h | h)
        · exact .inr (.inl h)
        · exact .inl h
        · exact .inr (.inr h)
      · rintro (h | h | h)
        · exact .inr (.inl h)
        · exact .inl h
        · exact .inr (.inr h)
theorem insr_pair (h : PySem.W.TotalLe le) {x : α} : ∀ {l : List α}, l.Pairwise (fun a b => le a b = true) → (insr le x l).Pairwise (fun a b => le a b = true)
  | [], _ => by simp [insr]
  | y :: r, hp => by
    obtain ⟨h1, h2⟩ := List.pairwise_cons.mp hp
    unfold insr
    split
    · rename_i hxy
      refine List.pairwise_cons.mpr ⟨fun z hz => ?_, hp⟩
      rcases List.mem_cons.mp hz with rfl | hz
      · exact hxy
      · exact h.trans _ _ _ hxy (h1 z hz)
    · rename_i hxy
      refine List.pairwise_cons.mpr ⟨fun z hz => ?_, insr_pair h h2⟩
      rcases (insr_mem le).mp hz with rfl | hz
      · exact (h.total z y).resolve_left hxy
      · exact h1 z hz
theorem insr_filter (h : PySem.W.TotalLe le) {x c : α} : ∀ {l : List α}, l.Pairwise (fun a b => le a b = true) → (insr le x l).filter (PySem.W.sameRank le c) = (x :: l).filter (PySem.W.sameRank le c)
  | [], _ => rfl
  | y :: r, hp => by
    obtain ⟨h1, h2⟩ := List.pairwise_cons.mp hp
    unfold insr
    split
    · rfl
    · rename_i hxy
      have ih := insr_filter h (x := x) (c := c) h2
      rw [List.filter_cons, ih, List.filter_cons, List.filter_cons, List.filter_cons]
      by_cases a : PySem.W.sameRank le c x = true
      · by_cases b : PySem.W.sameRank le c y = true
        · exfalso
          unfold PySem.W.sameRank at a b
          rw [Bool.and_eq_true] at a b
          exact hxy (h.trans _ _ _ a.2 b.1)
        · rw [if_neg b, if_pos a, if_pos a, if_neg b]
      · rw [if_neg a, if_neg a]
theorem isrt_pair (h : PySem.W.TotalLe le) : ∀ l : List α, (isrt le l).Pairwise (fun a b => le a b = true)
  | [] => List.Pairwise.nil
  | x :: r => insr_pair le h (isrt_pair h r)
theorem isrt_filter (h : PySem.W.TotalLe le) (c : α) : ∀ l : List α, (isrt le l).filter (PySem.W.sameRank le c) = l.filter (PySem.W.sameRank le c)
  | [] => rfl
  | x :: r => by
    show (insr le x (isrt le r)).filter _ = _
    rw [insr_filter le h (isrt_pair le h r), List.filter_cons, List.filter_cons, isrt_filter h c r]
theorem isrt_merge (h : PySem.W.TotalLe le) (l : List α) : isrt le l = l.mergeSort le := PySem.W.sort_unique h (isrt_pair le h l) fun c => isrt_filter le h c l
theorem isrt_length : ∀ l : List α, (isrt le l).length = l.length
  | [] => rfl
  | x :: r => by
    have hi : ∀ m : List α, (insr le x m).length = m.length + 1 := fun m => by
      induction m with
      | nil => rfl
      | cons y m ih =>
        unfold insr
        split
        · rfl
        · rw [List.length_cons, ih, List.length_cons]
    show (insr le x (isrt le r)).length = _
    rw [hi, isrt_length r]; rfl
end
/-- may be sorted: data of one make -/
def isTupC : D → Bool
  | .tup (_ :: _) => true
  | _ => false
def isFlatC : D → Bool
  | .tup _ => false
  | .non => false
  | .town => false
  | .scr _ => false
  | .dct _ _ => false
  | .dTT _ _ => false
  | .hnd _ => false
  | _ => true
def srtOk (ds : List D) : Bool := okA ds 60 && (ds.all fun a => ds.all fun b => PySem.W.alike a.py b.py) && (ds.all isTupC || ds.all isFlatC)
theorem leD_total : PySem.W.TotalLe leD := PySem.W.sortLe_total (listOrd itemOrd) false fun b => PySem.W.keyToks (D.py b)
theorem eachIs_of {K : PySem.W.Frag} {g : G} : ∀ {ds : List D} {vs : List V} {us : List Value}, RpA K g vs ds → Vals vs us → PySem.W.EachIs (fun u d => ∃ v, RelV v u ∧ Rp K g v d) us ds
  | [], _, _, h, r => by cases h; cases r; exact .nil
  | d :: ds, _, _, h, r => by
    cases h with
    | cons a b =>
      cases r with
      | cons r1 r2 => exact .cons ⟨_, r1, a⟩ (eachIs_of b r2)
theorem of_eachIs {K : PySem.W.Frag} {g : G} : ∀ {ds : List D} {us : List Value}, PySem.W.EachIs (fun u d => ∃ v, RelV v u ∧ Rp K g v d) us ds → ∃ vs, RpA K g vs ds ∧ Vals vs us
  | [], _, h => by cases h; exact ⟨[], .nil, .nil⟩
  | d :: ds, _, h => by
    cases h with
    | cons a b =>
      obtain ⟨v, r1, r2⟩ := a
      obtain ⟨vs, q1, q2⟩ := of_eachIs b
      exact ⟨v :: vs, .cons r2 q1, .cons r1 q2⟩
section
variable {X : Cx} {C : Cn} {E : XK}
/-- sorted(xs), xs a list of data -/
def rSrt (K : PySem.W.Frag) (C : Cn) : List V → Hp → VK → Prop := fun xs H Q => ∃ p g t vs ds, xs = [.ref p] ∧ Wf C g H t ∧ H p = some (.lst vs) ∧ RpA K g vs ds ∧ srtOk ds = true ∧ ds.length ≤ 1000000 ∧ ∀ ws, RpA K g ws (isrt leD ds) → ∀ l, H l = none → Q (.ref l) (upd H l (.lst ws))
theorem cr_sorted0 (hu : X.A.units + 64 < cLine) : CallR X (.builtin "sorted") (rSrt X.K C) := by
  intro pins s σ H xs us Q I r h
  obtain ⟨p, g, t, vs, ds, rfl, w, hp, ra, ok, hz, q⟩ := h
  obtain ⟨u, rfl, ru⟩ := vals1 r
  cases ru
  obtain ⟨its, rv, pl, hzz⟩ := I.list (.of hp)
  unfold srtOk at ok
  rw [Bool.and_eq_true, Bool.and_eq_true] at ok
  obtain ⟨⟨ok1, ok2⟩, ok3⟩ := ok
  have e := eachIs_of ra rv
  have er : PySem.W.EachIs (fun u d => ∃ as, Reads s.heap u (D.py d) as) its ds := by
    have all : ∀ {ds : List D} {vs : List V} {us : List Value}, RpA X.K g vs ds → Vals vs us → okA ds 60 = true → PySem.W.EachIs (fun u d => ∃ as, Reads s.heap u (D.py d) as) us ds := by
      intro ds
      induction ds with
      | nil => intro vs us h r _; cases h; cases r; exact .nil
      | cons d ds ih =>
        intro vs us h r o
        have o : (okD d 60 && okA ds 60) = true := o
        rw [Bool.and_eq_true] at o
        cases h with
        | cons a b =>
          cases r with
          | cons r1 r2 => exact .cons (Dp.reads I _ _ _ (Rp.dp w a o.1) r1) (ih b r2 o.2)
    exact all ra rv ok1
  refine PySem.W.sorted_data (enc := D.py) pl.isList e er (fun d hd d' hd' => ?_) ?_ (by rw [sizeLine_eq]; omega) (fun d hd => ?_) fun out hlen eo => ?_
  · obtain ⟨a, ha, rfl⟩ := List.mem_map.mp hd
    obtain ⟨b, hb, rfl⟩ := List.mem_map.mp hd'
    exact List.all_eq_true.mp (List.all_eq_true.mp ok2 a ha) b hb
  · rw [Bool.or_eq_true] at ok3
    rcases ok3 with ok3 | ok3
    · refine .inl fun d hd => ?_
      obtain ⟨a, ha, rfl⟩ := List.mem_map.mp hd
      have := List.all_eq_true.mp ok3 a ha
      cases a with
      | tup xs =>
        cases xs with
        | nil => cases this
        | cons x r => exact ⟨x.py, pyA r, by rw [D.py, pyA]⟩
      | _ => cases this
    · refine .inr fun d hd => ?_
      obtain ⟨a, ha, rfl⟩ := List.mem_map.mp hd
      have := List.all_eq_true.mp ok3 a ha
      cases a <;> first | (cases this; done) | (rw [D.py]; exact ⟨(fun z => by cases z), (fun _ z => by cases z)⟩)
  · have hd2 : okD d 60 = true := by
      rw [okA_all] at ok1
      exact List.all_eq_true.mp ok1 d hd
    have := (okD_lay d 60 hd2).2
    omega
  · obtain ⟨c, hc⟩ := sortedAll_at s.heap its out.toArray
    have em : ds.mergeSort (PySem.W.dataLe false D.py) = isrt leD ds := (isrt_merge leD leD_total ds).symm
    rw [em] at eo
    obtain ⟨ws, q1, q2⟩ := of_eachIs eo
    refine ⟨.ref (s.heap.objs.size + 1), _, I.laid (t' := s.toks) (fun b o e => sortedAll_old e) (Nat.le_succ _) (show ObjOk X.prog X.w _ _ _ (.lst ws) from ⟨?_, out, c, q2, hc⟩), rfl, q ws q1 _ (I.hok.fresh (Nat.le_succ _))⟩
    rw [q1.length, isrt_length, sizeLine_eq]
    omega
theorem nd_le : ∀ {a b : List Int}, a.Nodup → (∀ x ∈ a, x ∈ b) → a.length ≤ b.length
  | [], _, _, _ => Nat.zero_le _
  | x :: r, b, h, hs => by
    obtain ⟨h1, h2⟩ := List.nodup_cons.mp h
    have hx : x ∈ b := hs x (List.mem_cons_self ..)
    have := nd_le (a := r) (b := b.erase x) h2 fun y hy => by
      have hne : y ≠ x := fun e => h1 (by rw [← e]; exact hy)
      exact (List.mem_erase_of_ne hne).mpr (hs y (List.mem_cons_of_mem _ hy))
    rw [List.length_erase_of_mem hx] at this
    have hp : 0 < b.length := List.length_pos_of_mem hx
    rw [List.length_cons]
    omega
end
end BG
set_option Elab.async false
set_option linter.all false
set_option maxRecDepth 100000
set_option maxHeartbeats 4000000
namespace BG
open PySem PySem.Spec PyProof.Rows L2
theorem bt_len : bootBuiltins "len" = some (.builtin "len") := by decide +kernel
theorem bt_all : bootBuiltins "all" = some (.builtin "all") := by decide +kernel
theorem bt_sorted : bootBuiltins "sorted" = some (.builtin "sorted") := by decide +kernel
theorem bt_min : bootBuiltins "min" = some (.builtin "min") := by decide +kernel
theorem bt_max : bootBuiltins "max" = some (.builtin "max") := by decide +kernel
theorem bt_tuple : bootBuiltins "tuple" = some (.type "tuple") := by decide +kernel
theorem bt_list : bootBuiltins "list" = some (.type "list") := by decide +kernel
theorem bt_int : bootBuiltins "int" = some (.type "int") := by decide +kernel
theorem bt_bool : bootBuiltins "bool" = some (.type "bool") := by decide +kernel
theorem bt_str : bootBuiltins "str" = some (.type "str") := by decide +kernel
/-- the built-in names are not shadowed -/
structure Bt (mg : Str → Option Value) : Prop where
  len : mg "len" = none
  all : mg "all" = none
  any : mg "any" = none
  sum : mg "sum" = none
  sorted : mg "sorted" = none
  min : mg "min" = none
  max : mg "max" = none
  isinstance : mg "isinstance" = none
  tuple : mg "tuple" = none
  list : mg "list" = none
  int : mg "int" = none
  bool : mg "bool" = none
  str : mg "str" = none
  range : mg "range" = none
  set : mg "set" = none
  enumerate : mg "enumerate" = none
  zip : mg "zip" = none
  dict : mg "dict" = none
  abs : mg "abs" = none
theorem _root_.L2.Room.u65 {k : Nat} {A : Around} (r : Room k A) : A.units + 65 < cLine := by have := r.un; omega
theorem _root_.L2.Room.u1 {k : Nat} {A : Around} (r : Room k A) : A.units + 1 < cLine := by have := r.un; omega
theorem passC {P : Program} {w : World} {K : PySem.W.Frag} {mg : Str → Option Value} {base : Heap} {N : List Str} {qual : Str} {scope : Scope} {f : Addr} {cd : Value} {A : Around} {outer : List Env} {s : Shared} {H : Hp} {E : XK} :
    Passes (L2.CX P w) (cxOf (L2.CX P w) P w K mg base N qual scope f cd A outer s H E) E := passes_call (W := fun cls d _ H => E cls d H) (takes_of rfl rfl rfl rfl) fun _ _ _ _ h => h
theorem Fd.of {P : Program} {w : World} {K : PySem.W.Frag} {mg : Str → Option Value} {base : Heap} {C : Cn} {k : Nat} {x : Str} {F : Fn} {f : Addr} {fd : FuncData} {ps : List Str} (h : FnOk P w K mg base (L2.CX P w) k f fd ps (spF K C ps.length F)) (hm : mg x = some (.ref f)) (hk : PySem.W.keepIn K (.ref f) = true) (hb : Binds K fd ps []) :
    Fd P w K mg base C k x ps.length F := ⟨f, fd, ps, h, hm, hk, hb⟩
theorem _root_.L2.Fun.kb {K : PySem.W.Frag} {x qual : Str} {st : Stmt} {f : Addr} {fd : FuncData} {ps ks : List Str} {n : Nat} (F : Fun K x qual st f fd)
    (h : ∀ (kV doc pm : Value) (an : Option Addr) (cdv ct : Value) (us ws : List Value), us.length = n → ws.length = ks.length → bindArgs (PySem.W.fnOf x qual (defArgs st) (defBody st) (defScope st) .none kV doc pm an cdv ct) ⟨us, ks.zip ws⟩ = pure (ps.zip (us ++ ws))) :
    ∀ (s : Shared) (us ws : List Value), K.In s.heap → us.length = n → ws.length = ks.length → BindsTo s fd ⟨us, ks.zip ws⟩ (ps.zip (us ++ ws)) := by
  obtain ⟨oc, od, kV, doc, pm, an, cdv, ct, osl, rfl, lk, hcd⟩ := F.ex
  exact fun s us ws _ h1 h2 => .of_eq (h kV doc pm an cdv ct us ws h1 h2)
theorem FdK.of {P : Program} {w : World} {K : PySem.W.Frag} {mg : Str → Option Value} {base : Heap} {C : Cn} {k n : Nat} {x : Str} {F : Fn} {f : Addr} {fd : FuncData} {ps ks : List Str} (h : FnOk P w K mg base (L2.CX P w) k f fd ps (spF K C ps.length F)) (hm : mg x = some (.ref f)) (hk : PySem.W.keepIn K (.ref f) = true) (hl : ps.length = n + ks.length)
    (hb : ∀ (s : Shared) (us ws : List Value), K.In s.heap → us.length = n → ws.length = ks.length → BindsTo s fd ⟨us, ks.zip ws⟩ (ps.zip (us ++ ws))) : FdK P w K mg base C k x n ks F := ⟨f, fd, ps, by rw [← hl]; exact h, hm, hk, hb⟩
/-- the heap without the tables of code objects -/
def untb (H : Hp) : Hp := fun b => match H b with
  | some (.tbl _) => none
  | o => o
theorem untb_same (H : Hp) : Same (untb H) H := fun b o e => by
  unfold untb at e
  split at e
  · cases e
  · exact e
theorem untb_of {H : Hp} {b : Addr} {o : HO} (e : H b = some o) (n : ∀ ps, o ≠ .tbl ps) : untb H b = some o := by
  unfold untb
  split
  · rename_i ps h; rw [e] at h; exact absurd (Option.some.inj h) (n ps)
  · exact e
theorem untb_nft (H : Hp) : ∀ b ps, untb H b ≠ some (.tbl ps) := fun b ps e => by
  unfold untb at e
  split at e
  · cases e
  · rename_i h; exact h ps e
theorem untb_seq {K : PySem.W.Frag} {H : Hp} {a : Addr} {xs : List V} (h : SqL K H a xs) : SqL K (untb H) a xs := by
  rcases h with (h | ⟨o, h⟩) | h
  · exact .inl (.inl (untb_of h (fun _ z => by cases z)))
  · exact .inl (.inr ⟨o, untb_of h (fun _ z => by cases z)⟩)
  · exact .inr h
theorem law_start {K : PySem.W.Frag} {C : Cn} {F : Fn} {a : Addr} {ns : List Int} {H : Hp} {Q : VK} {E : XK} (hT : LamX.Tabs C.T H) (sq : SqL K H a (ns.map V.int)) (h : ∃ t', F [.scr ns] (none, []) = some (.ok (.bl true) t')) (q : ∀ H', Q (.bl true) H') : spF K C 1 F [.ref a] H Q E := by
  obtain ⟨t', e⟩ := h
  refine ⟨⟨untb H, none, [], fun _ _ => none⟩, [.scr ns], (none, []), .cons (.scr (untb_seq sq)) .nil, ⟨untb_same H, ⟨rfl, rfl, .nil, fun n a o h => (by simp at h), fun n a o h => (by simp at h), fun n o h => (by simp at h), fun _ _ _ => rfl⟩, fun b z => (by rcases z with ⟨p, hp, _⟩ | z <;> first | cases hp | cases z), hT, untb_nft H⟩, rfl, ?_⟩
  rw [e]
  intro g' H' _ _ v r
  cases r
  exact q H'
theorem cx_no {P : Program} {w : World} {l : List Env} {H : Hp} {s : Shared} {e : Value} {s' : Shared} (h : L2.CX P w l H s (fun _ _ _ => False) e s') : False := by
  obtain ⟨_, _, _, _, _, _, _, _, _, _, _, _, z⟩ := h
  exact z
end BG
set_option Elab.async false
set_option linter.all false
set_option maxRecDepth 100000
set_option maxHeartbeats 4000000
namespace BG
open PySem PySem.Spec PyProof.Rows L2
end BG
set_option Elab.async false
set_option linter.all false
set_option maxRecDepth 100000
set_option maxHeartbeats 4000000
namespace BG
open PySem PySem.Spec PyProof.Rows L2
section
variable {X : Cx} {C : Cn} {E : XK}
/-- what the data promise to the sort -/
theorem reads_all {g : G} {t : Tn} {H : Hp} {s : Shared} {pins : List (Addr × Obj)} {σ : L2.St} (I : L2.Inv X pins σ H s) (w : Wf C g H t) : ∀ {ds : List D} {vs : List V} {us : List Value}, RpA X.K g vs ds → Vals vs us → okA ds 60 = true → PySem.W.EachIs (fun u d => ∃ as, Reads s.heap u (D.py d) as) us ds
  | [], _, _, h, r, _ => by cases h; cases r; exact .nil
  | d :: ds, _, _, h, r, o => by
    have o : (okD d 60 && okA ds 60) = true := o
    rw [Bool.and_eq_true] at o
    cases h with
    | cons a b =>
      cases r with
      | cons r1 r2 => exact .cons (Dp.reads I _ _ _ (Rp.dp w a o.1) r1) (reads_all I w b r2 o.2)
theorem srt_alike {ds : List D} (ok : srtOk ds = true) : PySem.W.AllAlike (ds.map D.py) ∧ PySem.W.Sortable (ds.map D.py) ∧ okA ds 60 = true := by
  unfold srtOk at ok
  rw [Bool.and_eq_true, Bool.and_eq_true] at ok
  obtain ⟨⟨ok1, ok2⟩, ok3⟩ := ok
  refine ⟨fun d hd d' hd' => ?_, ?_, ok1⟩
  · obtain ⟨a, ha, rfl⟩ := List.mem_map.mp hd
    obtain ⟨b, hb, rfl⟩ := List.mem_map.mp hd'
    exact List.all_eq_true.mp (List.all_eq_true.mp ok2 a ha) b hb
  · rw [Bool.or_eq_true] at ok3
    rcases ok3 with ok3 | ok3
    · refine .inl fun d hd => ?_
      obtain ⟨a, ha, rfl⟩ := List.mem_map.mp hd
      have := List.all_eq_true.mp ok3 a ha
      cases a with
      | tup xs =>
        cases xs with
        | nil => cases this
        | cons x r => exact ⟨x.py, pyA r, by rw [D.py, pyA]⟩
      | _ => cases this
    · refine .inr fun d hd => ?_
      obtain ⟨a, ha, rfl⟩ := List.mem_map.mp hd
      have := List.all_eq_true.mp ok3 a ha
      cases a <;> first | (cases this; done) | (rw [D.py]; exact ⟨(fun z => by cases z), (fun _ z => by cases z)⟩)
def rSrtT (K : PySem.W.Frag) (C : Cn) : List V → Hp → VK → Prop := fun xs H Q => ∃ p g t vs ds, xs = [.ref p] ∧ Wf C g H t ∧ SqT K H p vs ∧ RpA K g vs ds ∧ srtOk ds = true ∧ ds.length ≤ 1000000 ∧ ∀ ws, RpA K g ws (isrt leD ds) → ∀ l, H l = none → Q (.ref l) (upd H l (.lst ws))
theorem cr_sortedT (hu : X.A.units + 64 < cLine) : CallR X (.builtin "sorted") (rSrtT X.K C) := by
  intro pins s σ H xs us Q I r h
  obtain ⟨p, g, t, vs, ds, rfl, w, hp, ra, ok, hz, q⟩ := h
  obtain ⟨u, rfl, ru⟩ := vals1 r
  cases ru
  obtain ⟨its, rv, pl, hzz⟩ := I.tuple hp
  have hlen : its.length = ds.length := by rw [← rv.length, ra.length]
  obtain ⟨hal, hso, ok1⟩ := srt_alike ok
  have e := eachIs_of ra rv
  obtain ⟨o1, g1, c1, n1, d1⟩ := pl
  refine Calls.call_function_entry PyProof.Rows.kind_sorted PyProof.Rows.plain_sorted PyProof.Rows.entry_sorted (PyProof.Rows.args_sorted1 _) ?_
  unfold Builtin.«sorted»
  refine wpAny_bind (m := checkCount "sorted" 1 1 _) (wpAny_pure ?_)
  refine wpAny_bind (wpAny_collect_seq p (.inr rfl) g1 c1 d1 (fun h' hk => ?_) (by rw [List.size_toArray, hlen, sizeLine_eq]; omega))
  have I1 : L2.Inv X pins σ H { s with heap := h' } := I.kept (t' := s.toks) hk
  rw [List.toList_toArray]
  refine wpAny_bind (wpAny_newList ?_ (by rw [hlen, sizeLine_eq]; omega))
  have hoL : (h'.push (seqObj "list" its.toArray 0)).get? h'.objs.size = some (seqObj "list" its.toArray 0) := Heap.get?_push_size _ rfl
  show wpAny _ _ _ _ _ { s with heap := h'.push (seqObj "list" its.toArray 0) }
  have er : PySem.W.EachIs (fun u d => ∃ as, Reads (PySem.W.sortingHeap (h'.push (seqObj "list" its.toArray 0)) h'.objs.size its) u (D.py d) as) its ds := (reads_all I w ra rv ok1).mono fun _ _ ⟨as, r⟩ => ⟨as, PyProof.Rows.Reads.keeps (fun b o q => PySem.W.sortingHeap_old (Nat.ne_of_lt (Heap.lt_size (hk b o q))) (Heap.get?_push_of_some _ (hk b o q))) r⟩
  have hdep : ∀ d, d ∈ ds.map D.py → X.A.in1.in1.units + d.depth < cLine := fun d hd => by
    obtain ⟨d', hd', rfl⟩ := List.mem_map.mp hd
    have h2 : okD d' 60 = true := by
      rw [okA_all] at ok1
      exact List.all_eq_true.mp ok1 d' hd'
    have h3 := (okD_lay d' 60 h2).2
    show X.A.units + 1 + 1 + _ < _
    omega
  have em : ds.mergeSort (PySem.W.dataLe false D.py) = isrt leD ds := (isrt_merge leD leD_total ds).symm
  have eo := PySem.W.sortVals_data (h' := PySem.W.sortingHeap (h'.push (seqObj "list" its.toArray 0)) h'.objs.size its) (enc := D.py) false e er hal
  rw [em] at eo
  have lo : (PySem.W.sortVals (PySem.W.dataKind (PySem.W.sortingHeap (h'.push (seqObj "list" its.toArray 0)) h'.objs.size its) (ds.map D.py)) false its its).length = its.length := PySem.W.sortVals_length false rfl
  generalize hO : PySem.W.sortVals (PySem.W.dataKind (PySem.W.sortingHeap (h'.push (seqObj "list" its.toArray 0)) h'.objs.size its) (ds.map D.py)) false its its = out at eo lo
  refine wpAny_bind (wpAny_holding (wpAny_call_entry PyProof.Rows.slot_list_sort ⟨_, hoL, rfl⟩ PyProof.Rows.entry_list_sort ?_ (PyProof.Rows.args_list_sort _)))
  refine PySem.W.list_sort_vals (s := { s with heap := h'.push (seqObj "list" its.toArray 0) }) hoL (PySem.W.SortsAt.data (s := { s with heap := PySem.W.sortingHeap (h'.push (seqObj "list" its.toArray 0)) h'.objs.size its }) (PySem.W.each_map (R := fun v d => ∃ as, Reads (PySem.W.sortingHeap (h'.push (seqObj "list" its.toArray 0)) h'.objs.size its) v d as) D.py er) hal hso hdep) (by rw [hlen, sizeLine_eq]; omega) ⟨_, rfl, ?_⟩
  rw [hO]
  obtain ⟨e', he'⟩ := PyProof.Rows.sortedHeap_at (vs := its) (out := out.toArray) hoL
  obtain ⟨ws, q1, q2⟩ := of_eachIs eo
  refine wpAny_pure ⟨_, rfl, .ref h'.objs.size, upd H h'.objs.size (.lst ws), I1.laid (t' := s.toks) (fun b u e => ?_) (Nat.le_refl _) (show ObjOk X.prog X.w _ _ _ (.lst ws) from ⟨by rw [q1.length, isrt_length, sizeLine_eq]; omega, out, e', q2, he'⟩), rfl, q ws q1 _ (I1.hok.fresh (Nat.le_refl _))⟩
  have hb : b < h'.objs.size := Heap.lt_size e
  rw [PyProof.Rows.sortedHeap_old (Nat.ne_of_lt hb) (by rw [size_push']; exact Nat.lt_succ_of_lt hb)]
  exact Heap.get?_push_of_some _ e
/-- sorted of a list or of a tuple -/
def bSortedA : D → M D
  | .lst ds => if srtOk ds = true ∧ ds.length ≤ 1000000 then ret (.lst (isrt leD ds)) else stuck
  | .tup ds => if srtOk ds = true ∧ ds.length ≤ 1000000 then ret (.lst (isrt leD ds)) else stuck
  | _ => stuck
theorem cr_sortedA (hu : X.A.units + 64 < cLine) : CallR X (.builtin "sorted") (c1D X.K C E bSortedA) := CallR.imp (CallR.or (cr_sorted0 (C := C) hu) (cr_sortedT (C := C) hu)) fun xs H Q ⟨x, g, t, d, ex, w, a, h⟩ => by
  subst ex
  cases d with
  | lst ds =>
    have h : PostQ X.K C E g H Q ((if srtOk ds = true ∧ ds.length ≤ 1000000 then ret (.lst (isrt leD ds)) else stuck) t) := h
    split at h
    · rename_i hc
      obtain ⟨p, vs, rfl, e1, r1⟩ := a.lst w
      exact .inl ⟨p, g, t, vs, ds, rfl, w, e1, r1, hc.1, hc.2, fun ws rw' l hl => pRetL h w rw' l hl⟩
    · exact h.elim
  | tup ds =>
    have h : PostQ X.K C E g H Q ((if srtOk ds = true ∧ ds.length ≤ 1000000 then ret (.lst (isrt leD ds)) else stuck) t) := h
    split at h
    · rename_i hc
      obtain ⟨p, vs, rfl, e1, r1⟩ := a.tup w
      exact .inr ⟨p, g, t, vs, ds, rfl, w, e1, r1, hc.1, hc.2, fun ws rw' l hl => pRetL h w rw' l hl⟩
    · exact h.elim
  | _ => exact h.elim
end
end BG
set_option Elab.async false
set_option linter.all false
set_option maxRecDepth 100000
set_option maxHeartbeats 4000000
namespace BG
open PySem PySem.Spec PyProof.Rows L2
def dLook (ks : List (Key × D)) (k : Key) : Option D := (ks.find? fun p => decide (p.1 = k)).map (·.2)
def dPut (ks : List (Key × D)) (k : Key) (d : D) : List (Key × D) := if (ks.any fun p => decide (p.1 = k)) = true then ks.map (fun p => if p.1 = k then (p.1, d) else p) else ks ++ [(k, d)]
def dMerge (ks more : List (Key × D)) : List (Key × D) := more.foldl (fun acc p => dPut acc p.1 p.2) ks
theorem dPut_len (ks : List (Key × D)) (k : Key) (d : D) : (dPut ks k d).length ≤ ks.length + 1 := by
  unfold dPut
  split
  · rw [List.length_map]; omega
  · rw [List.length_append]; exact Nat.le_refl _
theorem dMerge_len : ∀ (more ks : List (Key × D)), (dMerge ks more).length ≤ ks.length + more.length
  | [], ks => by show ks.length ≤ ks.length + 0; omega
  | p :: r, ks => by
    have h1 := dMerge_len r (dPut ks p.1 p.2)
    have h2 := dPut_len ks p.1 p.2
    show (dMerge (dPut ks p.1 p.2) r).length ≤ _
    rw [List.length_cons]; omega
def keyD : D → Option Key
  | .int i => some (.inl i)
  | .str x => some (.inr x)
  | _ => none
def kD : Key → D
  | .inl i => .int i
  | .inr x => .str x
section
variable {K : PySem.W.Frag} {g : G}
theorem RpK.nil : RpK K g [] [] := ⟨rfl, .nil⟩
theorem RpK.cons {k : Key} {v : V} {d : D} {vs : List (Key × V)} {ks : List (Key × D)} (h : Rp K g v d) (r : RpK K g vs ks) : RpK K g ((k, v) :: vs) ((k, d) :: ks) := ⟨by rw [List.map_cons, List.map_cons, r.1], .cons h r.2⟩
theorem RpK.inv {vs : List (Key × V)} {k : Key} {d : D} {ks : List (Key × D)} (r : RpK K g vs ((k, d) :: ks)) : ∃ v ws, vs = (k, v) :: ws ∧ Rp K g v d ∧ RpK K g ws ks := by
  obtain ⟨h1, h2⟩ := r
  cases vs with
  | nil => cases h1
  | cons p ws =>
    obtain ⟨k', v⟩ := p
    injection h1 with e1 e2
    simp only at e1
    subst e1
    cases h2 with
    | cons a b => exact ⟨v, ws, rfl, a, e2, b⟩
theorem RpK.length {vs : List (Key × V)} {ks : List (Key × D)} (r : RpK K g vs ks) : vs.length = ks.length := by have := congrArg List.length r.1; rw [List.length_map, List.length_map] at this; exact this
theorem RpK.look : ∀ {ks : List (Key × D)} {vs : List (Key × V)} (k : Key), RpK K g vs ks → (dLook ks k = none → valV vs k = none) ∧ ∀ d, dLook ks k = some d → ∃ v, valV vs k = some v ∧ Rp K g v d
  | [], vs, k, r => by
    have : vs = [] := List.eq_nil_of_length_eq_zero r.length
    subst this
    exact ⟨fun _ => rfl, fun d e => (by cases e)⟩
  | (k', d') :: ks, vs, k, r => by
    obtain ⟨v, ws, rfl, rv, rr⟩ := r.inv
    by_cases h : k' = k
    · subst h
      have e : dLook ((k', d') :: ks) k' = some d' := by unfold dLook; rw [List.find?_cons]; simp
      rw [e]
      refine ⟨fun z => (by cases z), fun d z => ?_⟩
      cases z
      exact ⟨v, valV_pos rfl, rv⟩
    · have e : dLook ((k', d') :: ks) k = dLook ks k := by unfold dLook; rw [List.find?_cons]; simp [h]
      rw [e, valV_neg h]
      exact RpK.look k rr
theorem RpK.map {k : Key} {v : V} {d : D} (h : Rp K g v d) : ∀ {ks : List (Key × D)} {vs : List (Key × V)}, RpK K g vs ks → RpK K g (vs.map fun p => if p.1 = k then (p.1, v) else p) (ks.map fun p => if p.1 = k then (p.1, d) else p)
  | [], vs, r => by
    have : vs = [] := List.eq_nil_of_length_eq_zero r.length
    subst this; exact .nil
  | (k', d') :: ks, vs, r => by
    obtain ⟨v', ws, rfl, rv, rr⟩ := r.inv
    rw [List.map_cons, List.map_cons]
    by_cases hk : k' = k
    · rw [if_pos hk, if_pos hk]; exact .cons h (RpK.map h rr)
    · rw [if_neg hk, if_neg hk]; exact .cons rv (RpK.map h rr)
theorem RpK.app : ∀ {ks : List (Key × D)} {vs : List (Key × V)} {ks2 : List (Key × D)} {vs2 : List (Key × V)}, RpK K g vs ks → RpK K g vs2 ks2 → RpK K g (vs ++ vs2) (ks ++ ks2) := fun r q => ⟨by rw [List.map_append, List.map_append, r.1, q.1], by rw [List.map_append, List.map_append]; exact r.2.app q.2⟩
theorem RpK.any {ks : List (Key × D)} {vs : List (Key × V)} (k : Key) (r : RpK K g vs ks) : (vs.any fun p => decide (p.1 = k)) = ks.any fun p => decide (p.1 = k) := by
  have e1 : ∀ l : List (Key × V), (l.any fun p => decide (p.1 = k)) = (l.map (·.1)).any fun x => decide (x = k) := fun l => by rw [List.any_map]; rfl
  have e2 : ∀ l : List (Key × D), (l.any fun p => decide (p.1 = k)) = (l.map (·.1)).any fun x => decide (x = k) := fun l => by rw [List.any_map]; rfl
  rw [e1, e2, r.1]
theorem RpK.put {ks : List (Key × D)} {vs : List (Key × V)} {k : Key} {v : V} {d : D} (r : RpK K g vs ks) (h : Rp K g v d) : RpK K g (putK vs k v) (dPut ks k d) := by
  unfold putK dPut
  rw [r.any k]
  split
  · exact RpK.map h r
  · exact r.app (.cons h .nil)
theorem RpK.merge : ∀ {more : List (Key × D)} {mv : List (Key × V)} {ks : List (Key × D)} {vs : List (Key × V)}, RpK K g mv more → RpK K g vs ks → RpK K g (mergeK vs mv) (dMerge ks more)
  | [], mv, ks, vs, r, q => by
    have : mv = [] := List.eq_nil_of_length_eq_zero r.length
    subst this; exact q
  | (k, d) :: more, mv, ks, vs, r, q => by
    obtain ⟨v, ws, rfl, rv, rr⟩ := r.inv
    exact RpK.merge (ks := dPut ks k d) (vs := putK vs k v) rr (q.put rv)
theorem Rp.key {v : V} {d : D} {k : Key} (r : Rp K g v d) (h : keyD d = some k) : v = kV k := by
  cases d with
  | int i => cases h; cases r; rfl
  | str x => cases h; cases r; rfl
  | _ => cases h
end
/-- the values of a display, with their keys -/
def evsK : List (Str × Ex) → Sl → M (List (Key × D))
  | [], _ => ret []
  | (x, f) :: fs, S => bnd (f S) fun d => bnd (evsK fs S) fun ds => ret ((.inr x, d) :: ds)
theorem evsK_length : ∀ {fs : List (Str × Ex)} {S : Sl} {t t' : Tn} {ds : List (Key × D)}, evsK fs S t = some (.ok ds t') → ds.length = fs.length
  | [], _, _, _, ds, h => by
    have h : some (Out.ok ([] : List (Key × D)) _) = some (Out.ok ds _) := h
    cases h; rfl
  | (x, f) :: fs, S, t, t', ds, h => by
    have h : bnd (f S) (fun d => bnd (evsK fs S) fun ds => ret ((Sum.inr x, d) :: ds)) t = some (.ok ds t') := h
    cases e1 : f S t with
    | none => unfold bnd at h; rw [e1] at h; cases h
    | some o =>
      cases o with
      | exc c t1 => rw [bnd_exc e1] at h; cases h
      | ok d t1 =>
        rw [bnd_ok e1] at h
        cases e2 : evsK fs S t1 with
        | none => unfold bnd at h; rw [e2] at h; cases h
        | some o =>
          cases o with
          | exc c t2 => rw [bnd_exc e2] at h; cases h
          | ok ds' t2 =>
            rw [bnd_ok e2] at h
            have h : some (Out.ok ((Sum.inr x, d) :: ds') t2) = some (Out.ok ds t') := h
            cases h
            rw [List.length_cons, List.length_cons, evsK_length e2]
theorem Post.all {α : Type} {C : Cn} {E : XK} {g g1 : G} {H H1 : Hp} {Rok Rok' : α → Tn → G → Hp → Prop} {r : Option (Out α)} (h : Post C E g H Rok r) (s : Stp g H g1 H1) (f : ∀ a t' g' H', r = some (.ok a t') → Stp g1 H1 g' H' → Wf C g' H' t' → (∀ g2 H2, Stp g H g2 H2 → Wf C g2 H2 t' → Rok a t' g2 H2) → Rok' a t' g' H') : Post C E g1 H1 Rok' r := by
  cases r with
  | none => exact h
  | some o =>
    cases o with
    | ok a t' => exact fun g' H' s' w => f a t' g' H' rfl s' w h
    | exc c t' => exact fun g' H' s' w => h g' H' (s.trans s') w
theorem Wf.updD {C : Cn} {g : G} {H : Hp} {t : Tn} {p : Addr} {kvs : List (Key × V)} {o : HO} (w : Wf C g H t) (hp : H p = some (.dK kvs)) (fp : g.Fz p = none) (nt : ¬ g.isTw p) (ho : ∀ ps, o ≠ .tbl ps) : Wf C g (upd H p o) t where
  fz := fun b o' h => by
    rw [upd_ne (ne_of_none h fp)]
    exact w.fz b o' h
  tw := ⟨w.tw.1.ext fun b kvs h z => by rw [upd_ne fun z2 => nt (.inl (by rw [← z2]; exact z))]; exact h, w.tw.2.keep (fun _ _ h => h) (.refl g) ⟨rfl, rfl⟩ fun a ha ho h => by rw [upd_ne fun z => nt (.inr (by rw [← z]; exact ha))]; exact h⟩
  ntw := w.ntw
  nft := w.nft
  tab := fun q hq => by
    obtain ⟨ps, h1, h2, h3⟩ := w.tab q hq
    refine ⟨ps, by rw [upd_ne (ne_of h1 hp (fun z => nomatch z))]; exact h1, h2, fun pos cv hc => ?_⟩
    obtain ⟨c, e1, e2⟩ := h3 pos cv hc
    exact ⟨c, e1, by rw [upd_ne (ne_of e2 hp (fun z => nomatch z))]; exact e2⟩
section
variable {X : Cx} {C : Cn} {E : XK}
def trsD (X : Cx) (C : Cn) (E : XK) (fs : List (Str × Ex)) : List (TE × TE) := fs.map fun p => (fun _ H Q => Q (.str p.1) H, tE X.K C E p.2)
abbrev CPs (X : Cx) (C : Cn) (E : XK) (pos : Pos) (keys : List (Option Expr)) (values : List Expr) (fs : List (Str × Ex)) : Prop := PPs X pos keys values (trsD X C E fs) ∧ keys.all (·.isSome) = true ∧ keys.length = values.length ∧ keys.length = fs.length
theorem cps_nil {pos : Pos} : CPs X C E pos [] [] [] := ⟨pps_nil, rfl, rfl, rfl⟩
theorem cps_cons {pos p : Pos} {x : Str} {j : Nat} {v : Expr} {f : Ex} {ks : List (Option Expr)} {vs : List Expr} {fs : List (Str × Ex)} (h : CE X C E v f) (r : CPs X C E pos ks vs fs) : CPs X C E pos (some (.Constant (.str x) j p) :: ks) (v :: vs) ((x, f) :: fs) :=
  ⟨pps_cons pe_str h r.1, by rw [List.all_cons, r.2.1]; rfl, by rw [List.length_cons, List.length_cons, r.2.2.1], by rw [List.length_cons, List.length_cons, r.2.2.2]⟩
theorem tPairs_of : ∀ {fs : List (Str × Ex)} {σ : L2.St} {H : Hp} {g : G} {S : Sl} {t : Tn} {Q : List (V × V) → Hp → Prop}, Wf C g H t → SL X.K g H σ S →
    Post C E g H (fun ks _ g' H' => ∀ vs, RpK X.K g' vs ks → Q (vs.map fun p => (kV p.1, p.2)) H') (evsK fs S t) → tPairs (trsD X C E fs) σ H Q
  | [], σ, H, g, S, t, Q, w, s, p => by
    have p := postRet p w
    exact p [] .nil
  | (x, f) :: fs, σ, H, g, S, t, Q, w, s, p => by
    refine ⟨g, S, t, w, s, p.bnd.imp fun d t1 g1 H1 st1 w1 q v r => ?_⟩
    refine tPairs_of w1 (s.stp w st1) (q.bnd.imp fun ks t2 g2 H2 st2 w2 q2 vs rs => ?_)
    have := postRet q2 w2 ((Sum.inr x, v) :: vs) (.cons (r.stp st2) rs)
    exact this
/-- what a display leaves: a new dict of one's own -/
def tDic (X : Cx) (C : Cn) (E : XK) (fs : List (Str × Ex)) : TE := fun σ H Q => ∃ g S t, Wf C g H t ∧ SL X.K g H σ S ∧ Post C E g H (fun ks _ g' H' => ∀ p vs, H p = none → H' p = some (.dK vs) → RpK X.K g' vs (dMerge [] ks) → g'.Fz p = none → ¬ g'.isTw p → Q (.ref p) H') (evsK fs S t)
theorem pe_dic {pos : Pos} {keys : List (Option Expr)} {values : List Expr} {fs : List (Str × Ex)} (h : CPs X C E pos keys values fs) (h0 : keys ≠ []) (h15 : keys.length ≤ 15) : PE X (.Dict keys values pos) (tDic X C E fs) := by
  refine PE.imp (pe_disp h.1 h.2.1 h.2.2.1 h0 h15) fun σ H Q ⟨g, S, t, w, s, q⟩ => ?_
  intro p hp
  have st0 : Stp g H g (upd H p (.dK [])) := Stp.lay w hp
  have w0 : Wf C g (upd H p (.dK [])) t := Wf.lay w hp
  refine tPairs_of w0 (s.stp w st0) (q.all st0 fun ks t1 g1 H1 er st1 w1 q1 vs rs => ?_)
  have nt0 : ¬ g.isTw p := w.ntN hp
  have e1 : H1 p = some (.dK []) := st1.frm p _ upd_same nt0 (fun _ z => nomatch z)
  have nt1 : ¬ g1.isTw p := st1.ntw upd_same nt0 (fun _ z => nomatch z)
  have f1 : g1.Fz p = none := by rw [st1.new p ⟨_, upd_same, fun _ z => nomatch z⟩]; exact w.fzN hp
  refine ⟨e1, vs, rfl, by rw [rs.length, evsK_length er, ← h.2.2.2]; exact h15, ?_⟩
  exact q1 g1 _ ((st0.trans st1).updO (Nt.no hp)) (w1.updD e1 f1 nt1 (fun _ z => by cases z)) p _ hp upd_same (RpK.merge rs .nil) f1 nt1
/-- x = {'k': e, ..} -/
def sDic (i : Nat) (fs : List (Str × Ex)) : Stm := fun S => bnd (evsK fs S) fun ks => ret (.nx (S.set i (.dic (dMerge [] ks))))
theorem cs_dic (i : Nat) {x : Str} {keys : List (Option Expr)} {values : List Expr} {fs : List (Str × Ex)} {dpos pos pos' : Pos} (hN : X.N.Nodup) (h : CPs X C E dpos keys values fs) (h0 : keys ≠ [] := by simp) (h15 : keys.length ≤ 15 := by decide) (hi : X.N[i]? = some x := by rfl) (hx : Loc X.env.scope x := by first | exact .inl rfl | exact .inr rfl) (hs : swapsWith (.Dict keys values dpos) (some (.Name x pos')) pos.line X.env = pure false := by rfl)
    (hf : X.fn x = true ∨ X.env.scope.names.lookup x = some .local := by first | exact .inl rfl | exact .inr rfl | assumption) : CS X C E (.Assign [.Name x pos'] (.Dict keys values dpos) pos) (sDic i fs) :=
  PS.imp (ps_set hN hi hx (pe_dic h h0 h15) hs hf) fun De σ H ⟨g0, H0, gs, g, S, t, st, gr, w, s, o, p⟩ =>
    ⟨g, S, t, w, s, p.bnd0.all st fun ks t1 g1 H1 er st1 w1 q1 a vs ha ha1 rs fa nt => by
      have q2 := q1 g1 H1 (st.trans st1) w1
      exact q2 g1 H1 (st.trans st1) w1 _ (gr.trans st1.gw) ((s.stp w st1).setD ha1 rs fa nt fun j y h1 hx h2 => s.noOne (Nt.no ha) i j y h1 hx h2) (o.put (st.back ha))⟩
/-- x.update({'k': e, ..}) -/
def sDUpd (i : Nat) (fs : List (Str × Ex)) : Stm := fun S => match S[i]? with
  | some (.dic _) => bnd (evsK fs S) fun ms => match S[i]? with
    | some (.dic ks) => if ks.length < 1000 then ret (.nx (S.set i (.dic (dMerge ks (dMerge [] ms))))) else stuck
    | _ => stuck
  | _ => stuck
def rUpd : V → List V → Hp → VK → Prop := fun x xs H Q => ∃ d o kvs more, x = .ref d ∧ xs = [.ref o] ∧ d ≠ o ∧ H d = some (.dK kvs) ∧ H o = some (.dK more) ∧ kvs.length + more.length ≤ sizeLine ∧ Q .non (upd H d (.dK (mergeK kvs more)))
theorem mt_upd : MtR X "dict.update" rUpd := by
  intro pins s σ H x xs v us Q I rx rs h
  obtain ⟨d, o, kvs, more, rfl, rfl, hdo, e1, e2, hz, q⟩ := h
  cases rx
  obtain ⟨u, rfl, ru⟩ := rs.one
  cases ru
  obtain ⟨z1, d1, vs, rel, dd⟩ := dk_of I.hok e1
  obtain ⟨z2, d2, ws, rel2, dd2⟩ := dk_of I.hok e2
  refine call_meetsIn PySem.F.slot_dict_update dd.typeIs PySem.F.entry_dict_update (PySem.F.args_dict_update_2 _ _) (meets_dict_update (mixKind X.prog X.w) d o hdo d2) ⟨vs, ws, dd, dd2, by rw [← rel.length, ← rel2.length]; exact hz, fun h' dd' _ hs => ?_⟩
  have he : ∃ q, h'.get? d = some q := let ⟨q, _, _, hq, _⟩ := dd'; ⟨q, hq⟩
  exact ⟨.non, _, d_write I (by rw [e1]; exact True.intro) hs he (dk_new (by have := length_mergeK more kvs; omega) d1 (rel2.merge rel) dd'), rfl, q⟩
theorem cs_dupd (i : Nat) {x : Str} {keys : List (Option Expr)} {values : List Expr} {fs : List (Str × Ex)} {p1 apos cpos dpos pos : Pos} (h : CPs X C E dpos keys values fs) (h0 : keys ≠ [] := by simp) (h15 : keys.length ≤ 15 := by decide) (hN : X.N[i]? = some x := by rfl) (hv : Vis X.env.scope x := by first | exact Or.inl rfl | exact Or.inr (Or.inl rfl) | exact Or.inr (Or.inr rfl)) (hd : (x == ("__debug__" : Str)) = false := by decide)
    (hcd : (x == ("__classdict__" : Str)) = false := by decide) (hbase : attributeBase (.Name x p1) "update" X.env (eval (.Name x p1) X.env) = eval (.Name x p1) X.env := by rfl)
    (hfew : ((backTo cpos (starEach [.Dict keys values dpos] X.env)).all (fun x => !x.1) && (backToKw cpos (keywordEach [] X.env)).all (fun x => x.1.isSome) && decide ([Expr.Dict keys values dpos].length + ([] : List Keyword).length + (if ([] : List Keyword).isEmpty then 0 else 1) < 30)) = true := by rfl)
    (hline : (apos.endLine == cpos.line) = true := by rfl) (hs : starEach [.Dict keys values dpos] X.env = (false, eval (.Dict keys values dpos) X.env) :: starEach [] X.env := by rfl) (hplain : (backTo cpos (starEach [] X.env)).any (·.1) = false := by rfl) (hsw : swapsWith (.Call (.Attribute (.Name x p1) "update" apos) [.Dict keys values dpos] [] cpos) none pos.line X.env = pure false := by rfl) :
    CS X C E (.Expr (.Call (.Attribute (.Name x p1) "update" apos) [.Dict keys values dpos] [] cpos) pos) (sDUpd i fs) :=
  PS.imp (ps_expr (pe_bm PySem.F.plainAttrs_dict PySem.F.slot_dict_update PySem.F.type_dict_update mt_upd (pe_var hN hv hd hcd) (pa_cons (pe_dic h h0 h15) pa_nil hs) hbase hfew hline hs hplain) hsw) fun De σ H ⟨g0, H0, gs, g, S, t, st, gr, w, s, o, p⟩ => by
    unfold sDUpd at p
    cases e : S[i]? with
    | none => rw [e] at p; exact p.elim
    | some sv =>
      rw [e] at p
      cases sv with
      | un => exact p.elim
      | val d => exact p.elim
      | own d => exact p.elim
      | raw d => exact p.elim
      | exn d => exact p.elim
      | dcT d => exact p.elim
      | dic ks =>
        obtain ⟨a, vs, h1, h2, h3, h4, h5⟩ := s.dic i ks e
        refine ⟨_, h1, .inr (.inr (.inl ⟨rfl, .inl ⟨vs, h2⟩⟩)), ⟨g, S, t, w, s, p.bnd0.all st fun ms t1 g1 H1 er st1 w1 q1 b ws hb hb1 rs fb nt => ?_⟩⟩
        have q2 := q1 g1 H1 (st.trans st1) w1
        have q2 : Post C E g0 H0 (Rs X.K H0 gs De) ((if ks.length < 1000 then ret (Fl.nx (S.set i (.dic (dMerge ks (dMerge [] ms))))) else stuck) t1) := q2
        split at q2
        · rename_i hz
          obtain ⟨a', vs', k1, k2, k3, k4, k5⟩ := (s.stp w st1).dic i ks e
          rw [h1] at k1
          cases k1
          have nab : a ≠ b := fun z => by rw [z, hb] at h2; cases h2
          refine ⟨a, b, vs', ws, rfl, rfl, nab, k2, hb1, ?_, ?_⟩
          · have l1 := k3.length
            have l2 := rs.length
            have l3 := dMerge_len ms []
            have l4 := evsK_length er
            have l5 := h.2.2.2
            rw [List.length_nil] at l3
            rw [sizeLine_eq]
            omega
          exact q2 g1 _ ((st.trans st1).updO (o i _ a e rfl h1)) (w1.updD k2 k4 k5 (fun _ z => by cases z)) _ (gr.trans st1.gw) ((s.stp w st1).updX e rfl h1 rfl ⟨a, _, rfl, upd_same, RpK.merge rs k3, k4, k5⟩) (o.updX e rfl)
        · exact q2.elim
end
end BG
set_option Elab.async false
set_option linter.all false
set_option maxRecDepth 100000
set_option maxHeartbeats 4000000
namespace BG
open PySem PySem.Spec PyProof.Rows L2
section
variable {X : Cx} {C : Cn} {E : XK}
theorem ps_freeze {st : Stmt} {t : TS} (h : PS X st t) : PS X st (fun De σ H => ∃ d kvs, H d = some (.dK kvs) ∧ ∀ od, t De σ (upd H d (.frz od (.dK kvs)))) := ⟨fun pins s σ H D I ⟨d, kvs, e, q⟩ => by
  obtain ⟨od, I'⟩ := I.lock e True.intro
  exact h.run pins s σ _ D I' (q od)⟩
def sFrzD (i : Nat) (a : Stm) : Stm := fun S => match S[i]? with
  | some (.dic ks) => a (S.set i (.val (.dct (ks.map (·.1)) (ks.map (·.2)))))
  | _ => stuck
theorem zip_fs {α β : Type} : ∀ l : List (α × β), (l.map (·.1)).zip (l.map (·.2)) = l
  | [] => rfl
  | (a, b) :: l => by rw [List.map_cons, List.map_cons, List.zip_cons_cons, zip_fs l]
theorem cs_frzD (i : Nat) {st : Stmt} {f : Stm} (h : CS X C E st f) : CS X C E st (sFrzD i f) := PS.imp (ps_freeze h) fun De σ H ⟨g0, H0, gs, g, S, t, st, gr, w, s, o, p⟩ => by
  unfold sFrzD at p
  cases e : S[i]? with
  | none => rw [e] at p; exact p.elim
  | some sv =>
    rw [e] at p
    cases sv with
    | un => exact p.elim
    | val d => exact p.elim
    | own d => exact p.elim
    | raw d => exact p.elim
    | exn d => exact p.elim
    | dcT d => exact p.elim
    | dic ks =>
      obtain ⟨a, vs, h1, h2, h3, h4, h5⟩ := s.dic i ks e
      have h0 := o i _ a e rfl h1
      refine ⟨a, vs, h2, fun od => ?_⟩
      have sm : Same g.Fz (upd g.Fz a (.frz od (.dK vs))) := fun b o h => by rw [upd_ne (ne_of_none h h4)]; exact h
      have w1 : Wf C g (upd H a (.frz od (.dK vs))) t := w.updD h2 h4 h5 (fun _ z => by cases z)
      refine ⟨g0, H0, gs, ⟨upd g.Fz a (.frz od (.dK vs)), g.tw, g.ad, g.lg⟩, _, t, ⟨st.fz.trans sm, st.tw.trans .of, st.twn, (st.updO h0).frm, (st.updO h0).thr, fun b h => ?_⟩, gr.trans ⟨sm, .of⟩, ⟨fun b o h => ?_, ⟨w1.tw.1, w1.tw.2.frz sm⟩, fun b h => ?_, w1.tab, nft_upd w.nft fun _ z => by cases z⟩, ⟨by rw [List.length_set]; exact s.len, fun j x e2 => ?_, fun j k p x y e1 e2 o1 o2 e3 e4 => ?_⟩, fun j dj p e1 ox e2 => ?_, p⟩
      · have nb : b ≠ a := fun z => h0 (by rw [← z]; exact h)
        show upd g.Fz a _ b = _
        rw [upd_ne nb]
        exact st.new b h
      · have h : upd g.Fz a (.frz od (.dK vs)) b = some o := h
        by_cases hb : b = a
        · rw [hb, upd_same] at h ⊢; exact h
        · rw [upd_ne hb] at h ⊢
          exact w.fz b o h
      · have nb : b ≠ a := fun z => h5 (by rw [← z]; exact h)
        show upd g.Fz a _ b = _
        rw [upd_ne nb]
        exact w.ntw b h
      · have tw' : TwLe g (⟨upd g.Fz a (.frz od (.dK vs)), g.tw, g.ad, g.lg⟩ : G) := .of
        by_cases hj : i = j
        · subst hj
          obtain ⟨hl, _⟩ := List.getElem?_eq_some_iff.mp e
          rw [List.getElem?_set_self hl] at e2
          cases e2
          refine ⟨_, h1, .dct (o := od) (vs := vs.map (·.2)) ?_ (by rw [List.length_map, List.length_map, h3.length]) (RpA.mono (g' := ⟨upd g.Fz a (.frz od (.dK vs)), g.tw, g.ad, g.lg⟩) sm tw' h3.2)⟩
          show upd g.Fz a _ a = _
          rw [upd_same, ← h3.1, zip_fs]
        · rw [List.getElem?_set_ne hj] at e2
          have h := s.ok j x e2
          cases x with
          | un => trivial
          | raw v => exact h
          | exn c =>
            obtain ⟨b, k1, k2⟩ := h
            exact ⟨b, k1, by rw [upd_ne (fun z => by rw [z, h2] at k2; unfold ExK at k2; cases k2)]; exact k2⟩
          | val d => obtain ⟨v, k1, k2⟩ := h; exact ⟨v, k1, Rp.mono (g' := ⟨upd g.Fz a (.frz od (.dK vs)), g.tw, g.ad, g.lg⟩) sm tw' k2⟩
          | own dj =>
            obtain ⟨b, us, k1, k2, k3, k4⟩ := h
            have nb : b ≠ a := fun z => hj (s.dis i j a _ _ e e2 rfl rfl h1 (by rw [← z]; exact k1))
            exact ⟨b, us, k1, by rw [upd_ne nb]; exact k2, RpA.mono (g' := ⟨upd g.Fz a (.frz od (.dK vs)), g.tw, g.ad, g.lg⟩) sm tw' k3, by show upd g.Fz a _ b = _; rw [upd_ne nb]; exact k4.1, k4.2⟩
          | dcT kj =>
            obtain ⟨b, L, k1, k2, k3, k4⟩ := h
            have nb : b ≠ a := fun z => hj (s.dis i j a _ _ e e2 rfl rfl h1 (by rw [← z]; exact k1))
            exact ⟨b, L, k1, by rw [upd_ne nb]; exact k2, ⟨k3.keys, k3.nd, fun x hx => Rp.mono (g' := ⟨upd g.Fz a (.frz od (.dK vs)), g.tw, g.ad, g.lg⟩) sm tw' (k3.kt x hx), RpA.mono (g' := ⟨upd g.Fz a (.frz od (.dK vs)), g.tw, g.ad, g.lg⟩) sm tw' k3.vs⟩, by show upd g.Fz a _ b = _; rw [upd_ne nb]; exact k4.1, k4.2⟩
          | dic kj =>
            obtain ⟨b, us, k1, k2, k3, k4, k5⟩ := h
            have nb : b ≠ a := fun z => hj (s.dis i j a _ _ e e2 rfl rfl h1 (by rw [← z]; exact k1))
            exact ⟨b, us, k1, by rw [upd_ne nb]; exact k2, ⟨k3.1, RpA.mono (g' := ⟨upd g.Fz a (.frz od (.dK vs)), g.tw, g.ad, g.lg⟩) sm tw' k3.2⟩, by show upd g.Fz a _ b = _; rw [upd_ne nb]; exact k4, k5⟩
      · have n1 := set_ow e1 o1
        have n2 := set_ow e2 o2
        rw [List.getElem?_set_ne n1] at e1
        rw [List.getElem?_set_ne n2] at e2
        exact s.dis j k p x y e1 e2 o1 o2 e3 e4
      · have n := set_ow e1 ox
        rw [List.getElem?_set_ne n] at e1
        exact o j dj p e1 ox e2
def dAt (S : Sl) (i : Nat) : Option (List (Key × D)) := match S[i]? with
  | some (.dic ks) => some ks
  | some (.val (.dct ks ds)) => some (ks.zip ds)
  | _ => none
theorem RpA.zipK {K : PySem.W.Frag} {g : G} : ∀ {ks : List Key} {vs : List V} {ds : List D}, RpA K g vs ds → ks.length = vs.length → RpK K g (ks.zip vs) (ks.zip ds)
  | [], _, _, _, _ => .nil
  | k :: ks, [], _, _, h => by cases h
  | k :: ks, v :: vs, _, r, h => by
    cases r with
    | cons a b => exact .cons a (RpA.zipK b (by simpa using h))
theorem dAt_at {K : PySem.W.Frag} {g : G} {H : Hp} {σ : L2.St} {S : Sl} {t : Tn} {i : Nat} {ks : List (Key × D)} (w : Wf C g H t) (s : SL K g H σ S) (h : dAt S i = some ks) : ∃ a vs, σ[i]? = some (some (.ref a)) ∧ Rd H a (.dK vs) ∧ RpK K g vs ks := by
  unfold dAt at h
  cases e : S[i]? with
  | none => rw [e] at h; cases h
  | some sv =>
    rw [e] at h
    cases sv with
    | un => cases h
    | own d => cases h
    | raw d => cases h
    | exn d => cases h
    | dcT d => cases h
    | dic ks' =>
      cases h
      obtain ⟨a, vs, h1, h2, h3, _⟩ := s.dic i _ e
      exact ⟨a, vs, h1, .inl h2, h3⟩
    | val d =>
      cases d with
      | dct ks' ds =>
        cases h
        obtain ⟨v, h1, h2⟩ := s.val i _ e
        cases h2 with
        | dct e1 l ra => exact ⟨_, _, h1, .inr ⟨_, w.fz _ _ e1⟩, RpA.zipK ra l⟩
      | _ => cases h
/-- d[k] -/
def eDIx (i : Nat) (k : Ex) : Ex := fun S => match dAt S i with
  | some _ => bnd (k S) fun kd => match dAt S i, keyD kd with
    | some ks, some y => match dLook ks y with
      | some d => ret d
      | none => stuck
    | _, _ => stuck
  | none => stuck
theorem ce_dix (i : Nat) {x : Str} {k : Expr} {fk : Ex} {p1 pos : Pos} (hu : X.A.units + 1 < cLine) (hk : CE X C E k fk) (hN : X.N[i]? = some x := by rfl) (hv : Vis X.env.scope x := by first | exact Or.inl rfl | exact Or.inr (Or.inl rfl) | exact Or.inr (Or.inr rfl)) (hd : (x == ("__debug__" : Str)) = false := by decide)
    (hcd : (x == ("__classdict__" : Str)) = false := by decide) (hs : NoSl k := by exact fun _ _ => rfl) : CE X C E (.Subscript (.Name x p1) k pos) (eDIx i fk) :=
  PE.imp (pe_dget hu (pe_var hN hv hd hcd) hk hs) fun σ H Q ⟨g, S, t, w, s, p⟩ => by
    unfold eDIx at p
    cases e : dAt S i with
    | none => rw [e] at p; exact p.elim
    | some ks =>
      rw [e] at p
      obtain ⟨a, vs, h1, h2, h3⟩ := dAt_at w s e
      refine ⟨_, h1, ⟨g, S, t, w, s, p.bnd.imp fun kd t1 g1 H1 st1 w1 q v r => ?_⟩⟩
      obtain ⟨a', vs', k1, k2, k3⟩ := dAt_at w1 (s.stp w st1) e
      rw [h1] at k1
      cases k1
      cases ek : keyD kd with
      | none => rw [ek] at q; exact q.elim
      | some y =>
        rw [ek] at q
        have q : PostQ X.K C E g1 H1 Q ((match dLook ks y with | some d => ret d | none => stuck) t1) := q
        cases el : dLook ks y with
        | none => rw [el] at q; exact q.elim
        | some d =>
          rw [el] at q
          obtain ⟨u, m1, m2⟩ := (k3.look y).2 d el
          refine ⟨a, u, rfl, .inl ⟨vs', y, k2, r.key ek, m1.symm⟩, pRetV q w1 m2⟩
/-- the keys of a frozen dict -/
def itDic (i : Nat) : Sl → M (List D) := fun S => match S[i]? with
  | some (.val (.dct ks _)) => ret (ks.map kD)
  | _ => stuck
theorem ci_dic {tg : Expr} (i : Nat) {x : Str} {pos : Pos} (hN : X.N[i]? = some x := by rfl) (hv : Vis X.env.scope x := by first | exact Or.inl rfl | exact Or.inr (Or.inl rfl) | exact Or.inr (Or.inr rfl)) (hd : (x == ("__debug__" : Str)) = false := by decide)
    (hcd : (x == ("__classdict__" : Str)) = false := by decide) : CI X C E tg (.Name x pos) (itDic i) := PI.imp (pi_keys (pe_var hN hv hd hcd)) fun σ H R ⟨g, S, t, w, s, p⟩ => by
  unfold itDic at p
  cases e : S[i]? with
  | none => rw [e] at p; exact p.elim
  | some sv =>
    rw [e] at p
    cases sv with
    | un => exact p.elim
    | own d => exact p.elim
    | raw d => exact p.elim
    | exn d => exact p.elim
    | dic d => exact p.elim
    | dcT d => exact p.elim
    | val d =>
      cases d with
      | dct ks ds =>
        obtain ⟨v, h1, h2⟩ := s.val i _ e
        cases h2 with
        | @dct a o ks vs ds e1 l ra =>
          refine ⟨_, h1, a, o, rfl, .inl ⟨_, w.fz _ _ e1, postRet p w _ fun m H' sm => ⟨fun d ed => ?_, fun hl => ⟨sm _ _ e1, ?_⟩⟩⟩⟩
          · rw [List.getElem?_map] at ed
            cases ek : ks[m]? with
            | none => rw [ek] at ed; cases ed
            | some k =>
              rw [ek] at ed
              cases ed
              have hm : m < ks.length := (List.getElem?_eq_some_iff.mp ek).1
              refine ⟨⟨sm _ _ e1, by rw [List.length_zip]; omega⟩, fun y H2 ⟨e2, k', v', e3, e4⟩ => .inl ⟨e2, ?_⟩⟩
              rw [List.getElem?_zip_eq_some] at e3
              have : k = k' := by
                have := e3.1
                rw [ek] at this
                exact Option.some.inj this
              subst this e4
              cases k with
              | inl i => exact .int i
              | inr i => exact .str i
          · rw [List.length_map] at hl; rw [List.length_zip]; omega
      | _ => exact p.elim
end
end BG
set_option Elab.async false
set_option linter.all false
set_option maxRecDepth 100000
set_option maxHeartbeats 4000000
namespace BG
open PySem PySem.Spec PyProof.Rows L2
section
variable {X : Cx} {pins : List (Addr × Obj)} {σ : L2.St} {H : Hp} {s : Shared}
theorem Inv.track {a : Addr} {o : HO} (I : L2.Inv X pins σ H s) (na : H a = none) (nL : a ≠ X.env.locals) (nC : ∀ v, ¬ s.heap.IsCell a v) (n0 : X.s_0.heap.get? a = none) (np : ∀ p ∈ X.pn ++ pins, p.1 ≠ a) (ok : ObjOk X.prog X.w (upd H a o) s.heap a o) : L2.Inv X pins σ (upd H a o) s := by
  refine ⟨I.ok, I.os, I.bare, ⟨I.base.keep, I.base.slot, fun b u e1 e2 e3 => ?_, I.base.there, fun b xs e => ?_, fun b u v e => ?_, fun b ps e => ?_⟩, I.loc, I.cell, ?_, fun x c e => ?_, fun p hp => ?_, ?_, I.len⟩
  · rw [upd_ne (fun z => by rw [z, n0] at e1; cases e1)]; exact I.base.free b u e1 e2 e3
  · have := I.base.tups b xs e
    rw [upd_ne (ne_of_none this na)]; exact this
  · have := I.base.frzs b u v e
    rw [upd_ne (ne_of_none this na)]; exact this
  · obtain ⟨more, h⟩ := I.base.tbls b ps e
    exact ⟨more, by rw [upd_ne (ne_of_none h na)]; exact h⟩
  · rw [upd_ne (Ne.symm nL)]; exact I.free
  · obtain ⟨v, hv⟩ := I.cell x c e
    rw [upd_ne (fun z => nC v (by rw [← z]; exact hv))]; exact I.freeC x c e
  · obtain ⟨h1, h2, h3⟩ := I.pin p hp
    exact ⟨h1, by rw [upd_ne (np p hp)]; exact h2, h3⟩
  · intro b u e
    by_cases hb : b = a
    · subst hb
      rw [upd_same] at e
      cases e
      exact ok
    · rw [upd_ne hb] at e
      exact (I.hok b u e).stay (fun c v _ q => q) (fun c q => by rw [upd_ne (ne_of_none q na)]; exact q) fun c xs q => by rw [upd_ne (ne_of_none q na)]; exact q
end
/-- what the clause wishes: slot i is n's -/
def wKeep (K : PySem.W.Frag) (c : Value) (i ln : Nat) (ts : Addr → TS) (D : Ends) : WX := fun cls d σ H =>
  PySem.W.exmOne K cls c = some true ∧ d = none ∧ ∀ a, H a = none → σ.length = ln → ts a { nx := fun σ' H' => D.nx (σ'.set i none) (upd H' a (ExK cls a)), rt := fun _ _ => False, bk := fun _ _ => False, ct := fun _ _ => False } (σ.set i (some (.ref a))) H
section
variable {X : Cx} {x n : Str} {c : Value} {i : Nat} {body suite : List Stmt} {b₀ : Stmt} {np pos pos' : Pos} {tb : WX → TS} {ts : Addr → TS}
theorem ps_try_keep (hs : X.stack = X.env :: X.outer) (hf : X.env.frame = some X.env.locals) (hex : X.ex = []) (hN : X.N.Nodup) (hi : X.N[i]? = some n) (hln : X.env.kindOf n = some .local) (hc : Names X x c)
    (hb : ∀ (W : WX) (pn : List (Addr × Obj)) (xe : Value → Shared → Prop), L2.Takes (X.tr pn xe) W → PSs (X.tr pn xe) body (tb W))
    (hsu : ∀ (a : Addr) (oe : Obj) (pn : List (Addr × Obj)), PSs (X.suite a ((a, oe) :: pn)) (b₀ :: suite) (ts a)) :
    PS X (.Try body [.ExceptHandler (some (.Name x np)) (some n) (b₀ :: suite) pos'] [] [] pos) (fun D σ H => tb (wKeep X.K c i X.N.length ts D) D σ H) := by
  refine ⟨fun pins s σ H D I h => ?_⟩
  have ok := I.ok
  have fr : X.A.frames = some (X.env :: X.outer) := by rw [ok.frames, hs]
  refine wpAny_Try_except (wpAny_mono ((hb (wKeep X.K c i X.N.length ts D) (X.pn ++ pins) (fun e s₁ => wpAny (model X.prog X.w) X.A (noteFrame e X.env) (fun _ s₂ => wpAny (model X.prog X.w) X.A (setFlight e none) (fun _ s₃ => wpAny (model X.prog X.w) X.A (handleBy e X.env [.ExceptHandler (some (.Name x np)) (some n) (b₀ :: suite) pos']) (SP X pins D) X.xe s₃) X.xe s₂) X.xe s₁) (fun u s' xx => ?_)).run [] s σ H D (I.toTry _) h) (fun f s1 hsp => ?_) (fun e s1 he => he))
  · obtain ⟨a, B, sI, pins', σ', H', cls, d, rfl, J', nb, up, sky, na, os, ag, hb1, hd0, hyes⟩ := xx
    subst hd0
    have J : L2.Inv X pins σ' H' sI := J'.ofTry ok
    have sky2 : Sky B (X.env :: X.outer) a (Zc cls none) X.env.locals s'.heap := by rw [← hs]; exact sky
    have Ba : B.get? a = none := by rcases sky2 with q | q | q <;> exact q.2.1
    show wpAny (model X.prog X.w) X.A (noteFrame (.ref a) X.env) _ _ s'
    refine L2.Sky.land Zc.steady fr hf sky2 fun h3 fl3 up3 => ?_
    have J3 : L2.Inv X pins σ' H' { s' with heap := h3 } := J.landed nb fl3.1 (up.trans up3) os ag
    obtain ⟨ob3, us3, hk3, hy3, hw3⟩ := fl3.there
    have notf : a ∉ frs (X.env :: X.outer) := fun hm => by
      obtain ⟨_, o', e', hnf⟩ := fl3.2.2.1.mem hm
      rw [hk3] at e'; cases e'
      exact hnf _ hw3
    have aI : sI.heap.get? a = none := by
      cases z : sI.heap.get? a with
      | none => rfl
      | some o =>
        have := nb a o z (by rw [hs]; exact notf)
        rw [Ba] at this; cases this
    have nL : a ≠ X.env.locals := fun z => notf (List.mem_filterMap.mpr ⟨X.env, List.mem_cons_self, by rw [hf, z]⟩)
    have nF : a ∉ X.fs := fun hm => by
      obtain ⟨e, he, q⟩ := List.mem_filterMap.mp hm
      exact notf (List.mem_filterMap.mpr ⟨e, List.mem_cons_of_mem _ he, q⟩)
    have a0 : X.s_0.heap.get? a = none := by
      cases z : X.s_0.heap.get? a with
      | none => rfl
      | some o =>
        obtain ⟨o', e'⟩ := J.base.there a o z (by rw [hex]; exact fun q => nomatch q)
        rw [aI] at e'; cases e'
    have ap : ∀ p ∈ X.pn ++ pins, p.1 ≠ a := fun p hp z => by
      have := (J.pin p hp).1
      rw [z, aI] at this; cases this
    have S3 := J3.suite hk3 hw3 na nL nF
    refine wpAny_handleBy_cons (codeAny_handlers_test ?_) (by intro q; cases q)
    have lt1 : PySem.W.Looks (model X.prog X.w) h3 (typeOf (.ref a)) cls := fun A Q E s k q => wpAny_typeOf_ref (k _ _ hk3) (by rw [hy3.1]; exact q)
    have lm1 := PySem.W.exm_one (M := model X.prog X.w) J3.kIn lt1 hb1
    have test : ∀ {Q : Value → Shared → Prop} {E : Value → Shared → Prop}, Q c { s' with heap := h3 } → wpAny (model X.prog X.w) (X.A.mark (some (.ref a))) (eval (.Name x np) X.env) Q E { s' with heap := h3 } := fun {Q E} q => by
      rcases hc with ⟨hg, hdbg, hm | ⟨hm, hv, hnn⟩⟩
      · exact ld_glob (X := X.suite a ((a, ob3) :: (X.pn ++ pins))) S3 hg hm q hdbg
      · exact ld_blt (X := X.suite a ((a, ob3) :: (X.pn ++ pins))) S3 hg hm hv q hnn hdbg
    refine test (lm1.here (codeAny_handlers_suite_as (HandSPX.lands_againZ fl3 fun h4 fl4 up4 => ?_)))
    have J4 : L2.Inv X pins σ' H' { s' with heap := h4 } := J.landed nb fl4.1 ((up.trans up3).trans up4) os ag
    obtain ⟨ob4, us4, hk4, hy4, hw4⟩ := fl4.there
    have S4 := J4.suite hk4 hw4 na nL nF
    refine store_ok (X := X.suite a ((a, ob4) :: (X.pn ++ pins))) (v := .ref a) S4 hN hi (.inl hln) rfl (fun s5 S5 => ?_) (.inr hln)
    refine wpAny_mono ((hsu a ob4 (X.pn ++ pins)).run [] s5 _ H' _ S5 (hyes a na J.len)) (fun f s6 hsp => ?_) (fun _ _ z => False.elim z)
    cases f with
    | next =>
      obtain ⟨σ6, H6, S6, q6⟩ := hsp
      obtain ⟨p1, p2, p3, p4, p5⟩ := S6.pin (a, ob4) (List.mem_append_left _ (List.mem_cons_self ..))
      have T6 : L2.Inv X ((a, ob4) :: pins) σ6 H6 s6 := ⟨ok, S6.os, S6.bare, S6.base, S6.loc, S6.cell, S6.free, S6.freeC, fun p hp => S6.pin p (by
        rcases List.mem_append.mp hp with h | h
        · exact List.mem_append_left _ (List.mem_cons_of_mem _ (List.mem_append_left _ h))
        · rcases List.mem_cons.mp h with h | h
          · rw [h]; exact List.mem_append_left _ (List.mem_cons_self ..)
          · exact List.mem_append_left _ (List.mem_cons_of_mem _ (List.mem_append_right _ h))), S6.hok, S6.len⟩
      refine gone_ok T6 hN hi hln fun s7 J7 => ?_
      obtain ⟨e1, e2, e3, e4, e5⟩ := J7.pin (a, ob4) (List.mem_append_right _ (List.mem_cons_self ..))
      have J8 : L2.Inv X pins (σ6.set i none) H6 s7 := ⟨ok, J7.os, J7.bare, J7.base, J7.loc, J7.cell, J7.free, J7.freeC, fun p hp => J7.pin p (by
        rcases List.mem_append.mp hp with h | h
        · exact List.mem_append_left _ h
        · exact List.mem_append_right _ (List.mem_cons_of_mem _ h)), J7.hok, J7.len⟩
      refine ⟨_, _, Inv.track J8 e2 e3 (fun v ⟨o, g1, g2⟩ => ?_) a0 ap ?_, q6⟩
      · rw [e1] at g1
        cases g1
        exact e5 v g2
      · exact ⟨⟨ob4, us4, e1, hy4.1, hy4.2, hw4⟩, ⟨ob4, e1⟩, fun _ _ ⟨o, v, q, r⟩ k => ⟨o, v, k o q, r⟩⟩
    | brk => obtain ⟨_, _, _, q⟩ := hsp; exact q.elim
    | cont => obtain ⟨_, _, _, q⟩ := hsp; exact q.elim
    | ret u => obtain ⟨_, _, _, _, _, q⟩ := hsp; exact q.elim
  · cases f with
    | next => obtain ⟨σ', H', J', q⟩ := hsp; exact wpAny_execs_nil ⟨σ', H', J'.ofTry ok, q⟩
    | brk => obtain ⟨σ', H', J', q⟩ := hsp; exact ⟨σ', H', J'.ofTry ok, q⟩
    | cont => obtain ⟨σ', H', J', q⟩ := hsp; exact ⟨σ', H', J'.ofTry ok, q⟩
    | ret u => obtain ⟨v, σ', H', J', r, q⟩ := hsp; exact ⟨v, σ', H', J'.ofTry ok, r, q⟩
end
end BG
set_option Elab.async false
set_option linter.all false
set_option maxRecDepth 100000
set_option maxHeartbeats 4000000
namespace BG
open PySem PySem.Spec PyProof.Rows L2
/-- what isinstance asks of an exception class of the program -/
structure ExcF (K : PySem.W.Frag) (c : Addr) : Prop where
  cl : (PySem.W.clsIn K c).isSome = true
  ga : PySem.W.findIn K (.ref c) "__getattribute__" = some (some (.builtin "BaseException.__getattribute__"))
  gt : ∃ gt, PySem.W.findIn K (.ref c) "__getattr__" = some gt
  sub : PySem.W.subIn K (.ref c) (.type "BaseException") = some true
  at_ : PySem.W.findIn K (.ref c) "__class__" = some (some (.builtin "object.__class__"))
  gs : PySem.W.specialIn K (.builtin "object.__class__") "__get__" = some (some (.builtin "getset_descriptor.__get__"))
  tk : PySem.W.takesIn K (.builtin "object.__class__") = some true
  mr : PySem.W.mroIn K c (.type "object") = some true
section
variable {X : Cx} {C : Cn} {E : XK}
def rIsX (K : PySem.W.Frag) : List V → Hp → VK → Prop := fun xs H Q => ∃ a c cv u b, xs = [.ref a, cv] ∧ ClsV cv u ∧ H a = some (ExK (.ref c) a) ∧ ExcF K c ∧ PySem.W.kitOne K (.ref c) u = some b ∧ Q (.bl b) H
theorem call_isX : CallR X (.builtin "isinstance") (rIsX X.K) := by
  intro pins s σ H xs us Q I rl h
  obtain ⟨a, c, cv, u, b, rfl, k, ha, F, e, q⟩ := h
  obtain ⟨u1, u2, rfl, r1, r2⟩ := vals2 rl
  have e2 := k.eq r2
  subst e2
  cases r1
  obtain ⟨⟨oe, vs, g1, g2, g3, g4⟩, _, _⟩ := I.hok a _ ha
  obtain ⟨gt, hgt⟩ := F.gt
  exact PySem.W.kia_one (PySem.W.kitx_exc (x := a) (ox := oe) (od := none) F.cl F.ga hgt F.sub F.at_ F.gs F.tk F.mr) I.kIn ⟨g1, g2, by unfold PySem.W.notCls; rw [g4], by rw [g3]; trivial⟩ e (fun z => nomatch z) fun tk => ⟨.bl b, H, I.tok tk, rfl, q⟩
/-- isinstance(x, C) of a slot that holds an exception -/
def eIsE (K : PySem.W.Frag) (exs : List Addr) (i : Nat) (u : Value) : Ex := fun S => match S[i]? with
  | some (.exn c) => if c ∈ exs then match PySem.W.kitOne K (.ref c) u with
    | some b => ret (.bl b)
    | none => stuck
    else stuck
  | _ => stuck
theorem isE_of {K : PySem.W.Frag} {exs : List Addr} {i : Nat} {u : Value} {cv : V} {σ : L2.St} {H : Hp} {Q : VK} {g : G} {S : Sl} {t : Tn} (hF : ∀ c ∈ exs, ExcF K c) (kc : ClsV cv u) (w : Wf C g H t) (s : SL K g H σ S) (p : PostQ K C E g H Q (eIsE K exs i u S t)) :
    ∃ v, σ[i]? = some (some v) ∧ rIsX K [v, cv] H Q := by
  unfold eIsE at p
  cases e : S[i]? with
  | none => rw [e] at p; exact p.elim
  | some sv =>
    rw [e] at p
    cases sv with
    | exn c =>
      have p : PostQ K C E g H Q ((if c ∈ exs then match PySem.W.kitOne K (.ref c) u with | some b => ret (D.bl b) | none => stuck else stuck) t) := p
      split at p
      · rename_i hc
        cases ek : PySem.W.kitOne K (.ref c) u with
        | none => rw [ek] at p; exact p.elim
        | some b =>
          rw [ek] at p
          obtain ⟨a, h1, h2⟩ := s.ok i _ e
          exact ⟨_, h1, a, c, cv, u, b, rfl, kc, h2, hF c hc, ek, pRetV p w (.bl b)⟩
      · exact p.elim
    | un => exact p.elim
    | val d => exact p.elim
    | own d => exact p.elim
    | dic d => exact p.elim
    | dcT d => exact p.elim
    | raw d => exact p.elim
theorem ce_isE (i : Nat) {exs : List Addr} {x y : Str} {u : Addr} {p q q2 pos : Pos} (hF : ∀ c ∈ exs, ExcF X.K c) (hm : X.mg "isinstance" = none) (hmT : X.mg y = some (.ref u)) (hN : X.N[i]? = some x := by rfl) (hv : Vis X.env.scope x := by first | exact Or.inl rfl | exact Or.inr (Or.inl rfl) | exact Or.inr (Or.inr rfl)) (hd : (x == ("__debug__" : Str)) = false := by decide)
    (hcd : (x == ("__classdict__" : Str)) = false := by decide) (hg : Gl X "isinstance" := by rfl) (hgT : Gl X y := by rfl) (hvi : bootBuiltins "isinstance" = some (.builtin "isinstance") := by decide +kernel) (hdb : (y == ("__debug__" : Str)) = false := by decide)
    (hs : starEach [.Name x q, .Name y q2] X.env = (false, eval (.Name x q) X.env) :: starEach [.Name y q2] X.env := by rfl) (hs2 : starEach [.Name y q2] X.env = (false, eval (.Name y q2) X.env) :: starEach [] X.env := by rfl) (hp : (backTo pos (starEach [.Name y q2] X.env)).any (·.1) = false := by rfl) :
    CE X C E (.Call (.Name "isinstance" p) [.Name x q, .Name y q2] [] pos) (eIsE X.K exs i (.ref u)) :=
  PE.imp (pe_callB call_isX hg hm hvi (pa_cons (pe_var hN hv hd hcd) (pa_cons (pe_glob (v := .ref u) hgT hmT rfl hdb) pa_nil hs2) hs) (by decide) (by decide) hs hp) fun σ H Q ⟨g, S, t, w, s, p⟩ => by
    obtain ⟨v, h1, h2⟩ := isE_of hF (.own u) w s p
    exact ⟨v, h1, h2⟩
theorem ce_isEb (i : Nat) {exs : List Addr} {x y : Str} {n : String} {p q q2 pos : Pos} (hF : ∀ c ∈ exs, ExcF X.K c) (hm : X.mg "isinstance" = none) (hmT : X.mg y = none) (hvT : bootBuiltins y = some (.type n)) (hN : X.N[i]? = some x := by rfl) (hv : Vis X.env.scope x := by first | exact Or.inl rfl | exact Or.inr (Or.inl rfl) | exact Or.inr (Or.inr rfl)) (hd : (x == ("__debug__" : Str)) = false := by decide)
    (hcd : (x == ("__classdict__" : Str)) = false := by decide) (hg : Gl X "isinstance" := by rfl) (hgT : Gl X y := by rfl) (hvi : bootBuiltins "isinstance" = some (.builtin "isinstance") := by decide +kernel) (hnn : y ≠ "__name__" := by decide) (hdb : (y == ("__debug__" : Str)) = false := by decide)
    (hs : starEach [.Name x q, .Name y q2] X.env = (false, eval (.Name x q) X.env) :: starEach [.Name y q2] X.env := by rfl) (hs2 : starEach [.Name y q2] X.env = (false, eval (.Name y q2) X.env) :: starEach [] X.env := by rfl) (hp : (backTo pos (starEach [.Name y q2] X.env)).any (·.1) = false := by rfl) :
    CE X C E (.Call (.Name "isinstance" p) [.Name x q, .Name y q2] [] pos) (eIsE X.K exs i (.type n)) :=
  PE.imp (pe_callB call_isX hg hm hvi (pa_cons (pe_var hN hv hd hcd) (pa_cons (pe_bltn (v := .ty n) hgT hmT hvT rfl hnn hdb) pa_nil hs2) hs) (by decide) (by decide) hs hp) fun σ H Q ⟨g, S, t, w, s, p⟩ => by
    obtain ⟨v, h1, h2⟩ := isE_of hF (.ty n) w s p
    exact ⟨v, h1, h2⟩
/-- x is None, of a slot -/
def eNoE (i : Nat) : Ex := fun S => match S[i]? with
  | some (.val d) => ret (.bl (isN d))
  | some (.exn _) => ret (.bl false)
  | _ => stuck
theorem isE_isN {v : V} {d : D} {K : PySem.W.Frag} {g : G} (r : Rp K g v d) : (v = .non) ↔ isN d = true := by
  cases r <;> first | exact ⟨fun _ => rfl, fun _ => rfl⟩ | (constructor <;> intro h <;> cases h)
theorem ct_noE (i : Nat) {x : Str} {j : Nat} {p p2 pos : Pos} (hN : X.N[i]? = some x := by rfl) (hv : Vis X.env.scope x := by first | exact Or.inl rfl | exact Or.inr (Or.inl rfl) | exact Or.inr (Or.inr rfl)) (hd : (x == ("__debug__" : Str)) = false := by decide)
    (hcd : (x == ("__classdict__" : Str)) = false := by decide) : CT X C E (.Compare (.Name x p) [.Is] [.Constant .none j p2] pos) (eNoE i) := PT.imp (pt_cmp (pc_isN (pe_var hN hv hd hcd))) fun σ H Q ⟨g, S, t, w, s, p⟩ => by
  unfold eNoE at p
  cases e : S[i]? with
  | none => rw [e] at p; exact p.elim
  | some sv =>
    rw [e] at p
    cases sv with
    | exn c =>
      obtain ⟨a, h1, h2⟩ := s.ok i _ e
      obtain ⟨b, eb, q⟩ := postRet p w
      cases eb
      exact ⟨_, h1, _, rfl, q⟩
    | val d =>
      obtain ⟨v, h1, h2⟩ := s.val i d e
      obtain ⟨b, eb, q⟩ := postRet p w
      cases eb
      refine ⟨v, h1, _, rfl, ?_⟩
      have : decide (v = .non) = isN d := by
        rw [Bool.eq_iff_iff, decide_eq_true_iff]
        exact isE_isN h2
      rw [this]; exact q
    | un => exact p.elim
    | own d => exact p.elim
    | dic d => exact p.elim
    | dcT d => exact p.elim
    | raw d => exact p.elim
abbrev ngR : List Str := [Str.ofString "call", Str.ofString "raised", Str.ofString "answer", Str.ofString "e", Str.ofString "some", Str.ofString "names", Str.ofString "name"]
/-- as _law_result tells it -/
def eResM (nm : Nat → Str) (al : Nat → Bool) (m : M D) : M D := fun t => match m t with
  | some (.ok d t') => some (.ok (.tup [.str "returns", d]) t')
  | some (.exc c t') => if al c = true then some (.ok (.tup [.str (nm c)]) t') else none
  | none => none
def eRes (nm : Nat → Str) (al : Nat → Bool) (f : Ex) : Ex := fun S => eResM nm al (f S)
def TTr (K : PySem.W.Frag) (C : Cn) (nm : Nat → Str) (al : Nat → Bool) : (XK → Hp → VK → Prop) → Hp → VK → Prop := fun tl H Q =>
  ∃ (g : G) (t : Tn) (m : M D), Wf C g H t ∧ (∀ (H1 : Hp) (E : XK) (Q' : VK), Stp g H g H1 → Wf C g H1 t → PostQ K C E g H1 Q' (m t) → tl E H1 Q') ∧ PostQ K C E0 g H Q (eResM nm al m t)
abbrev Zc0 (X : Cx) (Ng : List Str) (x : Str) (sg : Scope) (g : Addr) (cdg : Value) (s : Shared) (H : Hp) : Cx := (cxOf C8.CX0 X.prog X.w X.K X.mg X.base Ng x sg g cdg X.A X.stack s H C8.E0).nox
theorem gives_of {Ng : List Str} {sg : Scope} {g : Addr} {cdg : Value} {nm : Nat → Str} {al : Nat → Bool} {q : Str} {CS0 : Addr} {st1 : Stmt} {rest : List Stmt} {bR : Stm} {p1 p2 p3 p4 p5 p6 p7 p8 p9 p10 : Pos}
    (hNg : Ng = ngR) (hnd : Ng.Nodup)
    (h1 : ∀ s H, PS (Zc0 X Ng "_law_result" sg g cdg s H) st1 (fun D σ H => ∀ a, H a = none → D.nx ((σ.set 1 (some .non)).set 2 (some .non)) (upd H a (.tup [.non, .non]))))
    (hme : X.mg "GateError" = some (.ref CS0)) (hgE : sg.names.lookup (Str.ofString "GateError") = some NameKind.globalImplicit)
    (hle : sg.names.lookup (Str.ofString "e") = some NameKind.local) (hla : sg.names.lookup (Str.ofString "answer") = some NameKind.local) (hlr : sg.names.lookup (Str.ofString "raised") = some NameKind.local)
    (hex : ∀ c, al c = true → PySem.W.exmOne X.K (.ref (C.ex c)) (.ref CS0) = some true)
    (hR : ∀ s H, CSs (Zc0 X Ng "_law_result" sg g cdg s H) C E0 rest bR)
    (r1 : ∀ d, bR [.un, .val .non, .val d, .un, .un, .un, .un] = ret (.ret (.tup [.str "returns", d])))
    (r2 : ∀ c, al c = true → bR [.un, .exn (C.ex c), .un, .un, .un, .un, .un] = ret (.ret (.tup [.str (nm c)]))) :
    LamX.GivesTo X Ng "_law_result" sg g cdg (st1 :: .Try [.Assign [.Name "answer" p1] (.Call (.Name "call" p2) [] [] p3) p4] [.ExceptHandler (some (.Name "GateError" p5)) (some "e") [.Assign [.Name "raised" p6] (.Name "e" p7) p8] p9] [] [] p10 :: rest) "call" q (TTr X.K C nm al) := by
  subst hNg
  intro f c' s H Q tl act hc ⟨gg, t, m, w, htl, hq⟩
  refine ⟨_, pss_cons (h1 s H) (pss_cons (ps_try_keep (X := Zc0 X _ "_law_result" sg _ cdg s H) (c := .ref CS0) (i := 3)
      (tb := fun W D σ H => ∃ Ech : XK, (∀ cls d σ' H', Ech cls d H' → W cls d σ' H') ∧ σ[0]? = some (some (.ref f)) ∧ H c' = some (LamX.CodeO c' q) ∧ tl Ech H fun v H' => D.nx (σ.set 2 (some v)) H')
      (ts := fun a D σ H => ∃ v, σ[3]? = some (some v) ∧ D.nx (σ.set 1 (some v)) H)
      rfl rfl rfl hnd rfl hle ⟨hgE, by decide, .inl hme⟩ (fun W pn xe tk => ?_) (fun a oe pn => ?_)) (hR s H)), ?_⟩
  · refine ⟨fun pins s' σ H' D I h' => ?_⟩
    obtain ⟨Ech, hW, h1, h2, h3⟩ := h'
    have hp := act W pn xe Ech p2 p3 tk hW
    have hq := pss_one (ps_set (i := 2) (pos' := p1) (pos := p4) hnd rfl (.inl hla) hp rfl (.inr hla))
    exact hq.run pins s' σ H' D I ⟨h1, h2, h3⟩
  · have hv := pe_var (X := (Zc0 X ngR "_law_result" sg g cdg s H).suite a ((a, oe) :: pn)) (i := 3) (x := Str.ofString "e") (pos := p7) rfl (.inl hle) (by decide) (by decide)
    exact PSs.imp (pss_one (ps_set (i := 1) (pos' := p6) (pos := p8) hnd rfl (.inl hlr) hv rfl (.inr hlr))) fun D σ H ⟨v, h1, h2⟩ => ⟨v, h1, h2⟩
  · intro a0 ha0
    have hst0 : Stp gg H gg (upd H a0 (.tup [.non, .non])) := Stp.lay w ha0
    have hw0 : Wf C gg (upd H a0 (.tup [.non, .non])) t := Wf.lay w ha0
    have hq := hq.stp hst0
    have hc : upd H a0 (.tup [.non, .non]) c' = some (LamX.CodeO c' q) := by rw [upd_ne (ne_of_none hc ha0)]; exact hc
    have htl := fun E Q' h => htl _ E Q' hst0 hw0 h
    clear hst0 w
    have w := hw0
    generalize upd H a0 (.tup [.non, .non]) = H at *
    unfold eResM at hq
    cases e : m t with
    | none => rw [e] at hq; exact hq.elim
    | some o =>
      rw [e] at hq
      cases o with
      | ok d t' =>
        refine ⟨fun _ _ _ => False, fun _ _ _ _ z => z.elim, rfl, hc, htl _ _ ?_⟩
        rw [e]
        intro g1 H1 st1 w1 v rv
        refine ⟨g1, H1, g1, g1, [.un, .val .non, .val d, .un, .un, .un, .un], t', .refl _ _, .refl _, w1, ?_, ?_, ?_⟩
        · refine ⟨rfl, fun j x ej => ?_, fun j k p x y e1 e2 o1 => ?_⟩
          · match j, ej with
            | 0, ej => cases ej; trivial
            | 1, ej => cases ej; exact ⟨.non, rfl, .non⟩
            | 2, ej => cases ej; exact ⟨v, rfl, rv⟩
            | 3, ej => cases ej; trivial
            | 4, ej => cases ej; trivial
            | 5, ej => cases ej; trivial
            | 6, ej => cases ej; trivial
            | (j + 7), ej => simp at ej
          · exfalso
            match j, e1 with
            | 0, e1 => cases e1; cases o1
            | 1, e1 => cases e1; cases o1
            | 2, e1 => cases e1; cases o1
            | 3, e1 => cases e1; cases o1
            | 4, e1 => cases e1; cases o1
            | 5, e1 => cases e1; cases o1
            | 6, e1 => cases e1; cases o1
            | (j + 7), e1 => simp at e1
        · intro j x p e1 o1
          exfalso
          match j, e1 with
          | 0, e1 => cases e1; cases o1
          | 1, e1 => cases e1; cases o1
          | 2, e1 => cases e1; cases o1
          | 3, e1 => cases e1; cases o1
          | 4, e1 => cases e1; cases o1
          | 5, e1 => cases e1; cases o1
          | 6, e1 => cases e1; cases o1
          | (j + 7), e1 => simp at e1
        · rw [r1]
          exact fun g2 H2 st2 w2 u _ ru => hq g2 H2 (st1.trans st2) w2 u ru
      | exc c t' =>
        have hq : PostQ X.K C E0 gg H Q (if al c = true then some (.ok (.tup [.str (nm c)]) t') else none) := hq
        have hc12 : al c = true := by
          cases z : al c with
          | true => rfl
          | false => rw [z] at hq; exact hq.elim
        rw [if_pos hc12] at hq
        refine ⟨fun cls d H' => cls = .ref (C.ex c) ∧ d = none ∧ ∃ g', Stp gg H g' H' ∧ Wf C g' H' t', fun cls d σ' H' ⟨ec, ed, g1, st1, w1⟩ => ?_, rfl, hc, htl _ _ ?_⟩
        · subst ec ed
          refine ⟨hex c hc12, rfl, fun a ha hlen => ⟨.ref a, ?_, ?_⟩⟩
          · rw [List.getElem?_set_self (by rw [hlen]; exact (by decide : (3 : Nat) < 7))]
          have st2 : Stp g1 H' g1 (upd H' a (ExK (.ref (C.ex c)) a)) := Stp.lay w1 ha
          have w2 : Wf C g1 (upd H' a (ExK (.ref (C.ex c)) a)) t' := Wf.lay w1 ha
          have hlen7 : σ'.length = 7 := hlen
          refine ⟨g1, _, g1, g1, [.un, .exn (C.ex c), .un, .un, .un, .un, .un], t', .refl _ _, .refl _, w2, ?_, ?_, ?_⟩
          · refine ⟨by rw [List.length_set, List.length_set, List.length_set]; exact hlen7, fun j x ej => ?_, fun j k p x y e1 e2 o1 => ?_⟩
            · match j, ej with
              | 0, ej => cases ej; trivial
              | 1, ej =>
                cases ej
                refine ⟨a, ?_, upd_same⟩
                rw [List.getElem?_set_ne (by decide), List.getElem?_set_self (by rw [List.length_set, hlen7]; decide)]
              | 2, ej => cases ej; trivial
              | 3, ej => cases ej; trivial
              | 4, ej => cases ej; trivial
              | 5, ej => cases ej; trivial
              | 6, ej => cases ej; trivial
              | (j + 7), ej => simp at ej
            · exfalso
              match j, e1 with
              | 0, e1 => cases e1; cases o1
              | 1, e1 => cases e1; cases o1
              | 2, e1 => cases e1; cases o1
              | 3, e1 => cases e1; cases o1
              | 4, e1 => cases e1; cases o1
              | 5, e1 => cases e1; cases o1
              | 6, e1 => cases e1; cases o1
              | (j + 7), e1 => simp at e1
          · intro j x p e1 o1
            exfalso
            match j, e1 with
            | 0, e1 => cases e1; cases o1
            | 1, e1 => cases e1; cases o1
            | 2, e1 => cases e1; cases o1
            | 3, e1 => cases e1; cases o1
            | 4, e1 => cases e1; cases o1
            | 5, e1 => cases e1; cases o1
            | 6, e1 => cases e1; cases o1
            | (j + 7), e1 => simp at e1
          · rw [r2 c hc12]
            exact fun g3 H3 st3 w3 u _ ru => hq g3 H3 ((st1.trans st2).trans st3) w3 u ru
        · rw [e]
          exact fun g1 H1 st1 w1 => ⟨rfl, rfl, g1, st1, w1⟩
/-- all but the tables stay -/
theorem Stp.extN {g : G} {H H1 : Hp} {t : Tn} (w : Wf C g H t) (e : LamX.ExtN H H1) (hT : LamX.Tabs C.T H1) : Stp g H g H1 ∧ Wf C g H1 t := by
  exact ⟨⟨fun _ _ h => h, .refl g, Twn.refl g H, fun b o h _ n => e b o h n, fun b ⟨o, h, n⟩ => ⟨o, e b o h n, n⟩, fun _ _ => rfl⟩, ⟨fun b o h => e b o (w.fz b o h) fun ps z => w.nft b ps (by rw [h, z]), ⟨w.tw.1.ext fun b kvs h _ => e _ _ h (fun _ z => by cases z), w.tw.2.keep (fun _ _ h => h) (.refl g) ⟨rfl, rfl⟩ fun a ha ho h => by
    obtain ⟨n, o, _, _, ok⟩ := w.tw.2.get ha
    obtain ⟨ho', h1, h2, _⟩ := ok.at
    rw [h] at h1
    cases h1
    exact e _ _ h h2⟩, w.ntw, hT, w.nft⟩⟩
/-- _law_result(lambda: e) -/
theorem ce_res {nm : Nat → Str} {al : Nat → Bool} {g c P : Addr} {k : Nat} {pg : Arguments} {bg : List Stmt} {sg : Scope} {dV kV doc pm cdv ct oc : Value} {an od : Option Addr} {osl : Array (Option Value)} {params : Arguments} {body : Expr} {scope : Scope} {fb : Ex} {p lpos pos : Pos}
    (hm : X.mg "_law_result" = some (.ref g)) (hk : PySem.W.keepIn X.K (.ref g) = true)
    (lk : X.K.lookup g = some ⟨oc, od, .func (PySem.W.fnOf "_law_result" "_law_result" pg bg sg dV kV doc pm an cdv ct), osl⟩) (hcg : PySem.W.codeIn X.K cdv "_law_result" = true) (hb : L2.Binds X.K (PySem.W.fnOf "_law_result" "_law_result" pg bg sg dV kV doc pm an cdv ct) ["call"] []) (Sg : FnScope ngR ["call"] sg) (hva : Vis sg "call")
    (hG : LamX.GivesTo X ngR "_law_result" sg g cdv bg "call" (X.env.qual ++ "<lambda>") (TTr X.K C nm al))
    (TB : LamX.TabB X.base X.mg c P) (hcode : X.env.code = .ref c) (hmT : (P, X.env.qual ++ "<lambda>") ∈ C.T) (hu : ∀ p ∈ C.T, p.1 = P → p.2 = X.env.qual ++ "<lambda>") (hr : Room (k + 2) X.A) (L : LamX.LamS X.env.scope scope)
    (hbody : ∀ (A : Around) (outer : List Env) (s : Shared) (H : Hp) (E : XK) (f c' : Addr), Room k (A.deeper (LamX.lamEnv X scope s.heap.objs.size f c')) → CE (LamX.lamCx X A outer s H E scope f c') C E body fb)
    (hg : Gl X "_law_result" := by rfl) (hdef : defaultsOf params X.env = ([], []) := by rfl)
    (hbind : ∀ (q : Str) (cl : List (Str × Addr)) (pm cv ctv : Value), bindArgs (PySem.W.kla_fn "<lambda>" q params body scope cl pm cv ctv) ⟨[], []⟩ = pure [] := by intros; rfl) :
    CE X C E (.Call (.Name "_law_result" p) [.Lambda params body scope lpos] [] pos) (eRes nm al fb) := by
  refine PE.imp (LamX.pe_lamcall (T := C.T) (TT := TTr X.K C nm al) (t := fun E => tE X.K C E fb) hg hm hk lk hcg hb Sg rfl hva hG TB hcode hmT hu hr L hdef hbind hbody) fun σ H Q ⟨gg, S, t, w, s, q⟩ => ?_
  refine ⟨w.tab, fun H1 e1 T1 => ?_⟩
  obtain ⟨st1, w1⟩ := Stp.extN w e1 T1
  refine ⟨gg, t, fb S, w1, fun H2 E' Q' st2 w2 h => ⟨gg, S, t, w2, (s.stp w st1).stp w1 st2, h⟩, ?_⟩
  have q := q.stp st1
  have q : PostQ X.K C E gg H1 Q (eResM nm al (fb S) t) := q
  unfold eResM at q ⊢
  cases z : fb S t with
  | none => rw [z] at q; exact q.elim
  | some o =>
    rw [z] at q
    cases o with
    | ok d t' => exact q
    | exc c' t' =>
      have q : PostQ X.K C E gg H1 Q (if al c' = true then some (.ok (.tup [.str (nm c')]) t') else none) := q
      show PostQ X.K C E0 gg H1 Q (if al c' = true then some (.ok (.tup [.str (nm c')]) t') else none)
      split
      · rename_i ha; rw [if_pos ha] at q; exact q
      · rename_i ha; rw [if_neg ha] at q; exact q.elim
end
end BG
set_option Elab.async false
set_option linter.all false
set_option maxRecDepth 100000
set_option maxHeartbeats 4000000
namespace BG
open PySem PySem.Spec PyProof.Rows L2
/-- THE RULE for a def whose code object is known -/
theorem fn_okL {P : Program} {w : World} {K : PySem.W.Frag} {mg : Str → Option Value} {base : Heap} {C : Cn} {x qual : Str} {st : Stmt} {f : Addr} {N ps : List Str} {k : Nat} {body : Stm} {kV doc pm cdv ct oc : Value} {an od : Option Addr} {osl : Array (Option Value)}
    (lk : K.lookup f = some ⟨oc, od, .func (PySem.W.fnOf x qual (defArgs st) (defBody st) (defScope st) .none kV doc pm an cdv ct), osl⟩) (hcd : PySem.W.codeIn K cdv qual = true) (S : FnScope N ps (defScope st))
    (hb : ∀ (A : Around) (outer : List Env) (s : Shared) (H : Hp) (E : XK), Room k (A.deeper (envOfC qual (defScope st) s.heap.objs.size f cdv)) →
      CSs (cxOf (L2.CX P w) P w K mg base N qual (defScope st) f cdv A outer s H E) C E (defBody st) body) : FnOk P w K mg base (L2.CX P w) (k + 1) f (PySem.W.fnOf x qual (defArgs st) (defBody st) (defScope st) .none kV doc pm an cdv ct) ps (spF K C ps.length (fnOf N.length body)) := by
  refine fn_of lk hcd S (fun vs H Q E ⟨g, ds, t, r, w, hl, p⟩ => hl) fun A outer s H vs Q E hr ⟨g, ds, t, r, w, hl, p⟩ => ⟨_, hb A outer s H E hr, ?_⟩
  refine ⟨g, H, g, g, _, t, .refl _ _, .refl _, w, SL.start r, OwnF.start, p.bnd0.imp fun fl t1 g1 H1 st1 w1 q => ?_⟩
  cases fl with
  | nx S' => exact fun _ _ _ _ => q g1 H1 st1 w1 _ .non
  | ret d => exact fun v _ r => q g1 H1 st1 w1 v r
/-- the law's own promise, with tables -/
def spLawT (K : PySem.W.Frag) (T : List (Addr × Str)) : Sp := fun vs H Q _ => ∃ (a : Addr) (ns : List Int), vs = [.ref a] ∧ SqL K H a (ns.map V.int) ∧ ns.length ≤ 63 ∧ LamX.Tabs T H ∧ ∀ H', Q (.bl true) H'
theorem law_impT {K : PySem.W.Frag} {C : Cn} {F : Fn} (h : ∀ ns : List Int, ns.length ≤ 63 → ∃ t', F [.scr ns] (none, []) = some (.ok (.bl true) t')) (vs : List V) (H : Hp) (Q : VK) (E : XK) (q : spLawT K C.T vs H Q E) : spF K C 1 F vs H Q E := by
  obtain ⟨a, ns, rfl, sq, hl, hT, q⟩ := q
  exact law_start hT sq (h ns hl) q
end BG
set_option Elab.async false
set_option linter.all false
set_option maxRecDepth 100000
set_option maxHeartbeats 1000000
namespace BG
open PySem L2
def resNm : Nat → Str
  | 0 => "gate" | 1 => "circuit" | 2 => "word" | 3 => "exchange" | 4 => "lines" | 5 => "kinds" | 6 => "function" | 7 => "answers" | 8 => "text" | 9 => "many" | 10 => "empty" | _ => "undo"
def bRes (K : PySem.W.Frag) (C : Cn) (exs : List Addr) : Stm :=
  sSeq (sIf (eNoE 1) (sRet (eTup [eC (.str "returns"), eVar 2])) sNil)
  (sSeq (sDic 4 [("gate", eIsE K exs 1 (.ref (C.ex 0))), ("circuit", eIsE K exs 1 (.ref (C.ex 1)))])
  (sSeq (sDUpd 4 [("word", eIsE K exs 1 (.ref (C.ex 2))), ("exchange", eIsE K exs 1 (.ref (C.ex 3)))])
  (sSeq (sDUpd 4 [("lines", eIsE K exs 1 (.ref (C.ex 4))), ("kinds", eIsE K exs 1 (.ref (C.ex 5)))])
  (sSeq (sDUpd 4 [("function", eIsE K exs 1 (.ref (C.ex 6))), ("answers", eIsE K exs 1 (.ref (C.ex 7)))])
  (sSeq (sDUpd 4 [("text", eIsE K exs 1 (.ref (C.ex 8))), ("many", eIsE K exs 1 (.ref (C.ex 9)))])
  (sSeq (sDUpd 4 [("empty", eIsE K exs 1 (.ref (C.ex 10))), ("undo", eIsE K exs 1 (.ref (C.ex 11)))])
  (sSeq (sFrzD 4 (sAsg 5 (eComp [6] (itDic 4) (gN 6) (eDIx 4 (eVar 6)) (eVar 6))))
  (sRet (eIf (eAnd (eBin pEq (eUn bLen (eVar 5)) (eC (.int 1))) (eIsE K exs 1 (.type "ValueError"))) (eTup [eBin pIdx (eVar 5) (eC (.int 0))]) (eTup [eC (.str "other error")]))))))))))
/-- the facts of the classes that may be raised -/
structure KitF (K : PySem.W.Frag) (C : Cn) (exs : List Addr) (c : Nat) : Prop where
  mem : C.ex c ∈ exs
  kit : ∀ c', c' < 12 → PySem.W.kitOne K (.ref (C.ex c)) (.ref (C.ex c')) = some (decide (c = c'))
  val : PySem.W.kitOne K (.ref (C.ex c)) (.type "ValueError") = some true
theorem bRes1 {K : PySem.W.Frag} {C : Cn} {exs : List Addr} (d : D) : bRes K C exs [.un, .val .non, .val d, .un, .un, .un, .un] = ret (.ret (.tup [.str "returns", d])) := rfl
theorem isE_eq {K : PySem.W.Frag} {C : Cn} {exs : List Addr} {c c' : Nat} {S : Sl} (F : KitF K C exs c) (h : c' < 12) (e : S[1]? = some (.exn (C.ex c))) : eIsE K exs 1 (.ref (C.ex c')) S = ret (.bl (decide (c = c'))) := by
  unfold eIsE
  rw [e]
  show (if C.ex c ∈ exs then _ else _) = _
  rw [if_pos F.mem, F.kit c' h]
theorem isV_eq {K : PySem.W.Frag} {C : Cn} {exs : List Addr} {c : Nat} {S : Sl} (F : KitF K C exs c) (e : S[1]? = some (.exn (C.ex c))) : eIsE K exs 1 (.type "ValueError") S = ret (.bl true) := by
  unfold eIsE
  rw [e]
  show (if C.ex c ∈ exs then _ else _) = _
  rw [if_pos F.mem, F.val]
theorem seq_step {a b : Stm} {S S' : Sl} (h : a S = ret (.nx S')) : sSeq a b S = b S' := by
  unfold sSeq; rw [h]; rfl
theorem evsK2 {x y : Str} {f f' : Ex} {S : Sl} {d d' : D} (h : f S = ret d) (h' : f' S = ret d') : evsK [(x, f), (y, f')] S = ret [(.inr x, d), (.inr y, d')] := by
  show bnd (f S) _ = _
  rw [h]
  show bnd (bnd (f' S) _) _ = _
  rw [h']; rfl
theorem dic_step {i : Nat} {x y : Str} {f f' : Ex} {S : Sl} {d d' : D} (h : f S = ret d) (h' : f' S = ret d') : sDic i [(x, f), (y, f')] S = ret (.nx (S.set i (.dic (dMerge [] [(.inr x, d), (.inr y, d')])))) := by
  unfold sDic; rw [evsK2 h h']; rfl
theorem upd_step {i : Nat} {x y : Str} {f f' : Ex} {S : Sl} {d d' : D} {ks : List (Key × D)} (e : S[i]? = some (.dic ks)) (hl : ks.length < 1000) (h : f S = ret d) (h' : f' S = ret d') : sDUpd i [(x, f), (y, f')] S = ret (.nx (S.set i (.dic (dMerge ks (dMerge [] [(.inr x, d), (.inr y, d')]))))) := by
  unfold sDUpd
  rw [e]
  show bnd (evsK _ S) _ = _
  rw [evsK2 h h']
  show (if ks.length < 1000 then ret (Fl.nx _) else stuck) = _
  rw [if_pos hl]
theorem bRes2 {K : PySem.W.Frag} {C : Cn} {exs : List Addr} {c : Nat} (hc : c < 12) (F : KitF K C exs c) : bRes K C exs [.un, .exn (C.ex c), .un, .un, .un, .un, .un] = ret (.ret (.tup [.str (resNm c)])) := by
  unfold bRes
  have h : ∀ c', c' < 12 → ∀ S : Sl, S[1]? = some (.exn (C.ex c)) → eIsE K exs 1 (.ref (C.ex c')) S = ret (.bl (decide (c = c'))) := fun c' h S e => isE_eq F h e
  have hv : ∀ S : Sl, S[1]? = some (.exn (C.ex c)) → eIsE K exs 1 (.type "ValueError") S = ret (.bl true) := fun S e => isV_eq F e
  rw [seq_step (S' := [.un, .exn (C.ex c), .un, .un, .un, .un, .un]) rfl]
  rw [seq_step (S' := [.un, .exn (C.ex c), .un, .un, .dic [(Sum.inr "gate", .bl (decide (c = 0))), (Sum.inr "circuit", .bl (decide (c = 1)))], .un, .un]) ((dic_step (h 0 (by decide) _ rfl) (h 1 (by decide) _ rfl)).trans (by with_unfolding_all rfl))]
  rw [seq_step (S' := [.un, .exn (C.ex c), .un, .un, .dic [(Sum.inr "gate", .bl (decide (c = 0))), (Sum.inr "circuit", .bl (decide (c = 1))), (Sum.inr "word", .bl (decide (c = 2))), (Sum.inr "exchange", .bl (decide (c = 3)))], .un, .un]) ((upd_step rfl (by simp only [List.length_cons, List.length_nil]; decide) (h 2 (by decide) _ rfl) (h 3 (by decide) _ rfl)).trans (by with_unfolding_all rfl))]
  rw [seq_step (S' := [.un, .exn (C.ex c), .un, .un, .dic [(Sum.inr "gate", .bl (decide (c = 0))), (Sum.inr "circuit", .bl (decide (c = 1))), (Sum.inr "word", .bl (decide (c = 2))), (Sum.inr "exchange", .bl (decide (c = 3))), (Sum.inr "lines", .bl (decide (c = 4))), (Sum.inr "kinds", .bl (decide (c = 5)))], .un, .un]) ((upd_step rfl (by simp only [List.length_cons, List.length_nil]; decide) (h 4 (by decide) _ rfl) (h 5 (by decide) _ rfl)).trans (by with_unfolding_all rfl))]
  rw [seq_step (S' := [.un, .exn (C.ex c), .un, .un, .dic [(Sum.inr "gate", .bl (decide (c = 0))), (Sum.inr "circuit", .bl (decide (c = 1))), (Sum.inr "word", .bl (decide (c = 2))), (Sum.inr "exchange", .bl (decide (c = 3))), (Sum.inr "lines", .bl (decide (c = 4))), (Sum.inr "kinds", .bl (decide (c = 5))), (Sum.inr "function", .bl (decide (c = 6))), (Sum.inr "answers", .bl (decide (c = 7)))], .un, .un]) ((upd_step rfl (by simp only [List.length_cons, List.length_nil]; decide) (h 6 (by decide) _ rfl) (h 7 (by decide) _ rfl)).trans (by with_unfolding_all rfl))]
  rw [seq_step (S' := [.un, .exn (C.ex c), .un, .un, .dic [(Sum.inr "gate", .bl (decide (c = 0))), (Sum.inr "circuit", .bl (decide (c = 1))), (Sum.inr "word", .bl (decide (c = 2))), (Sum.inr "exchange", .bl (decide (c = 3))), (Sum.inr "lines", .bl (decide (c = 4))), (Sum.inr "kinds", .bl (decide (c = 5))), (Sum.inr "function", .bl (decide (c = 6))), (Sum.inr "answers", .bl (decide (c = 7))), (Sum.inr "text", .bl (decide (c = 8))), (Sum.inr "many", .bl (decide (c = 9)))], .un, .un]) ((upd_step rfl (by simp only [List.length_cons, List.length_nil]; decide) (h 8 (by decide) _ rfl) (h 9 (by decide) _ rfl)).trans (by with_unfolding_all rfl))]
  rw [seq_step (S' := [.un, .exn (C.ex c), .un, .un, .dic [(Sum.inr "gate", .bl (decide (c = 0))), (Sum.inr "circuit", .bl (decide (c = 1))), (Sum.inr "word", .bl (decide (c = 2))), (Sum.inr "exchange", .bl (decide (c = 3))), (Sum.inr "lines", .bl (decide (c = 4))), (Sum.inr "kinds", .bl (decide (c = 5))), (Sum.inr "function", .bl (decide (c = 6))), (Sum.inr "answers", .bl (decide (c = 7))), (Sum.inr "text", .bl (decide (c = 8))), (Sum.inr "many", .bl (decide (c = 9))), (Sum.inr "empty", .bl (decide (c = 10))), (Sum.inr "undo", .bl (decide (c = 11)))], .un, .un]) ((upd_step rfl (by simp only [List.length_cons, List.length_nil]; decide) (h 10 (by decide) _ rfl) (h 11 (by decide) _ rfl)).trans (by with_unfolding_all rfl))]
  have key : ∀ c, c < 12 → ∀ a : Addr, (sFrzD 4 (sAsg 5 (eComp [6] (itDic 4) (gN 6) (eDIx 4 (eVar 6)) (eVar 6)))) [.un, .exn a, .un, .un, .dic [(Sum.inr "gate", .bl (decide (c = 0))), (Sum.inr "circuit", .bl (decide (c = 1))), (Sum.inr "word", .bl (decide (c = 2))), (Sum.inr "exchange", .bl (decide (c = 3))), (Sum.inr "lines", .bl (decide (c = 4))), (Sum.inr "kinds", .bl (decide (c = 5))), (Sum.inr "function", .bl (decide (c = 6))), (Sum.inr "answers", .bl (decide (c = 7))), (Sum.inr "text", .bl (decide (c = 8))), (Sum.inr "many", .bl (decide (c = 9))), (Sum.inr "empty", .bl (decide (c = 10))), (Sum.inr "undo", .bl (decide (c = 11)))], .un, .un] = ret (.nx [.un, .exn a, .un, .un, .val (.dct [Sum.inr "gate", Sum.inr "circuit", Sum.inr "word", Sum.inr "exchange", Sum.inr "lines", Sum.inr "kinds", Sum.inr "function", Sum.inr "answers", Sum.inr "text", Sum.inr "many", Sum.inr "empty", Sum.inr "undo"] [.bl (decide (c = 0)), .bl (decide (c = 1)), .bl (decide (c = 2)), .bl (decide (c = 3)), .bl (decide (c = 4)), .bl (decide (c = 5)), .bl (decide (c = 6)), .bl (decide (c = 7)), .bl (decide (c = 8)), .bl (decide (c = 9)), .bl (decide (c = 10)), .bl (decide (c = 11))]), .val (.lst [.str (resNm c)]), .un]) := by
    intro c hc a
    match c, hc with
    | 0, _ => with_unfolding_all rfl
    | 1, _ => with_unfolding_all rfl
    | 2, _ => with_unfolding_all rfl
    | 3, _ => with_unfolding_all rfl
    | 4, _ => with_unfolding_all rfl
    | 5, _ => with_unfolding_all rfl
    | 6, _ => with_unfolding_all rfl
    | 7, _ => with_unfolding_all rfl
    | 8, _ => with_unfolding_all rfl
    | 9, _ => with_unfolding_all rfl
    | 10, _ => with_unfolding_all rfl
    | 11, _ => with_unfolding_all rfl
    | n + 12, h => omega
  rw [seq_step (key c hc _)]
  have cond : ∀ (S : Sl), S[1]? = some (.exn (C.ex c)) → S[5]? = some (.val (.lst [.str (resNm c)])) → eAnd (eBin pEq (eUn bLen (eVar 5)) (eC (.int 1))) (eIsE K exs 1 (.type "ValueError")) S = ret (.bl true) := fun S e1 e5 => by
    have e : eBin pEq (eUn bLen (eVar 5)) (eC (.int 1)) S = ret (.bl true) := by
      unfold eBin eUn eVar; rw [e5]; rfl
    unfold eAnd
    rw [e]
    exact hv S e1
  unfold sRet eIf
  rw [cond _ rfl rfl]
  rfl
end BG
set_option Elab.async false
set_option linter.all false
set_option maxRecDepth 100000
set_option maxHeartbeats 4000000
namespace BG
open PySem PySem.Spec PyProof.Rows L2
/-- all that is asked of the exception classes -/
def excOk (K : PySem.W.Frag) (GE : Addr) (ex : Nat → Addr) : Bool :=
  decide (PySem.W.specialIn K (.builtin "object.__class__") "__get__" = some (some (.builtin "getset_descriptor.__get__"))) && (decide (PySem.W.takesIn K (.builtin "object.__class__") = some true) &&
  (List.range 12).all fun c => (PySem.W.clsIn K (ex c)).isSome && (decide (PySem.W.findIn K (.ref (ex c)) "__getattribute__" = some (some (.builtin "BaseException.__getattribute__"))) &&
    ((PySem.W.findIn K (.ref (ex c)) "__getattr__").isSome && (decide (PySem.W.subIn K (.ref (ex c)) (.type "BaseException") = some true) && (decide (PySem.W.findIn K (.ref (ex c)) "__class__" = some (some (.builtin "object.__class__"))) &&
    (decide (PySem.W.mroIn K (ex c) (.type "object") = some true) && (decide (PySem.W.kitOne K (.ref (ex c)) (.type "ValueError") = some true) && (decide (PySem.W.exmOne K (.ref (ex c)) (.ref GE) = some true) &&
    (List.range 12).all fun c' => decide (PySem.W.kitOne K (.ref (ex c)) (.ref (ex c')) = some (decide (c = c')))))))))))
def exs12 (ex : Nat → Addr) : List Addr := (List.range 12).map ex
def al12 (c : Nat) : Bool := decide (c < 12)
structure ExcAll (K : PySem.W.Frag) (GE : Addr) (C : Cn) : Prop where
  F : ∀ c ∈ exs12 C.ex, ExcF K c
  kit : ∀ c, c < 12 → KitF K C (exs12 C.ex) c
  exm : ∀ c, al12 c = true → PySem.W.exmOne K (.ref (C.ex c)) (.ref GE) = some true
theorem excOk_all {K : PySem.W.Frag} {GE : Addr} {C : Cn} (h : excOk K GE C.ex = true) : ExcAll K GE C := by
  unfold excOk at h
  simp only [Bool.and_eq_true, decide_eq_true_eq, List.all_eq_true, List.mem_range] at h
  obtain ⟨g1, g2, g3⟩ := h
  refine ⟨fun c hc => ?_, fun c hc => ?_, fun c hc => ?_⟩
  · obtain ⟨i, hi, rfl⟩ := List.mem_map.mp hc
    obtain ⟨h1, h2, h3, h4, h5, h6, h7, h8, h9⟩ := g3 i (List.mem_range.mp hi)
    exact ⟨h1, h2, Option.isSome_iff_exists.mp h3, h4, h5, g1, g2, h6⟩
  · obtain ⟨h1, h2, h3, h4, h5, h6, h7, h8, h9⟩ := g3 c hc
    exact ⟨List.mem_map.mpr ⟨c, List.mem_range.mpr hc, rfl⟩, fun c' hc' => h9 c' hc', h7⟩
  · obtain ⟨h1, h2, h3, h4, h5, h6, h7, h8, h9⟩ := g3 c (of_decide_eq_true hc)
    exact h8
/-- a def that makes lambdas: its code object, its table -/
structure LamD (base : Heap) (mg : Str → Option Value) (C : Cn) (x : Str) (c : Addr) : Prop where
  ex : ∃ P, LamX.TabB base mg c P ∧ (P, x ++ ".<locals>." ++ "<lambda>") ∈ C.T ∧ ∀ p ∈ C.T, p.1 = P → p.2 = x ++ ".<locals>." ++ "<lambda>"
theorem passM {X : Cx} {A : Around} {outer : List Env} {s : Shared} {H : Hp} {E : XK} {scope : Scope} {f c' : Addr} : Passes (L2.CX (LamX.lamCx X A outer s H E scope f c').prog (LamX.lamCx X A outer s H E scope f c').w) (LamX.lamCx X A outer s H E scope f c') E := passes_call (X := LamX.lamCx X A outer s H E scope f c') (W := fun cls d _ H => E cls d H) (takes_of rfl rfl rfl rfl) fun _ _ _ _ h => h
theorem tabIn_of {K : PySem.W.Frag} {x : Str} {f c P : Addr} {oc oc' : Value} {od od' : Option Addr} {fd : FuncData} {vs : Array Value} {sl sl' : Array (Option Value)} (h1 : PySem.W.nsIn K mainGlobals x = some (some (.ref f))) (h2 : K.lookup f = some ⟨oc, od, .func fd, sl⟩) (h3 : fd.code = .ref c) (h4 : K.lookup c = some ⟨oc', od', .fields vs, sl'⟩) (h5 : vs[11]? = some (.ref P)) : PySem.W.tabIn K x = some (c, P) := by
  unfold PySem.W.tabIn
  rw [h1]
  simp only [h2, h3, h4, h5]
theorem walk_ofTab {l : PySem.W.OpenLaw} {n k : Nat} {q : Program} {loose : List Str} {XP : (Str → Option Value) → Heap → Prop} {YP : World → Heap → Prop} {d : DefRec} {K : Params → PySem.W.Frag} {CX : World → CXT} {x : Str}
    (hn : l.most = some n) (hn2 : n ≤ sizeLine) (hdf : d.params.defaults = []) (hr : Room k callerA) (hY : ∀ (w : World) (h : Heap), YP w h → (K w.params).In h)
    (F : ∀ (w : World) (mg : Str → Option Value) (fa : Addr) (h : Heap), YP w h → (K w.params).In h → h.Ns mainGlobals mg → mg d.name = some (.ref fa) →
      (∀ (x : Str) (c P : Addr), ((recsOf q).find? fun e => e.name == x).isSome = true → PySem.W.tabIn (K w.params) x = some (c, P) → PySem.W.CodeHd h c P ∧ h.get? P = some (PySem.W.tabObj #[])) → LamX.LawAtS l w (K w.params) (CX w) k n x mg fa h)
    (hCX : ∀ (w : World) (H : Hp) (s : Shared) (e : Value) (s' : Shared), CX w [] H s (fun _ _ _ => False) e s' → False) :
    PySem.W.WalkO q loose XP YP l.row.toRowW d [] (fun f vs => PySem.call f vs) := by
  refine Att.attach_callB hn hdf fun w s₀ s₁ mg mb fa o pm cd doc a vs ns G Y ho hd hcd hmg hobj hints hlen hbits hg => ?_
  have KX := hY w _ Y
  obtain ⟨fd, cs, sp, hT, nT, C, hb, hsp, hF⟩ := F w mg fa _ Y KX G.T.g hmg fun x c P h1 h2 => by
    obtain ⟨d', hd'⟩ := Option.isSome_iff_exists.mp h1
    exact PySem.W.tab_of G.T KX hd' h2
  exact LamX.law_callTs KX G.T.g G.T.b G.T.builtins G.T.nolimit hg hT nT C G.T.bmain hobj hints (Nat.le_trans hlen hn2) hr hF hb (fun H hH hS => hsp H a ns hlen hbits hH hS) fun H e s' => hCX w H s₁ e s'
end BG
set_option Elab.async false
set_option linter.all false
set_option maxRecDepth 100000
set_option maxHeartbeats 4000000
namespace BG
open PySem PySem.Spec PyProof.Rows L2
abbrev Tq := D → Sl → M Sl
/-- what follows a store -/
def Rg (K : PySem.W.Frag) (H0 : Hp) (gs : G) (Q : L2.St → Hp → Prop) : Sl → Tn → G → Hp → Prop := fun S' _ g' H' => ∀ σ', Gw gs g' → SL K g' H' σ' S' → OwnF H0 σ' S' → Q σ' H'
def tGS (K : PySem.W.Frag) (C : Cn) (E : XK) (f : Tq) : TG := fun v σ H Q => ∃ g0 H0 gs g S t d, Stp g0 H0 g H ∧ Gw gs g ∧ Wf C g H t ∧ SL K g H σ S ∧ OwnF H0 σ S ∧ Rp K g v d ∧ Post C E g0 H0 (Rg K H0 gs Q) (f d S t)
def tGq (K : PySem.W.Frag) (C : Cn) (E : XK) (f : List D → Sl → M Sl) : TGs := fun vs σ H Q => ∃ g0 H0 gs g S t ds, Stp g0 H0 g H ∧ Gw gs g ∧ Wf C g H t ∧ SL K g H σ S ∧ OwnF H0 σ S ∧ RpA K g vs ds ∧ Post C E g0 H0 (Rg K H0 gs Q) (f ds S t)
abbrev CGS (X : Cx) (C : Cn) (E : XK) (tg : Expr) (f : Tq) : Prop := PG X tg (tGS X.K C E f)
abbrev CGq (X : Cx) (C : Cn) (E : XK) (tg : List Expr) (f : List D → Sl → M Sl) : Prop := PGs X tg (tGq X.K C E f)
theorem PGs.imp {X : Cx} {e : List Expr} {t t' : TGs} (h : PGs X e t) (f : ∀ v σ H Q, t' v σ H Q → t v σ H Q) : PGs X e t' := ⟨fun pins s σ H v u Q I r q => h.run pins s σ H v u Q I r (f v σ H Q q)⟩
def gsNil : List D → Sl → M Sl := fun ds S => match ds with
  | [] => ret S
  | _ => stuck
def gsCons (f : Tq) (fs : List D → Sl → M Sl) : List D → Sl → M Sl := fun ds S => match ds with
  | d :: r => bnd (f d S) fun S' => fs r S'
  | [] => stuck
def gsTup (n : Nat) (fs : List D → Sl → M Sl) : Tq := fun d S => match d with
  | .tup ds => if ds.length = n then fs ds S else stuck
  | _ => stuck
/-- x[k] = ., x a list of one's own -/
def gsPut (i : Nat) (k : Ex) : Tq := fun d S => match S[i]? with
  | some (.own ds) => bnd (k S) fun n => match n with
    | .int n => match ixN ds.length n with
      | some j => ret (S.set i (.own (ds.set j d)))
      | none => stuck
    | _ => stuck
  | _ => stuck
def sAsgS (f : Tq) (e : Ex) : Stm := fun S => bnd (e S) fun d => bnd (f d S) fun S' => ret (.nx S')
section
variable {X : Cx} {C : Cn} {E : XK}
theorem cgq_nil : CGq X C E [] gsNil := PGs.imp pgs_nil fun vs σ H Q ⟨g0, H0, gs, g, S, t, ds, st, gr, w, s, o, r, p⟩ => by
  cases r with
  | nil => exact ⟨rfl, p g H st w σ gr s o⟩
  | cons a b => exact p.elim
theorem cgq_cons {e : Expr} {es : List Expr} {f : Tq} {fs : List D → Sl → M Sl} (h1 : CGS X C E e f) (h2 : CGq X C E es fs) (hs : (assignEach (e :: es) X.env).map (·.2) = assign e X.env :: (assignEach es X.env).map (·.2) := by rfl) : CGq X C E (e :: es) (gsCons f fs) :=
  PGs.imp (pgs_cons h1 h2 hs) fun vs σ H Q ⟨g0, H0, gs, g, S, t, ds, st, gr, w, s, o, r, p⟩ => by
    cases r with
    | nil => exact p.elim
    | @cons v vs d ds ra rb =>
      refine ⟨v, vs, rfl, g0, H0, g, g, S, t, d, st, .refl g, w, s, o, ra, ?_⟩
      have p : Post C E g0 H0 (Rg X.K H0 gs Q) (bnd (f d S) (fun S' => fs ds S') t) := p
      exact p.bnd0.imp fun S1 t1 g1 H1 st1 w1 q σ1 gw1 s1 o1 => ⟨g0, H0, gs, g1, S1, t1, ds, st1, gr.trans gw1, w1, s1, o1, rb.mono gw1.fz gw1.tw, q⟩
theorem cgs_tup {es : List Expr} {k n : Nat} {pos : Pos} {fs : List D → Sl → M Sl} (h : CGq X C E es fs) (hc : X.calm = true := by rfl) (hn : (assignEach es X.env).length = n := by rfl) (hst : (assignEach es X.env).findIdx? (·.1) = none := by rfl) : CGS X C E (.Tuple es k pos) (gsTup n fs) :=
  PG.imp (pg_tup hc h hn hst) fun v σ H Q ⟨g0, H0, gs, g, S, t, d, st, gr, w, s, o, r, p⟩ => by
    unfold gsTup at p
    cases d with
    | tup ds =>
      have p : Post C E g0 H0 (Rg X.K H0 gs Q) ((if ds.length = n then fs ds S else stuck) t) := p
      split at p
      · rename_i hl
        cases r with
        | tup sq ra => exact ⟨_, _, rfl, Same.tseq w.fz sq.t, by rw [ra.length]; exact hl, g0, H0, gs, g, S, t, ds, st, gr, w, s, o, ra, p⟩
      · exact p.elim
    | _ => exact p.elim
theorem cgs_put (i : Nat) {x : Str} {k : Expr} {fk : Ex} {p1 pos' : Pos} (hk : CE X C E k fk) (hN : X.N[i]? = some x := by rfl) (hv : Vis X.env.scope x := by first | exact Or.inl rfl | exact Or.inr (Or.inl rfl) | exact Or.inr (Or.inr rfl)) (hd : (x == ("__debug__" : Str)) = false := by decide)
    (hcd : (x == ("__classdict__" : Str)) = false := by decide)
    (ha : ∀ v, assign (.Subscript (.Name x p1) k pos') X.env v = (do
      let ov ← holding [v] (eval (.Name x p1) X.env)
      let iv ← holding [v, ov] (eval k X.env)
      standAt pos'
      holding [v, ov, iv] (setItem ov iv v)
      release [v, ov, iv] []) := by intro _; rfl) : CGS X C E (.Subscript (.Name x p1) k pos') (gsPut i fk) :=
  PG.imp (pg_sub (pe_var hN hv hd hcd) hk set_list ha) fun v σ H Q ⟨g0, H0, gs, g, S, t, d, st, gr, w, s, o, r, p⟩ => by
    unfold gsPut at p
    cases e : S[i]? with
    | none => rw [e] at p; exact p.elim
    | some sv =>
      rw [e] at p
      cases sv with
      | own ds =>
        obtain ⟨a, vs, h1, h2, h3, h4⟩ := s.own i ds e
        refine ⟨_, h1, g, S, t, w, s, ?_⟩
        refine Post.all p.bnd0 st fun n t2 g2 H2 er st2 w2 q2 u ru => ?_
        have q2 := q2 g2 H2 (st.trans st2) w2
        cases n with
        | int n =>
          have q2 : Post C E g0 H0 (Rg X.K H0 gs Q) ((match ixN ds.length n with | some j => ret (S.set i (.own (ds.set j d))) | none => stuck) t2) := q2
          cases z : ixN ds.length n with
          | none => rw [z] at q2; exact q2.elim
          | some j =>
            rw [z] at q2
            cases ru
            have s2 := s.stp w st2
            obtain ⟨a', vs', k1, k2, k3, k4⟩ := s2.own i ds e
            rw [h1] at k1
            cases k1
            refine ⟨a, vs', n, j, rfl, rfl, k2, by rw [k3.length]; exact z, ?_⟩
            exact q2 g2 _ ((st.trans st2).updO (o i _ a e rfl h1)) (w2.updL k2 k4) _ (gr.trans st2.gw) (s2.updO e h1 (RpA.set (r.stp st2) j k3)) (o.updO e)
        | _ => exact q2.elim
      | _ => exact p.elim
theorem cs_asgS {tg e : Expr} {f : Ex} {ft : Tq} {pos : Pos} (he : CE X C E e f) (hg : CGS X C E tg ft) (hs : swapsWithSole [tg] e pos.line X.env = pure false := by rfl) (hw : swappedStores [tg] e X.env = pure none := by rfl)
    (h1 : (assignEach [tg] X.env).map (·.2) = [assign tg X.env] := by rfl) : CS X C E (.Assign [tg] e pos) (sAsgS ft f) :=
  PS.imp (ps_asg he hg hs hw h1) fun De σ H ⟨g0, H0, gs, g, S, t, st, gr, w, s, o, p⟩ => tS.ex st gr w s p fun d t1 g1 H1 v st1 st01 gr1 w1 s1 r q =>
    ⟨g0, H0, gs, g1, S, t1, d, st01, gr1, w1, s1, o, r, q.bnd0.imp fun S' t2 g2 H2 st2 w2 q2 σ' gw s' o' => q2 g2 H2 st2 w2 σ' gw s' o'⟩
end
end BG
set_option Elab.async false
set_option linter.all false
set_option maxRecDepth 100000
set_option maxHeartbeats 4000000
namespace BG
open PySem PySem.Spec PyProof.Rows L2
open AutoSeq1 (wpAny_loadPart')
end BG
set_option Elab.async false
set_option linter.all false
set_option maxRecDepth 100000
set_option maxHeartbeats 4000000
namespace BG
open PySem PySem.Spec PyProof.Rows L2
section
variable {X : Cx} {C : Cn} {E : XK}
theorem SqN.ty {pins : List (Addr × Obj)} {σ : L2.St} {H : Hp} {s : Shared} {a : Addr} {xs : List V} (I : Inv X pins σ H s) (h : SqN X.K H a xs) : s.TypeIs (.ref a) "tuple" ∧ ∃ ob, s.heap.get? a = some ob ∧ ob.dict = none := by
  rcases h with ⟨o, h, hd, hc⟩ | ⟨o, its, n, hk, hc, _, _, _, hd⟩
  · obtain ⟨g1, _⟩ := I.hok a _ h
    exact ⟨⟨o, g1, hc⟩, o, g1, hd⟩
  · have g1 := I.kIn a o hk
    exact ⟨⟨o, g1, hc⟩, o, g1, hd⟩
/-- data that are read -/
theorem RpW.reads {pins : List (Addr × Obj)} {σ : L2.St} {H : Hp} {s : Shared} {g : G} {t : Tn} {v : V} {u : Value} {d : D} (I : Inv X pins σ H s) (w : Wf C g H t) (r : RpW X.K g H v d) (o : okD d 60 = true) (rv : RelV v u) : ∃ as, Reads s.heap u d.py as := Dp.reads I _ _ _ (RpW.dp w r o) rv
def cntD (ds : List D) (d : D) : Nat := ds.countP fun e => PyData.eqv e.py d.py
theorem countP_py (d : D) : ∀ ds : List D, (pyA ds).countP (fun y => PyData.eqv y d.py) = cntD ds d
  | [] => rfl
  | e :: ds => by
    unfold cntD
    rw [pyA, List.countP_cons, List.countP_cons, countP_py d ds]; rfl
def rCntL (K : PySem.W.Frag) (C : Cn) : V → List V → Hp → VK → Prop := fun x xs H Q => ∃ y g t ds d, xs = [y] ∧ Wf C g H t ∧ RpW K g H x (.lst ds) ∧ RpW K g H y d ∧ okD (.lst ds) 60 = true ∧ okD d 60 = true ∧ Q (.int (cntD ds d : Nat)) H
theorem okD_plain {d : D} (h : okD d 60 = true) : d.py.plain = true ∧ d.py.depth ≤ 60 := ⟨PyData.plain_of_canLay0 _ (okD_lay d 60 h).1, (okD_lay d 60 h).2⟩
theorem mt_lcnt (hu : X.A.units + 65 < cLine) : MtR X "list.count" (rCntL X.K C) := fun pins s σ H x xs v us Q I rx rs h => by
  obtain ⟨y, g, t, ds, d, rfl, w, r1, r2, o1, o2, q⟩ := h
  obtain ⟨u, rfl, ru⟩ := vals1 rs
  obtain ⟨as, R1⟩ := r1.reads I w o1 rx
  obtain ⟨bs, R2⟩ := r2.reads I w o2 ru
  obtain ⟨p1, p2⟩ := okD_plain o1
  obtain ⟨p3, p4⟩ := okD_plain o2
  rw [D.py] at R1 p1
  cases R1 with
  | @list a o vs n _ _ ho hc hd hall =>
    refine PySem.SeqAt.count_list_data ⟨o, ho, hc, n, hd⟩ hall R2 p1 p3 (by have := Nat.min_le_right (PyData.depthAll (pyA ds)) d.py.depth; omega) ?_
    rw [countP_py]
    exact ⟨.int (cntD ds d : Nat), H, I.tok _, ⟨_, rfl⟩, q⟩
/-- l.m(y), l a list -/
def eLM (op : List D → D → M D) (a b : Ex) : Ex := fun S => bnd (a S) fun x => match x with
  | .lst ds => bnd (b S) fun y => op ds y
  | _ => stuck
def pCnt (ds : List D) (d : D) : M D := if okA ds 59 = true ∧ okD d 60 = true then ret (.int (cntD ds d : Nat)) else stuck
theorem ints_vals : ∀ {ns : List Int} {us : List Value}, Vals (ns.map V.int) us → IntsAre us ns
  | [], _, h => by cases h; exact .nil
  | n :: ns, _, h => by
    cases h with
    | cons r rs =>
      obtain ⟨t, rfl⟩ := r
      exact .cons _ _ (ints_vals rs)
end
end BG
set_option Elab.async false
set_option linter.all false
set_option maxRecDepth 100000
set_option maxHeartbeats 4000000
namespace BG
open PySem PySem.Spec PyProof.Rows L2
def maxI : Int → List Int → Int
  | m, [] => m
  | m, n :: r => maxI (if m < n then n else m) r
theorem maxI_spec : ∀ (r : List Int) (m : Int), maxI m r ∈ m :: r ∧ ∀ y ∈ m :: r, y ≤ maxI m r
  | [], m => ⟨List.mem_cons_self .., fun y hy => by rw [List.mem_singleton.mp hy]; exact Int.le_refl _⟩
  | n :: r, m => by
    obtain ⟨h1, h2⟩ := maxI_spec r (if m < n then n else m)
    show maxI (if m < n then n else m) r ∈ _ ∧ ∀ y ∈ _, y ≤ maxI (if m < n then n else m) r
    have h0 := h2 _ (List.mem_cons_self ..)
    refine ⟨?_, fun y hy => ?_⟩
    · rcases List.mem_cons.mp h1 with h | h
      · rw [h]; split <;> simp
      · exact List.mem_cons_of_mem _ (List.mem_cons_of_mem _ h)
    · rcases List.mem_cons.mp hy with rfl | hy
      · split at h0 <;> split <;> omega
      · rcases List.mem_cons.mp hy with rfl | hy
        · split at h0 <;> split <;> omega
        · exact h2 y (List.mem_cons_of_mem _ hy)
def bMax : D → M D
  | .lst ds => match intsD ds with
    | some (n :: r) => ret (.int (maxI n r))
    | _ => stuck
  | _ => stuck
section
variable {X : Cx} {C : Cn} {E : XK}
theorem cr_maxD (hc : X.calm = true) : CallR X (.builtin "max") (c1D X.K C E bMax) := CallR.imp (cr_max hc) fun xs H Q ⟨x, g, t, d, ex, w, a, h⟩ => by
  subst ex
  cases d with
  | lst ds =>
    obtain ⟨p, vs, rfl, e1, r1⟩ := a.lst w
    have h : PostQ X.K C E g H Q ((match intsD ds with | some (n :: r) => ret (D.int (maxI n r)) | _ => stuck) t) := h
    cases z : intsD ds with
    | none => rw [z] at h; exact h.elim
    | some ns =>
      rw [z] at h
      cases ns with
      | nil => exact h.elim
      | cons n r =>
        refine ⟨p, n :: r, rfl, .of (by rw [e1, r1.intsD z]), by rw [List.length_cons]; omega, fun m hm hle => ?_⟩
        obtain ⟨k1, k2⟩ := maxI_spec r n
        rw [show m = maxI n r from Int.le_antisymm (k2 m hm) (hle _ k1)]
        exact pRetV h w (Rp.int _)
  | _ => exact h.elim
def sPar3 (i j l : Nat) (a b c : Ex) : Stm := fun S => bnd (a S) fun x => bnd (b S) fun y => bnd (c S) fun z => ret (.nx (((S.set i (.val x)).set j (.val y)).set l (.val z)))
theorem cs_par3 (i j l : Nat) {x y z : Str} {a b c : Expr} {fa fb fc : Ex} {px py pz pt : Pos} {kt k2 pt2} {pos : Pos} (hN : X.N.Nodup) (ha : CE X C E a fa) (hb : CE X C E b fb) (hcc : CE X C E c fc) (hc : X.calm = true := by rfl) (hi : X.N[i]? = some x := by rfl) (hj : X.N[j]? = some y := by rfl) (hl : X.N[l]? = some z := by rfl)
    (hij : i ≠ j := by decide) (hil : i ≠ l := by decide) (hjl : j ≠ l := by decide) (hx : X.env.scope.names.lookup x = some .local := by rfl) (hy : X.env.scope.names.lookup y = some .local := by rfl) (hz : X.env.scope.names.lookup z = some .local := by rfl)
    (hw : swappedStores [.Tuple [.Name x px, .Name y py, .Name z pz] kt pt] (.Tuple [a, b, c] k2 pt2) X.env = pure (some [x, y, z]) := by rfl) (hs : swapsWithSole [.Tuple [.Name x px, .Name y py, .Name z pz] kt pt] (.Tuple [a, b, c] k2 pt2) pos.line X.env = pure false := by rfl)
    (s1 : starEach [a, b, c] X.env = (false, eval a X.env) :: starEach [b, c] X.env := by rfl) (s2 : starEach [b, c] X.env = (false, eval b X.env) :: starEach [c] X.env := by rfl) (s3 : starEach [c] X.env = (false, eval c X.env) :: starEach [] X.env := by rfl) :
    CS X C E (.Assign [.Tuple [.Name x px, .Name y py, .Name z pz] kt pt] (.Tuple [a, b, c] k2 pt2) pos) (sPar3 i j l fa fb fc) :=
  PS.imp (ps_par3 hc hN hi hj hl hij hil hjl hx hy hz (pa_cons ha (pa_cons hb (pa_cons hcc pa_nil s3) s2) s1) hw hs) fun De σ H ⟨g0, H0, gs, g, S, t, st, gr, w, s, o, p⟩ => tS.ex st gr w s p fun d t1 g1 H1 v st1 st01 gr1 w1 s1 r q =>
    tS.ex st01 gr1 w1 s1 q fun d2 t2 g2 H2 v2 st2 st02 gr2 w2 s2 r2 q2 => tS.ex st02 gr2 w2 s2 q2 fun d3 t3 g3 H3 v3 st3 st03 gr3 w3 s3 r3 q3 => ⟨v, v2, v3, rfl, q3 g3 H3 st03 w3 _ gr3 (((s3.set ((r.stp st2).stp st3)).set (r2.stp st3)).set r3) o.set.set.set⟩
end
end BG
set_option Elab.async false
set_option linter.all false
set_option maxRecDepth 100000
set_option maxHeartbeats 4000000
namespace BG
open PySem PySem.Spec PyProof.Rows L2
end BG
set_option Elab.async false
set_option linter.all false
set_option maxRecDepth 100000
set_option maxHeartbeats 4000000
namespace BG
open PySem PySem.Spec PyProof.Rows L2
section
variable {X : Cx} {C : Cn} {E : XK}
/-- the whole object of a nice tuple -/
theorem SqN.obj {pins : List (Addr × Obj)} {σ : L2.St} {H : Hp} {s : Shared} {a : Addr} {xs : List V} (I : Inv X pins σ H s) (h : SqN X.K H a xs) : ∃ o its n, s.heap.get? a = some o ∧ o.cls = .type "tuple" ∧ o.dict = none ∧ o.data = .seq its n ∧ Vals xs its.toList ∧ xs.length ≤ sizeLine := by
  obtain ⟨_, ob, k2, k3⟩ := h.ty I
  obtain ⟨us, r, ⟨o, ho, hc, n, hd⟩, hz⟩ := I.tuple h.t
  rw [k2] at ho
  cases ho
  exact ⟨ob, us.toArray, n, k2, hc, k3, hd, by simpa using r, hz⟩
end
end BG
set_option Elab.async false
set_option linter.all false
set_option maxRecDepth 100000
set_option maxHeartbeats 4000000
namespace BG
open PySem PySem.Spec PyProof.Rows L2
end BG
set_option Elab.async false
set_option linter.all false
set_option maxRecDepth 100000
set_option maxHeartbeats 4000000
namespace BG
open PySem PySem.Spec PyProof.Rows L2
section
variable {X : Cx} {C : Cn} {E : XK}
theorem intsD_map : ∀ n : List Int, intsD (n.map D.int) = some n
  | [] => rfl
  | x :: n => by
    show (intsD (n.map D.int)).map (x :: ·) = _
    rw [intsD_map n]; rfl
theorem intsD_inv : ∀ {xs : List D} {n : List Int}, intsD xs = some n → xs = n.map D.int
  | [], n, h => by cases h; rfl
  | d :: xs, n, h => by
    cases d with
    | int i =>
      cases e : intsD xs with
      | none => unfold intsD at h; rw [e] at h; cases h
      | some m =>
        unfold intsD at h
        rw [e] at h
        cases h
        rw [intsD_inv e]; rfl
    | _ => cases h
end
end BG
set_option Elab.async false
set_option linter.all false
set_option maxRecDepth 100000
set_option maxHeartbeats 4000000
namespace BG
open PySem PySem.Spec PyProof.Rows L2 RZ
/-- two tuples side by side, each pair a new nice tuple -/
def IzF (K : PySem.W.Frag) (a b : Addr) : It :=
  ⟨(RZ.ItzT K a b).go, fun i H v H' => ∃ T x y, v = .ref T ∧ H T = none ∧ (∃ ob, H' = upd H T (.frz ob (.tup [x, y])) ∧ Obj.dict ob = none ∧ Obj.cls ob = .type "tuple") ∧ (∀ l, SqT K H a l → l[i]? = some x) ∧ ∀ l, SqT K H b l → l[i]? = some y, (RZ.ItzT K a b).stop⟩
theorem turn_zipF {P : Program} {w : World} {K : PySem.W.Frag} {elts : List Expr} {kk : Nat} {tpos : Pos} {a b z TI TO i1 i2 : Addr} (Ap : ZipApart z TI TO i1 i2 a b) :
    Turn P w K (.Tuple elts kk tpos) (IzF K a b) [z, TI, TO, i1, i2] z (fun i h => IsZip h z TI TO .none ∧ IsPair h TI (.ref i1) (.ref i2) ∧ (∃ x y, IsPair h TO x y) ∧ h.IsTupleIter i1 a i ∧ h.IsTupleIter i2 b i) :=
  have T := RZ.turn_zipT (P := P) (w := w) (K := K) (elts := elts) (kk := kk) (tpos := tpos) Ap
  { mem := T.mem, obj := T.obj, keep := T.keep, done := T.done, self := T.self,
    item := by
      intro X eP eW eK cm i pins s σ H E I fr st gg
      subst eP eW eK
      obtain ⟨c1, c2, ⟨u0, v0, c3⟩, c4, c5⟩ := st
      obtain ⟨as, bs, x, y, qa, qb, xa, yb⟩ := gg
      obtain ⟨la, ra, pa, _⟩ := I.tuple qa
      obtain ⟨lb, rb, pb, _⟩ := I.tuple qb
      obtain ⟨u, eu, ru⟩ := ra.get xa
      obtain ⟨v, ev, rv⟩ := rb.get yb
      have zl := Heap.lt_size c1
      refine pyNext_zipT_item Ap c1 c2 c3 c4 c5 pa pb (x := u) (y := v) (by simpa using eu) (by simpa using ev) fun h1 d1 d2 d3 d4 hN hs1 hold => ?_
      refine ⟨_, rfl, wpAny_letOwnedTupleGo_zip (s := { s with heap := h1 }) d1 fun h2 d5 sb => ?_⟩
      have at2 : h2.get? s.heap.objs.size = some { cls := .type "tuple", data := .seq #[u, v] } := (sb.2 _ (Nat.ne_of_gt zl)).trans hN
      have nw : ObjOk X.prog X.w (upd H s.heap.objs.size (.frz { cls := .type "tuple", data := .seq #[u, v] } (.tup [x, y]))) h2 s.heap.objs.size (.frz { cls := .type "tuple", data := .seq #[u, v] } (.tup [x, y])) :=
        ⟨at2, by show 2 ≤ sizeLine; decide, [u, v], .cons ru (.cons rv .nil), ⟨_, at2, rfl, _, rfl⟩⟩
      have J := I.turnedNew (t' := s.toks) (ch := [z, TI, TO, i1, i2]) (h' := h2) (fun m o hm q => (sb.2 m (fun e => hm (by simp [e]))).trans (hold m o (fun e => hm (by simp [e])) (fun e => hm (by simp [e])) (fun e => hm (by simp [e])) (fun e => hm (by simp [e])) q)) fr (Nat.le_refl _) nw
      have lt : ∀ m, m ∈ [z, TI, TO, i1, i2] → m < s.heap.objs.size := fun m hm => by
        obtain ⟨o, ho, _⟩ := T.obj i s.heap ⟨c1, c2, ⟨u0, v0, c3⟩, c4, c5⟩ m hm
        exact Heap.lt_size ho
      exact ⟨.ref s.heap.objs.size, _, J, rfl, ⟨_, x, y, rfl, I.hok.fresh (Nat.le_refl _), ⟨_, rfl, rfl, rfl⟩, fun l q => by rw [I.tuple_inj q qa]; exact xa, fun l q => by rw [I.tuple_inj q qb]; exact yb⟩,
        ⟨d5, (sb.2 _ Ap.TIz).trans (hold _ _ Ap.TIz Ap.TITO Ap.TIi1 Ap.TIi2 c2), ⟨u, v, (sb.2 _ Ap.TOz).trans d2⟩, d3.at fun o q => (sb.2 _ Ap.i1z).trans q, d4.at fun o q => (sb.2 _ Ap.i2z).trans q⟩,
        fun m hm => by rw [upd_ne (Nat.ne_of_lt (lt m hm))]; exact (fr m hm).1⟩ }
def iZipF (K : PySem.W.Frag) (ta : TA) : TI := fun σ H R => ta σ H fun vs H1 => ∃ a b xs ys, vs = [.ref a, .ref b] ∧ SqT K H1 a xs ∧ SqT K H1 b ys ∧ R (IzF K a b) H1
theorem pi_zipF {X : Cx} {e e2 : Expr} {ta : TA} {p pos tpos : Pos} {elts : List Expr} {kk : Nat} (hg : Gl X "zip") (hm : X.mg "zip" = none) (ha : PA X [e, e2] ta)
    (st2 : starEach [e, e2] X.env = (false, eval e X.env) :: starEach [e2] X.env := by rfl) (pl2 : (backTo pos (starEach [e2] X.env)).any (·.1) = false := by rfl) :
    PI X (.Tuple elts kk tpos) (.Call (.Name "zip" p) [e, e2] [] pos) (iZipF X.K ta) := by
  refine ⟨fun pins s σ H R I h => ?_⟩
  refine Call_ (ld_blt I hg hm PyProof.Rows.boot_zip (PyProof.Rows.callWith_type1 (thn (ha.run pos pins s σ H _ I h) fun us s1 ⟨vs, H1, I1, r1, q1⟩ => ?_) st2 pl2))
  obtain ⟨a, b, xs, ys, rfl, qa, qb, q⟩ := q1
  cases r1 with
  | cons ra rr =>
  cases rr with
  | cons rb rr =>
  cases rr
  cases ra
  cases rb
  obtain ⟨la, _, pa, _⟩ := I1.tuple qa
  obtain ⟨lb, _, pb, _⟩ := I1.tuple qb
  obtain ⟨oa, ea, _⟩ := id pa
  obtain ⟨ob, eb, _⟩ := id pb
  refine call_zipT (show s1.heap.IsTuple a la.toArray from pa) (show s1.heap.IsTuple b lb.toArray from pb) fun h2 c1 c2 c3 c4 c5 sz2 old => wpAny_pyIter_zip c1 ?_
  have fr : ∀ m, m ∈ [s1.heap.objs.size + 4, s1.heap.objs.size + 2, s1.heap.objs.size + 3, s1.heap.objs.size, s1.heap.objs.size + 1] → FpOk X pins H1 m := fun m hm => by
    have le : s1.heap.objs.size ≤ m := by
      simp only [List.mem_cons, List.not_mem_nil, or_false] at hm
      omega
    exact I1.fpOk le (I1.hok.fresh le)
  exact ⟨_, _, _, _, H1, rfl, I1.kept (t' := s1.toks) old, turn_zipF (PySem.W.ktu_apart s1.heap.objs.size a b (Heap.lt_size ea) (Heap.lt_size eb)), ⟨c1, c2, ⟨_, _, c3⟩, c4, c5⟩, fr, q⟩
/-- pairs of two tuples' items -/
def zipD : List D → List D → List D
  | x :: xs, y :: ys => .tup [x, y] :: zipD xs ys
  | _, _ => []
def itZip (f f2 : Ex) : Sl → M (List D) := fun S => bnd (f S) fun d => bnd (f2 S) fun e => match d, e with
  | .tup xs, .tup ys => ret (zipD xs ys)
  | _, _ => stuck
theorem zipD_get : ∀ {xs ys : List D} {i : Nat} {d : D}, (zipD xs ys)[i]? = some d → ∃ x y, xs[i]? = some x ∧ ys[i]? = some y ∧ d = .tup [x, y]
  | x :: xs, y :: ys, 0, d, h => ⟨x, y, rfl, rfl, (Option.some.inj h).symm⟩
  | x :: xs, y :: ys, i + 1, d, h => zipD_get (xs := xs) (ys := ys) (i := i) h
  | [], ys, i, d, h => by simp [zipD] at h
  | x :: xs, [], i, d, h => by simp [zipD] at h
theorem zipD_len : ∀ {xs ys : List D} {i : Nat}, (zipD xs ys).length ≤ i → xs.length ≤ i ∨ ys.length ≤ i
  | x :: xs, y :: ys, 0, h => by simp [zipD] at h
  | x :: xs, y :: ys, i + 1, h => by
    have h : (zipD xs ys).length + 1 ≤ i + 1 := h
    rcases zipD_len (xs := xs) (ys := ys) (i := i) (by omega) with q | q
    · exact .inl (by rw [List.length_cons]; omega)
    · exact .inr (by rw [List.length_cons]; omega)
  | [], ys, i, _ => .inl (Nat.zero_le _)
  | x :: xs, [], i, _ => .inr (Nat.zero_le _)
theorem walkZ {K : PySem.W.Frag} {g : G} {B : Hp} {a b : Addr} {vs ws : List V} {ds es : List D} (h : SqT K B a vs) (h2 : SqT K B b ws) (r : RpA K g vs ds) (r2 : RpA K g ws es) : WalkD K B (IzF K a b) (zipD ds es) g := fun i H sm => by
  refine ⟨fun d hd => ?_, fun hl => ?_⟩
  · obtain ⟨x, y, hx, hy, rfl⟩ := zipD_get hd
    obtain ⟨v, hv, rv⟩ := r.get hx
    obtain ⟨u, hu, ru⟩ := r2.get hy
    refine ⟨⟨vs, ws, v, u, Same.tseq sm h, Same.tseq sm h2, hv, hu⟩, fun z H' ⟨T, x', y', e1, e2, e3, e4, e5⟩ => .inr ⟨T, [x', y'], [x, y], e1, e2, e3, rfl, ?_⟩⟩
    have f1 := e4 vs (Same.tseq sm h)
    have f2 := e5 ws (Same.tseq sm h2)
    rw [hv] at f1
    rw [hu] at f2
    cases f1
    cases f2
    exact .cons rv (.cons ru .nil)
  · refine ⟨vs, ws, Same.tseq sm h, Same.tseq sm h2, ?_⟩
    rcases zipD_len hl with q | q
    · exact .inl (by rw [r.length]; exact q)
    · exact .inr (by rw [r2.length]; exact q)
section
variable {X : Cx} {C : Cn} {E : XK}
theorem ci_zip {e e2 : Expr} {f f2 : Ex} {p pos tpos : Pos} {elts : List Expr} {kk : Nat} (hm : X.mg "zip" = none) (he : CE X C E e f) (he2 : CE X C E e2 f2) (hg : Gl X "zip" := by rfl)
    (hs : starEach [e, e2] X.env = (false, eval e X.env) :: starEach [e2] X.env := by rfl) (hs2 : starEach [e2] X.env = (false, eval e2 X.env) :: starEach [] X.env := by rfl) (hpl : (backTo pos (starEach [e2] X.env)).any (·.1) = false := by rfl) :
    CI X C E (.Tuple elts kk tpos) (.Call (.Name "zip" p) [e, e2] [] pos) (itZip f f2) :=
  PI.imp (pi_zipF hg hm (pa_cons he (pa_cons he2 pa_nil hs2) hs) hs hpl) fun σ H R ⟨g, S, t, w, s, q⟩ => ⟨g, S, t, w, s, q.bnd.imp fun d t1 g1 H1 st1 w1 q v r => ⟨g1, S, t1, w1, s.stp w st1, q.bnd.imp fun d2 t2 g2 H2 st2 w2 q2 v2 r2 => by
    cases d with
    | tup ds =>
      cases d2 with
      | tup es =>
        have r := r.stp st2
        cases r with
        | tup sq ra =>
          cases r2 with
          | tup sq2 rb => exact ⟨_, _, _, _, rfl, Same.tseq w2.fz sq.t, Same.tseq w2.fz sq2.t, postRet q2 w2 _ (walkZ sq.t sq2.t ra rb)⟩
      | _ => exact q2.elim
    | _ => exact q2.elim⟩⟩
end
end BG
set_option Elab.async false
set_option linter.all false
set_option maxRecDepth 100000
set_option maxHeartbeats 4000000
namespace BG
open PySem PySem.Spec PyProof.Rows L2
end BG
set_option Elab.async false
set_option linter.all false
set_option maxRecDepth 100000
set_option maxHeartbeats 4000000
namespace BG
open PySem PySem.Spec PyProof.Rows L2
end BG
set_option Elab.async false
set_option linter.all false
set_option maxRecDepth 100000
set_option maxHeartbeats 4000000
namespace BG
open PySem PySem.Spec PyProof.Rows L2
abbrev Tk (P : Program) (w : World) : HeapKind P w (List Int) := tupleKind (intKind P w)
theorem items_ints {P : Program} {w : World} : ∀ {us : List Value} {ns : List Int}, IntsAre us ns → ItemsAre (intKind P w) ns us
  | _, _, .nil => .nil
  | _, _, .cons n t h => .cons (intKind_is P w n t) (items_ints h)
section
variable {X : Cx} {pins : List (Addr × Obj)} {σ : L2.St} {H : Hp} {s : Shared}
theorem key_is (I : Inv X pins σ H s) {a : Addr} {k : List Int} (h : SqT X.K H a (k.map V.int)) : (Tk X.prog X.w).is s.heap k a := by
  obtain ⟨its, rv, ⟨o, ho, hc, n, hd⟩, _⟩ := I.tuple h
  exact ⟨o, its.toArray, n, ho, hc, hd, by simpa using items_ints (P := X.prog) (w := X.w) (ints_vals rv)⟩
/-- the entries with their values -/
def xsOf (L : List (List Int × Addr × V)) (us : List Value) : List (List Int × Addr × Value) := (L.zip us).map fun q => (q.1.1, q.1.2.1, q.2)
theorem xsOf_map {P : Program} {w : World} (L : List (List Int × Addr × V)) (us : List Value) : (xsOf L us).map (entryOfKey (Tk P w)) = (L.zip us).map fun q => (⟨thI q.1.1, .ref q.1.2.1, q.2⟩ : DictEntry) := by
  unfold xsOf; rw [List.map_map]; rfl
theorem xsOf_len {L : List (List Int × Addr × V)} {us : List Value} (h : L.length = us.length) : (xsOf L us).length = L.length := by
  unfold xsOf; rw [List.length_map, List.length_zip, h, Nat.min_self]
theorem xsOf_keys : ∀ {L : List (List Int × Addr × V)} {us : List Value}, L.length = us.length → (xsOf L us).map (·.1) = L.map (·.1)
  | [], [], _ => rfl
  | x :: L, u :: us, h => by
    have := xsOf_keys (L := L) (us := us) (by simpa using h)
    show x.1 :: (xsOf L us).map (·.1) = _
    rw [this]; rfl
theorem xsOf_mem {L : List (List Int × Addr × V)} {us : List Value} {y : List Int × Addr × Value} (h : y ∈ xsOf L us) : ∃ x ∈ L, x.1 = y.1 ∧ x.2.1 = y.2.1 := by
  obtain ⟨q, hq, rfl⟩ := List.mem_map.mp h
  exact ⟨q.1, (List.of_mem_zip hq).1, rfl, rfl⟩
/-- the keys' tuples are there -/
def KeysIn (K : PySem.W.Frag) (H : Hp) (L : List (List Int × Addr × V)) : Prop := ∀ x ∈ L, SqT K H x.2.1 (x.1.map V.int)
theorem RpA.ints_inv {K : PySem.W.Frag} {g : G} : ∀ {k : List Int} {vs : List V}, RpA K g vs (k.map D.int) → vs = k.map V.int
  | [], _, h => by cases h; rfl
  | i :: k, _, h => by
    cases h with
    | cons a b =>
      cases a
      rw [RpA.ints_inv b]; rfl
theorem RpD.kin {K : PySem.W.Frag} {C : Cn} {g : G} {H : Hp} {t : Tn} {L : DL} {ks : List (List Int × D)} (r : RpD K g L ks) (w : Wf C g H t) : KeysIn K H L.2 := fun x hx => by
  have := r.kt x hx
  cases this with
  | tup sq ra =>
    have := RpA.ints_inv ra
    subst this
    exact Same.tseq w.fz sq.t
theorem dk_get (I : Inv X pins σ H s) {p : Addr} {L : DL} (h : H p = some (DkO p L)) (hk : KeysIn X.K H L.2) (nd : (L.2.map (·.1)).Nodup) : ∃ us, Vals (L.2.map (·.2.2)) us ∧ L.2.length = us.length ∧ s.heap.DictOfH (Tk X.prog X.w) p (xsOf L.2 us) ∧ (p == sysModules) = false := by
  obtain ⟨o, es, us, h1, h2, h3, h4, h5, h6⟩ := (I.hok p _ h).1
  have hl : L.2.length = us.length := by have := h4.length; rw [List.length_map] at this; exact this
  refine ⟨us, h4, hl, ⟨o, es, L.1, h1, h2, h3, by rw [h5, xsOf_map], fun y hy => ?_, by rw [xsOf_keys hl]; exact nd⟩, h6⟩
  obtain ⟨x, hx, e1, e2⟩ := xsOf_mem hy
  have := key_is I (hk x hx)
  rw [e1, e2] at this
  exact this
theorem atKey_cons (x : List Int × Addr × Value) (xs : List (List Int × Addr × Value)) (k : List Int) : atKey (x :: xs) k = if x.1 = k then some x.2 else atKey xs k := by
  unfold atKey
  rw [List.find?_cons]
  by_cases h : x.1 = k
  · rw [decide_eq_true h, if_pos h]; rfl
  · rw [decide_eq_false h, if_neg h]
theorem atKey_none : ∀ {xs : List (List Int × Addr × Value)} {k : List Int}, (atKey xs k).isSome = decide (k ∈ xs.map (·.1))
  | [], k => rfl
  | x :: xs, k => by
    rw [atKey_cons, List.map_cons]
    by_cases h : x.1 = k
    · rw [if_pos h, decide_eq_true (by rw [h]; exact List.mem_cons_self)]; rfl
    · rw [if_neg h, atKey_none, Bool.eq_iff_iff, decide_eq_true_eq, decide_eq_true_eq, List.mem_cons]
      exact ⟨.inr, fun z => z.resolve_left fun e => h e.symm⟩
theorem atKey_val : ∀ {L : List (List Int × Addr × V)} {us : List Value} {k : List Int} {i : Nat} {x : List Int × Addr × V} {u : Value}, L.length = us.length → (L.map (·.1)).Nodup → L[i]? = some x → us[i]? = some u → x.1 = k → ∃ a, atKey (xsOf L us) k = some (a, u)
  | [], _, _, _, _, _, _, _, hx, _, _ => by simp at hx
  | y :: L, v :: us, k, 0, x, u, hl, nd, hx, hu, hk => by
    have hx : y = x := Option.some.inj hx
    have hu : v = u := Option.some.inj hu
    subst hx hu
    refine ⟨y.2.1, ?_⟩
    show atKey ((y.1, y.2.1, v) :: xsOf L us) k = _
    rw [atKey_cons, if_pos hk]
  | y :: L, v :: us, k, i + 1, x, u, hl, nd, hx, hu, hk => by
    obtain ⟨n1, n2⟩ := List.nodup_cons.mp nd
    have hx : L[i]? = some x := hx
    have ne : ¬ y.1 = k := fun z => n1 (List.mem_map.mpr ⟨x, List.mem_of_getElem? hx, hk.trans z.symm⟩)
    obtain ⟨a, e⟩ := atKey_val (L := L) (us := us) (i := i) (by simpa using hl) n2 hx hu hk
    refine ⟨a, ?_⟩
    show atKey ((y.1, y.2.1, v) :: xsOf L us) k = _
    rw [atKey_cons, if_neg ne]
    exact e
end
section
variable {X : Cx} {C : Cn} {E : XK}
def rTIn (K : PySem.W.Frag) (neg : Bool) : R2 := fun x y H Q => ∃ (a p : Addr) (L : DL) (k : List Int), x = .ref a ∧ y = .ref p ∧ H p = some (DkO p L) ∧ SqT K H a (k.map V.int) ∧ KeysIn K H L.2 ∧ (L.2.map (·.1)).Nodup ∧ Q (.bl (neg ^^ decide (k ∈ L.2.map (·.1)))) H
theorem op_tnin (hu : X.A.units + 1 < cLine) : OpR X (compareOp .NotIn) (rTIn X.K true) := by
  intro pins s σ H x y v u Q I rx ry h
  obtain ⟨a, p, L, k, rfl, rfl, hp, hk, hL, nd, q⟩ := h
  cases rx
  cases ry
  obtain ⟨us, h1, hl, hm, hs⟩ := dk_get I hp hL nd
  refine wpAny_notIn_heap (knd := Tk X.prog X.w) (by show X.A.units + 1 < cLine; exact hu) (key_is I hk) hs hm ?_
  rw [atKey_none, xsOf_keys hl]
  rw [Bool.true_xor] at q
  exact ⟨.bl _, H, I.tok _, rfl, q⟩
def rTIx (K : PySem.W.Frag) : R2 := fun x y H Q => ∃ (p a : Addr) (L : DL) (k : List Int) (i : Nat) (l : List Int × Addr × V), x = .ref p ∧ y = .ref a ∧ H p = some (DkO p L) ∧ SqT K H a (k.map V.int) ∧ KeysIn K H L.2 ∧ (L.2.map (·.1)).Nodup ∧ L.2[i]? = some l ∧ l.1 = k ∧ Q l.2.2 H
theorem ix_tk (hu : X.A.units + 1 < cLine) : IxR X (rTIx X.K) := by
  intro value slice pins s σ H x y v u Q I rx ry h hs
  obtain ⟨p, a, L, k, i, l, rfl, rfl, hp, hk, hL, nd, hi, hlk, q⟩ := h
  obtain rfl : v = Value.ref p := rx
  cases ry
  obtain ⟨us, h1, hl, hm, _⟩ := dk_get I hp hL nd
  have hv : (L.2.map (·.2.2))[i]? = some l.2.2 := by rw [List.getElem?_map, hi]; rfl
  obtain ⟨u, eu, ru⟩ := h1.get hv
  obtain ⟨b, e⟩ := atKey_val hl nd hi eu hlk
  exact tail_any hm.typeIs slot_dict_getitem.lookup (wpAny_getItem_heap (knd := Tk X.prog X.w) (by show X.A.units + 1 < cLine; exact hu) (key_is I hk) hm e ⟨l.2.2, H, I.tok _, ru, q⟩) hs
end
end BG
set_option Elab.async false
set_option linter.all false
set_option maxRecDepth 100000
set_option maxHeartbeats 4000000
namespace BG
open PySem PySem.Spec PyProof.Rows L2
/-- a code object is no dict -/
theorem code_ne {q : Str} {p : Addr} {L : DL} (e : LamX.CodeO p q = DkO p L) : False := by
  obtain ⟨h, e1⟩ := heap_size p
  have at_ : (h.push { cls := .none, data := .fields #[.none, .str q 0] }).get? p = some { cls := .none, data := .fields #[.none, .str q 0] } := by
    have := Heap.get?_push_size h (o := { cls := .none, data := .fields #[.none, .str q 0] }) rfl
    rw [e1] at this; exact this
  unfold LamX.CodeO DkO at e
  injection e with e
  have k : (fun h : Heap => ∃ (oc : Obj) (vs : Array Value) (t : Tok), h.get? p = some oc ∧ oc.data = .fields vs ∧ vs[1]? = some (.str q t)) (h.push { cls := .none, data := .fields #[.none, .str q 0] }) := ⟨_, _, 0, at_, rfl, rfl⟩
  rw [e] at k
  obtain ⟨o, es, us, ho, _, hd, _⟩ := k
  rw [at_] at ho
  cases ho
  cases hd
theorem Wf.updE {C : Cn} {g : G} {H : Hp} {t : Tn} {p : Addr} {L : DL} {o : HO} (w : Wf C g H t) (hp : H p = some (DkO p L)) (fp : Fre g p) : Wf C g (upd H p o) t where
  fz := fun b o' h => by
    rw [upd_ne (ne_of_none h fp.1)]
    exact w.fz b o' h
  tw := ⟨w.tw.1.ext fun b kvs h z => by rw [upd_ne fun z2 => fp.2 (.inl (by rw [← z2]; exact z))]; exact h, w.tw.2.keep (fun _ _ h => h) (.refl g) ⟨rfl, rfl⟩ fun a ha ho h => by rw [upd_ne fun z => fp.2 (.inr (by rw [← z]; exact ha))]; exact h⟩
  ntw := w.ntw
  nft := w.nft
  tab := fun q hq => by
    obtain ⟨ps, h1, h2, h3⟩ := w.tab q hq
    refine ⟨ps, by rw [upd_ne (fun z => by rw [z, hp] at h1; unfold DkO at h1; cases h1)]; exact h1, h2, fun pos cv hc => ?_⟩
    obtain ⟨c, e1, e2⟩ := h3 pos cv hc
    exact ⟨c, e1, by rw [upd_ne (fun z => by rw [z, hp] at e2; exact code_ne (Option.some.inj e2).symm)]; exact e2⟩
theorem dkp_new {P : Program} {w : World} {H : Hp} {h : Heap} {p : Addr} {L : List (List Int × Addr × V)} {us : List Value} (D : h.DictOfH (Tk P w) p (xsOf L us)) (rv : Vals (L.map (·.2.2)) us) (hs : (p == sysModules) = false) : ∃ ep, ObjOk P w H h p (DkO p (ep, L)) := by
  obtain ⟨o, es, ep, h1, h2, h3, h4, h5, h6⟩ := D
  refine ⟨ep, ⟨o, es, us, h1, h2, h3, rv, by rw [h4, xsOf_map], hs⟩, ⟨o, h1⟩, fun a b ⟨o', es', us', k1, k2⟩ k => ⟨o', es', us', k o' k1, k2⟩⟩
theorem xsOf_snoc {L : List (List Int × Addr × V)} {us : List Value} (h : L.length = us.length) (k : List Int) (a : Addr) (v : V) (u : Value) : xsOf (L ++ [(k, a, v)]) (us ++ [u]) = xsOf L us ++ [(k, a, u)] := by
  unfold xsOf
  rw [List.zip_append h, List.map_append]
  rfl
theorem storedH_new {xs : List (List Int × Addr × Value)} {k : List Int} (a : Addr) (v : Value) (h : k ∉ xs.map (·.1)) : storedH xs k a v = xs ++ [(k, a, v)] := by
  have e : (atKey xs k).isSome = false := by rw [atKey_none, decide_eq_false h]
  unfold storedH
  rw [if_neg (by rw [e]; decide)]
section
variable {X : Cx} {pins : List (Addr × Obj)} {σ : L2.St} {H : Hp} {s : Shared} {A : Around} {E : Value → Shared → Prop}
theorem tk_setItem {p a : Addr} {L : DL} {k : List Int} {v : V} {r : Value} {Q : Unit → Shared → Prop} (hu : A.units + 1 < cLine) (I : Inv X pins σ H s) (hp : H p = some (DkO p L)) (hk : SqT X.K H a (k.map V.int)) (hL : KeysIn X.K H L.2) (nd : (L.2.map (·.1)).Nodup) (hn : k ∉ L.2.map (·.1)) (hl : L.2.length ≤ sizeLine)
    (rv : RelV v r) (h : ∀ ep s', Inv X pins σ (upd H p (DkO p (ep, L.2 ++ [(k, a, v)]))) s' → Q () s') : wpAny (model X.prog X.w) A (setItem (.ref p) (.ref a) r) Q E s := by
  obtain ⟨us, h1, he, hm, hs⟩ := dk_get I hp hL nd
  refine wpAny_setItem_heap (knd := Tk X.prog X.w) (hsz := by rw [xsOf_len he]; exact hl) (tupleKind_room_in1 hu) (key_is I hk) hm fun h' dd' sb => ?_
  rw [storedH_new a r (by rw [xsOf_keys he]; exact hn), ← xsOf_snoc he k a v r] at dd'
  have ex : ∃ q, h'.get? p = some q := let ⟨q, _, _, hq, _⟩ := dd'; ⟨q, hq⟩
  obtain ⟨ep, new⟩ := dkp_new (H := H) dd' (by rw [List.map_append]; exact h1.append (.cons rv .nil)) hs
  exact h ep _ (d_write I (by rw [hp]; exact True.intro) sb ex new)
end
def sTPut (K : PySem.W.Frag) (td ty tv : TE) : TS := fun D σ H => tv σ H fun v H1 => td σ H1 fun x H2 => ty σ H2 fun y H3 => ∃ (p a : Addr) (L : DL) (k : List Int), x = .ref p ∧ y = .ref a ∧ H3 p = some (DkO p L) ∧ SqT K H3 a (k.map V.int) ∧ KeysIn K H3 L.2 ∧ (L.2.map (·.1)).Nodup ∧ k ∉ L.2.map (·.1) ∧ L.2.length ≤ sizeLine ∧ ∀ ep, D.nx σ (upd H3 p (DkO p (ep, L.2 ++ [(k, a, v)])))
section
variable {X : Cx} {C : Cn} {E : XK}
theorem ps_tput {o i value : Expr} {td ty tv : TE} {pos pos' : Pos} (hu : X.A.units + 1 < cLine) (ho : PE X o td) (hi : PE X i ty) (hv : PE X value tv) (hs : swapsWith value (some (.Subscript o i pos')) pos.line X.env = pure false) :
    PS X (.Assign [.Subscript o i pos'] value pos) (sTPut X.K td ty tv) := by
  refine ⟨fun pins s σ H D I h => ?_⟩
  refine wpAny_Assign_Subscript (thn (hv.run pins s σ H _ I h) fun r s1 ⟨v, H1, I1, rv, q1⟩ => thn (ho.run pins s1 σ H1 _ I1 q1) fun u s2 ⟨x, H2, I2, rx, q2⟩ => thn (hi.run pins s2 σ H2 _ I2 q2) fun iv s3 ⟨y, H3, I3, ry, p, a, L, k, ex, ey, h1, h2, h3, h4, h5, h6, q3⟩ => ?_) hs
  subst ex ey
  obtain rfl : u = Value.ref p := rx
  obtain rfl : iv = Value.ref a := ry
  exact tk_setItem hu I3 h1 h2 h3 h4 h5 h6 rv fun ep s4 I4 => ⟨σ, _, I4, q3 ep⟩
/-- the ints of a tuple -/
def intK : D → Option (List Int)
  | .tup ds => intsD ds
  | _ => none
theorem intK_inv {d : D} {k : List Int} (h : intK d = some k) : d = .tup (k.map D.int) := by
  cases d with
  | tup ds => rw [intsD_inv h]
  | _ => cases h
theorem Rp.intK {K : PySem.W.Frag} {C : Cn} {g : G} {H : Hp} {t : Tn} {v : V} {d : D} {k : List Int} (r : Rp K g v d) (w : Wf C g H t) (h : intK d = some k) : ∃ a, v = .ref a ∧ SqT K H a (k.map V.int) ∧ Rp K g (.ref a) (.tup (k.map D.int)) := by
  have e := intK_inv h
  subst e
  have r0 := r
  cases r with
  | tup sq ra =>
    have e := RpA.ints_inv ra
    subst e
    exact ⟨_, rfl, Same.tseq w.fz sq.t, r0⟩
theorem RpA.snoc {K : PySem.W.Frag} {g : G} {vs : List V} {ds : List D} {v : V} {d : D} (h : RpA K g vs ds) (r : Rp K g v d) : RpA K g (vs ++ [v]) (ds ++ [d]) := h.app (.cons r .nil)
theorem RpD.snoc {K : PySem.W.Frag} {g : G} {L : DL} {ks : List (List Int × D)} {k : List Int} {a : Addr} {v : V} {d : D} {ep : Nat} (r : RpD K g L ks) (rk : Rp K g (.ref a) (.tup (k.map D.int))) (rv : Rp K g v d) (hn : k ∉ ks.map (·.1)) : RpD K g (ep, L.2 ++ [(k, a, v)]) (ks ++ [(k, d)]) where
  keys := by show (L.2 ++ [(k, a, v)]).map (·.1) = _; rw [List.map_append, List.map_append, r.keys]; rfl
  nd := by
    show ((L.2 ++ [(k, a, v)]).map (·.1)).Nodup
    rw [List.map_append]
    refine List.nodup_append.mpr ⟨r.nd, by simp, fun x hx y hy => ?_⟩
    rw [List.map_singleton, List.mem_singleton] at hy
    subst hy
    rw [r.keys] at hx
    exact fun z => hn (z ▸ hx)
  kt := fun x hx => by
    rcases List.mem_append.mp hx with h | h
    · exact r.kt x h
    · rw [List.mem_singleton] at h; subst h; exact rk
  vs := by show RpA K g ((L.2 ++ [(k, a, v)]).map (·.2.2)) _; rw [List.map_append, List.map_append]; exact r.vs.snoc rv
theorem RpD.length {K : PySem.W.Frag} {g : G} {L : DL} {ks : List (List Int × D)} (r : RpD K g L ks) : L.2.length = ks.length := by
  have := congrArg List.length r.keys
  rw [List.length_map, List.length_map] at this
  exact this
/-- x[k] = e, k not there yet -/
def sTSet (i : Nat) (k e : Ex) : Stm := fun S => match S[i]? with
  | some (.dcT _) => bnd (e S) fun d => bnd (k S) fun kd => match S[i]?, intK kd with
    | some (.dcT ks), some y => if ks.length < 1000000 ∧ y ∉ ks.map (·.1) then ret (.nx (S.set i (.dcT (ks ++ [(y, d)])))) else stuck
    | _, _ => stuck
  | _ => stuck
theorem cs_tset (i : Nat) {x : Str} {k e : Expr} {fk f : Ex} {p1 pos' pos : Pos} (hu : X.A.units + 1 < cLine) (he : CE X C E e f) (hk : CE X C E k fk) (hN : X.N[i]? = some x := by rfl) (hv : Vis X.env.scope x := by first | exact Or.inl rfl | exact Or.inr (Or.inl rfl) | exact Or.inr (Or.inr rfl)) (hd : (x == ("__debug__" : Str)) = false := by decide)
    (hcd : (x == ("__classdict__" : Str)) = false := by decide) (hs : swapsWith e (some (.Subscript (.Name x p1) k pos')) pos.line X.env = pure false := by rfl) : CS X C E (.Assign [.Subscript (.Name x p1) k pos'] e pos) (sTSet i fk f) :=
  PS.imp (ps_tput hu (pe_var hN hv hd hcd) hk he hs) fun De σ H ⟨g0, H0, gs, g, S, t, st, gr, w, s, o, p⟩ => by
    unfold BG.sTSet at p
    cases e : S[i]? with
    | none => rw [e] at p; exact p.elim
    | some sv =>
      rw [e] at p
      cases sv with
      | dcT ks =>
        refine tS.ex st gr w s p fun d t1 g1 H1 v st1 st01 gr1 w1 s1 r q => ?_
        obtain ⟨a, L, h1, h2, h3, h4⟩ := s1.dcT i ks e
        refine ⟨_, h1, tS.ex st01 gr1 w1 s1 q fun kd t2 g2 H2 v2 st2 st02 gr2 w2 s2 r2 q2 => ?_⟩
        cases ek : intK kd with
        | none => rw [ek] at q2; exact q2.elim
        | some y =>
          rw [ek] at q2
          have q2 : Post C E g0 H0 (Rs X.K H0 gs De) ((if ks.length < 1000000 ∧ y ∉ ks.map (·.1) then ret (Fl.nx (S.set i (.dcT (ks ++ [(y, d)])))) else stuck) t2) := q2
          split at q2
          · rename_i hz
            obtain ⟨a', L', k1, k2, k3, k4⟩ := s2.dcT i ks e
            rw [h1] at k1
            cases k1
            obtain ⟨b, rfl, sq, rb⟩ := r2.intK w2 ek
            have rk : ∀ ep, _ := fun ep => k3.snoc (ep := ep) rb (r.stp st2) hz.2
            refine ⟨a, b, L', y, rfl, rfl, k2, sq, k3.kin w2, k3.nd, by rw [k3.keys]; exact hz.2, by rw [k3.length, sizeLine_eq]; omega, fun ep => ?_⟩
            exact q2 g2 _ (st02.updO (o i _ a e rfl h1)) (w2.updE k2 k4) _ gr2 (s2.updX e rfl h1 rfl ⟨a, _, rfl, upd_same, rk ep, k4⟩) (o.updX e rfl)
          · exact q2.elim
      | _ => exact p.elim
/-- k in x, k not in x -/
def tAt (S : Sl) (i : Nat) : Option (List (List Int × D)) := match S[i]? with
  | some (.dcT ks) => some ks
  | some (.val (.dTT ks ds)) => some (ks.zip ds)
  | _ => none
theorem rpa_ints {K : PySem.W.Frag} {g : G} : ∀ ns : List Int, RpA K g (ns.map V.int) (ns.map D.int)
  | [] => .nil
  | n :: ns => .cons (.int n) (rpa_ints ns)
theorem zip_1 {α β : Type} : ∀ {as : List α} {bs : List β}, as.length = bs.length → (as.zip bs).map (·.1) = as
  | [], [], _ => rfl
  | a :: as, b :: bs, h => by rw [List.zip_cons_cons, List.map_cons, zip_1 (by simpa using h)]
theorem zip_2 {α β : Type} : ∀ {as : List α} {bs : List β}, as.length = bs.length → (as.zip bs).map (·.2) = bs
  | [], [], _ => rfl
  | a :: as, b :: bs, h => by rw [List.zip_cons_cons, List.map_cons, zip_2 (by simpa using h)]
theorem tAt_at {K : PySem.W.Frag} {g : G} {H : Hp} {σ : L2.St} {S : Sl} {t : Tn} {i : Nat} {ks : List (List Int × D)} (w : Wf C g H t) (s : SL K g H σ S) (h : tAt S i = some ks) : ∃ a L, σ[i]? = some (some (.ref a)) ∧ H a = some (DkO a L) ∧ RpD K g L ks ∧ ∀ g2 H2 t2, Stp g H g2 H2 → Wf C g2 H2 t2 → H2 a = some (DkO a L) := by
  unfold tAt at h
  cases e : S[i]? with
  | none => rw [e] at h; cases h
  | some sv =>
    rw [e] at h
    cases sv with
    | dcT d =>
      cases h
      obtain ⟨a, L, h1, h2, h3, h4, h5⟩ := s.dcT i _ e
      exact ⟨a, L, h1, h2, h3, fun g2 H2 t2 st _ => st.frm _ _ h2 h5 DkO_tbl⟩
    | val d =>
      cases d with
      | dTT ks' ds =>
        cases h
        obtain ⟨v, h1, r⟩ := s.val i _ e
        cases r with
        | @dTT a L _ _ e1 e2 e3 e4 e5 =>
          have hl : ks'.length = ds.length := by
            have := e5.length
            rw [List.length_map] at this
            rw [← this, ← e2, List.length_map]
          exact ⟨a, L, h1, w.fz _ _ e1, ⟨by rw [zip_1 hl, e2], by rw [e2]; exact e3, fun x hx => .tup (e4 x hx) (rpa_ints _), by rw [zip_2 hl]; exact e5⟩, fun g2 H2 t2 st w2 => w2.fz _ _ (st.fz _ _ e1)⟩
      | _ => cases h
    | _ => cases h
def eTIn (neg : Bool) (i : Nat) (k : Ex) : Ex := fun S => bnd (k S) fun kd => match tAt S i, intK kd with
  | some ks, some y => ret (.bl (neg ^^ decide (y ∈ ks.map (·.1))))
  | _, _ => stuck
theorem tin_of {neg : Bool} {i : Nat} {f : Ex} {σ : L2.St} {H : Hp} {Q : VK} (h : tE X.K C E (eTIn neg i f) σ H Q) : tE X.K C E f σ H fun x H1 => ∃ y, σ[i]? = some (some y) ∧ rTIn X.K neg x y H1 Q := by
  obtain ⟨g, S, t, w, s, p⟩ := h
  refine ⟨g, S, t, w, s, p.bnd.imp fun kd t1 g1 H1 st1 w1 q v r => ?_⟩
  cases ea : tAt S i with
  | none => rw [ea] at q; exact q.elim
  | some ks =>
    rw [ea] at q
    cases ek : intK kd with
    | none => rw [ek] at q; exact q.elim
    | some y =>
      rw [ek] at q
      obtain ⟨a, L, k1, k2, k3, _⟩ := tAt_at w1 (s.stp w st1) ea
      obtain ⟨b, rfl, sq, rb⟩ := r.intK w1 ek
      refine ⟨_, k1, b, a, L, y, rfl, rfl, k2, sq, k3.kin w1, k3.nd, ?_⟩
      rw [k3.keys]
      exact pRetV q w1 (Rp.bl _)
theorem ct_tnin (i : Nat) {x : Str} {a : Expr} {f : Ex} {p pos : Pos} (hu : X.A.units + 1 < cLine) (ha : CE X C E a f) (hN : X.N[i]? = some x := by rfl) (hv : Vis X.env.scope x := by first | exact Or.inl rfl | exact Or.inr (Or.inl rfl) | exact Or.inr (Or.inr rfl)) (hd : (x == ("__debug__" : Str)) = false := by decide)
    (hcd : (x == ("__classdict__" : Str)) = false := by decide) (hm : behindInMarks .NotIn (.Name x p) = false := by rfl) : CT X C E (.Compare a [.NotIn] [.Name x p] pos) (eTIn true i f) :=
  PT.imp (pt_cmpR (op_tnin hu) ha (pe_var hN hv hd hcd) hm) fun σ H Q h => tin_of (tT.tE h)
/-- x[k] -/
def tLook (ks : List (List Int × D)) (y : List Int) : Option D := (ks.find? fun p => decide (p.1 = y)).map (·.2)
theorem tLook_ix : ∀ {ks : List (List Int × D)} {y : List Int} {d : D}, tLook ks y = some d → ∃ (i : Nat), ks[i]? = some (y, d)
  | [], _, _, h => by cases h
  | p :: ks, y, d, h => by
    unfold tLook at h
    rw [List.find?_cons] at h
    by_cases c : p.1 = y
    · rw [decide_eq_true c] at h
      have h : some p.2 = some d := h
      cases h
      exact ⟨0, by rw [← c]; rfl⟩
    · rw [decide_eq_false c] at h
      obtain ⟨i, hi⟩ := tLook_ix (ks := ks) h
      exact ⟨i + 1, hi⟩
theorem RpA.getR {K : PySem.W.Frag} {g : G} : ∀ {vs : List V} {ds : List D} {i : Nat} {d : D}, RpA K g vs ds → ds[i]? = some d → ∃ v, vs[i]? = some v ∧ Rp K g v d
  | _, _, 0, _, .cons a b, h => by cases h; exact ⟨_, rfl, a⟩
  | _, _, i + 1, _, .cons a b, h => RpA.getR (i := i) b h
  | _, _, i, _, .nil, h => by simp at h
theorem RpD.look {K : PySem.W.Frag} {g : G} {L : DL} {ks : List (List Int × D)} {y : List Int} {d : D} (r : RpD K g L ks) (h : tLook ks y = some d) : ∃ (i : Nat) (l : List Int × Addr × V), L.2[i]? = some l ∧ l.1 = y ∧ Rp K g l.2.2 d := by
  obtain ⟨i, hi⟩ := tLook_ix h
  have hk : (ks.map (·.1))[i]? = some y := by rw [List.getElem?_map, hi]; rfl
  have hd : (ks.map (·.2))[i]? = some d := by rw [List.getElem?_map, hi]; rfl
  obtain ⟨v, hv, rv⟩ := r.vs.getR hd
  rw [← r.keys, List.getElem?_map] at hk
  rw [List.getElem?_map] at hv
  cases e : L.2[i]? with
  | none => rw [e] at hk; cases hk
  | some l =>
    rw [e] at hk hv
    cases hk
    cases hv
    exact ⟨i, l, e, rfl, rv⟩
end
end BG
set_option Elab.async false
set_option linter.all false
set_option maxRecDepth 100000
set_option maxHeartbeats 4000000
namespace BG
open PySem PySem.Spec PyProof.Rows L2
def tDispT (K : PySem.W.Frag) (tk tv : TE) : TE := fun σ H Q => ∀ p, H p = none → ∀ ep, tk σ (upd H p (DkO p (ep, []))) fun x H1 => tv σ H1 fun y H2 => H2 p = some (DkO p (ep, [])) ∧ ∃ (a : Addr) (k : List Int), x = .ref a ∧ SqT K H2 a (k.map V.int) ∧ ∀ ep', Q (.ref p) (upd H2 p (DkO p (ep', [(k, a, y)])))
section
variable {X : Cx} {C : Cn} {E : XK}
theorem pe_dispT {k v : Expr} {tk tv : TE} {pos : Pos} (hu : X.A.units < cLine) (hk : PE X k tk) (hv : PE X v tv) : PE X (.Dict [some k] [v] pos) (tDispT X.K tk tv) := by
  refine ⟨fun pins s σ H Q I q => ?_⟩
  have hn := I.hok.fresh (Nat.le_refl s.heap.objs.size)
  have hsm : (s.heap.objs.size == sysModules) = false := beq_eq_false_iff_ne.mpr (Ne.symm (Nat.ne_of_lt I.big))
  obtain ⟨ep, new⟩ := dkp_new (P := X.prog) (w := X.w) (H := upd H s.heap.objs.size (DkO s.heap.objs.size (0, []))) (h := s.heap.push { cls := .type "dict", data := .dict #[] }) (p := s.heap.objs.size) (L := []) (us := []) (Heap.DictOfH.new s.heap) .nil hsm
  have I1 := I.laid (a := s.heap.objs.size) (o := DkO s.heap.objs.size (ep, [])) (h' := s.heap.push { cls := .type "dict", data := .dict #[] }) (t' := s.toks) (fun _ _ q => Heap.get?_push_of_some _ q) (Nat.le_refl _) new
  have hz := zip_pairTrees [some k] [v] X.env pos rfl rfl
  have hln := pairTrees_length [some k] [v] X.env pos rfl rfl
  rw [arm_eval_Dict, hz, dictDisplay_pairs (pairTrees [some k] [v] X.env pos) (fun e => by rw [e] at hln; cases hln) (by rw [hln]; simp)]
  refine wpAny_bind (wpAny_standAt (wpAny_bind (wpAny_subDictH (knd := Tk X.prog X.w) (Q := fun d s' => wpAny (model X.prog X.w) X.A (pure (Value.ref d)) _ X.xe s') hu (by rw [hln]; simp) ?_)))
  refine pairTrees_cons_walk (thn (hk.run pins _ σ _ _ I1 (q _ hn ep)) fun u s1 ⟨x, H1, J1, rx, q1⟩ => thn (hv.run pins s1 σ H1 _ J1 q1) fun u2 s2 ⟨y, H2, J2, ry, hp, a, kk, ex, sq, q2⟩ => pairTrees_nil_walk ?_)
  subst ex
  obtain rfl : u = Value.ref a := rx
  obtain ⟨us, h1, hl, hm, hs⟩ := dk_get J2 hp (fun _ z => nomatch z) List.nodup_nil
  have e0 : us = [] := by cases h1; rfl
  subst e0
  refine ⟨[(kk, a, u2)], ⟨rfl, rfl, key_is J2 sq, trivial⟩, hm, fun h' tk dd sb => wpAny_pure ?_⟩
  have dd : h'.DictOfH (Tk X.prog X.w) s.heap.objs.size (xsOf [(kk, a, y)] [u2]) := dd
  obtain ⟨ep', new'⟩ := dkp_new (H := upd H2 s.heap.objs.size (DkO s.heap.objs.size (0, []))) dd (.cons ry .nil) hsm
  have ex : ∃ q, h'.get? s.heap.objs.size = some q := let ⟨q, _, _, hq, _⟩ := dd; ⟨q, hq⟩
  exact ⟨.ref s.heap.objs.size, _, d_write J2 (by rw [hp]; exact True.intro) sb ex new', rfl, q2 ep'⟩
/-- the new dict, at the slots -/
theorem dispT_run {k v : Ex} {σ : L2.St} {H : Hp} {Q : VK} {g : G} {S : Sl} {t : Tn} (w : Wf C g H t) (s : SL X.K g H σ S)
    (p : Post C E g H (fun d _ g' H' => ∀ p L, H p = none → H' p = some (DkO p L) → RpD X.K g' L [d] → Fre g' p → Q (.ref p) H') (bnd (k S) (fun kd => bnd (v S) fun d => match intK kd with | some y => ret (y, d) | none => stuck) t)) :
    tDispT X.K (tE X.K C E k) (tE X.K C E v) σ H Q := by
  intro a ha ep
  have st0 : Stp g H g (upd H a (DkO a (ep, []))) := Stp.lay w ha
  have w0 : Wf C g (upd H a (DkO a (ep, []))) t := Wf.lay w ha
  refine ⟨g, S, t, w0, s.stp w st0, p.bnd0.all st0 fun kd t1 g1 H1 er st1 w1 q v1 r1 => ?_⟩
  have q := q g1 H1 (st0.trans st1) w1
  refine ⟨g1, S, t1, w1, (s.stp w st0).stp w0 st1, q.bnd0.all (st0.trans st1) fun d t2 g2 H2 er2 st2 w2 q2 v2 r2 => ?_⟩
  have q2 := q2 g2 H2 ((st0.trans st1).trans st2) w2
  have e1 : H1 a = some (DkO a (ep, [])) := st1.frm a _ upd_same (w.ntN ha) DkO_tbl
  have f1 : Fre g1 a := (w.fre ha).stp st1 upd_same DkO_tbl
  have e2 : H2 a = some (DkO a (ep, [])) := st2.frm a _ e1 f1.2 DkO_tbl
  have f2 : Fre g2 a := f1.stp st2 e1 DkO_tbl
  cases ek : intK kd with
  | none => rw [ek] at q2; exact q2.elim
  | some y =>
    rw [ek] at q2
    obtain ⟨b, rfl, sq, rb⟩ := (r1.stp st2).intK w2 ek
    refine ⟨e2, b, y, rfl, sq, fun ep' => ?_⟩
    have rd : RpD X.K g2 (ep', [(y, b, v2)]) [(y, d)] := ⟨rfl, by simp, fun x hx => by rw [List.mem_singleton] at hx; subst hx; exact rb, .cons r2 .nil⟩
    exact q2 g2 _ (((st0.trans st1).trans st2).updO (Nt.no ha)) (w2.updE e2 f2) a _ ha upd_same rd f2
/-- x = {k: v} -/
def sTNew (i : Nat) (k v : Ex) : Stm := fun S => bnd (k S) fun kd => bnd (v S) fun d => match intK kd with
  | some y => ret (.nx (S.set i (.dcT [(y, d)])))
  | none => stuck
theorem SL.setT {g : G} {H : Hp} {σ : L2.St} {S : Sl} {i : Nat} {p : Addr} {L : DL} {ks : List (List Int × D)} {K : PySem.W.Frag} (s : SL K g H σ S) (hp : H p = some (DkO p L)) (r : RpD K g L ks) (fp : Fre g p) (hn : ∀ (j : Nat) x, S[j]? = some x → isOw x = true → σ[j]? = some (some (.ref p)) → j = i) :
    SL K g H (σ.set i (some (.ref p))) (S.set i (.dcT ks)) := s.put ⟨p, L, rfl, hp, r, fp⟩ fun _ q e j y h1 h2 h3 => by cases e; exact hn j y h1 h2 h3
theorem cs_tnew (i : Nat) {x : Str} {k v : Expr} {fk fv : Ex} {dpos pos pos' : Pos} (hu : X.A.units < cLine) (hN : X.N.Nodup) (hk : CE X C E k fk) (hv : CE X C E v fv) (hi : X.N[i]? = some x := by rfl) (hx : Loc X.env.scope x := by first | exact .inl rfl | exact .inr rfl) (hs : swapsWith (.Dict [some k] [v] dpos) (some (.Name x pos')) pos.line X.env = pure false := by rfl)
    (hf : X.fn x = true ∨ X.env.scope.names.lookup x = some .local := by first | exact .inl rfl | exact .inr rfl | assumption) : CS X C E (.Assign [.Name x pos'] (.Dict [some k] [v] dpos) pos) (sTNew i fk fv) :=
  PS.imp (ps_set hN hi hx (pe_dispT hu hk hv) hs hf) fun De σ H ⟨g0, H0, gs, g, S, t, st, gr, w, s, o, p⟩ => by
    refine dispT_run w s ?_
    have p : Post C E g0 H0 (Rs X.K H0 gs De) (bnd (bnd (fk S) fun kd => bnd (fv S) fun d => match intK kd with | some y => ret (y, d) | none => stuck) (fun q => ret (.nx (S.set i (.dcT [q])))) t) := by
      have e : sTNew i fk fv S = bnd (bnd (fk S) fun kd => bnd (fv S) fun d => match intK kd with | some y => ret (y, d) | none => stuck) (fun q => ret (.nx (S.set i (.dcT [q])))) := by
        unfold sTNew
        rw [bnd_assoc]
        refine congrArg _ (funext fun kd => ?_)
        rw [bnd_assoc]
        refine congrArg _ (funext fun d => ?_)
        cases intK kd with
        | none => rfl
        | some y => rfl
      rw [e] at p
      exact p
    exact p.bnd0.all st fun q t1 g1 H1 er st1 w1 q1 a L ha ha1 rs fa => by
      have q2 := q1 g1 H1 (st.trans st1) w1
      exact q2 g1 H1 (st.trans st1) w1 _ (gr.trans st1.gw) ((s.stp w st1).setT ha1 rs fa fun j y h1 hx h2 => s.noOne (Nt.no ha) i j y h1 hx h2) (o.put (st.back ha))
end
def ItTK (p : Addr) (L : DL) : It := ⟨fun i H => i < L.2.length ∧ H p = some (DkO p L), fun i H x H' => H' = H ∧ ∃ l, L.2[i]? = some l ∧ x = .ref l.2.1, fun i H => L.2.length ≤ i ∧ H p = some (DkO p L)⟩
theorem dk_raw {X : Cx} {pins : List (Addr × Obj)} {σ : L2.St} {H : Hp} {s : Shared} (I : Inv X pins σ H s) {p : Addr} {L : DL} (h : H p = some (DkO p L)) : ∃ es : Array DictEntry, s.heap.DictRaw p es L.1 ∧ es.size = L.2.length ∧ (p == sysModules) = false ∧ ∀ i (hi : i < es.size), ∃ l, L.2[i]? = some l ∧ es[i].key = .ref l.2.1 := by
  obtain ⟨o, es, us, h1, h2, h3, h4, h5, h6⟩ := (I.hok p _ h).1
  have hl : L.2.length = us.length := by have := h4.length; rw [List.length_map] at this; exact this
  have hz : es.size = L.2.length := by
    have := congrArg List.length h5
    rw [List.length_map, List.length_zip, hl, Nat.min_self] at this
    rw [← Array.length_toList, this, hl]
  refine ⟨es, ⟨o, h1, h2, h3⟩, hz, h6, fun i hi => ?_⟩
  have hi2 : i < L.2.length := by omega
  have hi3 : i < us.length := by omega
  have e := congrArg (fun l => l[i]?) h5
  have e : es.toList[i]? = ((L.2.zip us).map (fun q => (⟨thI q.1.1, .ref q.1.2.1, q.2⟩ : DictEntry)))[i]? := e
  rw [Array.getElem?_toList, Array.getElem?_eq_getElem hi, List.getElem?_map, show (L.2.zip us)[i]? = some (L.2[i], us[i]) from List.getElem?_zip_eq_some.mpr ⟨List.getElem?_eq_getElem hi2, List.getElem?_eq_getElem hi3⟩] at e
  have e := Option.some.inj e
  exact ⟨L.2[i], List.getElem?_eq_getElem hi2, by rw [e]⟩
theorem turn_tk {P : Program} {w : World} {K : PySem.W.Frag} {tg : Expr} {d it : Addr} {L : DL} {n : Nat} (hn : n = L.2.length) :
    Turn P w K tg (ItTK d L) [it] it (fun i h => h.IsKeyIter it d i n L.1) where
  mem := by simp
  obj := fun i h st b hb => by
    rw [List.mem_singleton] at hb
    subst hb
    obtain ⟨oi, e, _, dd⟩ := st
    exact ⟨oi, e, fun v z => by rw [dd] at z; cases z⟩
  keep := fun i h h' st k => st.at fun oi e => k it (by simp) oi e
  item := by
    intro X eP eW eK cm i pins s σ H E I fr st gg
    subst eP eW eK hn
    obtain ⟨es, raw, sz, _, hes⟩ := dk_raw I gg.2
    have hi : i < es.size := by rw [sz]; exact gg.1
    obtain ⟨f0, f1, _, f3, f4, f5⟩ := fr it (by simp)
    rw [← sz] at st
    refine wpAny_pyNext_keys_item_raw st raw hi fun h2 st2 sb => ?_
    obtain ⟨l, hl, ek⟩ := hes i hi
    have J : Inv X pins σ H { s with heap := h2 } := I.turned (t' := s.toks) (fun b ob hb e => (sb.2 b hb).trans e) f0 f1 f3 f4 f5
    obtain ⟨oi, e, c, od⟩ := id st2
    rw [ek]
    rw [sz] at st2
    exact ⟨_, rfl, go_of (s := { s with heap := h2 }) e c od (by decide) ⟨.ref l.2.1, H, J, rfl, ⟨rfl, l, hl, rfl⟩, st2, fun b hb => (fr b hb).1⟩⟩
  done := by
    intro X eP eW eK cm i pins s σ H E I fr st gg
    subst eP eW eK hn
    obtain ⟨es, raw, sz, _, hes⟩ := dk_raw I gg.2
    have hi : es.size ≤ i := by rw [sz]; exact gg.1
    obtain ⟨f0, f1, _, f3, f4, f5⟩ := fr it (by simp)
    rw [← sz] at st
    exact wpAny_pyNext_keys_end_raw (I.ok.hd cm) st raw hi fun h2 eb => ⟨rfl, I.turned (t' := s.toks) (fun b ob hb e => eb b ob hb e) f0 f1 f3 f4 f5⟩
  self := fun A i s Q E st h => wpAny_pyIter_keyiter st h
def iTK (td : TE) : TI := fun σ H R => td σ H fun x H1 => ∃ p L, x = .ref p ∧ H1 p = some (DkO p L) ∧ R (ItTK p L) H1
theorem pi_tk {X : Cx} {tg e : Expr} {td : TE} (he : PE X e td) : PI X tg e (iTK td) := by
  refine ⟨fun pins s σ H R I h => ?_⟩
  refine thn (he.run pins s σ H _ I h) fun u s1 ⟨x, H1, I1, rx, p, L, ex, hp, q⟩ => ?_
  subst ex
  obtain rfl : u = Value.ref p := rx
  obtain ⟨es, ⟨o, h1, h2, h3⟩, sz, low, _⟩ := dk_raw I1 hp
  exact iter_keys low h1 h2 h3 (pi_one (tk := s1.toks) I1 _ (turn_tk (n := es.size) sz) ⟨_, Heap.get?_push_size _ rfl, rfl, rfl⟩ q)
theorem walkTK {K : PySem.W.Frag} {g : G} {B : Hp} {p : Addr} {L : DL} {ks : List (List Int × D)} (hB : B p = some (DkO p L)) (r : RpD K g L ks) : WalkD K B (ItTK p L) (ks.map fun q => D.tup (q.1.map D.int)) g := fun i H sm => by
  have hl : L.2.length = ks.length := r.length
  refine ⟨fun d hd => ?_, fun hz => ⟨by rw [List.length_map] at hz; omega, sm p _ hB⟩⟩
  rw [List.getElem?_map] at hd
  cases e : ks[i]? with
  | none => rw [e] at hd; cases hd
  | some q =>
    rw [e] at hd
    cases hd
    refine ⟨⟨by have := (List.getElem?_eq_some_iff.mp e).1; omega, sm p _ hB⟩, fun x H' ⟨e1, l, e2, e3⟩ => .inl ⟨e1, ?_⟩⟩
    have hk : (ks.map (·.1))[i]? = some q.1 := by rw [List.getElem?_map, e]; rfl
    rw [← r.keys, List.getElem?_map, e2] at hk
    have hk := Option.some.inj hk
    have := r.kt l (List.mem_of_getElem? e2)
    rw [e3]
    show Rp K g (V.ref l.2.1) (D.tup (q.1.map D.int))
    rw [← hk]
    exact this
section
variable {X : Cx} {C : Cn} {E : XK}
def rListT : List V → Hp → VK → Prop := fun xs H Q => ∃ (p : Addr) (L : DL), xs = [.ref p] ∧ H p = some (DkO p L) ∧ L.2.length < 1000000 ∧ ∀ l, H l = none → Q (.ref l) (upd H l (.lst (L.2.map fun q => V.ref q.2.1)))
theorem vals_of : ∀ {vs : List V} {us : List Value}, vs.length = us.length → (∀ (i : Nat) (v : V), vs[i]? = some v → ∃ u, us[i]? = some u ∧ RelV v u) → Vals vs us
  | [], [], _, _ => .nil
  | v :: vs, u :: us, h, f => by
    obtain ⟨u', e, r⟩ := f 0 v rfl
    cases e
    exact .cons r (vals_of (by simpa using h) fun i v hv => f (i + 1) v hv)
theorem cr_listT (hc : X.calm = true) : CallR X (.type "list") rListT := by
  intro pins s σ H xs us Q I r h
  obtain ⟨p, L, rfl, hp, hz, q⟩ := h
  obtain ⟨u, rfl, rx⟩ := vals1 r
  cases rx
  obtain ⟨es, raw, sz, low, hes⟩ := dk_raw I hp
  refine PySem.W.kdl_call (KdlSrc.rawDict low) (I.ok.hd hc) raw (by rw [sz, sizeLine_eq]; omega) fun h' tk acc c hk hD hacc => ?_
  have hlen : acc.toList.length = L.2.length := by rw [Array.length_toList, hacc.1, sz]
  have rv : Vals (L.2.map fun q => V.ref q.2.1) acc.toList := by
    refine vals_of (by rw [List.length_map, hlen]) fun i v hv => ?_
    rw [List.getElem?_map] at hv
    cases e : L.2[i]? with
    | none => rw [e] at hv; cases hv
    | some l =>
      rw [e] at hv
      cases hv
      have hi : i < acc.size := by have := (List.getElem?_eq_some_iff.mp e).1; rw [Array.length_toList] at hlen; omega
      obtain ⟨hi2, ev⟩ := hacc.2 i acc[i] (by rw [Array.getElem?_eq_getElem hi])
      obtain ⟨l', e', ek⟩ := hes i hi2
      rw [e] at e'
      cases e'
      exact ⟨acc[i], by rw [Array.getElem?_toList, Array.getElem?_eq_getElem hi], by rw [ev, ek]; rfl⟩
  exact ⟨.ref s.heap.objs.size, _, I.laid (a := s.heap.objs.size) (o := .lst (L.2.map fun q => V.ref q.2.1)) (t' := tk) hk (Nat.le_refl _) ⟨by rw [List.length_map, sizeLine_eq]; omega, acc.toList, c, rv, by rw [Array.toArray_toList]; exact hD⟩, rfl, q _ (I.hok.fresh (Nat.le_refl _))⟩
theorem RpD.klist {K : PySem.W.Frag} {g : G} {L : DL} {ks : List (List Int × D)} (r : RpD K g L ks) : RpA K g (L.2.map fun q => V.ref q.2.1) (ks.map fun q => D.tup (q.1.map D.int)) := by
  have e : (ks.map fun q => D.tup (q.1.map D.int)) = L.2.map fun q => D.tup (q.1.map D.int) := by
    have h := r.keys
    have : (ks.map (·.1)).map (fun k => D.tup (k.map D.int)) = (L.2.map (·.1)).map (fun k => D.tup (k.map D.int)) := by rw [h]
    rw [List.map_map, List.map_map] at this
    exact this
  rw [e]
  have go : ∀ l : List (List Int × Addr × V), (∀ x ∈ l, Rp K g (.ref x.2.1) (.tup (x.1.map D.int))) → RpA K g (l.map fun q => V.ref q.2.1) (l.map fun q => D.tup (q.1.map D.int)) := by
    intro l
    induction l with
    | nil => exact fun _ => .nil
    | cons x l ih => exact fun h => .cons (h x (List.mem_cons_self ..)) (ih fun y hy => h y (List.mem_cons_of_mem _ hy))
  exact go L.2 r.kt
def eTList (i : Nat) : Ex := fun S => match tAt S i with
  | some ks => if ks.length < 1000000 then ret (.lst (ks.map fun q => D.tup (q.1.map D.int))) else stuck
  | none => stuck
/-- list(x), a list of one's own -/
theorem cf_tlist (i : Nat) {x : Str} {p1 p pos : Pos} (hc : X.calm = true) (hm : X.mg "list" = none) (hN : X.N[i]? = some x := by rfl) (hv : Vis X.env.scope x := by first | exact Or.inl rfl | exact Or.inr (Or.inl rfl) | exact Or.inr (Or.inr rfl)) (hd : (x == ("__debug__" : Str)) = false := by decide)
    (hcd : (x == ("__classdict__" : Str)) = false := by decide) (hg : Gl X "list" := by rfl) (hs : starEach [.Name x p1] X.env = (false, eval (.Name x p1) X.env) :: starEach [] X.env := by rfl) (hp : (backTo pos (starEach [] X.env)).any (·.1) = false := by rfl) :
    CF X C E (.Call (.Name "list" p) [.Name x p1] [] pos) (eTList i) :=
  PE.imp (pe_callTy (cr_listT hc) hg hm bt_list (pa_cons (pe_var hN hv hd hcd) pa_nil hs) (by decide) (by decide) hs hp) fun σ H Q ⟨g, S, t, w, s, p⟩ => by
    unfold eTList at p
    cases ea : tAt S i with
    | none => rw [ea] at p; exact p.elim
    | some ks =>
      rw [ea] at p
      have p : Post C E g H (fun d _ g' H' => ∀ v, RpF X.K H g' H' v d → Q v H') ((if ks.length < 1000000 then ret (D.lst (ks.map fun q => D.tup (q.1.map D.int))) else stuck) t) := p
      split at p
      · rename_i hz
        obtain ⟨a, L, h1, h2, h3, h4⟩ := tAt_at w s ea
        refine ⟨_, h1, a, L, rfl, h2, by rw [h3.length]; exact hz, fun l hl => ?_⟩
        exact p g _ (Stp.lay w hl) (Wf.lay w hl) _ ⟨l, _, _, rfl, rfl, Nt.no hl, upd_same, h3.klist, w.fzN hl, w.ntN hl⟩
      · exact p.elim
def sPop (j i : Nat) : Stm := fun S => match S[i]? with
  | some (.own ds) => match ds.getLast? with
    | some d => ret (.nx ((S.set i (.own ds.dropLast)).set j (.val d)))
    | none => stuck
  | _ => stuck
theorem RpA.last {K : PySem.W.Frag} {g : G} : ∀ {vs : List V} {ds : List D} {d : D}, RpA K g vs ds → ds.getLast? = some d → ∃ v, vs[vs.length - 1]? = some v ∧ Rp K g v d := fun {vs ds d} r h => by
  rw [List.getLast?_eq_getElem?] at h
  obtain ⟨v, e, rv⟩ := r.getR h
  exact ⟨v, by rw [r.length]; exact e, rv⟩
theorem RpA.drop1 {K : PySem.W.Frag} {g : G} : ∀ {vs : List V} {ds : List D}, RpA K g vs ds → RpA K g vs.dropLast ds.dropLast
  | [], [], _ => .nil
  | [v], [d], _ => .nil
  | v :: v2 :: vs, d :: d2 :: ds, .cons a b => .cons a (RpA.drop1 b)
  | [v], d :: d2 :: ds, .cons a b => nomatch b
  | v :: v2 :: vs, [d], .cons a b => nomatch b
theorem cs_pop (j i : Nat) {y x : Str} {p1 apos cpos pos pos' : Pos} (hN : X.N.Nodup) (hij : i ≠ j := by decide) (hi : X.N[i]? = some x := by rfl) (hj : X.N[j]? = some y := by rfl) (hx : Loc X.env.scope y := by first | exact .inl rfl | exact .inr rfl) (hv : Vis X.env.scope x := by first | exact Or.inl rfl | exact Or.inr (Or.inl rfl) | exact Or.inr (Or.inr rfl)) (hd : (x == ("__debug__" : Str)) = false := by decide)
    (hcd : (x == ("__classdict__" : Str)) = false := by decide) (hbase : attributeBase (.Name x p1) "pop" X.env (eval (.Name x p1) X.env) = eval (.Name x p1) X.env := by rfl)
    (hline : (apos.endLine == cpos.line) = true := by rfl)
    (hs : swapsWith (.Call (.Attribute (.Name x p1) "pop" apos) [] [] cpos) (some (.Name y pos')) pos.line X.env = pure false := by rfl) (hf : X.fn y = true ∨ X.env.scope.names.lookup y = some .local := by first | exact .inl rfl | exact .inr rfl | assumption) :
    CS X C E (.Assign [.Name y pos'] (.Call (.Attribute (.Name x p1) "pop" apos) [] [] cpos) pos) (sPop j i) :=
  PS.imp (ps_set hN hj hx (pe_bm0 PySem.F.plainAttrs_list PySem.F.slot_list_pop PySem.F.type_list_pop mt_pop (pe_var hi hv hd hcd) hbase hline) hs hf) fun De σ H ⟨g0, H0, gs, g, S, t, st, gr, w, s, o, p⟩ => by
    unfold sPop at p
    cases e : S[i]? with
    | none => rw [e] at p; exact p.elim
    | some sv =>
      rw [e] at p
      cases sv with
      | own ds =>
        have p : Post C E g0 H0 (Rs X.K H0 gs De) ((match ds.getLast? with | some d => ret (Fl.nx ((S.set i (.own ds.dropLast)).set j (.val d))) | none => stuck) t) := p
        cases el : ds.getLast? with
        | none => rw [el] at p; exact p.elim
        | some d =>
          rw [el] at p
          obtain ⟨a, vs, h1, h2, h3, h4⟩ := s.own i ds e
          obtain ⟨v, ev, rv⟩ := h3.last el
          refine ⟨_, h1, .inl ⟨rfl, vs, .of h2⟩, a, vs, v, rfl, rfl, h2, ev, ?_⟩
          exact p g _ (st.updO (o i _ a e rfl h1)) (w.updL h2 h4) _ gr ((s.updO e h1 h3.drop1).set rv) (o.updO e).set
      | _ => exact p.elim
end
end BG
set_option Elab.async false
set_option linter.all false
set_option maxRecDepth 100000
set_option maxHeartbeats 4000000
namespace BG
open PySem PySem.Spec PyProof.Rows L2
end BG
set_option Elab.async false
set_option linter.all false
set_option maxRecDepth 100000
set_option maxHeartbeats 4000000
namespace BG
open PySem PySem.Spec PyProof.Rows L2
end BG
set_option Elab.async false
set_option linter.all false
set_option maxRecDepth 100000
set_option maxHeartbeats 4000000
namespace BL
open PySem PySem.Spec PyProof.Rows L2 BG
def c_KINDS : D := (.tup [(.str "both"), (.str "if"), (.str "not"), (.str "pick"), (.str "swap")])
def c_SAME : D := (.tup [(.int 0), (.int 1), (.int 2), (.int 3), (.int 4), (.int 5), (.int 6), (.int 7)])
def b_is_between : Stm := (sRet (eAnd (eUn (pIsi .int) (eVar 0)) (eAnd (eUn oNot (eUn (pIsi .bool) (eVar 0))) (eChain pLe pLe (eVar 1) (eVar 0) (eVar 2)))))
def f_is_between : Fn := fnOf 3 b_is_between
def b_listed : Stm := (sSeq (sOwn 0 (eLst []))
    (sSeq (sFor (itRange1 (eC (.int 3))) (gN 1)
    (sSeq (sApp 0 (eTup [(eC (.str "not")), (eVar 1)]))
    (sFor (itRange1 (eC (.int 3))) (gN 2)
    (sSeq (sIf (eBin pNe (eVar 1) (eVar 2)) (sApp 0 (eTup [(eC (.str "if")), (eVar 1), (eVar 2)])) sNil)
    (sIf (eBin pLt (eVar 1) (eVar 2)) (sSeq (sAsg 3 (eBin pSub (eBin pSub (eC (.int 3)) (eVar 1)) (eVar 2)))
    (sExt 0 (eLst [(eTup [(eC (.str "both")), (eVar 1), (eVar 2), (eVar 3)]), (eTup [(eC (.str "swap")), (eVar 1), (eVar 2)]), (eTup [(eC (.str "pick")), (eVar 3), (eVar 1), (eVar 2)])]))) sNil)))))
    (sRet (eUn bSortedA (ePeek 0)))))
def f_listed : Fn := fnOf 4 b_listed
def b_law_draw : Stm := (sSeq (sTC 1 (eBin pAdd (eTC 1) (eC (.int 1))))
    (sSeq (sAsg 3 (eIf (eScr 0) (eBin pMod (eTC 1) (eUn bLen (eVar 0))) (eC (.int 0))))
    (sSeq (sAsg 4 (eTR 1 (eVar 3) (eIf (eScr 0) (eBin pIdx (eVar 0) (eVar 3)) (eC (.int 0)))))
    (sSeq (sIf (eBin pGe (eVar 4) (eBin pPow (eC (.int 10)) (eC (.int 18)))) (sSeq (sTR 1 (eVar 3) (eBin pDiv (eVar 4) (eVar 2)))
    (sRet (eBin pMod (eVar 4) (eVar 2)))) sNil)
    (sSeq (sAsg 5 (eBin pMod (eBin pAdd (eVar 4) (eBin pMul (eC (.int 104729)) (eTC 1))) (eC (.int 4294967291))))
    (sSeq (sAsg 5 (eBin pMod (eBin pPow (eVar 5) (eC (.int 5))) (eC (.int 4294967279))))
    (sRet (eBin pMod (eBin pDiv (eBin pMod (eBin pAdd (eBin pMul (eBin pDiv (eVar 5) (eC (.int 64))) (eC (.int 69621))) (eVar 5)) (eC (.int 4294967231))) (eC (.int 8))) (eVar 2)))))))))
def f_law_draw : Fn := fnOf 6 b_law_draw
def b_law_begun : Stm := (sRet eBegun)
def f_law_begun : Fn := fnOf 0 b_law_begun
def b_law_gates : Stm := (sSeq (sOwn 0 (eLst []))
    (sSeq (sFor (itRange1 (eC (.int 3))) (gN 1)
    (sSeq (sApp 0 (eTup [(eC (.str "not")), (eVar 1)]))
    (sSeq (sFor (itRange1 (eC (.int 3))) (gN 2)
    (sExt 0 (eIf (eBin pNe (eVar 1) (eVar 2)) (eLst [(eTup [(eC (.str "if")), (eVar 1), (eVar 2)])]) (eLst []))))
    (sSeq (sAsg 3 (eComp [4] (itRange1 (eC (.int 3))) (gN 4) (eBin pNe (eVar 4) (eVar 1)) (eVar 4)))
    (sSeq (sApp 0 (eTup [(eC (.str "both")), (eBin pIdx (eVar 3) (eC (.int 0))), (eBin pIdx (eVar 3) (eC (.int 1))), (eVar 1)]))
    (sSeq (sApp 0 (eTup [(eC (.str "swap")), (eBin pIdx (eVar 3) (eC (.int 0))), (eBin pIdx (eVar 3) (eC (.int 1)))]))
    (sApp 0 (eTup [(eC (.str "pick")), (eVar 1), (eBin pIdx (eVar 3) (eC (.int 0))), (eBin pIdx (eVar 3) (eC (.int 1)))]))))))))
    (sRet (eUn bSortedA (ePeek 0)))))
def f_law_gates : Fn := fnOf 5 b_law_gates
def b_weight_of : Stm := (sRet (eBin pIdx (eTup [(eC (.int 1)), (eC (.int 2)), (eC (.int 4))]) (eVar 0)))
def f_weight_of : Fn := fnOf 1 b_weight_of
def b_bit : Stm := (sRet (eBin pMod (eBin pDiv (eVar 0) (eCall f_weight_of [(eVar 1)])) (eC (.int 2))))
def f_bit : Fn := fnOf 2 b_bit
def b_applied : Stm := (sSeq (sPar 2 3 (eBin pIdx (eVar 0) (eC (.int 0))) (eSlice (eVar 0) (some (eC (.int 1))) none))
    (sSeq (sIf (eBin pIn (eVar 2) (eTup [(eC (.str "not")), (eC (.str "if")), (eC (.str "both"))])) (sSeq (sIf (eUn bAll (eComp [4] (itSeq (eSlice (eVar 3) none (some (eUn pNeg (eC (.int 1)))))) (gN 4) (eC (.bl true)) (eBin pEq (eCall f_bit [(eVar 1), (eVar 4)]) (eC (.int 1))))) (sRet (eBin pXor (eVar 1) (eCall f_weight_of [(eBin pIdx (eVar 3) (eUn pNeg (eC (.int 1))))]))) sNil)
    (sRet (eVar 1))) sNil)
    (sSeq (sIf (eAnd (eBin pEq (eVar 2) (eC (.str "pick"))) (eBin pEq (eCall f_bit [(eVar 1), (eBin pIdx (eVar 3) (eC (.int 0)))]) (eC (.int 0)))) (sRet (eVar 1)) sNil)
    (sSeq (sAsgG (gP 5 6) (eSlice (eVar 3) (some (eUn pNeg (eC (.int 2)))) none))
    (sSeq (sIf (eBin pEq (eCall f_bit [(eVar 1), (eVar 5)]) (eCall f_bit [(eVar 1), (eVar 6)])) (sRet (eVar 1)) sNil)
    (sRet (eBin pXor (eBin pXor (eVar 1) (eCall f_weight_of [(eVar 5)])) (eCall f_weight_of [(eVar 6)]))))))))
def f_applied : Fn := fnOf 7 b_applied
def b_made : Stm := (sSeq (sAsg 1 (eUn bList (eC c_SAME)))
    (sSeq (sFor (itSeq (eVar 0)) (gN 2)
    (sAsg 1 (eComp [3] (itSeq (eVar 1)) (gN 3) (eC (.bl true)) (eCall f_applied [(eVar 2), (eVar 3)]))))
    (sRet (eUn bTuple (eVar 1)))))
def f_made : Fn := fnOf 4 b_made
def b_law_apply : Stm := (sSeq (sOwn 2 (eLst [(eBin pMod (eVar 1) (eC (.int 2))), (eBin pMod (eBin pDiv (eVar 1) (eC (.int 2))) (eC (.int 2))), (eBin pDiv (eVar 1) (eC (.int 4)))]))
    (sSeq (sPar 3 4 (eBin pIdx (eVar 0) (eC (.int 0))) (eBin pIdx (eVar 0) (eUn pNeg (eC (.int 1)))))
    (sSeq (sIf (eOr (eBin pEq (eVar 3) (eC (.str "not"))) (eAnd (eBin pEq (eVar 3) (eC (.str "if"))) (eBin pEq (eBin pIdx (ePeek 2) (eBin pIdx (eVar 0) (eC (.int 1)))) (eC (.int 1))))) (sPut 2 (eVar 4) (eBin pSub (eC (.int 1)) (eBin pIdx (ePeek 2) (eVar 4)))) sNil)
    (sSeq (sIf (eAnd (eBin pEq (eVar 3) (eC (.str "both"))) (eBin pEq (eBin pAdd (eBin pIdx (ePeek 2) (eBin pIdx (eVar 0) (eC (.int 1)))) (eBin pIdx (ePeek 2) (eBin pIdx (eVar 0) (eC (.int 2))))) (eC (.int 2)))) (sPut 2 (eVar 4) (eBin pSub (eC (.int 1)) (eBin pIdx (ePeek 2) (eVar 4)))) sNil)
    (sSeq (sIf (eOr (eBin pEq (eVar 3) (eC (.str "swap"))) (eAnd (eBin pEq (eVar 3) (eC (.str "pick"))) (eBin pEq (eBin pIdx (ePeek 2) (eBin pIdx (eVar 0) (eC (.int 1)))) (eC (.int 1))))) (sSeq (sAsg 5 (eBin pIdx (eVar 0) (eUn pNeg (eC (.int 2)))))
    (sAsgS (gsTup 2 (gsCons (gsPut 2 (eVar 5)) (gsCons (gsPut 2 (eVar 4)) gsNil))) (eTup [(eBin pIdx (ePeek 2) (eVar 4)), (eBin pIdx (ePeek 2) (eVar 5))]))) sNil)
    (sRet (eBin pAdd (eBin pAdd (eBin pIdx (ePeek 2) (eC (.int 0))) (eBin pMul (eC (.int 2)) (eBin pIdx (ePeek 2) (eC (.int 1))))) (eBin pMul (eC (.int 4)) (eBin pIdx (ePeek 2) (eC (.int 2)))))))))))
def f_law_apply : Fn := fnOf 6 b_law_apply
def b_law_made : Stm := (sSeq (sOwn 1 (eLst []))
    (sSeq (sFor (itRange1 (eC (.int 8))) (gN 2)
    (sSeq (sFor (itSeq (eVar 0)) (gN 3)
    (sAsg 2 (eCall f_law_apply [(eVar 3), (eVar 2)])))
    (sApp 1 (eVar 2))))
    (sRet (eUn bTuple (ePeek 1)))))
def f_law_made : Fn := fnOf 4 b_law_made
def b_then : Stm := (sRet (eUn bTuple (eComp [2] (itSeq (eVar 0)) (gN 2) (eC (.bl true)) (eBin pIdx (eVar 1) (eVar 2)))))
def f_then : Fn := fnOf 3 b_then
def b_is_ascending : Stm := (sRet (eUn bAll (eComp [1, 2] (itZip (eVar 0) (eSlice (eVar 0) (some (eC (.int 1))) none)) (gP 1 2) (eC (.bl true)) (eBin pLt (eVar 1) (eVar 2)))))
def f_is_ascending : Fn := fnOf 3 b_is_ascending
def b_check_kinds : Stm := (sSeq (sIf (eOr (eUn oNot (eUn (pIsi .tuple) (eVar 0))) (eOr (eBin pEq (eVar 0) (eTup [])) (eUn oNot (eUn bAll (eComp [1] (itSeq (eVar 0)) (gN 1) (eC (.bl true)) (eUn (pIsi .str) (eVar 1))))))) (sRaise 5) sNil)
    (sIf (eOr (eUn oNot (eUn bAll (eComp [1] (itSeq (eVar 0)) (gN 1) (eC (.bl true)) (eBin pIn (eVar 1) (eC c_KINDS))))) (eUn oNot (eCall f_is_ascending [(eVar 0)]))) (sRaise 5) sNil))
def f_check_kinds : Fn := fnOf 2 b_check_kinds
def b_counted : Stm := (sSeq (sIf (eBin pIn (eC (.str "if")) (eVar 0)) (sSeq (sIf (eOr (eBin pIn (eC (.str "both")) (eVar 0)) (eBin pIn (eC (.str "pick")) (eVar 0))) (sRet (eIf (eBin pIn (eC (.str "not")) (eVar 0)) (eC (.int 40320)) (eC (.int 5040)))) sNil)
    (sRet (eIf (eBin pIn (eC (.str "not")) (eVar 0)) (eC (.int 1344)) (eC (.int 168))))) sNil)
    (sSeq (sIf (eBin pIn (eC (.str "not")) (eVar 0)) (sSeq (sIf (eBin pIn (eC (.str "both")) (eVar 0)) (sRet (eC (.int 40320))) sNil)
    (sRet (eIf (eBin pIn (eC (.str "pick")) (eVar 0)) (eC (.int 1152)) (eIf (eBin pIn (eC (.str "swap")) (eVar 0)) (eC (.int 48)) (eC (.int 8)))))) sNil)
    (sSeq (sIf (eBin pIn (eC (.str "both")) (eVar 0)) (sRet (eIf (eBin pIn (eC (.str "swap")) (eVar 0)) (eC (.int 144)) (eC (.int 24)))) sNil)
    (sRet (eIf (eBin pEq (eUn bLen (eVar 0)) (eC (.int 2))) (eC (.int 36)) (eC (.int 6)))))))
def f_counted : Fn := fnOf 1 b_counted
def b_gates_of : Stm := (sRet (eComp [1] (itSeq (eCall f_listed [])) (gN 1) (eBin pIn (eBin pIdx (eVar 1) (eC (.int 0))) (eVar 0)) (eTup [(eVar 1), (eCall f_made [(eTup [(eVar 1)])])])))
def f_gates_of : Fn := fnOf 2 b_gates_of
def b_is_answer : Stm := (sRet (eAnd (eUn (pIsi .tuple) (eVar 0)) (eAnd (eBin pEq (eUn bLen (eVar 0)) (eC (.int 2))) (eUn bAll (eComp [1] (itSeq (eVar 0)) (gN 1) (eC (.bl true)) (eCall f_is_between [(eVar 1), (eC (.int 0)), (eC (.int 7))]))))))
def f_is_answer : Fn := fnOf 2 b_is_answer
def b_law_few : Stm := (sSeq (sAsg 2 (eTup [(eTup [(eC (.str "not"))]), (eTup [(eC (.str "swap"))]), (eTup [(eC (.str "pick"))]), (eTup [(eC (.str "both"))]), (eTup [(eC (.str "not")), (eC (.str "swap"))]), (eTup [(eC (.str "pick")), (eC (.str "swap"))]), (eTup [(eC (.str "both")), (eC (.str "swap"))]), (eTup [(eC (.str "if"))])]))
    (sRet (eBin pIdx (eBin pAdd (eVar 2) (eTup [(eTup [(eC (.str "not")), (eC (.str "pick"))]), (eTup [(eC (.str "if")), (eC (.str "not"))]), (eTup [(eC (.str "both")), (eC (.str "pick"))])])) (eCall f_law_draw [(eVar 0), (eVar 1), (eC (.int 11))]))))
def f_law_few : Fn := fnOf 3 b_law_few
end BL
set_option Elab.async false
set_option linter.all false
set_option maxRecDepth 100000
set_option maxHeartbeats 4000000
namespace BG
open PySem PySem.Spec PyProof.Rows L2
def obAt (d : D) : M Ob := fun t => match d with
  | .hnd n => match t.2[n]? with
    | some o => some (.ok o.1 t)
    | none => none
  | _ => none
def newOb (o : Ob) : M D := fun t => some (.ok (.hnd t.2.length) (t.1, t.2 ++ [(o, 0)]))
/-- the object of a handle is changed -/
def setOb (d : D) (o : Ob) : M Unit := fun t => match d with
  | .hnd n => match t.2[n]? with
    | some q => some (.ok () (t.1, t.2.set n (o, q.2 + 1)))
    | none => none
  | _ => none
def tdOf : Ob → M (List (List Int × D))
  | .td ks => ret ks
  | _ => stuck
theorem obAt_ok {t : Tn} {n : Nat} {o : Ob × Nat} (e : t.2[n]? = some o) : obAt (.hnd n) t = some (.ok o.1 t) := by
  show (match t.2[n]? with | some o => some (Out.ok o.1 t) | none => none) = _
  rw [e]
theorem obAt_no {t : Tn} {n : Nat} (e : t.2[n]? = none) : obAt (.hnd n) t = none := by
  show (match t.2[n]? with | some o => some (Out.ok o.1 t) | none => none) = _
  rw [e]
theorem setOb_ok {t : Tn} {n : Nat} {q : Ob × Nat} {o : Ob} (e : t.2[n]? = some q) : setOb (.hnd n) o t = some (.ok () (t.1, t.2.set n (o, q.2 + 1))) := by
  show (match t.2[n]? with | some q => some (Out.ok () (t.1, t.2.set n (o, q.2 + 1))) | none => none) = _
  rw [e]
theorem bnd_no {α β : Type} {m : M α} {f : α → M β} {t : Tn} (h : m t = none) : bnd m f t = none := by unfold bnd; rw [h]
section
variable {α : Type} {C : Cn} {E : XK} {g : G} {H : Hp} {t : Tn}
theorem Post.obAt {β : Type} {Rok : β → Tn → G → Hp → Prop} {d : D} {k : Ob → M β} (p : Post C E g H Rok (BG.bnd (BG.obAt d) k t)) : ∃ n o, d = .hnd n ∧ t.2[n]? = some o ∧ Post C E g H Rok (k o.1 t) := by
  cases d with
  | hnd n =>
    cases e : t.2[n]? with
    | none => rw [bnd_no (obAt_no e)] at p; exact p.elim
    | some o => rw [bnd_ok (obAt_ok e)] at p; exact ⟨n, o, rfl, e, p⟩
  | _ => exact p.elim
theorem Post.tdOf {β : Type} {Rok : β → Tn → G → Hp → Prop} {o : Ob} {k : List (List Int × D) → M β} (p : Post C E g H Rok (BG.bnd (BG.tdOf o) k t)) : ∃ ks, o = .td ks ∧ Post C E g H Rok (k ks t) := by
  cases o with
  | td ks => exact ⟨ks, rfl, p⟩
  | _ => exact p.elim
theorem Post.setOb {β : Type} {Rok : β → Tn → G → Hp → Prop} {n : Nat} {o : Ob} {q : Ob × Nat} {k : Unit → M β} (p : Post C E g H Rok (BG.bnd (BG.setOb (.hnd n) o) k t)) (e : t.2[n]? = some q) : Post C E g H Rok (k () (t.1, t.2.set n (o, q.2 + 1))) := by
  rw [bnd_ok (setOb_ok e)] at p
  exact p
end
section
variable {K : PySem.W.Frag} {C : Cn} {g : G} {H : Hp} {t : Tn} {v : V} {n : Nat} {o : Ob × Nat}
theorem Rp.ob (r : Rp K g v (.hnd n)) (w : Wf C g H t) (e : t.2[n]? = some o) : ∃ a, v = .ref a ∧ g.ad[n]? = some a ∧ ObOk C g H a o.1 := by
  cases r with
  | hnd h => exact ⟨_, rfl, h, w.tw.2.ok n _ o h e⟩
theorem Rp.td {ks : List (List Int × D)} (hK : C.K = K) (r : Rp K g v (.hnd n)) (w : Wf C g H t) (e : t.2[n]? = some o) (eo : o.1 = .td ks) : ∃ a L, v = .ref a ∧ g.ad[n]? = some a ∧ H a = some (DkO a L) ∧ RpD K g L ks := by
  obtain ⟨a, h1, h2, h3⟩ := r.ob w e
  rw [eo] at h3
  obtain ⟨L, h4, h5⟩ := h3
  rw [hK] at h5
  exact ⟨a, L, h1, h2, h4, h5⟩
theorem Rp.li {ds : List D} (hK : C.K = K) (r : Rp K g v (.hnd n)) (w : Wf C g H t) (e : t.2[n]? = some o) (eo : o.1 = .li ds) : ∃ a vs, v = .ref a ∧ g.ad[n]? = some a ∧ H a = some (.lst vs) ∧ RpA K g vs ds := by
  obtain ⟨a, h1, h2, h3⟩ := r.ob w e
  rw [eo] at h3
  obtain ⟨L, h4, h5⟩ := h3
  rw [hK] at h5
  exact ⟨a, L, h1, h2, h4, h5⟩
theorem Rp.ins {fs : List (Str × D)} (hK : C.K = K) (r : Rp K g v (.hnd n)) (w : Wf C g H t) (e : t.2[n]? = some o) (eo : o.1 = .ins fs) : ∃ a dx fv, v = .ref a ∧ g.ad[n]? = some a ∧ H a = some (.ins C.cl dx fv) ∧ RpI K g fv fs := by
  obtain ⟨a, h1, h2, h3⟩ := r.ob w e
  rw [eo] at h3
  obtain ⟨dx, fv, h4, h5⟩ := h3
  rw [hK] at h5
  exact ⟨a, dx, fv, h1, h2, h4, h5⟩
end
theorem tab_frame {T : List (Addr × Str)} {H : Hp} {a : Addr} {ho ho' : HO} (h : LamX.Tabs T H) (e : H a = some ho) (n1 : ∀ ps, ho ≠ .tbl ps) (n2 : ∀ q, ho ≠ LamX.CodeO a q) : LamX.Tabs T (upd H a ho') := fun q hq => by
  obtain ⟨ps, h1, h2, h3⟩ := h q hq
  refine ⟨ps, by rw [upd_ne (fun z => by rw [z, e] at h1; exact n1 ps (Option.some.inj h1))]; exact h1, h2, fun pos cv hc => ?_⟩
  obtain ⟨c, e1, e2⟩ := h3 pos cv hc
  refine ⟨c, e1, ?_⟩
  have nc : c ≠ a := fun z => by
    subst z
    rw [e] at e2
    exact n2 _ (Option.some.inj e2)
  rw [upd_ne nc]; exact e2
theorem ObOk.code {C : Cn} {g : G} {H : Hp} {a : Addr} {o : Ob} (h : ObOk C g H a o) : ∃ ho, H a = some ho ∧ (∀ ps, ho ≠ .tbl ps) ∧ (∀ kvs, ho ≠ .dK kvs) ∧ ∀ q, ho ≠ LamX.CodeO a q := by
  cases o with
  | td ks => obtain ⟨L, h, _⟩ := h; exact ⟨_, h, DkO_tbl, (fun _ z => by unfold DkO at z; cases z), fun q z => code_ne z.symm⟩
  | li ds => obtain ⟨L, h, _⟩ := h; exact ⟨_, h, (fun _ z => nomatch z), (fun _ z => nomatch z), (fun q z => by unfold LamX.CodeO at z; cases z)⟩
  | ins fs => obtain ⟨dx, vs, h, _⟩ := h; exact ⟨_, h, (fun _ z => nomatch z), (fun _ z => nomatch z), (fun q z => by unfold LamX.CodeO at z; cases z)⟩
/-- the ghost with one object more -/
def G.more (g : G) (a : Addr) (n : Nat) (ho : HO) : G := ⟨g.Fz, g.tw, g.ad ++ [a], fun m v => if m = n ∧ v = 0 then some ho else g.lg m v⟩
/-- an object that was just made becomes one of the objects -/
theorem adopt {C : Cn} {g0 g : G} {H0 H : Hp} {t : Tn} {a : Addr} {o : Ob} (st : Stp g0 H0 g H) (w : Wf C g H t) (hf : Fre g a) (hn : ¬ Nt H0 a) (ok : ObOk C g H a o) : ∃ g', Stp g0 H0 g' H ∧ Gw g g' ∧ Wf C g' H (t.1, t.2 ++ [(o, 0)]) ∧ g'.ad[t.2.length]? = some a ∧ (∀ b, g'.isTw b → g.isTw b ∨ b = a) ∧ g'.Fz = g.Fz := by
  obtain ⟨ho, h1, h2, _⟩ := ok.at
  have hl := w.tw.2.len
  have le : TwLe g (g.more a t.2.length ho) := ⟨fun _ h => h, fun m b h => by
    show (g.ad ++ [a])[m]? = some b
    rw [List.getElem?_append_left (List.getElem?_eq_some_iff.mp h).1]; exact h, fun m v o h => by
    show (if m = t.2.length ∧ v = 0 then some ho else g.lg m v) = some o
    rw [if_neg (fun z => by rw [z.1, w.tw.2.no t.2.length v (Nat.le_refl _)] at h; cases h)]; exact h⟩
  have tw1 : ∀ b, (g.more a t.2.length ho).isTw b → g.isTw b ∨ b = a := fun b z => by
    rcases z with z | z
    · exact .inl (.inl z)
    · rcases List.mem_append.mp z with z | z
      · exact .inl (.inr z)
      · rw [List.mem_singleton] at z; exact .inr z
  have sm : Same g.Fz (g.more a t.2.length ho).Fz := fun _ _ h => h
  have at_ : ∀ (m : Nat) (b : Addr), (g.more a t.2.length ho).ad[m]? = some b → g.ad[m]? = some b ∨ (m = t.2.length ∧ b = a) := fun m b h => by
    have h : (g.ad ++ [a])[m]? = some b := h
    by_cases hm : m < g.ad.length
    · rw [List.getElem?_append_left hm] at h; exact .inl h
    · rw [List.getElem?_append_right (by omega)] at h
      cases e : m - g.ad.length with
      | zero => rw [e] at h; cases h; exact .inr ⟨by omega, rfl⟩
      | succ k => rw [e] at h; simp at h
  have st_ : ∀ (m : Nat) (q : Ob × Nat), (t.2 ++ [(o, 0)])[m]? = some q → (t.2[m]? = some q ∧ m < t.2.length) ∨ (m = t.2.length ∧ q = (o, 0)) := fun m q h => by
    by_cases hm : m < t.2.length
    · rw [List.getElem?_append_left hm] at h; exact .inl ⟨h, hm⟩
    · rw [List.getElem?_append_right (by omega)] at h
      cases e : m - t.2.length with
      | zero => rw [e] at h; cases h; exact .inr ⟨by omega, rfl⟩
      | succ k => rw [e] at h; simp at h
  refine ⟨g.more a t.2.length ho, ⟨st.fz, st.tw.trans le, ⟨st.twn.1, fun b hb => ?_⟩, st.frm, st.thr, st.new⟩, ⟨sm, le⟩, ⟨w.fz, ⟨w.tw.1, ?_, ?_, ?_, ?_, ?_, ?_⟩, fun b z => ?_, w.tab, w.nft⟩, ?_, tw1, rfl⟩
  · rcases List.mem_append.mp hb with z | z
    · exact st.twn.2 b z
    · rw [List.mem_singleton] at z; subst z; exact .inr hn
  · show (g.ad ++ [a]).length = (t.2 ++ [(o, 0)]).length
    rw [List.length_append, List.length_append, hl]; rfl
  · show (g.ad ++ [a]).Nodup
    refine List.nodup_append.mpr ⟨w.tw.2.nd, by simp, fun x hx y hy => ?_⟩
    rw [List.mem_singleton] at hy
    subst hy
    exact fun z => hf.2 (.inr (z ▸ hx))
  · intro m b q h3 h4
    rcases at_ m b h3 with h5 | ⟨h5, h6⟩
    · rcases st_ m q h4 with ⟨h7, _⟩ | ⟨h7, _⟩
      · exact (w.tw.2.ok m b q h5 h7).keep sm le fun _ h => h
      · have := (List.getElem?_eq_some_iff.mp h5).1; omega
    · rcases st_ m q h4 with ⟨_, h7⟩ | ⟨_, h7⟩
      · omega
      · subst h6 h7
        exact ok.keep sm le fun _ h => h
  · intro m b q h3 h4
    show H b = if m = t.2.length ∧ q.2 = 0 then some ho else g.lg m q.2
    rcases at_ m b h3 with h5 | ⟨h5, h6⟩
    · rcases st_ m q h4 with ⟨h7, h8⟩ | ⟨h7, _⟩
      · rw [if_neg (fun z => by omega)]
        exact w.tw.2.lg m b q h5 h7
      · have := (List.getElem?_eq_some_iff.mp h5).1; omega
    · rcases st_ m q h4 with ⟨_, h7⟩ | ⟨_, h7⟩
      · omega
      · subst h6 h7
        rw [if_pos ⟨h5, rfl⟩]; exact h1
  · intro m q h4 v hv
    show (if m = t.2.length ∧ v = 0 then some ho else g.lg m v) = none
    rcases st_ m q h4 with ⟨h7, h8⟩ | ⟨h7, h8⟩
    · rw [if_neg (fun z => by omega)]
      exact w.tw.2.nw m q h7 v hv
    · subst h8
      have hv : 0 < v := hv
      rw [if_neg (fun z => by omega)]
      exact w.tw.2.no m v (by omega)
  · intro m v hm
    rw [List.length_append] at hm
    have hm : t.2.length + 1 ≤ m := hm
    show (if m = t.2.length ∧ v = 0 then some ho else g.lg m v) = none
    rw [if_neg (fun z => by omega)]
    exact w.tw.2.no m v (by omega)
  · rcases tw1 b z with z | z
    · exact w.ntw b z
    · subst z; exact hf.1
  · show (g.ad ++ [a])[t.2.length]? = some a
    rw [← hl, List.getElem?_append_right (Nat.le_refl _), Nat.sub_self]; rfl
/-- slots are kept -/
theorem SL.more {K : PySem.W.Frag} {g g' : G} {H : Hp} {σ : L2.St} {S : Sl} {a : Addr} (s : SL K g H σ S) (gw : Gw g g') (tw : ∀ b, g'.isTw b → g.isTw b ∨ b = a) (fz : g'.Fz = g.Fz) (hn : ∀ (j : Nat) x, S[j]? = some x → isOw x = true → σ[j]? ≠ some (some (.ref a))) : SL K g' H σ S where
  len := s.len
  ok := fun i x e => by
    have h := s.ok i x e
    have nt : ∀ p, σ[i]? = some (some (.ref p)) → isOw x = true → ¬ g.isTw p → ¬ g'.isTw p := fun p h1 ox h2 z => (tw p z).elim h2 fun z => hn i x e ox (by rw [h1, z])
    cases x with
    | un => trivial
    | raw v => exact h
    | exn v => exact h
    | val d => obtain ⟨v, k1, k2⟩ := h; exact ⟨v, k1, k2.mono gw.fz gw.tw⟩
    | own dj => obtain ⟨b, us, k1, k2, k3, k4, k5⟩ := h; exact ⟨b, us, k1, k2, k3.mono gw.fz gw.tw, by rw [fz]; exact k4, nt b k1 rfl k5⟩
    | dcT kj => obtain ⟨b, L, k1, k2, k3, k4, k5⟩ := h; exact ⟨b, L, k1, k2, k3.mono gw.fz gw.tw, by rw [fz]; exact k4, nt b k1 rfl k5⟩
    | dic kj => obtain ⟨b, us, k1, k2, k3, k4, k5⟩ := h; exact ⟨b, us, k1, k2, ⟨k3.1, k3.2.mono gw.fz gw.tw⟩, by rw [fz]; exact k4, nt b k1 rfl k5⟩
  dis := s.dis
/-- the ghost with a change more -/
def G.chg (g : G) (n v : Nat) (ho : HO) : G := ⟨g.Fz, g.tw, g.ad, fun m u => if m = n ∧ u = v then some ho else g.lg m u⟩
/-- an object is changed -/
theorem change {C : Cn} {g0 g : G} {H0 H : Hp} {t : Tn} {a : Addr} {n : Nat} {q : Ob × Nat} {o : Ob} {ho : HO} (st : Stp g0 H0 g H) (w : Wf C g H t) (ha : g.ad[n]? = some a) (e : t.2[n]? = some q) (hk : ∀ ps, ho ≠ .tbl ps) (ok : ObOk C g (upd H a ho) a o) : ∃ g', Stp g0 H0 g' (upd H a ho) ∧ Gw g g' ∧ Wf C g' (upd H a ho) (t.1, t.2.set n (o, q.2 + 1)) ∧ (∀ b, g'.isTw b → g.isTw b) ∧ g'.Fz = g.Fz := by
  have hm : a ∈ g.ad := List.mem_of_getElem? ha
  have it : g.isTw a := .inr hm
  obtain ⟨ho0, h1, h2, h3, h4⟩ := (w.tw.2.ok n a q ha e).code
  have le : TwLe g (g.chg n (q.2 + 1) ho) := ⟨fun _ h => h, fun _ _ h => h, fun m v o h => by
    show (if m = n ∧ v = q.2 + 1 then some ho else g.lg m v) = some o
    rw [if_neg (fun z => by rw [z.1, z.2, w.tw.2.nw n q e _ (Nat.lt_succ_self _)] at h; cases h)]; exact h⟩
  have sm : Same g.Fz (g.chg n (q.2 + 1) ho).Fz := fun _ _ h => h
  have s1 := st.tww it hk
  have hl : n < t.2.length := (List.getElem?_eq_some_iff.mp e).1
  have uq : ∀ (m : Nat), g.ad[m]? = some a → m = n := fun m hm => by
    exact (List.getElem?_inj (List.getElem?_eq_some_iff.mp hm).1 w.tw.2.nd).mp (hm.trans ha.symm)
  have st_ : ∀ (m : Nat) (r : Ob × Nat), (t.2.set n (o, q.2 + 1))[m]? = some r → (m ≠ n ∧ t.2[m]? = some r) ∨ (m = n ∧ r = (o, q.2 + 1)) := fun m r h => by
    by_cases hm : n = m
    · subst hm
      rw [List.getElem?_set_self hl] at h
      exact .inr ⟨rfl, (Option.some.inj h).symm⟩
    · rw [List.getElem?_set_ne hm] at h
      exact .inl ⟨fun z => hm z.symm, h⟩
  refine ⟨g.chg n (q.2 + 1) ho, ⟨s1.fz, s1.tw.trans le, s1.twn, s1.frm, s1.thr, s1.new⟩, ⟨sm, le⟩, ⟨fun b o' h => ?_, ⟨w.tw.1.ext fun b kvs h _ => ?_, ?_, w.tw.2.nd, ?_, ?_, ?_, ?_⟩, w.ntw, tab_frame w.tab h1 h2 h4, w.nft⟩, fun b z => z, rfl⟩
  · have nb : b ≠ a := fun z => by rw [z] at h; have := w.ntw a it; rw [show g.Fz a = some o' from h] at this; cases this
    rw [upd_ne nb]; exact w.fz b o' h
  · rw [upd_ne (fun z => by rw [z, h1] at h; exact h3 kvs (Option.some.inj h))]; exact h
  · show g.ad.length = (t.2.set n _).length
    rw [List.length_set]; exact w.tw.2.len
  · intro m b r h5 h6
    have h5 : g.ad[m]? = some b := h5
    rcases st_ m r h6 with ⟨h7, h8⟩ | ⟨h7, h8⟩
    · have nb : b ≠ a := fun z => h7 (uq m (by rw [← z]; exact h5))
      exact (w.tw.2.ok m b r h5 h8).keep sm le fun ho' h => by rw [upd_ne nb]; exact h
    · subst h7 h8
      have h9 : g.ad[m]? = some b := h5
      rw [ha] at h9
      cases h9
      exact ok.keep sm le fun _ h => h
  · intro m b r h5 h6
    have h5 : g.ad[m]? = some b := h5
    show upd H a ho b = if m = n ∧ r.2 = q.2 + 1 then some ho else g.lg m r.2
    rcases st_ m r h6 with ⟨h7, h8⟩ | ⟨h7, h8⟩
    · have nb : b ≠ a := fun z => h7 (uq m (by rw [← z]; exact h5))
      rw [if_neg (fun z => h7 z.1), upd_ne nb]
      exact w.tw.2.lg m b r h5 h8
    · subst h7 h8
      have h9 : g.ad[m]? = some b := h5
      rw [ha] at h9
      cases h9
      rw [if_pos ⟨rfl, rfl⟩, upd_same]
  · intro m r h6 v hv
    show (if m = n ∧ v = q.2 + 1 then some ho else g.lg m v) = none
    rcases st_ m r h6 with ⟨h7, h8⟩ | ⟨h7, h8⟩
    · rw [if_neg (fun z => h7 z.1)]
      exact w.tw.2.nw m r h8 v hv
    · subst h7 h8
      have hv : q.2 + 1 < v := hv
      rw [if_neg (fun z => by omega)]
      exact w.tw.2.nw m q e v (by omega)
  · intro m v hm
    rw [List.length_set] at hm
    show (if m = n ∧ v = q.2 + 1 then some ho else g.lg m v) = none
    rw [if_neg (fun z => by omega)]
    exact w.tw.2.no m v hm
/-- slots are kept -/
theorem SL.chg {K : PySem.W.Frag} {C : Cn} {g g' : G} {H : Hp} {t : Tn} {σ : L2.St} {S : Sl} {a : Addr} {ho : HO} (s : SL K g H σ S) (w : Wf C g H t) (ha : a ∈ g.ad) (gw : Gw g g') (tw : ∀ b, g'.isTw b → g.isTw b) (fz : g'.Fz = g.Fz) : SL K g' (upd H a ho) σ S := by
  have s1 : SL K g (upd H a ho) σ S := s.tww w (.inr ha)
  refine ⟨s1.len, fun i x e => ?_, s1.dis⟩
  have h := s1.ok i x e
  cases x with
  | un => trivial
  | raw v => exact h
  | exn v => exact h
  | val d => obtain ⟨v, k1, k2⟩ := h; exact ⟨v, k1, k2.mono gw.fz gw.tw⟩
  | own dj => obtain ⟨b, us, k1, k2, k3, k4, k5⟩ := h; exact ⟨b, us, k1, k2, k3.mono gw.fz gw.tw, by rw [fz]; exact k4, fun z => k5 (tw b z)⟩
  | dcT kj => obtain ⟨b, L, k1, k2, k3, k4, k5⟩ := h; exact ⟨b, L, k1, k2, k3.mono gw.fz gw.tw, by rw [fz]; exact k4, fun z => k5 (tw b z)⟩
  | dic kj => obtain ⟨b, us, k1, k2, k3, k4, k5⟩ := h; exact ⟨b, us, k1, k2, ⟨k3.1, k3.2.mono gw.fz gw.tw⟩, by rw [fz]; exact k4, fun z => k5 (tw b z)⟩
end BG
set_option Elab.async false
set_option linter.all false
set_option maxRecDepth 100000
set_option maxHeartbeats 4000000
namespace BG
open PySem PySem.Spec PyProof.Rows L2
section
variable {X : Cx} {C : Cn} {E : XK}
def eMIn (neg : Bool) (k d : Ex) : Ex := fun S => bnd (k S) fun kd => bnd (d S) fun dd => bnd (obAt dd) fun o => bnd (tdOf o) fun ks => match intK kd with
  | some y => ret (.bl (neg ^^ decide (y ∈ ks.map (·.1))))
  | none => stuck
theorem min_of (hK : C.K = X.K) {neg : Bool} {fk fd : Ex} {σ : L2.St} {H : Hp} {Q : VK} (h : tE X.K C E (eMIn neg fk fd) σ H Q) : tE X.K C E fk σ H fun x H1 => tE X.K C E fd σ H1 fun y H2 => rTIn X.K neg x y H2 Q := by
  obtain ⟨g, S, t, w, s, p⟩ := h
  refine ⟨g, S, t, w, s, p.bnd.imp fun kd t1 g1 H1 st1 w1 q v r => ?_⟩
  refine ⟨g1, S, t1, w1, s.stp w st1, q.bnd.imp fun dd t2 g2 H2 st2 w2 q2 v2 r2 => ?_⟩
  obtain ⟨n, o, rfl, eo, q3⟩ := q2.obAt
  obtain ⟨ks, ek, q4⟩ := q3.tdOf
  obtain ⟨a, L, rfl, _, ha, rd⟩ := r2.td hK w2 eo ek
  cases ei : intK kd with
  | none => rw [ei] at q4; exact q4.elim
  | some y =>
    rw [ei] at q4
    obtain ⟨b, rfl, sq, rb⟩ := (r.stp st2).intK w2 ei
    refine ⟨b, a, L, y, rfl, rfl, ha, sq, rd.kin w2, rd.nd, ?_⟩
    rw [rd.keys]
    exact pRetV q4 w2 (Rp.bl _)
theorem ct_mnin (hK : C.K = X.K) {a b : Expr} {f fd : Ex} {pos : Pos} (hu : X.A.units + 1 < cLine) (ha : CE X C E a f) (hb : CE X C E b fd) (hm : behindInMarks .NotIn b = false := by rfl) : CT X C E (.Compare a [.NotIn] [b] pos) (eMIn true f fd) := PT.imp (pt_cmpR (op_tnin hu) ha hb hm) fun σ H Q h => min_of hK (tT.tE h)
/-- d[k] -/
def eMIx (d k : Ex) : Ex := fun S => bnd (d S) fun dd => bnd (k S) fun kd => bnd (obAt dd) fun o => bnd (tdOf o) fun ks => match intK kd with
  | some y => match tLook ks y with
    | some d => ret d
    | none => stuck
  | none => stuck
theorem ce_mix (hK : C.K = X.K) {a b : Expr} {fd f : Ex} {pos : Pos} (hu : X.A.units + 1 < cLine) (ha : CE X C E a fd) (hb : CE X C E b f) (hs : PlainIx b := by exact fun _ _ => rfl) : CE X C E (.Subscript a b pos) (eMIx fd f) :=
  PE.imp (pe_ix (ix_tk hu) ha hb hs) fun σ H Q ⟨g, S, t, w, s, p⟩ => by
    refine ⟨g, S, t, w, s, p.bnd.imp fun dd t1 g1 H1 st1 w1 q v r => ?_⟩
    refine ⟨g1, S, t1, w1, s.stp w st1, q.bnd.imp fun kd t2 g2 H2 st2 w2 q2 v2 r2 => ?_⟩
    obtain ⟨n, o, rfl, eo, q3⟩ := q2.obAt
    obtain ⟨ks, ek, q4⟩ := q3.tdOf
    obtain ⟨a, L, rfl, _, ha, rd⟩ := (r.stp st2).td hK w2 eo ek
    cases ei : intK kd with
    | none => rw [ei] at q4; exact q4.elim
    | some y =>
      rw [ei] at q4
      have q4 : PostQ X.K C E g2 H2 Q ((match tLook ks y with | some d => ret d | none => stuck) t2) := q4
      cases el : tLook ks y with
      | none => rw [el] at q4; exact q4.elim
      | some d =>
        rw [el] at q4
        obtain ⟨b, rfl, sq, rb⟩ := r2.intK w2 ei
        obtain ⟨j, l, e1, e2, rl⟩ := rd.look el
        exact ⟨a, b, L, y, j, l, rfl, rfl, ha, sq, rd.kin w2, rd.nd, e1, e2, pRetV q4 w2 rl⟩
/-- {k: v} -/
def eMNew (k v : Ex) : Ex := fun S => bnd (bnd (k S) fun kd => bnd (v S) fun d => match intK kd with | some y => ret (y, d) | none => stuck) fun q => newOb (.td [q])
theorem ce_mnew (hK : C.K = X.K) {k v : Expr} {fk fv : Ex} {pos : Pos} (hu : X.A.units < cLine) (hk : CE X C E k fk) (hv : CE X C E v fv) : CE X C E (.Dict [some k] [v] pos) (eMNew fk fv) :=
  PE.imp (pe_dispT hu hk hv) fun σ H Q ⟨g, S, t, w, s, p⟩ => dispT_run w s (p.bnd0.all (.refl _ _) fun q t1 g1 H1 er st1 w1 q1 a L ha ha1 rd fa => by
    have q2 := q1 g1 H1 st1 w1
    obtain ⟨g2, st2, gw, w2, had, _⟩ := adopt (o := .td [q]) st1 w1 fa (Nt.no ha) ⟨L, ha1, by rw [hK]; exact rd⟩
    exact q2 g2 H1 st2 w2 _ (.hnd had))
/-- d[k] = e, k not there yet -/
def sMSet (d k e : Ex) : Stm := fun S => bnd (e S) fun v => bnd (d S) fun dd => bnd (k S) fun kd => bnd (obAt dd) fun o => bnd (tdOf o) fun ks => match intK kd with
  | some y => if ks.length < 1000000 ∧ y ∉ ks.map (·.1) then bnd (setOb dd (.td (ks ++ [(y, v)]))) fun _ => ret (.nx S) else stuck
  | none => stuck
theorem cs_mset (hK : C.K = X.K) {d k e : Expr} {fd fk f : Ex} {pos' pos : Pos} (hu : X.A.units + 1 < cLine) (hd : CE X C E d fd) (hk : CE X C E k fk) (he : CE X C E e f) (hs : swapsWith e (some (.Subscript d k pos')) pos.line X.env = pure false := by rfl) : CS X C E (.Assign [.Subscript d k pos'] e pos) (sMSet fd fk f) :=
  PS.imp (ps_tput hu hd hk he hs) fun De σ H ⟨g0, H0, gs, g, S, t, st, gr, w, s, o, p⟩ => by
    refine tS.ex st gr w s p fun d t1 g1 H1 v st1 st01 gr1 w1 s1 r q => ?_
    refine tS.ex st01 gr1 w1 s1 q fun dd t2 g2 H2 v2 st2 st02 gr2 w2 s2 r2 q2 => ?_
    refine tS.ex st02 gr2 w2 s2 q2 fun kd t3 g3 H3 v3 st3 st03 gr3 w3 s3 r3 q3 => ?_
    obtain ⟨n, o', rfl, eo, q4⟩ := q3.obAt
    obtain ⟨ks, ek, q5⟩ := q4.tdOf
    obtain ⟨a, L, rfl, had, ha, rd⟩ := (r2.stp st3).td hK w3 eo ek
    cases ei : intK kd with
    | none => rw [ei] at q5; exact q5.elim
    | some y =>
      rw [ei] at q5
      have q5 : Post C E g0 H0 (Rs X.K H0 gs De) ((if ks.length < 1000000 ∧ y ∉ ks.map (·.1) then bnd (setOb (.hnd n) (.td (ks ++ [(y, d)]))) fun _ => ret (Fl.nx S) else stuck) t3) := q5
      split at q5
      · rename_i hz
        have q6 := q5.setOb eo
        obtain ⟨b, rfl, sq, rb⟩ := r3.intK w3 ei
        refine ⟨a, b, L, y, rfl, rfl, ha, sq, rd.kin w3, rd.nd, by rw [rd.keys]; exact hz.2, by rw [rd.length, sizeLine_eq]; omega, fun ep => ?_⟩
        obtain ⟨g4, st4, gw4, w4, tw4, fz4⟩ := change (o := .td (ks ++ [(y, d)])) st03 w3 had eo DkO_tbl ⟨(ep, L.2 ++ [(y, b, v)]), upd_same, by rw [hK]; exact rd.snoc rb ((r.stp st2).stp st3) hz.2⟩
        exact q6 g4 _ st4 w4 _ (gr3.trans gw4) (s3.chg w3 (List.mem_of_getElem? had) gw4 tw4 fz4) o
      · exact q5.elim
theorem RpI.look {K : PySem.W.Frag} {g : G} {x : Str} {d : D} : ∀ {fv : List (Str × V)} {fs : List (Str × D)}, RpI K g fv fs → fs.lookup x = some d → ∃ v, fv.lookup x = some v ∧ Rp K g v d
  | [], [], _, h => by cases h
  | (y, v) :: r, (z, e) :: q, ⟨h1, h2, h3⟩, h => by
    subst h1
    rw [List.lookup_cons] at h ⊢
    cases c : x == y with
    | true =>
      rw [c] at h
      cases h
      exact ⟨v, rfl, h2⟩
    | false =>
      rw [c] at h
      exact RpI.look h3 h
theorem RpI.none {K : PySem.W.Frag} {g : G} {x : Str} : ∀ {fv : List (Str × V)} {fs : List (Str × D)}, RpI K g fv fs → fs.lookup x = none → fv.lookup x = none
  | [], [], _, h => rfl
  | (y, v) :: r, (z, e) :: q, ⟨h1, h2, h3⟩, h => by
    subst h1
    rw [List.lookup_cons] at h ⊢
    cases c : x == y with
    | true => rw [c] at h; cases h
    | false =>
      rw [c] at h
      exact RpI.none h3 h
theorem RpI.len {K : PySem.W.Frag} {g : G} : ∀ {fv : List (Str × V)} {fs : List (Str × D)}, RpI K g fv fs → fv.length = fs.length
  | [], [], _ => rfl
  | (y, v) :: r, (z, e) :: q, ⟨h1, h2, h3⟩ => by rw [List.length_cons, List.length_cons, RpI.len h3]
def putFD (f : Str) (v : D) : List (Str × D) → List (Str × D)
  | [] => [(f, v)]
  | (g, x) :: r => if g = f then (g, v) :: r else (g, x) :: putFD f v r
theorem RpI.put {K : PySem.W.Frag} {g : G} {x : Str} {u : V} {d : D} (ru : Rp K g u d) : ∀ {fv : List (Str × V)} {fs : List (Str × D)}, RpI K g fv fs → RpI K g (putF x u fv) (putFD x d fs)
  | [], [], _ => ⟨rfl, ru, trivial⟩
  | (y, v) :: r, (z, e) :: q, ⟨h1, h2, h3⟩ => by
    subst h1
    unfold putF putFD
    by_cases c : y = x
    · rw [if_pos c, if_pos c]; exact ⟨rfl, ru, h3⟩
    · rw [if_neg c, if_neg c]; exact ⟨rfl, h2, RpI.put ru h3⟩
end
end BG
set_option Elab.async false
set_option linter.all false
set_option maxRecDepth 100000
set_option maxHeartbeats 4000000
namespace BG
open PySem PySem.Spec PyProof.Rows L2
/-- the object is as it was -/
def verAt (n v : Nat) : M Unit := fun t => if t.2[n]?.map (·.2) = some v then some (.ok () t) else none
theorem verAt_ok {n v : Nat} {t : Tn} {o : Ob × Nat} (e : t.2[n]? = some o) (h : o.2 = v) : verAt n v t = some (.ok () t) := by
  unfold verAt
  rw [if_pos (by rw [e, ← h]; rfl)]
theorem Post.verAt {β : Type} {C : Cn} {E : XK} {g : G} {H : Hp} {t : Tn} {Rok : β → Tn → G → Hp → Prop} {n v : Nat} {k : Unit → M β} (p : Post C E g H Rok (BG.bnd (BG.verAt n v) k t)) : ∃ o, t.2[n]? = some o ∧ o.2 = v ∧ Post C E g H Rok (k () t) := by
  by_cases h : t.2[n]?.map (·.2) = some v
  · cases e : t.2[n]? with
    | none => rw [e] at h; cases h
    | some o =>
      rw [e] at h
      have h := Option.some.inj h
      rw [bnd_ok (verAt_ok e h)] at p
      exact ⟨o, rfl, h, p⟩
  · rw [bnd_no (show BG.verAt n v t = none by unfold BG.verAt; rw [if_neg h])] at p
    exact p.elim
def itTd : Ob → Option (List D)
  | .td ks => some (ks.map fun q => D.tup (q.1.map D.int))
  | _ => none
/-- what a handle's object tells, with the object's number and version -/
def itAt (it : Ob → Option (List D)) (d : D) (t : Tn) : Option (Nat × Nat × List D) := match d with
  | .hnd n => t.2[n]?.bind fun o => (it o.1).map fun ds => (n, o.2, ds)
  | _ => none
def items {β : Type} (it : Ob → Option (List D)) (d : D) (k : Nat → Nat → List D → M β) : M β := fun t => match itAt it d t with
  | some q => k q.1 q.2.1 q.2.2 t
  | none => none
theorem items_ok {β : Type} {it : Ob → Option (List D)} {k : Nat → Nat → List D → M β} {t : Tn} {n : Nat} {o : Ob × Nat} {ds : List D} (e : t.2[n]? = some o) (ei : it o.1 = some ds) : items it (.hnd n) k t = k n o.2 ds t := by
  have h : itAt it (.hnd n) t = some (n, o.2, ds) := by
    show (t.2[n]?.bind fun o => (it o.1).map fun ds => (n, o.2, ds)) = _
    rw [e]
    show ((it o.1).map fun ds => (n, o.2, ds)) = _
    rw [ei]; rfl
  unfold items
  rw [h]
theorem Post.items {β : Type} {C : Cn} {E : XK} {g : G} {H : Hp} {t : Tn} {Rok : β → Tn → G → Hp → Prop} {it : Ob → Option (List D)} {d : D} {k : Nat → Nat → List D → M β} (p : Post C E g H Rok (BG.items it d k t)) : ∃ n o ds, d = .hnd n ∧ t.2[n]? = some o ∧ it o.1 = some ds ∧ Post C E g H Rok (k n o.2 ds t) := by
  cases d with
  | hnd n =>
    cases e : t.2[n]? with
    | none =>
      have h : itAt it (.hnd n) t = none := by
        show (t.2[n]?.bind fun o => (it o.1).map fun ds => (n, o.2, ds)) = _
        rw [e]; rfl
      unfold BG.items at p
      rw [h] at p
      exact p.elim
    | some o =>
      cases ei : it o.1 with
      | none =>
        have h : itAt it (.hnd n) t = none := by
          show (t.2[n]?.bind fun o => (it o.1).map fun ds => (n, o.2, ds)) = _
          rw [e]
          show ((it o.1).map fun ds => (n, o.2, ds)) = _
          rw [ei]; rfl
        unfold BG.items at p
        rw [h] at p
        exact p.elim
      | some ds => rw [items_ok e ei] at p; exact ⟨n, o, ds, rfl, e, ei, p⟩
  | _ => exact p.elim
theorem ver_heap {C : Cn} {g1 gk : G} {H1 Hk : Hp} {t1 tk : Tn} {n : Nat} {a : Addr} {o o' : Ob × Nat} {ho : HO} (w1 : Wf C g1 H1 t1) (had : g1.ad[n]? = some a) (e1 : t1.2[n]? = some o) (hh : H1 a = some ho) (gw : Gw g1 gk) (wk : Wf C gk Hk tk) (ek : tk.2[n]? = some o') (hv : o'.2 = o.2) : Hk a = some ho := by
  have h1 : g1.lg n o.2 = some ho := by rw [← w1.tw.2.lg n a o had e1]; exact hh
  have h2 := gw.tw.l n o.2 ho h1
  rw [wk.tw.2.lg n a o' (gw.tw.a n a had) ek, hv]; exact h2
def tIM (K : PySem.W.Frag) (C : Cn) (E : XK) (it : Ob → Option (List D)) (f : Ex) : TI := fun σ H R => ∃ g S t, Wf C g H t ∧ SL K g H σ S ∧ Post C E g H (fun d t' g' H' => ∃ n o ds, d = .hnd n ∧ t'.2[n]? = some o ∧ it o.1 = some ds ∧ ∀ a ho J, g'.ad[n]? = some a → H' a = some ho → WalkD K (fun b => if b = a then some ho else none) J ds g' → R J H') (f S t)
section
variable {X : Cx} {C : Cn} {E : XK} {tg : Expr}
theorem cim_td (hK : C.K = X.K) {e : Expr} {f : Ex} (h : CE X C E e f) : PI X tg e (tIM X.K C E itTd f) := PI.imp (pi_tk h) fun σ H R ⟨g, S, t, w, s, p⟩ => ⟨g, S, t, w, s, p.imp fun d t1 g1 H1 st1 w1 ⟨n, o, ds, ed, eo, ei, q⟩ v r => by
  subst ed
  obtain ⟨o, vn⟩ := o
  cases o with
  | td ks =>
    cases ei
    obtain ⟨a, L, rfl, had, ha, rd⟩ := r.td hK w1 eo rfl
    exact ⟨a, L, rfl, ha, q a _ _ had ha (walkTK (by simp) rd)⟩
  | li ds => cases ei
  | ins fs => cases ei⟩
def cmpM (n v : Nat) (tg : Tg) (cond elt : Ex) (S : Sl) : List D → M (List D)
  | [] => bnd (verAt n v) fun _ => ret []
  | d :: ds => bnd (verAt n v) fun _ => match tg d S with
    | none => stuck
    | some S' => bnd (calm (cond S')) fun b => match b with
      | .bl true => bnd (calm (elt S')) fun r => bnd (cmpM n v tg cond elt S ds) fun rs => ret (r :: rs)
      | .bl false => cmpM n v tg cond elt S ds
      | _ => stuck
def cmpT (n v : Nat) (tg : Tg) (cond elt : Ex) (S : Sl) (d : D) (ds : List D) : M (List D) := match tg d S with
    | none => stuck
    | some S' => bnd (calm (cond S')) fun b => match b with
      | .bl true => bnd (calm (elt S')) fun r => bnd (cmpM n v tg cond elt S ds) fun rs => ret (r :: rs)
      | .bl false => cmpM n v tg cond elt S ds
      | _ => stuck
def eCompM (it : Ob → Option (List D)) (vs : List Nat) (e : Ex) (tg : Tg) (cond elt : Ex) : Ex := fun S => bnd (e S) fun d => items it d fun n v ds => if ds.length ≤ sizeLine then bnd (cmpM n v tg cond elt (wipeS S vs) ds) fun rs => ret (.lst rs) else stuck
theorem tF.lcM {it : Ob → Option (List D)} {own : List (Str × Nat)} {is : List Nat} {fi : Ex} {ft : Tg} {fc fe : Ex} {σ : L2.St} {H : Hp} {Q : VK} (hv : ∀ i ∈ is, i ∈ own.map (·.2)) (h : tF X.K C E (eCompM it (own.map (·.2)) fi ft fc fe) σ H Q) :
    tLc (tIM X.K C E it fi) (tG X.K C is ft) (tT X.K C E0 fc) (tE X.K C E0 fe) (own.map (·.2)) σ H Q := by
  obtain ⟨g, S, t, w, s, p⟩ := h
  refine ⟨g, S, t, w, s, p.bnd.imp fun dh t1 g1 H1 st1 w1 q => ?_⟩
  obtain ⟨n, o, ds, rfl, eo, ei, q⟩ := Post.items q
  refine ⟨n, o, ds, rfl, eo, ei, fun a ho J had hh wk => ?_⟩
  have q : Post C E g1 H1 (fun d _ g' H' => ∀ v, RpF X.K H g' H' v d → Q v H') ((if ds.length ≤ sizeLine then bnd (cmpM n o.2 ft fc fe (wipeS S (own.map (·.2))) ds) fun rs => ret (BG.D.lst rs) else stuck) t1) := q
  split at q
  case isFalse => exact q.elim
  rename_i hsz
  intro La hD
  have s1 := s.stp w st1
  refine ⟨fun i m Hk => m = ds.length - i ∧ i ≤ ds.length ∧ ∃ gk tk av ad, Stp g1 H1 gk Hk ∧ Wf C gk Hk tk ∧ Hk La = some (.lst av) ∧ Fre gk La ∧ RpA X.K gk av ad ∧ ad.length ≤ i ∧
    Post C E g1 H1 (fun d _ g' H' => ∀ v, RpF X.K H g' H' v d → Q v H') (bnd (cmpM n o.2 ft fc fe (wipeS S (own.map (·.2))) (ds.drop i)) (fun rs => ret (BG.D.lst (ad ++ rs))) tk), ⟨ds.length, by simp, Nat.zero_le _, g1, t1, [], [], Stp.lay w1 hD, Wf.lay w1 hD, upd_same, w1.fre hD, .nil, Nat.zero_le _, ?_⟩, ?_⟩
  · rw [List.drop_zero]
    exact q
  rintro i m Hk ⟨rfl, hi', gk, tk, av, ad, stk, wk', eD, fD, ra, hal, pk⟩
  have kH : ∀ o', tk.2[n]? = some o' → o'.2 = o.2 → Hk a = some ho := fun o' e1 e2 => ver_heap w1 had eo hh stk.gw wk' e1 e2
  by_cases hlt : i < ds.length
  · have ed : ds[i]? = some ds[i] := List.getElem?_eq_getElem hlt
    have edr : ds.drop i = ds[i] :: ds.drop (i + 1) := List.drop_eq_getElem_cons hlt
    rw [edr] at pk
    have pk : Post C E g1 H1 (fun d _ g' H' => ∀ v, RpF X.K H g' H' v d → Q v H') (bnd (bnd (verAt n o.2) fun _ => cmpT n o.2 ft fc fe (wipeS S (own.map (·.2))) ds[i] (ds.drop (i + 1))) (fun rs => ret (BG.D.lst (ad ++ rs))) tk) := pk
    rw [bnd_assoc] at pk
    obtain ⟨o', e1, e2, pk⟩ := Post.verAt pk
    obtain ⟨wgo, wstop⟩ := wk i Hk fun b o2 hb => by
      have hb : (if b = a then some ho else none) = some o2 := hb
      by_cases hba : b = a
      · subst hba
        rw [if_pos rfl] at hb
        cases hb
        exact kH o' e1 e2
      · rw [if_neg hba] at hb; cases hb
    obtain ⟨go, yl⟩ := wgo _ ed
    refine .inr ⟨go, fun Hn => ∃ gn tn bv bd, Stp g1 H1 gn Hn ∧ Wf C gn Hn tn ∧ Hn La = some (.lst bv) ∧ Fre gn La ∧ RpA X.K gn bv bd ∧ bd.length ≤ i + 1 ∧
      Post C E g1 H1 (fun d _ g' H' => ∀ v, RpF X.K H g' H' v d → Q v H') (bnd (cmpM n o.2 ft fc fe (wipeS S (own.map (·.2))) (ds.drop (i + 1))) (fun rs => ret (BG.D.lst (bd ++ rs))) tn), fun H' hn => ⟨_, Nat.sub_lt_sub_left hlt (Nat.lt_succ_self i), rfl, hlt, hn⟩, fun x H' hy => ?_⟩
    obtain ⟨g3, st3, w3, r3, kp3⟩ := (yl x H' hy).stp stk.fz stk.tw wk'
    have st13 : Stp g1 H1 g3 H' := stk.trans st3
    have eD3 : H' La = some (.lst av) := by rw [kp3 La (by rw [eD]; exact fun z => nomatch z)]; exact eD
    have fD3 : Fre g3 La := fD.stp st3 eD (fun _ z => nomatch z)
    have ra3 := ra.stp st3
    have sl3 : SL X.K g3 H' (L2.wipe σ (own.map (·.2))) (wipeS S (own.map (·.2))) := (s1.stp w1 st13).wipe _
    unfold cmpT at pk
    have pk : Post C E g1 H1 (fun d _ g' H' => ∀ v, RpF X.K H g' H' v d → Q v H') (bnd (match ft ds[i] (wipeS S (own.map (·.2))) with
      | none => stuck
      | some S' => bnd (calm (fc S')) fun b => match b with
        | .bl true => bnd (calm (fe S')) fun r => bnd (cmpM n o.2 ft fc fe (wipeS S (own.map (·.2))) (ds.drop (i + 1))) fun rs => ret (r :: rs)
        | .bl false => cmpM n o.2 ft fc fe (wipeS S (own.map (·.2))) (ds.drop (i + 1))
        | _ => stuck) (fun rs => ret (BG.D.lst (ad ++ rs))) tk) := pk
    cases eft : ft ds[i] (wipeS S (own.map (·.2))) with
    | none => rw [eft] at pk; exact pk.elim
    | some S' =>
      rw [eft] at pk
      refine ⟨g3, _, tk, _, S', w3, sl3, r3, eft, fun σ2 sl2 hl2 hout _ => ⟨wipe_eq (by rw [hl2, wipe_length]) fun j hj => hout j fun z => hj (hv j z), ?_⟩⟩
      have pk : Post C E g1 H1 (fun d _ g' H' => ∀ v, RpF X.K H g' H' v d → Q v H') (bnd (bnd (calm (fc S')) fun b => match b with
        | .bl true => bnd (calm (fe S')) fun r => bnd (cmpM n o.2 ft fc fe (wipeS S (own.map (·.2))) (ds.drop (i + 1))) fun rs => ret (r :: rs)
        | .bl false => cmpM n o.2 ft fc fe (wipeS S (own.map (·.2))) (ds.drop (i + 1))
        | _ => stuck) (fun rs => ret (BG.D.lst (ad ++ rs))) tk) := pk
      rw [bnd_assoc] at pk
      have pc := (Post.calm pk.bnd0 E0).stp st13
      refine ⟨g3, S', tk, w3, sl2, pc.imp fun b tb gb Hb stb wb qb => ?_⟩
      have st1b := st13.trans stb
      have eDb : Hb La = some (.lst av) := stb.frm _ _ eD3 fD3.2 (fun _ z => nomatch z)
      have fDb : Fre gb La := fD3.stp stb eD3 (fun _ z => nomatch z)
      have rab := ra3.stp stb
      cases b with
      | bl b =>
        refine ⟨b, rfl, ?_⟩
        cases b with
        | false => exact iteF ⟨gb, tb, av, ad, st1b, wb, eDb, fDb, rab, Nat.le_succ_of_le hal, qb⟩
        | true =>
          refine iteT ?_
          have qb : Post C E g1 H1 (fun d _ g' H' => ∀ v, RpF X.K H g' H' v d → Q v H') (bnd (bnd (calm (fe S')) fun r => bnd (cmpM n o.2 ft fc fe (wipeS S (own.map (·.2))) (ds.drop (i + 1))) fun rs => ret (r :: rs)) (fun rs => ret (BG.D.lst (ad ++ rs))) tb) := qb
          rw [bnd_assoc] at qb
          have pe := (Post.calm qb.bnd0 E0).stp st1b
          refine ⟨gb, S', tb, wb, sl2.stp w3 stb, pe.imp fun r tr gr Hr str wr qr y ry => ?_⟩
          have eDr : Hr La = some (.lst av) := str.frm _ _ eDb fDb.2 (fun _ z => nomatch z)
          have fDr : Fre gr La := fDb.stp str eDb (fun _ z => nomatch z)
          have rar := rab.stp str
          have st1r := st1b.trans str
          have hH1D : H1 La = none := hD
          refine ⟨av, eDr, ?_, gr, tr, av ++ [y], ad ++ [r], ⟨st1r.fz, st1r.tw, st1r.twn, fun b o e1 e2 e3 => ?_, fun b e1 => ?_, st1r.new⟩, ?_, upd_same, fDr, rar.app (.one ry), by rw [List.length_append]; exact Nat.succ_le_succ hal, ?_⟩
          · rw [rar.length]
            exact Nat.lt_of_lt_of_le (Nat.lt_of_le_of_lt hal hlt) hsz
          · rw [upd_ne (ne_of_none e1 hH1D)]
            exact st1r.frm b o e1 e2 e3
          · by_cases hb : b = La
            · exact ⟨_, by rw [hb]; exact upd_same, fun _ z => by cases z⟩
            · obtain ⟨o', e', n'⟩ := st1r.thr b e1
              exact ⟨o', by rw [upd_ne hb]; exact e', n'⟩
          · exact wr.updL eDr fDr
          · rw [bnd_assoc] at qr
            have er : (fun rs => ret (BG.D.lst (ad ++ [r] ++ rs))) = (fun rs => bnd (ret (r :: rs)) fun rs => ret (BG.D.lst (ad ++ rs))) := by
              funext rs
              rw [ret_bnd, List.append_assoc]; rfl
            rw [er]
            exact qr
      | _ => exact qb.elim
  · have e : i = ds.length := by omega
    subst e
    rw [List.drop_length] at pk
    have pk : Post C E g1 H1 (fun d _ g' H' => ∀ v, RpF X.K H g' H' v d → Q v H') (bnd (bnd (verAt n o.2) fun _ => ret []) (fun rs => ret (BG.D.lst (ad ++ rs))) tk) := pk
    rw [bnd_assoc] at pk
    obtain ⟨o', e1, e2, pk⟩ := Post.verAt pk
    obtain ⟨wgo, wstop⟩ := wk ds.length Hk fun b o2 hb => by
      have hb : (if b = a then some ho else none) = some o2 := hb
      by_cases hba : b = a
      · subst hba
        rw [if_pos rfl] at hb
        cases hb
        exact kH o' e1 e2
      · rw [if_neg hba] at hb; cases hb
    refine .inl ⟨wstop (Nat.le_refl _), ?_⟩
    have pk : Post C E g1 H1 (fun d _ g' H' => ∀ v, RpF X.K H g' H' v d → Q v H') (ret (BG.D.lst (ad ++ [])) tk) := pk
    rw [List.append_nil] at pk
    exact pk gk Hk stk wk' _ ⟨La, av, ad, rfl, rfl, st1.back hD, eD, ra, fD⟩
theorem cf_compM {it : Ob → Option (List D)} {elt iter : Expr} {ifs : List Expr} {scope : Scope} {own : List (Str × Nat)} {pos : Pos} {is : List Nat} {fi : Ex} {ft : Tg} {fc fe : Ex} (hc : X.calm = true) (hN : X.N.Nodup) (hi : PI X tg iter (tIM X.K C E it fi)) (ok : BlkOk X.N X.env.scope scope own) (hv : ∀ i ∈ is, i ∈ own.map (·.2))
    (hg : ∀ (s : Shared) (H : Hp) (Ca : Addr) (cl : List (Str × Addr)) (fp : List Addr), CG (X.blk s H scope (compEnvC scope cl Ca X.env) fp) C is tg ft) (ht : ∀ (s : Shared) (H : Hp) (Ca : Addr) (cl : List (Str × Addr)) (fp : List Addr), CTs (X.blk s H scope (compEnvC scope cl Ca X.env) fp) C E0 ifs fc)
    (he : ∀ (s : Shared) (H : Hp) (Ca : Addr) (cl : List (Str × Addr)) (fp : List Addr), CE (X.blk s H scope (compEnvC scope cl Ca X.env) fp) C E0 elt fe) (hs : ∀ x, foldedSetIterable iter X.env x = pure x := by intro _; rfl) :
    CF X C E (.ListComp elt [⟨tg, iter, ifs, 0⟩] scope pos) (eCompM it (own.map (·.2)) fi ft fc fe) := by
  exact PE.imp (pe_lc (te := tE X.K C E0 fe) (g := tG X.K C is ft) (tt := tT X.K C E0 fc) hc hN hi ok hg ht he hs) fun σ H Q h => tF.lcM hv h
end
end BG
set_option Elab.async false
set_option linter.all false
set_option maxRecDepth 100000
set_option maxHeartbeats 4000000
namespace BG
open PySem PySem.Spec PyProof.Rows L2
section
variable {X : Cx} {C : Cn} {E : XK}
theorem ce_lcnt {o e : Expr} {fo fe : Ex} {apos cpos : Pos} (hu : X.A.units + 65 < cLine) (ho : CE X C E o fo) (he : CE X C E e fe) (hbase : attributeBase o "count" X.env (eval o X.env) = eval o X.env := by rfl)
    (hfew : ((backTo cpos (starEach [e] X.env)).all (fun x => !x.1) && (backToKw cpos (keywordEach [] X.env)).all (fun x => x.1.isSome) && decide ([e].length + ([] : List Keyword).length + (if ([] : List Keyword).isEmpty then 0 else 1) < 30)) = true := by rfl)
    (hline : (apos.endLine == cpos.line) = true := by rfl) (hs : starEach [e] X.env = (false, eval e X.env) :: starEach [] X.env := by rfl) (hplain : (backTo cpos (starEach [] X.env)).any (·.1) = false := by rfl) :
    CE X C E (.Call (.Attribute o "count" apos) [e] [] cpos) (eLM pCnt fo fe) :=
  PE.imp (pe_bm PySem.F.plainAttrs_list PySem.F.slot_list_count PySem.F.type_list_count (mt_lcnt (C := C) hu) ho (pa_cons he pa_nil hs) hbase hfew hline hs hplain) fun σ H Q h => by
    refine tE.seq h fun g S t x d H1 w s rx p => ?_
    cases d with
    | lst ds =>
      cases rx with
      | lst sq ra =>
        refine ⟨.inl ⟨rfl, _, .of (w.fz _ _ sq)⟩, g, S, t, w, s, Post.bnd p |>.imp fun d2 t2 g2 H2 st w2 q v r2 => ?_⟩
        have q : PostQ X.K C E g2 H2 Q (pCnt ds d2 t2) := q
        unfold pCnt at q
        split at q
        · rename_i hc
          exact ⟨v, g2, t2, ds, d2, rfl, w2, .inl ((Rp.lst sq ra).stp st), .inl r2, hc.1, hc.2, pRetV q w2 (.int _)⟩
        · exact q.elim
    | _ => exact p.elim
def eTru (f : Ex) : Ex := fun S => bnd (f S) fun d => match d with
  | .lst ds => ret (.bl (!ds.isEmpty))
  | _ => stuck
theorem ct_tru {e : Expr} {f : Ex} (h : CE X C E e f) (he : ∀ whole, isTrue e X.env whole = (do let v ← whole; standAt e.pos; holding [v] (truthy v)) := by intro _; rfl) : CT X C E e (eTru f) :=
  PT.imp (pt_truth h he) fun σ H Q ⟨g, S, t, w, s, p⟩ => ⟨g, S, t, w, s, p.bnd.imp fun d t1 g1 H1 st1 w1 q v r => by
    cases d with
    | lst ds =>
      cases r with
      | @lst a vs _ sq ra =>
        obtain ⟨b, eb, q2⟩ := postRet q w1
        cases eb
        refine ⟨!ds.isEmpty, .inl ⟨vs, .of (w1.fz _ _ sq), ?_⟩, q2⟩
        have := ra.length
        cases ds <;> cases vs <;> first | rfl | (simp at this)
    | _ => exact q.elim⟩
end
mutual
theorem py_inj : ∀ {a b : D} {n : Nat}, okD a n = true → okD b n = true → a.py = b.py → a = b
  | .non, b, _, _, hb, h => by cases b <;> first | rfl | (cases hb; done) | (simp only [D.py] at h; cases h)
  | .bl x, b, _, _, hb, h => by
    cases b with
    | bl y => simp only [D.py] at h; cases h; rfl
    | _ => first | (simp only [D.py] at h; cases h; done) | (cases hb; done)
  | .int x, b, _, _, hb, h => by
    cases b with
    | int y => simp only [D.py] at h; cases h; rfl
    | _ => first | (simp only [D.py] at h; cases h; done) | (cases hb; done)
  | .str x, b, _, _, hb, h => by
    cases b with
    | str y => simp only [D.py] at h; cases h; rfl
    | _ => first | (simp only [D.py] at h; cases h; done) | (cases hb; done)
  | .tup xs, b, 0, ha, _, _ => by cases ha
  | .tup xs, b, n + 1, ha, hb, h => by
    cases b with
    | tup ys =>
      simp only [D.py] at h
      rw [pyA_inj ha hb (PyData.tuple.inj h)]
    | _ => first | (cases hb; done) | (simp only [D.py] at h; cases h)
  | .lst xs, b, 0, ha, _, _ => by cases ha
  | .lst xs, b, n + 1, ha, hb, h => by
    cases b with
    | lst ys =>
      simp only [D.py] at h
      rw [pyA_inj ha hb (PyData.list.inj h)]
    | _ => first | (cases hb; done) | (simp only [D.py] at h; cases h)
theorem pyA_inj : ∀ {a b : List D} {n : Nat}, okA a n = true → okA b n = true → pyA a = pyA b → a = b
  | [], [], _, _, _, _ => rfl
  | [], b :: bs, _, _, _, h => by cases h
  | a :: as, [], _, _, _, h => by cases h
  | a :: as, b :: bs, n, ha, hb, h => by
    have ha : (okD a n && okA as n) = true := ha
    have hb : (okD b n && okA bs n) = true := hb
    rw [Bool.and_eq_true] at ha hb
    simp only [pyA] at h
    injection h with h1 h2
    rw [py_inj ha.1 hb.1 h1, pyA_inj ha.2 hb.2 h2]
end
def isNone : D → Bool
  | .non => true
  | _ => false
def minOk (ds : List D) : Bool := okA ds 60 && (ds.all fun a => ds.all fun b => PySem.W.alike a.py b.py) && ds.all fun a => !isNone a
def minDD (d : D) (ds : List D) : D := ds.foldl (fun a y => if PySem.W.dataLt y.py a.py then y else a) d
theorem minDD_py : ∀ (ds : List D) (d : D), (minDD d ds).py = PySem.W.minD d.py (ds.map D.py)
  | [], d => rfl
  | e :: ds, d => by
    show (minDD (if PySem.W.dataLt e.py d.py then e else d) ds).py = PySem.W.minD (if PySem.W.dataLt e.py d.py then e.py else d.py) (ds.map D.py)
    rw [minDD_py ds]
    cases PySem.W.dataLt e.py d.py <;> rfl
theorem minDD_mem : ∀ (ds : List D) (d : D), minDD d ds ∈ d :: ds
  | [], d => List.mem_cons_self ..
  | e :: ds, d => by
    have h := minDD_mem ds (if PySem.W.dataLt e.py d.py then e else d)
    show minDD (if PySem.W.dataLt e.py d.py then e else d) ds ∈ _
    rcases List.mem_cons.mp h with h | h
    · rw [h]
      cases PySem.W.dataLt e.py d.py
      · exact List.mem_cons_self ..
      · exact List.mem_cons_of_mem _ (List.mem_cons_self ..)
    · exact List.mem_cons_of_mem _ (List.mem_cons_of_mem _ h)
def bMinA : D → M D
  | .lst (d :: ds) => if minOk (d :: ds) = true then ret (minDD d ds) else stuck
  | _ => stuck
section
variable {X : Cx} {C : Cn} {E : XK}
theorem each_reads {h : Heap} : ∀ {us : List Value} {ds : List D}, PySem.W.EachIs (fun u d => ∃ as, Reads h u (D.py d) as) us ds → ∃ as, ReadsAll h us (ds.map D.py) as
  | [], [], _ => ⟨[], .nil⟩
  | u :: us, d :: ds, .cons ⟨as, r⟩ rs => by
    obtain ⟨bs, r2⟩ := each_reads rs
    exact ⟨_, .cons r r2⟩
theorem cr_minA (hc : X.calm = true) (hu : X.A.units + 65 < cLine) : CallR X (.builtin "min") (c1D X.K C E bMinA) := by
  intro pins s σ H xs us Q I r h
  obtain ⟨x, g, t, d, rfl, w, a, h⟩ := h
  cases d with
  | lst ds =>
    cases ds with
    | nil => exact h.elim
    | cons d ds =>
      have h : PostQ X.K C E g H Q ((if minOk (d :: ds) = true then ret (minDD d ds) else stuck) t) := h
      split at h
      · rename_i hok
        unfold minOk at hok
        rw [Bool.and_eq_true, Bool.and_eq_true] at hok
        obtain ⟨⟨k1, k2⟩, k3⟩ := hok
        obtain ⟨p, vs, rfl, e1, r1⟩ := a.lst w
        obtain ⟨u, rfl, ru⟩ := vals1 r
        cases ru
        obtain ⟨its, rv, pl, hz⟩ := I.list (.of e1)
        obtain ⟨as, ra⟩ := each_reads (reads_all I w r1 rv k1)
        have al : PySem.W.AlikeAll ((d :: ds).map D.py) := by
          refine ⟨fun x hx y hy => ?_, fun x hx => ?_⟩
          · obtain ⟨x, hx', rfl⟩ := List.mem_map.mp hx
            obtain ⟨y, hy', rfl⟩ := List.mem_map.mp hy
            have hx := hx'
            have hy := hy'
            exact List.all_eq_true.mp (List.all_eq_true.mp k2 x hx) y hy
          · obtain ⟨x, hx', rfl⟩ := List.mem_map.mp hx
            have hx := hx'
            have n1 := List.all_eq_true.mp k3 x hx
            have n2 : okD x 60 = true := by rw [okA_all] at k1; exact List.all_eq_true.mp k1 x hx
            cases x <;> first | (cases n1; done) | (cases n2; done) | (simp only [D.py]; exact fun z => nomatch z)
        have dep : PyData.depthAll ((d :: ds).map D.py) ≤ 60 := by rw [← pyA_map]; exact (okA_lay (d :: ds) 60 k1).2
        refine PySem.W.min_list_data (x := d.py) (xs := ds.map D.py) (I.ok.hd hc) pl.isList (by rw [List.toList_toArray]; exact ra) al (show X.A.units + 1 + PyData.depthAll ((d :: ds).map D.py) < cLine by omega) fun i v h' tk bs hv rd hk => ?_
        have I2 : L2.Inv X pins σ H { s with heap := h', toks := tk } := I.kept hk
        rw [List.getElem?_toArray] at hv
        have hl := rv.length
        have hi : i < its.length := (List.getElem?_eq_some_iff.mp hv).1
        obtain ⟨vv, ev⟩ : ∃ vv, vs[i]? = some vv := ⟨vs[i]'(by omega), List.getElem?_eq_getElem (by omega)⟩
        obtain ⟨u2, eu, ru2⟩ := rv.get ev
        rw [hv] at eu
        cases eu
        obtain ⟨dd, ed, rd2⟩ := r1.get' ev
        have okd : okD dd 60 = true := by rw [okA_all] at k1; exact List.all_eq_true.mp k1 dd (List.mem_of_getElem? ed)
        have okm : okD (minDD d ds) 60 = true := by rw [okA_all] at k1; exact List.all_eq_true.mp k1 _ (minDD_mem ds d)
        obtain ⟨cs, rr⟩ := Dp.reads I2 _ _ _ (Rp.dp w rd2 okd) ru2
        have eq := (Reads.unique rr _ _ rd).1
        have : dd = minDD d ds := py_inj okd okm (by rw [eq, minDD_py])
        subst this
        exact ⟨vv, H, I2, ru2, pRetV h w rd2⟩
      · exact h.elim
  | _ => exact h.elim
end
def forF (i : Nat) (body : Stm) : List Addr → Stm
  | [], S => ret (.nx S)
  | a :: as, S => bnd (calm (body (S.set i (.raw (.ref a))))) fun fl => match fl with
    | .nx S'' => forF i body as S''
    | .ret v => ret (.ret v)
def sForF (as : List Addr) (i : Nat) (body : Stm) : Stm := forF i body as
/-- the defs by their names -/
def tRefs (as : List Addr) : TA := fun _ H Q => Q (as.map V.ref) H
section
variable {X : Cx} {C : Cn} {E : XK}
theorem par_nil : PA X [] (tRefs []) := pa_nil
theorem par_cons {x : Str} {a : Addr} {as : List Addr} {es : List Expr} {pos : Pos} (hm : X.mg x = some (.ref a)) (hr : PA X es (tRefs as)) (hg : Gl X x := by rfl) (hd : (x == ("__debug__" : Str)) = false := by decide) (hs : starEach (.Name x pos :: es) X.env = (false, eval (.Name x pos) X.env) :: starEach es X.env := by rfl) : PA X (.Name x pos :: es) (tRefs (a :: as)) :=
  PA.imp (pa_cons (pe_glob (v := .ref a) hg hm rfl hd) hr hs) fun σ H Q q => q
theorem SL.raw' {K : PySem.W.Frag} {g : G} {H : Hp} {σ : L2.St} {S : Sl} {i : Nat} {v : V} (s : SL K g H σ S) : SL K g H (σ.set i (some v)) (S.set i (.raw v)) := s.put rfl (fun h => nomatch h)
theorem OwnF.raw {H0 : Hp} {σ : L2.St} {S : Sl} {i : Nat} {v : V} (h : OwnF H0 σ S) : OwnF H0 (σ.set i (some v)) (S.set i (.raw v)) := fun j x p e1 ox e2 => by
  have n : i ≠ j := fun z => by
    subst z
    by_cases hl : i < S.length
    · rw [List.getElem?_set_self hl] at e1; cases e1; cases ox
    · rw [List.getElem?_eq_none (by rw [List.length_set]; omega)] at e1; cases e1
  rw [List.getElem?_set_ne n] at e1 e2
  exact h j x p e1 ox e2
/-- laid and frozen -/
theorem layZ {C : Cn} {g : G} {H : Hp} {t : Tn} {p : Addr} {o : HO} (w : Wf C g H t) (hp : H p = none) (ho : ∀ ps, o ≠ .tbl ps) : ∃ g', Stp g H g' (upd H p o) ∧ Wf C g' (upd H p o) t ∧ g'.Fz p = some o := by
  have f0 : g.Fz p = none := w.fzN hp
  have sm : Same g.Fz (upd g.Fz p o) := fun b o h => by rw [upd_ne (ne_of_none h f0)]; exact h
  have s1 := Stp.lay (o := o) w hp
  have w1 := Wf.lay (o := o) w hp
  refine ⟨⟨upd g.Fz p o, g.tw, g.ad, g.lg⟩, ⟨sm, .of, s1.twn, s1.frm, s1.thr, fun b h => ?_⟩, ⟨fun b o' h => ?_, ⟨w1.tw.1, w1.tw.2.frz sm⟩, fun b h => ?_, w1.tab, nft_upd w1.nft ho⟩, upd_same⟩
  · have nb : b ≠ p := fun z => Nt.no hp (by rw [← z]; exact h)
    show upd g.Fz p o b = _
    rw [upd_ne nb]
  · have h : upd g.Fz p o b = some o' := h
    by_cases hb : b = p
    · rw [hb, upd_same] at h ⊢; exact h
    · rw [upd_ne hb] at h
      exact w1.fz b o' h
  · have nb : b ≠ p := fun z => w.ntN hp (by rw [← z]; exact h)
    show upd g.Fz p o b = _
    rw [upd_ne nb]
    exact w.ntw b h
theorem cs_forF {as : List Addr} (i : Nat) {x : Str} {es : List Expr} {body : List Stmt} {fb : Stm} {k : Nat} {pos pos' tpos : Pos} (hc : X.calm = true) (hN : X.N.Nodup) (hes : PA X.nox es (tRefs as)) (hb : CSs X.nox C E0 body fb) (hz : as.length ≤ 1000 := by exact Nat.le_of_ble_eq_true rfl) (hi : X.N[i]? = some x := by rfl) (hx : Loc X.env.scope x := by first | exact .inl rfl | exact .inr rfl)
    (hf : X.fn x = true ∨ X.env.scope.names.lookup x = some .local := by first | exact .inl rfl | exact .inr rfl | assumption) (hs : ∀ v, foldedSetIterable (.Tuple es k tpos) X.env v = pure v := by intro _; rfl) : CS X C E (.For (.Name x pos') (.Tuple es k tpos) body [] pos) (sForF as i fb) := by
  refine PS.imp (PS.nox (ps_for (X := X.nox) PassesOwn.never hc (pi_tup (pe_tup hes)) (pg_name (i := i) hN hi hx hf) hb hs)) fun De σ H ⟨g0, H0, gs, g, S, t, st, gr, w, s, o, p⟩ => ?_
  refine ⟨by rw [List.length_map, sizeLine_eq]; omega, fun T hT => ⟨T, rfl, ⟨_, .of upd_same⟩, ?_⟩⟩
  obtain ⟨g1, st1, w1, f1⟩ := layZ (o := .tup (as.map V.ref)) w hT (fun _ z => nomatch z)
  have gr1 := gr.trans st1.gw
  refine ⟨fun n m σk Hk => m = as.length - n ∧ n ≤ as.length ∧ ∃ gk Sk tk, Stp g0 H0 gk Hk ∧ Gw g1 gk ∧ Wf C gk Hk tk ∧ SL X.K gk Hk σk Sk ∧ OwnF H0 σk Sk ∧ Post C E g0 H0 (Rs X.K H0 gs De) (forF i fb (as.drop n) Sk tk),
    ⟨as.length, by simp, Nat.zero_le _, g1, S, t, st.trans st1, .refl _, w1, s.stp w st1, o, by rw [List.drop_zero]; exact p⟩, ?_⟩
  rintro n m σk Hk ⟨rfl, hi', gk, Sk, tk, stk, gwk, wk', sk, ok, pk⟩
  have eT : Hk T = some (.tup (as.map V.ref)) := wk'.fz _ _ (gwk.fz _ _ f1)
  have sq : SqT X.K Hk T (as.map V.ref) := .of eT
  by_cases hlt : n < as.length
  · have edr : as.drop n = as[n] :: as.drop (n + 1) := List.drop_eq_getElem_cons hlt
    have ev : (as.map V.ref)[n]? = some (.ref as[n]) := by rw [List.getElem?_map, List.getElem?_eq_getElem hlt]; rfl
    rw [edr] at pk
    refine .inr ⟨⟨_, _, sq, ev⟩, fun σn Hn => ∃ gn Sn tn, Stp g0 H0 gn Hn ∧ Gw g1 gn ∧ Wf C gn Hn tn ∧ SL X.K gn Hn σn Sn ∧ OwnF H0 σn Sn ∧ Post C E g0 H0 (Rs X.K H0 gs De) (forF i fb (as.drop (n + 1)) Sn tn), fun σ' H' hn => ⟨_, Nat.sub_lt_sub_left hlt (Nat.lt_succ_self n), rfl, hlt, hn⟩, fun y H' hy => ?_⟩
    obtain ⟨rfl, hy⟩ := hy
    have := hy _ sq
    rw [ev] at this
    cases this
    have pb := Post.calm pk.bnd0 E0
    refine ⟨g0, H0, g1, gk, _, tk, stk, gwk, wk', sk.raw', ok.raw, pb.imp fun fl t4 g4 H4 st4 w4 q4 => ?_⟩
    cases fl with
    | nx S'' => exact fun σ' gw' s' o' => ⟨g4, S'', t4, st4, gw', w4, s', o', q4⟩
    | ret d => exact fun v gw' r => q4 g4 H4 st4 w4 v (gr1.trans gw') r
  · have e : n = as.length := by omega
    subst e
    rw [List.drop_length] at pk
    exact .inl ⟨⟨_, sq, by rw [List.length_map]; exact Nat.le_refl _⟩, pk gk Hk stk wk' σk (gr1.trans gwk) sk ok⟩
structure FdA (P : Program) (w : World) (K : PySem.W.Frag) (mg : Str → Option Value) (base : Heap) (C : Cn) (k n : Nat) (f : Addr) (F : Fn) : Prop where
  ex : ∃ k' fd ps, k' ≤ k ∧ FnOk P w K mg base (L2.CX P w) k' f fd ps (spF K C n F) ∧ PySem.W.keepIn K (.ref f) = true ∧ Binds K fd ps []
def fnAt (f : Addr) : List (Addr × Fn) → Option Fn
  | [] => none
  | (a, F) :: r => if a = f then some F else fnAt f r
def eCallR (i : Nat) (Fs : List (Addr × Fn)) (fs : List Ex) : Ex := fun S => match S[i]? with
  | some (.raw (.ref a)) => match fnAt a Fs with
    | some F => eCall F fs S
    | none => stuck
  | _ => stuck
theorem ce_callR {k j : Nat} (i : Nat) {x : Str} {Fs : List (Addr × Fn)} {e : Expr} {es : List Expr} {fs : List Ex} {p pos : Pos} (hF : ∀ q ∈ Fs, FdA X.prog X.w X.K X.mg X.base C k fs.length q.1 q.2) (hr : Room j X.A) (hk : k ≤ j) (hx : Passes (L2.CX X.prog X.w) X E) (ha : CA X C E (e :: es) (evs fs))
    (hN : X.N[i]? = some x := by rfl) (hv : Vis X.env.scope x := by first | exact Or.inl rfl | exact Or.inr (Or.inl rfl) | exact Or.inr (Or.inr rfl)) (hdb : (x == ("__debug__" : Str)) = false := by decide) (hcd : (x == ("__classdict__" : Str)) = false := by decide)
    (hs : starEach (e :: es) X.env = (false, eval e X.env) :: starEach es X.env := by rfl) (hp : (backTo pos (starEach es X.env)).any (·.1) = false := by rfl) : CE X C E (.Call (.Name x p) (e :: es) [] pos) (eCallR i Fs fs) := by
  refine ⟨fun pins sh σ H Q I ⟨g, S, t, w, s, q⟩ => ?_⟩
  unfold eCallR at q
  cases e1 : S[i]? with
  | none => rw [e1] at q; exact q.elim
  | some sv =>
    rw [e1] at q
    cases sv with
    | raw v =>
      cases v with
      | ref a =>
        have q : PostQ X.K C E g H Q ((match fnAt a Fs with | some F => eCall F fs S | none => stuck) t) := q
        cases ef : fnAt a Fs with
        | none => rw [ef] at q; exact q.elim
        | some F =>
          rw [ef] at q
          have mem : ∀ (l : List (Addr × Fn)), fnAt a l = some F → (a, F) ∈ l := by
            intro l
            induction l with
            | nil => exact fun z => nomatch z
            | cons q l ih =>
              intro z
              unfold fnAt at z
              by_cases hq : q.1 = a
              · rw [if_pos hq] at z
                cases z
                rw [← hq]
                exact List.mem_cons_self ..
              · rw [if_neg hq] at z
                exact List.mem_cons_of_mem _ (ih z)
          obtain ⟨k', fd, ps, hkk, F', hkp, hb⟩ := (hF _ (mem Fs ef)).ex
          refine (pe_callL (i := i) (f := a) F' (hr.mono (Nat.le_trans hkk hk)) hN hv hkp hb .nil hx ha hdb hcd hs hp).run pins sh σ H Q I ⟨s.raw i _ e1, ?_⟩
          exact ⟨g, S, t, w, s, (Post.evs q.bnd).imp fun ds t1 g1 H1 st1 w1 ⟨el, q⟩ vs rs => ⟨g1, ds, t1, by rw [List.append_nil]; exact rs, w1, by rw [List.append_nil, rs.length, el], q⟩⟩
      | _ => exact q.elim
    | _ => exact q.elim
end
end BG
set_option Elab.async false
set_option linter.all false
set_option maxRecDepth 100000
set_option maxHeartbeats 4000000
namespace BL
open PySem PySem.Spec PyProof.Rows L2 BG
def b_grown : Stm := (sSeq (sOwn 3 (eLst []))
    (sSeq (sFor (itSeq (eVar 1)) (gN 4)
    (sFor (itSeq (eVar 2)) (gP 5 6)
    (sSeq (sAsg 7 (eCall f_then [(eVar 4), (eVar 6)]))
    (sIf (eMIn true (eVar 7) (eVar 0)) (sSeq (sMSet (eVar 0) (eVar 7) (eBin pAdd (eMIx (eVar 0) (eVar 4)) (eTup [(eVar 5)])))
    (sApp 3 (eVar 7))) sNil))))
    (sFrz 3 (sRet (eVar 3)))))
def f_grown : Fn := fnOf 8 b_grown
def b_agreeing : Stm := (sSeq (sExpr (eCall f_check_kinds [(eVar 0)]))
    (sSeq (sIf (eBin pGt (eCall f_counted [(eVar 0)]) (eC (.int 1400))) (sRaise 9) sNil)
    (sSeq (sIf (eOr (eUn oNot (eUn (pIsi .tuple) (eVar 1))) (eUn oNot (eUn bAll (eComp [2] (itSeq (eVar 1)) (gN 2) (eC (.bl true)) (eCall f_is_answer [(eVar 2)]))))) (sRaise 7) sNil)
    (sSeq (sPar3 3 4 5 (eMNew (eC c_SAME) (eTup [])) (eLst [(eC c_SAME)]) (eCall f_gates_of [(eVar 0)]))
    (sSeq (sWhile 1000000 (eTru (eVar 4))
    (sAsg 4 (eCall f_grown [(eVar 3), (eVar 4), (eVar 5)])))
    (sRet (eUn bSortedA (eCompM itTd [2] (eVar 3) (gN 2) (eUn bAll (eComp [6, 7] (itSeq (eVar 1)) (gP 6 7) (eC (.bl true)) (eBin pEq (eBin pIdx (eVar 2) (eVar 6)) (eVar 7)))) (eVar 2)))))))))
def f_agreeing : Fn := fnOf 8 b_agreeing
def b_candidates : Stm := (sRet (eUn bTuple (eCall f_agreeing [(eVar 0), (eVar 1)])))
def f_candidates : Fn := fnOf 2 b_candidates
def b_best_word : Stm := (sSeq (sAsg 2 (eCall f_agreeing [(eVar 0), (eVar 1)]))
    (sSeq (sIf (eBin pEq (eVar 2) (eLst [])) (sRaise 7) sNil)
    (sSeq (sIf (eBin pEq (eUn bLen (eVar 2)) (eC (.int 1))) (sRet (eC .non)) sNil)
    (sSeq (sOwn 3 (eLst []))
    (sSeq (sFor (itSeq (eC c_SAME)) (gN 4)
    (sSeq (sAsg 5 (eComp [6] (itSeq (eVar 2)) (gN 6) (eC (.bl true)) (eBin pIdx (eVar 6) (eVar 4))))
    (sApp 3 (eTup [(eUn bMax (eComp [7] (itSeq (eC c_SAME)) (gN 7) (eC (.bl true)) (eLM pCnt (eVar 5) (eVar 7)))), (eVar 4)]))))
    (sRet (eBin pIdx (eUn bMinA (ePeek 3)) (eC (.int 1)))))))))
def f_best_word : Fn := fnOf 8 b_best_word
end BL
set_option Elab.async false
set_option linter.all false
set_option maxRecDepth 100000
set_option maxHeartbeats 4000000
namespace K20
open PySem PySem.Spec PyProof.Rows L2 BG BL
def b_law_all : Stm := (sSeq (sAsg 1 (eComp [2] (itSeq (eCall f_law_gates [])) (gN 2) (eBin pIn (eBin pIdx (eVar 2) (eC (.int 0))) (eVar 0)) (eCall f_law_made [(eTup [(eVar 2)])])))
    (sSeq (sTNew 3 (eUn bTuple (eUn pRng (eC (.int 8)))) (eC (.bl true)))
    (sSeq (sOwn 4 (eTList 3))
    (sSeq (sWhile 1000000 (eBin pNe (ePeek 4) (eLst []))
    (sSeq (sPop 5 4)
    (sFor (itSeq (eVar 1)) (gN 2)
    (sSeq (sAsg 6 (eUn bTuple (eComp [7] (itSeq (eVar 5)) (gN 7) (eC (.bl true)) (eBin pIdx (eVar 2) (eVar 7)))))
    (sIf (eTIn true 3 (eVar 6)) (sSeq (sTSet 3 (eVar 6) (eC (.bl true)))
    (sApp 4 (eVar 6))) sNil)))))
    (sRet (eTList 3))))))
def f_law_all : Fn := fnOf 8 (b_law_all)
def b_law (A : Nat → Addr) : Stm := (sSeq (sAsg 1 (eCall f_law_begun []))
    (sSeq (sFor (itRange1 (eC (.int 2))) (gN 2)
    (sSeq (sAsg 3 (eCall f_law_few [(eVar 0), (eVar 1)]))
    (sSeq (sAsg 4 (eCall f_law_all [(eVar 3)]))
    (sSeq (sAsg 5 (eBin pIdx (eVar 4) (eCall f_law_draw [(eVar 0), (eVar 1), (eUn bLen (eVar 4))])))
    (sSeq (sAsg 6 (eComp [14] (itRange1 (eCall f_law_draw [(eVar 0), (eVar 1), (eC (.int 4))])) (gN 14) (eC (.bl true)) (eCall f_law_draw [(eVar 0), (eVar 1), (eC (.int 8))])))
    (sSeq (sAsg 7 (eUn bTuple (eComp [10] (itSeq (eVar 6)) (gN 10) (eC (.bl true)) (eTup [(eVar 10), (eBin pIdx (eVar 5) (eVar 10))]))))
    (sSeq (sIf (eBin pEq (eCall f_law_draw [(eVar 0), (eVar 1), (eC (.int 4))]) (eC (.int 0))) (sAsg 7 (eBin pAdd (ePeek 7) (eTup [(eTup [(eCall f_law_draw [(eVar 0), (eVar 1), (eC (.int 8))]), (eCall f_law_draw [(eVar 0), (eVar 1), (eC (.int 8))])])]))) sNil)
    (sSeq (sAsg 8 (eUn bTuple (eUn bSortedA (eComp [15] (itSeq (eVar 4)) (gN 15) (eBin pEq (eComp [10, 16] (itSeq (ePeek 7)) (gP 10 16) (eBin pNe (eBin pIdx (eVar 15) (eVar 10)) (eVar 16)) (eC (.int 1))) (eLst [])) (eVar 15)))))
    (sSeq (sIf (eBin pNe (eCall f_candidates ([(eVar 3)] ++ [(eVar 7)])) (eVar 8)) (sRet (eC (.bl false))) sNil)
    (sSeq (sOwn 9 (eLst []))
    (sSeq (sFor (itRange1 (eC (.int 8))) (gN 10)
    (sSeq (sAsg 13 (eComp [15] (itSeq (eVar 8)) (gN 15) (eC (.bl true)) (eBin pIdx (eVar 15) (eVar 10))))
    (sApp 9 (eTup [(eUn bMax (eComp [16] (itRange1 (eC (.int 8))) (gN 16) (eC (.bl true)) (eLM pCnt (eVar 13) (eVar 16)))), (eVar 10)]))))
    (sSeq (sAsg 11 (eRes resNm al12 (eCall f_best_word ([(eVar 3)] ++ [(eVar 7)]))))
    (sSeq (sIf (eOr (eAnd (eBin pEq (eVar 8) (eTup [])) (eBin pNe (eVar 11) (eTup [(eC (.str "answers"))]))) (eAnd (eBin pEq (eUn bLen (eVar 8)) (eC (.int 1))) (eBin pNe (eVar 11) (eTup [(eC (.str "returns")), (eC .non)])))) (sRet (eC (.bl false))) sNil)
    (sSeq (sIf (eAnd (eBin pGt (eUn bLen (eVar 8)) (eC (.int 1))) (eBin pNe (eVar 11) (eTup [(eC (.str "returns")), (eBin pIdx (eUn bMinA (ePeek 9)) (eC (.int 1)))]))) (sRet (eC (.bl false))) sNil)
    (sFor (itSeq (eTup [(eC .non), (eLst []), (eTup [(eTup [(eC (.int 0))])]), (eTup [(eTup [(eC (.int 0)), (eC (.int 8))])]), (eTup [(eTup [(eUn pNeg (eC (.int 1))), (eC (.int 0))])]), (eTup [(eTup [(eC (.int 0)), (eC (.bl true))])]), (eTup [(eC (.int 0)), (eC (.int 0))]), (eTup [(eLst [(eC (.int 0)), (eC (.int 0))])])])) (gN 12)
    (sSeq (sOwn 7 (eLst [(eRes resNm al12 (eCall f_candidates [(eVar 3), (eVar 12)]))]))
    (sIf (eBin pNe (eBin pAdd (ePeek 7) (eLst [(eRes resNm al12 (eCall f_best_word [(eVar 3), (eVar 12)]))])) (eBin pMul (eLst [(eTup [(eC (.str "answers"))])]) (eC (.int 2)))) (sRet (eC (.bl false))) sNil)))))))))))))))))
    (sSeq (sForF [A 0, A 1] 17
    (sSeq (sOwn 7 (eLst [(eRes resNm al12 (eCallR 17 [(A 0, f_candidates), (A 1, f_best_word)] [(eTup [(eC (.str "not")), (eC (.str "if"))]), (eC .non)]))]))
    (sSeq (sApp 7 (eRes resNm al12 (eCallR 17 [(A 0, f_candidates), (A 1, f_best_word)] [(eTup [(eC (.str "both")), (eC (.str "if"))]), (eC .non)])))
    (sIf (eBin pNe (eBin pAdd (ePeek 7) (eLst [(eRes resNm al12 (eCallR 17 [(A 0, f_candidates), (A 1, f_best_word)] [(eTup [(eC (.str "both")), (eC (.str "not"))]), (eTup [])]))])) (eLst [(eTup [(eC (.str "kinds"))]), (eTup [(eC (.str "many"))]), (eTup [(eC (.str "many"))])])) (sRet (eC (.bl false))) sNil))))
    (sRet (eC (.bl true))))))
def f_law (A : Nat → Addr) : Fn := fnOf 18 (b_law A)
end K20
set_option Elab.async false
set_option linter.all false
set_option maxRecDepth 100000
set_option maxHeartbeats 4000000
namespace K20
open PySem PySem.Spec PyProof.Rows L2 BG BL
def topS (i : Nat) : Stmt := PySem.Challenge.pw_backgates_k20_hidden.main.body.getD i (.Pass ⟨0, 0, 0, 0⟩)
structure Mg (K : PySem.W.Frag) (w : World) (mg : Str → Option Value) (C : Cn) : Prop extends Bt mg where
  hK : C.K = K
  cKINDS : ∃ a, mg "KINDS" = some (.ref a) ∧ ∀ g, Rp K g (.ref a) c_KINDS
  cSAME : ∃ a, mg "SAME" = some (.ref a) ∧ ∀ g, Rp K g (.ref a) c_SAME
  eInvalidKinds : mg "InvalidKinds" = some (.ref (C.ex 5)) ∧ PySem.W.excIn K (C.ex 5) [.type "ValueError", .type "Exception", .type "BaseException", .type "object"] "ValueError.__new__" = true ∧ PySem.W.keepIn K (.ref (C.ex 5)) = true ∧ PySem.W.subIn K (.ref (C.ex 5)) (.type "BaseException") = true ∧ PySem.W.typeIn K (.ref (C.ex 5)) = some (.type "type")
  eInvalidAnswers : mg "InvalidAnswers" = some (.ref (C.ex 7)) ∧ PySem.W.excIn K (C.ex 7) [.type "ValueError", .type "Exception", .type "BaseException", .type "object"] "ValueError.__new__" = true ∧ PySem.W.keepIn K (.ref (C.ex 7)) = true ∧ PySem.W.subIn K (.ref (C.ex 7)) (.type "BaseException") = true ∧ PySem.W.typeIn K (.ref (C.ex 7)) = some (.type "type")
  eTooMany : mg "TooMany" = some (.ref (C.ex 9)) ∧ PySem.W.excIn K (C.ex 9) [.type "ValueError", .type "Exception", .type "BaseException", .type "object"] "ValueError.__new__" = true ∧ PySem.W.keepIn K (.ref (C.ex 9)) = true ∧ PySem.W.subIn K (.ref (C.ex 9)) (.type "BaseException") = true ∧ PySem.W.typeIn K (.ref (C.ex 9)) = some (.type "type")
theorem g_KINDS {X : Cx} {C : Cn} {E : XK} {pos : Pos} (M : Mg X.K X.w X.mg C) (hg : Gl X "KINDS" := by rfl) : CE X C E (.Name "KINDS" pos) (eC c_KINDS) := by
  obtain ⟨a, h1, h2⟩ := M.cKINDS
  exact ce_glob (v := .ref a) h1 rfl h2 hg
theorem g_SAME {X : Cx} {C : Cn} {E : XK} {pos : Pos} (M : Mg X.K X.w X.mg C) (hg : Gl X "SAME" := by rfl) : CE X C E (.Name "SAME" pos) (eC c_SAME) := by
  obtain ⟨a, h1, h2⟩ := M.cSAME
  exact ce_glob (v := .ref a) h1 rfl h2 hg
theorem x_InvalidKinds {X : Cx} {C : Cn} {E : XK} {m : Str} {j : Nat} {p p2 pos pos' : Pos} (M : Mg X.K X.w X.mg C) (tk : Takes X (fun cls d _ H => E cls d H)) (hc : X.calm = true := by rfl) (hg : Gl X "InvalidKinds" := by rfl) : CS X C E (.Raise (some (.Call (.Name "InvalidKinds" p) [.Constant (.str m) j p2] [] pos)) none pos') (sRaise 5) := by
  obtain ⟨h1, h2, h3, h4, h5⟩ := M.eInvalidKinds
  exact cs_raise (W := fun cls d _ H => E cls d H) 5 PySem.F.excBase_ValueError h2 h1 h3 (raises_own h4 h5) tk hc hg
theorem x_InvalidAnswers {X : Cx} {C : Cn} {E : XK} {m : Str} {j : Nat} {p p2 pos pos' : Pos} (M : Mg X.K X.w X.mg C) (tk : Takes X (fun cls d _ H => E cls d H)) (hc : X.calm = true := by rfl) (hg : Gl X "InvalidAnswers" := by rfl) : CS X C E (.Raise (some (.Call (.Name "InvalidAnswers" p) [.Constant (.str m) j p2] [] pos)) none pos') (sRaise 7) := by
  obtain ⟨h1, h2, h3, h4, h5⟩ := M.eInvalidAnswers
  exact cs_raise (W := fun cls d _ H => E cls d H) 7 PySem.F.excBase_ValueError h2 h1 h3 (raises_own h4 h5) tk hc hg
theorem x_TooMany {X : Cx} {C : Cn} {E : XK} {m : Str} {j : Nat} {p p2 pos pos' : Pos} (M : Mg X.K X.w X.mg C) (tk : Takes X (fun cls d _ H => E cls d H)) (hc : X.calm = true := by rfl) (hg : Gl X "TooMany" := by rfl) : CS X C E (.Raise (some (.Call (.Name "TooMany" p) [.Constant (.str m) j p2] [] pos)) none pos') (sRaise 9) := by
  obtain ⟨h1, h2, h3, h4, h5⟩ := M.eTooMany
  exact cs_raise (W := fun cls d _ H => E cls d H) 9 PySem.F.excBase_ValueError h2 h1 h3 (raises_own h4 h5) tk hc hg
abbrev s_law_result : Stmt := topS 38
theorem sc_law_result : FnScope ngR ["call"] (defScope s_law_result) := ⟨rfl, rfl, rfl, by decide +kernel, rfl, by decide +kernel, by decide +kernel⟩
structure ResF (K : PySem.W.Frag) (mg : Str → Option Value) (C : Cn) : Prop where
  ex : ∃ (g GE : Addr) (oc : Value) (od : Option Addr) (osl : Array (Option Value)) (kV doc pm : Value) (an : Option Addr) (cdv ct : Value), mg "_law_result" = some (.ref g) ∧ PySem.W.keepIn K (.ref g) = true ∧
    K.lookup g = some ⟨oc, od, .func (PySem.W.fnOf "_law_result" "_law_result" (defArgs s_law_result) (defBody s_law_result) (defScope s_law_result) .none kV doc pm an cdv ct), osl⟩ ∧ PySem.W.codeIn K cdv "_law_result" = true ∧ mg "GateError" = some (.ref GE) ∧ excOk K GE C.ex = true
  c0 : mg "InvalidGate" = some (.ref (C.ex 0))
  c1 : mg "InvalidCircuit" = some (.ref (C.ex 1))
  c2 : mg "InvalidWord" = some (.ref (C.ex 2))
  c3 : mg "InvalidExchange" = some (.ref (C.ex 3))
  c4 : mg "InvalidLines" = some (.ref (C.ex 4))
  c5 : mg "InvalidKinds" = some (.ref (C.ex 5))
  c6 : mg "InvalidFunction" = some (.ref (C.ex 6))
  c7 : mg "InvalidAnswers" = some (.ref (C.ex 7))
  c8 : mg "InvalidText" = some (.ref (C.ex 8))
  c9 : mg "TooMany" = some (.ref (C.ex 9))
  c10 : mg "Empty" = some (.ref (C.ex 10))
  c11 : mg "NothingToUndo" = some (.ref (C.ex 11))
  ve : mg "ValueError" = none
theorem r_res {X : Cx} {C : Cn} {E : XK} {k : Nat} {c : Addr} {x : Str} {params : Arguments} {body : Expr} {scope : Scope} {fb : Ex} {p lpos pos : Pos}
    (M : Bt X.mg) (R : ResF X.K X.mg C) (Lm : LamD X.base X.mg C x c) (hcode : X.env.code = .ref c) (hq : X.env.qual = x ++ ".<locals>.") (hr : Room (k + 2) X.A) (L : LamX.LamS X.env.scope scope)
    (hbody : ∀ (A : Around) (outer : List Env) (s : Shared) (H : Hp) (E : XK) (f c' : Addr), Room k (A.deeper (LamX.lamEnv X scope s.heap.objs.size f c')) → CE (LamX.lamCx X A outer s H E scope f c') C E body fb)
    (hg : Gl X "_law_result" := by rfl) (hdef : defaultsOf params X.env = ([], []) := by rfl)
    (hbind : ∀ (q : Str) (cl : List (Str × Addr)) (pm cv ctv : Value), bindArgs (PySem.W.kla_fn "<lambda>" q params body scope cl pm cv ctv) ⟨[], []⟩ = pure [] := by intros; rfl) :
    CE X C E (.Call (.Name "_law_result" p) [.Lambda params body scope lpos] [] pos) (eRes resNm al12 fb) := by
  obtain ⟨g, GE, oc, od, osl, kV, doc, pm, an, cdv, ct, h1, h2, h3, h4, h5, h6⟩ := R.ex
  obtain ⟨P, tb, m1, m2⟩ := Lm.ex
  have EA := excOk_all h6
  rw [← hq] at m1 m2
  have hu : ∀ env, (X.A.deeper env).units + 1 < cLine := fun env => (hr.deeper env).u1
  have F := fun_mk (st := s_law_result) h3 h4 h2
  refine ce_res h1 h2 h3 h4 (F.binds (ps := ["call"]) fun _ _ _ _ _ _ us hl => match us, hl with | [_], _ => rfl) sc_law_result (.inl rfl) ?_ tb hcode m1 m2 hr L hbody hg hdef hbind
  refine gives_of (C := C) (al := al12) rfl sc_law_result.nd (fun s H => ?_) h5 rfl rfl rfl rfl EA.exm (fun s H => ?_) (bRes1 (K := X.K) (C := C) (exs := exs12 C.ex)) (fun c hc => bRes2 (of_decide_eq_true hc) (EA.kit c (of_decide_eq_true hc)))
  · exact PS.imp (ps_asg (pe_tup (pa_cons pe_non (pa_cons pe_non pa_nil rfl) rfl)) (pg_tup rfl (pgs_cons (pg_name (i := 1) sc_law_result.nd rfl (.inl rfl) (.inl rfl)) (pgs_cons (pg_name (i := 2) sc_law_result.nd rfl (.inl rfl) (.inl rfl)) pgs_nil rfl) rfl) rfl rfl) rfl rfl rfl) fun De σ H q => ⟨by decide, fun a ha => ⟨a, _, rfl, .inl (.inl upd_same), rfl, _, _, rfl, _, _, rfl, rfl, q a ha⟩⟩
  · exact css_cons (cs_if (ct_noE 1) (css_one (cs_ret (ce_tup (ca_cons ce_str (ca_cons (ce_var 2) ca_nil))))) css_nil)
      (css_cons (cs_dic 4 sc_law_result.nd (cps_cons (ce_isE 1 EA.F M.isinstance R.c0) (cps_cons (ce_isE 1 EA.F M.isinstance R.c1) cps_nil)))
      (css_cons (cs_dupd 4 (cps_cons (ce_isE 1 EA.F M.isinstance R.c2) (cps_cons (ce_isE 1 EA.F M.isinstance R.c3) cps_nil)))
      (css_cons (cs_dupd 4 (cps_cons (ce_isE 1 EA.F M.isinstance R.c4) (cps_cons (ce_isE 1 EA.F M.isinstance R.c5) cps_nil)))
      (css_cons (cs_dupd 4 (cps_cons (ce_isE 1 EA.F M.isinstance R.c6) (cps_cons (ce_isE 1 EA.F M.isinstance R.c7) cps_nil)))
      (css_cons (cs_dupd 4 (cps_cons (ce_isE 1 EA.F M.isinstance R.c8) (cps_cons (ce_isE 1 EA.F M.isinstance R.c9) cps_nil)))
      (css_cons (cs_dupd 4 (cps_cons (ce_isE 1 EA.F M.isinstance R.c10) (cps_cons (ce_isE 1 EA.F M.isinstance R.c11) cps_nil)))
      (css_cons (cs_frzD 4 (cs_asgLc 5 (own := [("name", 6)]) (is := [6]) rfl sc_law_result.nd rfl (sw_true rfl rfl rfl (by decide +kernel)) (ci_w (ci_dic 4)) (blkOk_by (N := ngR) (sc := (defScope s_law_result)) (by decide +kernel)) (by decide) (fun _ _ _ _ _ => (cg_name 6 sc_law_result.nd)) (fun _ _ _ _ _ => (cts_one (ct_val (ce_dix 4 (hu _) (ce_var 6))))) (fun _ _ _ _ _ => (ce_var 6))))
      (css_one (cs_ret (ce_if (ct_w (cw_and (ct_cmp (bin_eq (hr.deeper _).units) (e2w (ce_callB1 cr_len M.len bt_len (e2w (ce_var 5)))) (e2w ce_int)) (pw_and1 (ct_val (ce_isEb 1 EA.F M.isinstance R.ve (by decide +kernel)))))) (ce_tup (ca_cons (ce_ix (e2w (ce_var 5)) (e2w ce_int)) ca_nil)) (ce_tup (ca_cons ce_str ca_nil))))))))))))
section
variable {P : Program} {w : World} {K : PySem.W.Frag} {mg : Str → Option Value} {base : Heap} {C : Cn}
abbrev s_is_between : Stmt := topS 17
theorem sc_is_between : FnScope ["value", "low", "high"] ["value", "low", "high"] (defScope s_is_between) := ⟨rfl, rfl, rfl, by decide +kernel, rfl, by decide +kernel, by decide +kernel⟩
theorem ok_is_between {f : Addr} {fd : FuncData} (M : Mg K w mg C) (F : Fun K "is_between" "is_between" s_is_between f fd)  :
    FnOk P w K mg base (L2.CX P w) 1 f fd ["value", "low", "high"] (spF K C 3 f_is_between) :=
  fn_ok (N := ["value", "low", "high"]) F sc_is_between fun cdv A outer s H E hr =>
    (css_one (cs_ret (ce_and (ce_isi .int M.isinstance M.int bt_int (e2w (ce_var 0))) (ce_and (ce_not (ce_isi .bool M.isinstance M.bool bt_bool (e2w (ce_var 0)))) (ce_one (ce_chain bin_le bin_le (e2w (ce_var 1)) (e2w (ce_var 0)) (e2w (ce_var 2))))))))
abbrev s_is_ascending : Stmt := topS 18
theorem sc_is_ascending : FnScope ["values", "one", "other"] ["values"] (defScope s_is_ascending) := ⟨rfl, rfl, rfl, by decide +kernel, rfl, by decide +kernel, by decide +kernel⟩
theorem ok_is_ascending {f : Addr} {fd : FuncData} (M : Mg K w mg C) (F : Fun K "is_ascending" "is_ascending" s_is_ascending f fd)  :
    FnOk P w K mg base (L2.CX P w) 1 f fd ["values"] (spF K C 1 f_is_ascending) :=
  fn_ok (N := ["values", "one", "other"]) F sc_is_ascending fun cdv A outer s H E hr =>
    (css_one (cs_ret (ce_callB1 (cr_allD rfl) M.all bt_all (f2w (cf_comp (own := [("one", 1), ("other", 2)]) (is := [1, 2]) rfl sc_is_ascending.nd (ci_w (ci_zip M.zip (ce_var 0) (ce_slice (e2w (ce_var 0)) (co_some ce_int) co_none))) (blkOk_by (N := ["values", "one", "other"]) (sc := (defScope s_is_ascending)) (by decide +kernel)) (by decide) (fun _ _ _ _ _ => (cg_pair 1 2 sc_is_ascending.nd)) (fun _ _ _ _ _ => cts_nil) (fun _ _ _ _ _ => (ce_cmp bin_lt (e2w (ce_var 1)) (e2w (ce_var 2)))))))))
abbrev s_listed : Stmt := topS 19
theorem sc_listed : FnScope ["found", "one", "other", "third"] [] (defScope s_listed) := ⟨rfl, rfl, rfl, by decide +kernel, rfl, by decide +kernel, by decide +kernel⟩
theorem ok_listed {f : Addr} {fd : FuncData} (M : Mg K w mg C) (F : Fun K "listed" "listed" s_listed f fd)  :
    FnOk P w K mg base (L2.CX P w) 1 f fd [] (spF K C 0 f_listed) :=
  fn_ok (N := ["found", "one", "other", "third"]) F sc_listed fun cdv A outer s H E hr =>
    (css_cons (cs_own 0 sc_listed.nd (cf_lst ca_nil))
    (css_cons (cs_for rfl (ci_range1 M.range ce_int) (cg_name 1 sc_listed.nd)
    (css_cons (cs_app 0 (ce_tup (ca_cons ce_str (ca_cons (ce_var 1) ca_nil))))
    (css_one (cs_for rfl (ci_range1 M.range ce_int) (cg_name 2 sc_listed.nd)
    (css_cons (cs_if (ct_cmp (bin_ne hr.units) (e2w (ce_var 1)) (e2w (ce_var 2))) (css_one (cs_app 0 (ce_tup (ca_cons ce_str (ca_cons (ce_var 1) (ca_cons (ce_var 2) ca_nil)))))) css_nil)
    (css_one (cs_if (ct_cmp bin_lt (e2w (ce_var 1)) (e2w (ce_var 2))) (css_cons (cs_asg 3 sc_listed.nd (ce_bin bin_sub (e2w (ce_bin bin_sub (e2w ce_int) (e2w (ce_var 1)))) (e2w (ce_var 2))))
    (css_one (cs_ext 0 (f2w (cf_lst (ca_cons (ce_tup (ca_cons ce_str (ca_cons (ce_var 1) (ca_cons (ce_var 2) (ca_cons (ce_var 3) ca_nil))))) (ca_cons (ce_tup (ca_cons ce_str (ca_cons (ce_var 1) (ca_cons (ce_var 2) ca_nil)))) (ca_cons (ce_tup (ca_cons ce_str (ca_cons (ce_var 3) (ca_cons (ce_var 1) (ca_cons (ce_var 2) ca_nil))))) ca_nil)))))))) css_nil)))))))
    (css_one (cs_ret (ce_callB1 (cr_sortedA hr.units) M.sorted bt_sorted (cw_peek 0))))))
abbrev s_weight_of : Stmt := topS 20
theorem sc_weight_of : FnScope ["line"] ["line"] (defScope s_weight_of) := ⟨rfl, rfl, rfl, by decide +kernel, rfl, by decide +kernel, by decide +kernel⟩
theorem ok_weight_of {f : Addr} {fd : FuncData} (M : Mg K w mg C) (F : Fun K "weight_of" "weight_of" s_weight_of f fd)  :
    FnOk P w K mg base (L2.CX P w) 1 f fd ["line"] (spF K C 1 f_weight_of) :=
  fn_ok (N := ["line"]) F sc_weight_of fun cdv A outer s H E hr =>
    (css_one (cs_ret (ce_ix (e2w (ce_tup (ca_cons ce_int (ca_cons ce_int (ca_cons ce_int ca_nil))))) (e2w (ce_var 0)))))
abbrev s_bit : Stmt := topS 21
theorem sc_bit : FnScope ["word", "line"] ["word", "line"] (defScope s_bit) := ⟨rfl, rfl, rfl, by decide +kernel, rfl, by decide +kernel, by decide +kernel⟩
theorem ok_bit {f : Addr} {fd : FuncData} (M : Mg K w mg C) (F : Fun K "bit" "bit" s_bit f fd) (fd_weight_of : Fd P w K mg base C 1 "weight_of" 1 f_weight_of) :
    FnOk P w K mg base (L2.CX P w) 2 f fd ["word", "line"] (spF K C 2 f_bit) :=
  fn_ok (N := ["word", "line"]) F sc_bit fun cdv A outer s H E hr =>
    (css_one (cs_ret (ce_bin bin_mod (e2w (ce_bin bin_div (e2w (ce_var 0)) (e2w (ce_call fd_weight_of hr (by decide) passC (ca_cons (ce_var 1) ca_nil))))) (e2w ce_int))))
abbrev s_applied : Stmt := topS 22
theorem sc_applied : FnScope ["gate", "word", "kind", "lines", "line", "one", "other"] ["gate", "word"] (defScope s_applied) := ⟨rfl, rfl, rfl, by decide +kernel, rfl, by decide +kernel, by decide +kernel⟩
theorem ok_applied {f : Addr} {fd : FuncData} (M : Mg K w mg C) (F : Fun K "applied" "applied" s_applied f fd) (fd_bit : Fd P w K mg base C 2 "bit" 2 f_bit) (fd_weight_of : Fd P w K mg base C 1 "weight_of" 1 f_weight_of) :
    FnOk P w K mg base (L2.CX P w) 3 f fd ["gate", "word"] (spF K C 2 f_applied) :=
  fn_ok (N := ["gate", "word", "kind", "lines", "line", "one", "other"]) F sc_applied fun cdv A outer s H E hr =>
    (css_cons (cs_par 2 3 sc_applied.nd (ce_ix (e2w (ce_var 0)) (e2w ce_int)) (ce_slice (e2w (ce_var 0)) (co_some ce_int) co_none))
    (css_cons (cs_if (ct_cmp (bin_in hr.u65) (e2w (ce_var 2)) (e2w (ce_tup (ca_cons ce_str (ca_cons ce_str (ca_cons ce_str ca_nil)))))) (css_cons (cs_if (ct_val (ce_callB1 (cr_allD rfl) M.all bt_all (f2w (cf_comp (own := [("line", 4)]) (is := [4]) rfl sc_applied.nd (ciw_seq (e2w (ce_slice (e2w (ce_var 3)) co_none (co_some (ce_neg ce_int))))) (blkOk_by (N := ["gate", "word", "kind", "lines", "line", "one", "other"]) (sc := (defScope s_applied)) (by decide +kernel)) (by decide) (fun _ _ _ _ _ => (cg_name 4 sc_applied.nd)) (fun _ _ _ _ _ => cts_nil) (fun _ _ _ _ _ => (ce_cmp (bin_eq hr.units) (e2w (ce_call fd_bit hr (by decide) passL (ca_cons (ce_var 1) (ca_cons (ce_var 4) ca_nil)))) (e2w ce_int))))))) (css_one (cs_ret (ce_bin bin_xor (e2w (ce_var 1)) (e2w (ce_call fd_weight_of hr (by decide) passC (ca_cons (ce_ix (e2w (ce_var 3)) (e2w (ce_neg ce_int))) ca_nil)))))) css_nil)
    (css_one (cs_ret (ce_var 1)))) css_nil)
    (css_cons (cs_if (ct_w (cw_and (ct_cmp (bin_eq hr.units) (e2w (ce_var 2)) (e2w ce_str)) (pw_and1 (ct_cmp (bin_eq hr.units) (e2w (ce_call fd_bit hr (by decide) passC (ca_cons (ce_var 1) (ca_cons (ce_ix (e2w (ce_var 3)) (e2w ce_int)) ca_nil)))) (e2w ce_int))))) (css_one (cs_ret (ce_var 1))) css_nil)
    (css_cons (cs_asgG (ce_slice (e2w (ce_var 3)) (co_some (ce_neg ce_int)) co_none) (cg_pair 5 6 sc_applied.nd))
    (css_cons (cs_if (ct_cmp (bin_eq hr.units) (e2w (ce_call fd_bit hr (by decide) passC (ca_cons (ce_var 1) (ca_cons (ce_var 5) ca_nil)))) (e2w (ce_call fd_bit hr (by decide) passC (ca_cons (ce_var 1) (ca_cons (ce_var 6) ca_nil))))) (css_one (cs_ret (ce_var 1))) css_nil)
    (css_one (cs_ret (ce_bin bin_xor (e2w (ce_bin bin_xor (e2w (ce_var 1)) (e2w (ce_call fd_weight_of hr (by decide) passC (ca_cons (ce_var 5) ca_nil))))) (e2w (ce_call fd_weight_of hr (by decide) passC (ca_cons (ce_var 6) ca_nil)))))))))))
abbrev s_made : Stmt := topS 23
theorem sc_made : FnScope ["circuit", "found", "gate", "word"] ["circuit"] (defScope s_made) := ⟨rfl, rfl, rfl, by decide +kernel, rfl, by decide +kernel, by decide +kernel⟩
theorem ok_made {f : Addr} {fd : FuncData} (M : Mg K w mg C) (F : Fun K "made" "made" s_made f fd) (fd_applied : Fd P w K mg base C 3 "applied" 2 f_applied) :
    FnOk P w K mg base (L2.CX P w) 4 f fd ["circuit"] (spF K C 1 f_made) :=
  fn_ok (N := ["circuit", "found", "gate", "word"]) F sc_made fun cdv A outer s H E hr =>
    (css_cons (cs_asg 1 sc_made.nd (f2e (cf_list M.list bt_list (e2w (g_SAME M)))))
    (css_cons (cs_for rfl (ci_seq (ce_var 0)) (cg_name 2 sc_made.nd)
    (css_one (cs_asgLc 1 (own := [("word", 3)]) (is := [3]) rfl sc_made.nd rfl (sw_true rfl rfl rfl (by decide +kernel)) (ciw_seq (e2w (ce_var 1))) (blkOk_by (N := ["circuit", "found", "gate", "word"]) (sc := (defScope s_made)) (by decide +kernel)) (by decide) (fun _ _ _ _ _ => (cg_name 3 sc_made.nd)) (fun _ _ _ _ _ => cts_nil) (fun _ _ _ _ _ => (ce_call fd_applied hr (by decide) passL (ca_cons (ce_var 2) (ca_cons (ce_var 3) ca_nil)))))))
    (css_one (cs_ret (ce_callTy1 cr_tuple M.tuple bt_tuple (e2w (ce_var 1)))))))
abbrev s_then : Stmt := topS 25
theorem sc_then : FnScope ["one", "other", "word"] ["one", "other"] (defScope s_then) := ⟨rfl, rfl, rfl, by decide +kernel, rfl, by decide +kernel, by decide +kernel⟩
theorem ok_then {f : Addr} {fd : FuncData} (M : Mg K w mg C) (F : Fun K "then" "then" s_then f fd)  :
    FnOk P w K mg base (L2.CX P w) 1 f fd ["one", "other"] (spF K C 2 f_then) :=
  fn_ok (N := ["one", "other", "word"]) F sc_then fun cdv A outer s H E hr =>
    (css_one (cs_ret (ce_callTy1 cr_tuple M.tuple bt_tuple (f2w (cf_comp (own := [("word", 2)]) (is := [2]) rfl sc_then.nd (ciw_seq (e2w (ce_var 0))) (blkOk_by (N := ["one", "other", "word"]) (sc := (defScope s_then)) (by decide +kernel)) (by decide) (fun _ _ _ _ _ => (cg_name 2 sc_then.nd)) (fun _ _ _ _ _ => cts_nil) (fun _ _ _ _ _ => (ce_ix (e2w (ce_var 1)) (e2w (ce_var 2)))))))))
abbrev s_check_kinds : Stmt := topS 27
theorem sc_check_kinds : FnScope ["kinds", "kind"] ["kinds"] (defScope s_check_kinds) := ⟨rfl, rfl, rfl, by decide +kernel, rfl, by decide +kernel, by decide +kernel⟩
theorem ok_check_kinds {f : Addr} {fd : FuncData} (M : Mg K w mg C) (F : Fun K "check_kinds" "check_kinds" s_check_kinds f fd) (fd_is_ascending : Fd P w K mg base C 1 "is_ascending" 1 f_is_ascending) :
    FnOk P w K mg base (L2.CX P w) 2 f fd ["kinds"] (spF K C 1 f_check_kinds) :=
  fn_ok (N := ["kinds", "kind"]) F sc_check_kinds fun cdv A outer s H E hr =>
    (css_cons (cs_if (ct_w (cw_or (ct_not (ct_val (ce_isi .tuple M.isinstance M.tuple bt_tuple (e2w (ce_var 0))))) (cw_or (ct_cmp (bin_eq hr.units) (e2w (ce_var 0)) (e2w (ce_tup ca_nil))) (pw_or1 (ct_not (ct_val (ce_callB1 (cr_allD rfl) M.all bt_all (f2w (cf_comp (own := [("kind", 1)]) (is := [1]) rfl sc_check_kinds.nd (ciw_seq (e2w (ce_var 0))) (blkOk_by (N := ["kinds", "kind"]) (sc := (defScope s_check_kinds)) (by decide +kernel)) (by decide) (fun _ _ _ _ _ => (cg_name 1 sc_check_kinds.nd)) (fun _ _ _ _ _ => cts_nil) (fun _ _ _ _ _ => (ce_isi .str M.isinstance M.str bt_str (e2w (ce_var 1))))))))))))) (css_one (x_InvalidKinds M (takes_of rfl rfl rfl rfl))) css_nil)
    (css_one (cs_if (ct_w (cw_or (ct_not (ct_val (ce_callB1 (cr_allD rfl) M.all bt_all (f2w (cf_comp (own := [("kind", 1)]) (is := [1]) rfl sc_check_kinds.nd (ciw_seq (e2w (ce_var 0))) (blkOk_by (N := ["kinds", "kind"]) (sc := (defScope s_check_kinds)) (by decide +kernel)) (by decide) (fun _ _ _ _ _ => (cg_name 1 sc_check_kinds.nd)) (fun _ _ _ _ _ => cts_nil) (fun _ _ _ _ _ => (ce_cmp (bin_in hr.u65) (e2w (ce_var 1)) (e2w (g_KINDS M))))))))) (pw_or1 (ct_not (ct_val (ce_call fd_is_ascending hr (by decide) passC (ca_cons (ce_var 0) ca_nil))))))) (css_one (x_InvalidKinds M (takes_of rfl rfl rfl rfl))) css_nil)))
abbrev s_counted : Stmt := topS 28
theorem sc_counted : FnScope ["kinds"] ["kinds"] (defScope s_counted) := ⟨rfl, rfl, rfl, by decide +kernel, rfl, by decide +kernel, by decide +kernel⟩
theorem ok_counted {f : Addr} {fd : FuncData} (M : Mg K w mg C) (F : Fun K "counted" "counted" s_counted f fd)  :
    FnOk P w K mg base (L2.CX P w) 1 f fd ["kinds"] (spF K C 1 f_counted) :=
  fn_ok (N := ["kinds"]) F sc_counted fun cdv A outer s H E hr =>
    (css_cons (cs_if (ct_cmp (bin_in hr.u65) (e2w ce_str) (e2w (ce_var 0))) (css_cons (cs_if (ct_w (cw_or (ct_cmp (bin_in hr.u65) (e2w ce_str) (e2w (ce_var 0))) (pw_or1 (ct_cmp (bin_in hr.u65) (e2w ce_str) (e2w (ce_var 0)))))) (css_one (cs_ret (ce_if (ct_cmp (bin_in hr.u65) (e2w ce_str) (e2w (ce_var 0))) ce_int ce_int))) css_nil)
    (css_one (cs_ret (ce_if (ct_cmp (bin_in hr.u65) (e2w ce_str) (e2w (ce_var 0))) ce_int ce_int)))) css_nil)
    (css_cons (cs_if (ct_cmp (bin_in hr.u65) (e2w ce_str) (e2w (ce_var 0))) (css_cons (cs_if (ct_cmp (bin_in hr.u65) (e2w ce_str) (e2w (ce_var 0))) (css_one (cs_ret ce_int)) css_nil)
    (css_one (cs_ret (ce_if (ct_cmp (bin_in hr.u65) (e2w ce_str) (e2w (ce_var 0))) ce_int (ce_if (ct_cmp (bin_in hr.u65) (e2w ce_str) (e2w (ce_var 0))) ce_int ce_int))))) css_nil)
    (css_cons (cs_if (ct_cmp (bin_in hr.u65) (e2w ce_str) (e2w (ce_var 0))) (css_one (cs_ret (ce_if (ct_cmp (bin_in hr.u65) (e2w ce_str) (e2w (ce_var 0))) ce_int ce_int))) css_nil)
    (css_one (cs_ret (ce_if (ct_cmp (bin_eq hr.units) (e2w (ce_callB1 cr_len M.len bt_len (e2w (ce_var 0)))) (e2w ce_int)) ce_int ce_int))))))
abbrev s_gates_of : Stmt := topS 30
theorem sc_gates_of : FnScope ["kinds", "gate"] ["kinds"] (defScope s_gates_of) := ⟨rfl, rfl, rfl, by decide +kernel, rfl, by decide +kernel, by decide +kernel⟩
theorem ok_gates_of {f : Addr} {fd : FuncData} (M : Mg K w mg C) (F : Fun K "gates_of" "gates_of" s_gates_of f fd) (fd_listed : Fd P w K mg base C 1 "listed" 0 f_listed) (fd_made : Fd P w K mg base C 4 "made" 1 f_made) :
    FnOk P w K mg base (L2.CX P w) 5 f fd ["kinds"] (spF K C 1 f_gates_of) :=
  fn_ok (N := ["kinds", "gate"]) F sc_gates_of fun cdv A outer s H E hr =>
    (css_one (cs_ret (f2e (cf_comp (own := [("gate", 1)]) (is := [1]) rfl sc_gates_of.nd (ciw_seq (e2w (ce_call0 fd_listed hr (by decide) passC))) (blkOk_by (N := ["kinds", "gate"]) (sc := (defScope s_gates_of)) (by decide +kernel)) (by decide) (fun _ _ _ _ _ => (cg_name 1 sc_gates_of.nd)) (fun _ _ _ _ _ => (cts_one (ct_cmp (bin_in hr.u65) (e2w (ce_ix (e2w (ce_var 1)) (e2w ce_int))) (e2w (ce_var 0))))) (fun _ _ _ _ _ => (ce_tup (ca_cons (ce_var 1) (ca_cons (ce_call fd_made hr (by decide) passL (ca_cons (ce_tup (ca_cons (ce_var 1) ca_nil)) ca_nil)) ca_nil))))))))
abbrev s_grown : Stmt := topS 31
theorem sc_grown : FnScope ["known", "level", "gates", "found", "here", "gate", "exchange", "there"] ["known", "level", "gates"] (defScope s_grown) := ⟨rfl, rfl, rfl, by decide +kernel, rfl, by decide +kernel, by decide +kernel⟩
theorem ok_grown {f : Addr} {fd : FuncData} (M : Mg K w mg C) (F : Fun K "grown" "grown" s_grown f fd) (fd_then : Fd P w K mg base C 1 "then" 2 f_then) :
    FnOk P w K mg base (L2.CX P w) 2 f fd ["known", "level", "gates"] (spF K C 3 f_grown) :=
  fn_ok (N := ["known", "level", "gates", "found", "here", "gate", "exchange", "there"]) F sc_grown fun cdv A outer s H E hr =>
    (css_cons (cs_own 3 sc_grown.nd (cf_lst ca_nil))
    (css_cons (cs_for rfl (ci_seq (ce_var 1)) (cg_name 4 sc_grown.nd)
    (css_one (cs_for rfl (ci_seq (ce_var 2)) (cg_pair 5 6 sc_grown.nd)
    (css_cons (cs_asg 7 sc_grown.nd (ce_call fd_then hr (by decide) passL (ca_cons (ce_var 4) (ca_cons (ce_var 6) ca_nil))))
    (css_one (cs_if (ct_mnin M.hK hr.u1 (ce_var 7) (ce_var 0)) (css_cons (cs_mset M.hK hr.u1 (ce_var 0) (ce_var 7) (ce_bin bin_add (e2w (ce_mix M.hK hr.u1 (ce_var 0) (ce_var 4))) (e2w (ce_tup (ca_cons (ce_var 5) ca_nil)))))
    (css_one (cs_app 3 (ce_var 7)))) css_nil))))))
    (css_one (cs_frz 3 (cs_ret (ce_var 3))))))
abbrev s_is_answer : Stmt := topS 33
theorem sc_is_answer : FnScope ["value", "word"] ["value"] (defScope s_is_answer) := ⟨rfl, rfl, rfl, by decide +kernel, rfl, by decide +kernel, by decide +kernel⟩
theorem ok_is_answer {f : Addr} {fd : FuncData} (M : Mg K w mg C) (F : Fun K "is_answer" "is_answer" s_is_answer f fd) (fd_is_between : Fd P w K mg base C 1 "is_between" 3 f_is_between) :
    FnOk P w K mg base (L2.CX P w) 2 f fd ["value"] (spF K C 1 f_is_answer) :=
  fn_ok (N := ["value", "word"]) F sc_is_answer fun cdv A outer s H E hr =>
    (css_one (cs_ret (ce_and (ce_isi .tuple M.isinstance M.tuple bt_tuple (e2w (ce_var 0))) (ce_and (ce_cmp (bin_eq hr.units) (e2w (ce_callB1 cr_len M.len bt_len (e2w (ce_var 0)))) (e2w ce_int)) (ce_one (ce_callB1 (cr_allD rfl) M.all bt_all (f2w (cf_comp (own := [("word", 1)]) (is := [1]) rfl sc_is_answer.nd (ciw_seq (e2w (ce_var 0))) (blkOk_by (N := ["value", "word"]) (sc := (defScope s_is_answer)) (by decide +kernel)) (by decide) (fun _ _ _ _ _ => (cg_name 1 sc_is_answer.nd)) (fun _ _ _ _ _ => cts_nil) (fun _ _ _ _ _ => (ce_call fd_is_between hr (by decide) passL (ca_cons (ce_var 1) (ca_cons ce_int (ca_cons ce_int ca_nil)))))))))))))
abbrev s_agreeing : Stmt := topS 34
theorem sc_agreeing : FnScope ["kinds", "answers", "one", "known", "level", "gates", "word", "there"] ["kinds", "answers"] (defScope s_agreeing) := ⟨rfl, rfl, rfl, by decide +kernel, rfl, by decide +kernel, by decide +kernel⟩
theorem ok_agreeing {f : Addr} {fd : FuncData} (M : Mg K w mg C) (F : Fun K "agreeing" "agreeing" s_agreeing f fd) (fd_check_kinds : Fd P w K mg base C 2 "check_kinds" 1 f_check_kinds) (fd_counted : Fd P w K mg base C 1 "counted" 1 f_counted) (fd_is_answer : Fd P w K mg base C 2 "is_answer" 1 f_is_answer) (fd_gates_of : Fd P w K mg base C 5 "gates_of" 1 f_gates_of) (fd_grown : Fd P w K mg base C 2 "grown" 3 f_grown) :
    FnOk P w K mg base (L2.CX P w) 6 f fd ["kinds", "answers"] (spF K C 2 f_agreeing) :=
  fn_ok (N := ["kinds", "answers", "one", "known", "level", "gates", "word", "there"]) F sc_agreeing fun cdv A outer s H E hr =>
    (css_cons (cs_expr (ce_call fd_check_kinds hr (by decide) passC (ca_cons (ce_var 0) ca_nil)))
    (css_cons (cs_if (ct_cmp bin_gt (e2w (ce_call fd_counted hr (by decide) passC (ca_cons (ce_var 0) ca_nil))) (e2w ce_int)) (css_one (x_TooMany M (takes_of rfl rfl rfl rfl))) css_nil)
    (css_cons (cs_if (ct_w (cw_or (ct_not (ct_val (ce_isi .tuple M.isinstance M.tuple bt_tuple (e2w (ce_var 1))))) (pw_or1 (ct_not (ct_val (ce_callB1 (cr_allD rfl) M.all bt_all (f2w (cf_comp (own := [("one", 2)]) (is := [2]) rfl sc_agreeing.nd (ciw_seq (e2w (ce_var 1))) (blkOk_by (N := ["kinds", "answers", "one", "known", "level", "gates", "word", "there"]) (sc := (defScope s_agreeing)) (by decide +kernel)) (by decide) (fun _ _ _ _ _ => (cg_name 2 sc_agreeing.nd)) (fun _ _ _ _ _ => cts_nil) (fun _ _ _ _ _ => (ce_call fd_is_answer hr (by decide) passL (ca_cons (ce_var 2) ca_nil))))))))))) (css_one (x_InvalidAnswers M (takes_of rfl rfl rfl rfl))) css_nil)
    (css_cons (cs_par3 3 4 5 sc_agreeing.nd (ce_mnew M.hK (Nat.lt_of_succ_lt hr.u1) (g_SAME M) (ce_tup ca_nil)) (f2e (cf_lst (ca_cons (g_SAME M) ca_nil))) (ce_call fd_gates_of hr (by decide) passC (ca_cons (ce_var 0) ca_nil)))
    (css_cons (cs_while (n := 1000000) (ct_tru (ce_var 4))
    (css_one (cs_asg 4 sc_agreeing.nd (ce_call fd_grown hr (by decide) passL (ca_cons (ce_var 3) (ca_cons (ce_var 4) (ca_cons (ce_var 5) ca_nil)))))))
    (css_one (cs_ret (ce_callB1 (cr_sortedA hr.units) M.sorted bt_sorted (f2w (cf_compM (own := [("one", 2)]) (is := [2]) rfl sc_agreeing.nd (cim_td M.hK (ce_var 3)) (blkOk_by (N := ["kinds", "answers", "one", "known", "level", "gates", "word", "there"]) (sc := (defScope s_agreeing)) (by decide +kernel)) (by decide) (fun _ _ _ _ _ => (cg_name 2 sc_agreeing.nd)) (fun _ _ _ _ _ => (cts_one (ct_val (ce_callB1 (cr_allD rfl) M.all bt_all (f2w (cf_comp (own := [("word", 6), ("there", 7)]) (is := [6, 7]) rfl sc_agreeing.nd (ciw_seq (e2w (ce_var 1))) (blkOk_by (N := ["kinds", "answers", "one", "known", "level", "gates", "word", "there"]) (sc := (relS _ (defScope s_agreeing))) (by decide +kernel)) (by decide) (fun _ _ _ _ _ => (cg_pair 6 7 sc_agreeing.nd)) (fun _ _ _ _ _ => cts_nil) (fun _ _ _ _ _ => (ce_cmp (bin_eq hr.units) (e2w (ce_ix (e2w (ce_var 2)) (e2w (ce_var 6)))) (e2w (ce_var 7)))))))))) (fun _ _ _ _ _ => (ce_var 2))))))))))))
abbrev s_candidates : Stmt := topS 35
theorem sc_candidates : FnScope ["kinds", "answers"] ["kinds", "answers"] (defScope s_candidates) := ⟨rfl, rfl, rfl, by decide +kernel, rfl, by decide +kernel, by decide +kernel⟩
theorem ok_candidates {f : Addr} {fd : FuncData} (M : Mg K w mg C) (F : Fun K "candidates" "candidates" s_candidates f fd) (fd_agreeing : Fd P w K mg base C 6 "agreeing" 2 f_agreeing) :
    FnOk P w K mg base (L2.CX P w) 7 f fd ["kinds", "answers"] (spF K C 2 f_candidates) :=
  fn_ok (N := ["kinds", "answers"]) F sc_candidates fun cdv A outer s H E hr =>
    (css_one (cs_ret (ce_callTy1 cr_tuple M.tuple bt_tuple (e2w (ce_call fd_agreeing hr (by decide) passC (ca_cons (ce_var 0) (ca_cons (ce_var 1) ca_nil)))))))
abbrev s_best_word : Stmt := topS 36
theorem sc_best_word : FnScope ["kinds", "answers", "rows", "best", "word", "results", "row", "there"] ["kinds", "answers"] (defScope s_best_word) := ⟨rfl, rfl, rfl, by decide +kernel, rfl, by decide +kernel, by decide +kernel⟩
theorem ok_best_word {f : Addr} {fd : FuncData} (M : Mg K w mg C) (F : Fun K "best_word" "best_word" s_best_word f fd) (fd_agreeing : Fd P w K mg base C 6 "agreeing" 2 f_agreeing) :
    FnOk P w K mg base (L2.CX P w) 7 f fd ["kinds", "answers"] (spF K C 2 f_best_word) :=
  fn_ok (N := ["kinds", "answers", "rows", "best", "word", "results", "row", "there"]) F sc_best_word fun cdv A outer s H E hr =>
    (css_cons (cs_asg 2 sc_best_word.nd (ce_call fd_agreeing hr (by decide) passC (ca_cons (ce_var 0) (ca_cons (ce_var 1) ca_nil))))
    (css_cons (cs_if (ct_cmp (bin_eq hr.units) (e2w (ce_var 2)) (f2w (cf_lst ca_nil))) (css_one (x_InvalidAnswers M (takes_of rfl rfl rfl rfl))) css_nil)
    (css_cons (cs_if (ct_cmp (bin_eq hr.units) (e2w (ce_callB1 cr_len M.len bt_len (e2w (ce_var 2)))) (e2w ce_int)) (css_one (cs_ret ce_non)) css_nil)
    (css_cons (cs_own 3 sc_best_word.nd (cf_lst ca_nil))
    (css_cons (cs_for rfl (ci_seq (g_SAME M)) (cg_name 4 sc_best_word.nd)
    (css_cons (cs_asg 5 sc_best_word.nd (f2e (cf_comp (own := [("row", 6)]) (is := [6]) rfl sc_best_word.nd (ciw_seq (e2w (ce_var 2))) (blkOk_by (N := ["kinds", "answers", "rows", "best", "word", "results", "row", "there"]) (sc := (defScope s_best_word)) (by decide +kernel)) (by decide) (fun _ _ _ _ _ => (cg_name 6 sc_best_word.nd)) (fun _ _ _ _ _ => cts_nil) (fun _ _ _ _ _ => (ce_ix (e2w (ce_var 6)) (e2w (ce_var 4)))))))
    (css_one (cs_app 3 (ce_tup (ca_cons (ce_callB1 (cr_maxD rfl) M.max bt_max (f2w (cf_comp (own := [("there", 7)]) (is := [7]) rfl sc_best_word.nd (ciw_seq (e2w (g_SAME M))) (blkOk_by (N := ["kinds", "answers", "rows", "best", "word", "results", "row", "there"]) (sc := (defScope s_best_word)) (by decide +kernel)) (by decide) (fun _ _ _ _ _ => (cg_name 7 sc_best_word.nd)) (fun _ _ _ _ _ => cts_nil) (fun _ _ _ _ _ => (ce_lcnt hr.u65 (ce_var 5) (ce_var 7)))))) (ca_cons (ce_var 4) ca_nil)))))))
    (css_one (cs_ret (ce_ix (e2w (ce_callB1 (cr_minA rfl hr.u65) M.min bt_min (cw_peek 3))) (e2w ce_int)))))))))
abbrev s_law_draw : Stmt := topS 39
theorem sc_law_draw : FnScope ["script", "town", "many", "at", "rest", "number"] ["script", "town", "many"] (defScope s_law_draw) := ⟨rfl, rfl, rfl, by decide +kernel, rfl, by decide +kernel, by decide +kernel⟩
theorem ok_law_draw {f : Addr} {fd : FuncData} (M : Mg K w mg C) (F : Fun K "_law_draw" "_law_draw" s_law_draw f fd)  :
    FnOk P w K mg base (L2.CX P w) 1 f fd ["script", "town", "many"] (spF K C 3 f_law_draw) :=
  fn_ok (N := ["script", "town", "many", "at", "rest", "number"]) F sc_law_draw fun cdv A outer s H E hr =>
    (css_cons (cs_tc 1 hr.u1 (ce_bin bin_add (e2w (ce_tc 1 hr.u1)) (e2w ce_int)))
    (css_cons (cs_asg 3 sc_law_draw.nd (ce_if (ct_scr 0) (ce_bin bin_mod (e2w (ce_tc 1 hr.u1)) (e2w (ce_callB1 cr_len M.len bt_len (e2w (ce_var 0))))) ce_int))
    (css_cons (cs_asg 4 sc_law_draw.nd (ce_tr 1 hr.u1 (ce_var 3) (ce_if (ct_scr 0) (ce_ix (e2w (ce_var 0)) (e2w (ce_var 3))) ce_int)))
    (css_cons (cs_if (ct_cmp bin_ge (e2w (ce_var 4)) (e2w (ce_bin bin_pow (e2w ce_int) (e2w ce_int)))) (css_cons (cs_tr 1 hr.u1 (ce_bin bin_div (e2w (ce_var 4)) (e2w (ce_var 2))) (ce_var 3))
    (css_one (cs_ret (ce_bin bin_mod (e2w (ce_var 4)) (e2w (ce_var 2)))))) css_nil)
    (css_cons (cs_asg 5 sc_law_draw.nd (ce_bin bin_mod (e2w (ce_bin bin_add (e2w (ce_var 4)) (e2w (ce_bin bin_mul (e2w ce_int) (e2w (ce_tc 1 hr.u1)))))) (e2w ce_int)))
    (css_cons (cs_asg 5 sc_law_draw.nd (ce_bin bin_mod (e2w (ce_bin bin_pow (e2w (ce_var 5)) (e2w ce_int))) (e2w ce_int)))
    (css_one (cs_ret (ce_bin bin_mod (e2w (ce_bin bin_div (e2w (ce_bin bin_mod (e2w (ce_bin bin_add (e2w (ce_bin bin_mul (e2w (ce_bin bin_div (e2w (ce_var 5)) (e2w ce_int))) (e2w ce_int))) (e2w (ce_var 5)))) (e2w ce_int))) (e2w ce_int))) (e2w (ce_var 2)))))))))))
abbrev s_law_begun : Stmt := topS 40
theorem sc_law_begun : FnScope [] [] (defScope s_law_begun) := ⟨rfl, rfl, rfl, by decide +kernel, rfl, by decide +kernel, by decide +kernel⟩
theorem ok_law_begun {f : Addr} {fd : FuncData} (M : Mg K w mg C) (F : Fun K "_law_begun" "_law_begun" s_law_begun f fd)  :
    FnOk P w K mg base (L2.CX P w) 1 f fd [] (spF K C 0 f_law_begun) :=
  fn_ok (N := []) F sc_law_begun fun cdv A outer s H E hr =>
    (css_one (cs_ret ce_begun))
abbrev s_law_gates : Stmt := topS 41
theorem sc_law_gates : FnScope ["found", "one", "other", "rest", "line"] [] (defScope s_law_gates) := ⟨rfl, rfl, rfl, by decide +kernel, rfl, by decide +kernel, by decide +kernel⟩
theorem ok_law_gates {f : Addr} {fd : FuncData} (M : Mg K w mg C) (F : Fun K "_law_gates" "_law_gates" s_law_gates f fd)  :
    FnOk P w K mg base (L2.CX P w) 1 f fd [] (spF K C 0 f_law_gates) :=
  fn_ok (N := ["found", "one", "other", "rest", "line"]) F sc_law_gates fun cdv A outer s H E hr =>
    (css_cons (cs_own 0 sc_law_gates.nd (cf_lst ca_nil))
    (css_cons (cs_for rfl (ci_range1 M.range ce_int) (cg_name 1 sc_law_gates.nd)
    (css_cons (cs_app 0 (ce_tup (ca_cons ce_str (ca_cons (ce_var 1) ca_nil))))
    (css_cons (cs_for rfl (ci_range1 M.range ce_int) (cg_name 2 sc_law_gates.nd)
    (css_one (cs_ext 0 (e2w (ce_if (ct_cmp (bin_ne hr.units) (e2w (ce_var 1)) (e2w (ce_var 2))) (f2e (cf_lst (ca_cons (ce_tup (ca_cons ce_str (ca_cons (ce_var 1) (ca_cons (ce_var 2) ca_nil)))) ca_nil))) (f2e (cf_lst ca_nil)))))))
    (css_cons (cs_asgLc 3 (own := [("line", 4)]) (is := [4]) rfl sc_law_gates.nd rfl (sw_true rfl rfl rfl (by decide +kernel)) (ci_w (ci_range1 M.range ce_int)) (blkOk_by (N := ["found", "one", "other", "rest", "line"]) (sc := (defScope s_law_gates)) (by decide +kernel)) (by decide) (fun _ _ _ _ _ => (cg_name 4 sc_law_gates.nd)) (fun _ _ _ _ _ => (cts_one (ct_cmp (bin_ne hr.units) (e2w (ce_var 4)) (e2w (ce_var 1))))) (fun _ _ _ _ _ => (ce_var 4)))
    (css_cons (cs_app 0 (ce_tup (ca_cons ce_str (ca_cons (ce_ix (e2w (ce_var 3)) (e2w ce_int)) (ca_cons (ce_ix (e2w (ce_var 3)) (e2w ce_int)) (ca_cons (ce_var 1) ca_nil))))))
    (css_cons (cs_app 0 (ce_tup (ca_cons ce_str (ca_cons (ce_ix (e2w (ce_var 3)) (e2w ce_int)) (ca_cons (ce_ix (e2w (ce_var 3)) (e2w ce_int)) ca_nil)))))
    (css_one (cs_app 0 (ce_tup (ca_cons ce_str (ca_cons (ce_var 1) (ca_cons (ce_ix (e2w (ce_var 3)) (e2w ce_int)) (ca_cons (ce_ix (e2w (ce_var 3)) (e2w ce_int)) ca_nil)))))))))))))
    (css_one (cs_ret (ce_callB1 (cr_sortedA hr.units) M.sorted bt_sorted (cw_peek 0))))))
abbrev s_law_apply : Stmt := topS 43
theorem sc_law_apply : FnScope ["gate", "word", "bits", "kind", "last", "one"] ["gate", "word"] (defScope s_law_apply) := ⟨rfl, rfl, rfl, by decide +kernel, rfl, by decide +kernel, by decide +kernel⟩
theorem ok_law_apply {f : Addr} {fd : FuncData} (M : Mg K w mg C) (F : Fun K "_law_apply" "_law_apply" s_law_apply f fd)  :
    FnOk P w K mg base (L2.CX P w) 1 f fd ["gate", "word"] (spF K C 2 f_law_apply) :=
  fn_ok (N := ["gate", "word", "bits", "kind", "last", "one"]) F sc_law_apply fun cdv A outer s H E hr =>
    (css_cons (cs_own 2 sc_law_apply.nd (cf_lst (ca_cons (ce_bin bin_mod (e2w (ce_var 1)) (e2w ce_int)) (ca_cons (ce_bin bin_mod (e2w (ce_bin bin_div (e2w (ce_var 1)) (e2w ce_int))) (e2w ce_int)) (ca_cons (ce_bin bin_div (e2w (ce_var 1)) (e2w ce_int)) ca_nil)))))
    (css_cons (cs_par 3 4 sc_law_apply.nd (ce_ix (e2w (ce_var 0)) (e2w ce_int)) (ce_ix (e2w (ce_var 0)) (e2w (ce_neg ce_int))))
    (css_cons (cs_if (ct_w (cw_or (ct_cmp (bin_eq hr.units) (e2w (ce_var 3)) (e2w ce_str)) (pw_or1 (ct_w (cw_and (ct_cmp (bin_eq hr.units) (e2w (ce_var 3)) (e2w ce_str)) (pw_and1 (ct_cmp (bin_eq hr.units) (e2w (ce_ix (cw_peek 2) (e2w (ce_ix (e2w (ce_var 0)) (e2w ce_int))))) (e2w ce_int)))))))) (css_one (cs_put 2 (ce_bin bin_sub (e2w ce_int) (e2w (ce_ix (cw_peek 2) (e2w (ce_var 4))))) (ce_var 4))) css_nil)
    (css_cons (cs_if (ct_w (cw_and (ct_cmp (bin_eq hr.units) (e2w (ce_var 3)) (e2w ce_str)) (pw_and1 (ct_cmp (bin_eq hr.units) (e2w (ce_bin bin_add (e2w (ce_ix (cw_peek 2) (e2w (ce_ix (e2w (ce_var 0)) (e2w ce_int))))) (e2w (ce_ix (cw_peek 2) (e2w (ce_ix (e2w (ce_var 0)) (e2w ce_int))))))) (e2w ce_int))))) (css_one (cs_put 2 (ce_bin bin_sub (e2w ce_int) (e2w (ce_ix (cw_peek 2) (e2w (ce_var 4))))) (ce_var 4))) css_nil)
    (css_cons (cs_if (ct_w (cw_or (ct_cmp (bin_eq hr.units) (e2w (ce_var 3)) (e2w ce_str)) (pw_or1 (ct_w (cw_and (ct_cmp (bin_eq hr.units) (e2w (ce_var 3)) (e2w ce_str)) (pw_and1 (ct_cmp (bin_eq hr.units) (e2w (ce_ix (cw_peek 2) (e2w (ce_ix (e2w (ce_var 0)) (e2w ce_int))))) (e2w ce_int)))))))) (css_cons (cs_asg 5 sc_law_apply.nd (ce_ix (e2w (ce_var 0)) (e2w (ce_neg ce_int))))
    (css_one (cs_asgS (ce_tup (ca_cons (ce_ix (cw_peek 2) (e2w (ce_var 4))) (ca_cons (ce_ix (cw_peek 2) (e2w (ce_var 5))) ca_nil))) (cgs_tup (n := 2) (cgq_cons (cgs_put 2 (ce_var 5)) (cgq_cons (cgs_put 2 (ce_var 4)) cgq_nil)))))) css_nil)
    (css_one (cs_ret (ce_bin bin_add (e2w (ce_bin bin_add (e2w (ce_ix (cw_peek 2) (e2w ce_int))) (e2w (ce_bin bin_mul (e2w ce_int) (e2w (ce_ix (cw_peek 2) (e2w ce_int))))))) (e2w (ce_bin bin_mul (e2w ce_int) (e2w (ce_ix (cw_peek 2) (e2w ce_int)))))))))))))
abbrev s_law_made : Stmt := topS 44
theorem sc_law_made : FnScope ["circuit", "found", "word", "gate"] ["circuit"] (defScope s_law_made) := ⟨rfl, rfl, rfl, by decide +kernel, rfl, by decide +kernel, by decide +kernel⟩
theorem ok_law_made {f : Addr} {fd : FuncData} (M : Mg K w mg C) (F : Fun K "_law_made" "_law_made" s_law_made f fd) (fd_law_apply : Fd P w K mg base C 1 "_law_apply" 2 f_law_apply) :
    FnOk P w K mg base (L2.CX P w) 2 f fd ["circuit"] (spF K C 1 f_law_made) :=
  fn_ok (N := ["circuit", "found", "word", "gate"]) F sc_law_made fun cdv A outer s H E hr =>
    (css_cons (cs_own 1 sc_law_made.nd (cf_lst ca_nil))
    (css_cons (cs_for rfl (ci_range1 M.range ce_int) (cg_name 2 sc_law_made.nd)
    (css_cons (cs_for rfl (ci_seq (ce_var 0)) (cg_name 3 sc_law_made.nd)
    (css_one (cs_asg 2 sc_law_made.nd (ce_call fd_law_apply hr (by decide) passL (ca_cons (ce_var 3) (ca_cons (ce_var 2) ca_nil))))))
    (css_one (cs_app 1 (ce_var 2)))))
    (css_one (cs_ret (ce_callTy1 cr_tuple M.tuple bt_tuple (cw_peek 1))))))
abbrev s_law_few : Stmt := topS 45
theorem sc_law_few : FnScope ["script", "town", "rows"] ["script", "town"] (defScope s_law_few) := ⟨rfl, rfl, rfl, by decide +kernel, rfl, by decide +kernel, by decide +kernel⟩
theorem ok_law_few {f : Addr} {fd : FuncData} (M : Mg K w mg C) (F : Fun K "_law_few" "_law_few" s_law_few f fd) (fd_law_draw : Fd P w K mg base C 1 "_law_draw" 3 f_law_draw) :
    FnOk P w K mg base (L2.CX P w) 2 f fd ["script", "town"] (spF K C 2 f_law_few) :=
  fn_ok (N := ["script", "town", "rows"]) F sc_law_few fun cdv A outer s H E hr =>
    (css_cons (cs_asg 2 sc_law_few.nd (ce_tup (ca_cons (ce_tup (ca_cons ce_str ca_nil)) (ca_cons (ce_tup (ca_cons ce_str ca_nil)) (ca_cons (ce_tup (ca_cons ce_str ca_nil)) (ca_cons (ce_tup (ca_cons ce_str ca_nil)) (ca_cons (ce_tup (ca_cons ce_str (ca_cons ce_str ca_nil))) (ca_cons (ce_tup (ca_cons ce_str (ca_cons ce_str ca_nil))) (ca_cons (ce_tup (ca_cons ce_str (ca_cons ce_str ca_nil))) (ca_cons (ce_tup (ca_cons ce_str ca_nil)) ca_nil))))))))))
    (css_one (cs_ret (ce_ix (e2w (ce_bin bin_add (e2w (ce_var 2)) (e2w (ce_tup (ca_cons (ce_tup (ca_cons ce_str (ca_cons ce_str ca_nil))) (ca_cons (ce_tup (ca_cons ce_str (ca_cons ce_str ca_nil))) (ca_cons (ce_tup (ca_cons ce_str (ca_cons ce_str ca_nil))) ca_nil))))))) (e2w (ce_call fd_law_draw hr (by decide) passC (ca_cons (ce_var 0) (ca_cons (ce_var 1) (ca_cons ce_int ca_nil)))))))))
abbrev s_law_all : Stmt := topS 46
theorem sc_law_all : FnScope ["kinds", "gates", "gate", "known", "waiting", "here", "there", "word"] ["kinds"] (defScope s_law_all) := ⟨rfl, rfl, rfl, by decide +kernel, rfl, by decide +kernel, by decide +kernel⟩
theorem ok_law_all {f : Addr} {fd : FuncData} (M : Mg K w mg C) (F : Fun K "_law_all" "_law_all" s_law_all f fd) (fd_law_gates : Fd P w K mg base C 1 "_law_gates" 0 f_law_gates) (fd_law_made : Fd P w K mg base C 2 "_law_made" 1 f_law_made) :
    FnOk P w K mg base (L2.CX P w) 3 f fd ["kinds"] (spF K C 1 f_law_all) :=
  fn_ok (N := ["kinds", "gates", "gate", "known", "waiting", "here", "there", "word"]) F sc_law_all fun cdv A outer s H E hr =>
    (css_cons (cs_asgLc 1 (own := [("gate", 2)]) (is := [2]) rfl sc_law_all.nd rfl (sw_true rfl rfl rfl (by decide +kernel)) (ciw_seq (e2w (ce_call0 fd_law_gates hr (by decide) passC))) (blkOk_by (N := ["kinds", "gates", "gate", "known", "waiting", "here", "there", "word"]) (sc := (defScope s_law_all)) (by decide +kernel)) (by decide) (fun _ _ _ _ _ => (cg_name 2 sc_law_all.nd)) (fun _ _ _ _ _ => (cts_one (ct_cmp (bin_in hr.u65) (e2w (ce_ix (e2w (ce_var 2)) (e2w ce_int))) (e2w (ce_var 0))))) (fun _ _ _ _ _ => (ce_call fd_law_made hr (by decide) passL (ca_cons (ce_tup (ca_cons (ce_var 2) ca_nil)) ca_nil))))
    (css_cons (cs_tnew 3 (Nat.lt_of_succ_lt hr.u1) sc_law_all.nd (ce_tupRg rfl M.tuple M.range ce_int) ce_bl)
    (css_cons (cs_own 4 sc_law_all.nd (cf_tlist 3 rfl M.list))
    (css_cons (cs_while (n := 1000000) (ct_cmp (bin_ne hr.units) (cw_peek 4) (f2w (cf_lst ca_nil)))
    (css_cons (cs_pop 5 4 sc_law_all.nd)
    (css_one (cs_for rfl (ci_seq (ce_var 1)) (cg_name 2 sc_law_all.nd)
    (css_cons (cs_asg 6 sc_law_all.nd (ce_callTy1 cr_tuple M.tuple bt_tuple (f2w (cf_comp (own := [("word", 7)]) (is := [7]) rfl sc_law_all.nd (ciw_seq (e2w (ce_var 5))) (blkOk_by (N := ["kinds", "gates", "gate", "known", "waiting", "here", "there", "word"]) (sc := (defScope s_law_all)) (by decide +kernel)) (by decide) (fun _ _ _ _ _ => (cg_name 7 sc_law_all.nd)) (fun _ _ _ _ _ => cts_nil) (fun _ _ _ _ _ => (ce_ix (e2w (ce_var 2)) (e2w (ce_var 7))))))))
    (css_one (cs_if (ct_tnin 3 hr.u1 (ce_var 6)) (css_cons (cs_tset 3 hr.u1 ce_bl (ce_var 6))
    (css_one (cs_app 4 (ce_var 6)))) css_nil)))))))
    (css_one (cs_ret (f2e (cf_tlist 3 rfl M.list))))))))
abbrev s_law : Stmt := topS 47
theorem sc_law : FnScope ["script", "town", "k", "kinds_here", "some", "goal", "asked", "answers_here", "due", "best", "word", "found", "odd", "results", "j", "one", "there", "deed"] ["script"] (defScope s_law) := ⟨rfl, rfl, rfl, by decide +kernel, rfl, by decide +kernel, by decide +kernel⟩
theorem ok_law {f ca : Addr} {kV doc pm ct oc : Value} {an od : Option Addr} {osl : Array (Option Value)} (M : Mg K w mg C) (lk : K.lookup f = some ⟨oc, od, .func (PySem.W.fnOf "law" "law" (defArgs s_law) (defBody s_law) (defScope s_law) .none kV doc pm an (.ref ca) ct), osl⟩) (hcd : PySem.W.codeIn K (.ref ca) "law" = true) (R : ResF K mg C) (Lm : LamD base mg C "law" ca) (fd_law_begun : Fd P w K mg base C 1 "_law_begun" 0 f_law_begun) (fd_law_few : Fd P w K mg base C 2 "_law_few" 2 f_law_few) (fd_law_all : Fd P w K mg base C 3 "_law_all" 1 f_law_all) (fd_law_draw : Fd P w K mg base C 1 "_law_draw" 3 f_law_draw) (fk1_candidates : FdK P w K mg base C 7 "candidates" 1 ["answers"] f_candidates) (fk1_best_word : FdK P w K mg base C 7 "best_word" 1 ["answers"] f_best_word) (fd_candidates : Fd P w K mg base C 7 "candidates" 2 f_candidates) (fd_best_word : Fd P w K mg base C 7 "best_word" 2 f_best_word) {A : Nat → Addr} (fa_candidates : FdA P w K mg base C 7 2 (A 0) f_candidates ∧ mg "candidates" = some (.ref (A 0))) (fa_best_word : FdA P w K mg base C 7 2 (A 1) f_best_word ∧ mg "best_word" = some (.ref (A 1))) :
    FnOk P w K mg base (L2.CX P w) 10 f (PySem.W.fnOf "law" "law" (defArgs s_law) (defBody s_law) (defScope s_law) .none kV doc pm an (.ref ca) ct) ["script"] (spF K C 1 (f_law A)) :=
  fn_okL (N := ["script", "town", "k", "kinds_here", "some", "goal", "asked", "answers_here", "due", "best", "word", "found", "odd", "results", "j", "one", "there", "deed"]) lk hcd sc_law fun A outer s H E hr =>
    (css_cons (cs_asg 1 sc_law.nd (ce_call0 fd_law_begun hr (by decide) passC))
    (css_cons (cs_for rfl (ci_range1 M.range ce_int) (cg_name 2 sc_law.nd)
    (css_cons (cs_asg 3 sc_law.nd (ce_call fd_law_few hr (by decide) passL (ca_cons (ce_var 0) (ca_cons (ce_var 1) ca_nil))))
    (css_cons (cs_asg 4 sc_law.nd (ce_call fd_law_all hr (by decide) passL (ca_cons (ce_var 3) ca_nil)))
    (css_cons (cs_asg 5 sc_law.nd (ce_ix (e2w (ce_var 4)) (e2w (ce_call fd_law_draw hr (by decide) passL (ca_cons (ce_var 0) (ca_cons (ce_var 1) (ca_cons (ce_callB1 cr_len M.len bt_len (e2w (ce_var 4))) ca_nil)))))))
    (css_cons (cs_asgLc 6 (own := [("j", 14)]) (is := [14]) rfl sc_law.nd rfl (sw_true rfl rfl rfl (by decide +kernel)) (ci_w (ci_range1 M.range (ce_call fd_law_draw hr (by decide) passL (ca_cons (ce_var 0) (ca_cons (ce_var 1) (ca_cons ce_int ca_nil)))))) (blkOk_by (N := ["script", "town", "k", "kinds_here", "some", "goal", "asked", "answers_here", "due", "best", "word", "found", "odd", "results", "j", "one", "there", "deed"]) (sc := (defScope s_law)) (by decide +kernel)) (by decide) (fun _ _ _ _ _ => (cg_name 14 sc_law.nd)) (fun _ _ _ _ _ => cts_nil) (fun _ _ _ _ _ => (ce_call fd_law_draw hr (by decide) passL (ca_cons (ce_var 0) (ca_cons (ce_var 1) (ca_cons ce_int ca_nil))))))
    (css_cons (cs_asg 7 sc_law.nd (ce_callTy1 cr_tuple M.tuple bt_tuple (f2w (cf_comp (own := [("word", 10)]) (is := [10]) rfl sc_law.nd (ciw_seq (e2w (ce_var 6))) (blkOk_by (N := ["script", "town", "k", "kinds_here", "some", "goal", "asked", "answers_here", "due", "best", "word", "found", "odd", "results", "j", "one", "there", "deed"]) (sc := (defScope s_law)) (by decide +kernel)) (by decide) (fun _ _ _ _ _ => (cg_name 10 sc_law.nd)) (fun _ _ _ _ _ => cts_nil) (fun _ _ _ _ _ => (ce_tup (ca_cons (ce_var 10) (ca_cons (ce_ix (e2w (ce_var 5)) (e2w (ce_var 10))) ca_nil))))))))
    (css_cons (cs_if (ct_cmp (bin_eq hr.units) (e2w (ce_call fd_law_draw hr (by decide) passL (ca_cons (ce_var 0) (ca_cons (ce_var 1) (ca_cons ce_int ca_nil))))) (e2w ce_int)) (css_one (cs_asg 7 sc_law.nd (ce_bin bin_add (cw_peek 7) (e2w (ce_tup (ca_cons (ce_tup (ca_cons (ce_call fd_law_draw hr (by decide) passL (ca_cons (ce_var 0) (ca_cons (ce_var 1) (ca_cons ce_int ca_nil)))) (ca_cons (ce_call fd_law_draw hr (by decide) passL (ca_cons (ce_var 0) (ca_cons (ce_var 1) (ca_cons ce_int ca_nil)))) ca_nil))) ca_nil)))))) css_nil)
    (css_cons (cs_asg 8 sc_law.nd (ce_callTy1 cr_tuple M.tuple bt_tuple (e2w (ce_callB1 (cr_sortedA hr.units) M.sorted bt_sorted (f2w (cf_comp (own := [("one", 15)]) (is := [15]) rfl sc_law.nd (ciw_seq (e2w (ce_var 4))) (blkOk_by (N := ["script", "town", "k", "kinds_here", "some", "goal", "asked", "answers_here", "due", "best", "word", "found", "odd", "results", "j", "one", "there", "deed"]) (sc := (defScope s_law)) (by decide +kernel)) (by decide) (fun _ _ _ _ _ => (cg_name 15 sc_law.nd)) (fun _ _ _ _ _ => (cts_one (ct_cmp (bin_eq hr.units) (f2w (cf_comp (own := [("word", 10), ("there", 16)]) (is := [10, 16]) rfl sc_law.nd (ciw_seq (cw_peek 7)) (blkOk_by (N := ["script", "town", "k", "kinds_here", "some", "goal", "asked", "answers_here", "due", "best", "word", "found", "odd", "results", "j", "one", "there", "deed"]) (sc := (relS _ (defScope s_law))) (by decide +kernel)) (by decide) (fun _ _ _ _ _ => (cg_pair 10 16 sc_law.nd)) (fun _ _ _ _ _ => (cts_one (ct_cmp (bin_ne hr.units) (e2w (ce_ix (e2w (ce_var 15)) (e2w (ce_var 10)))) (e2w (ce_var 16))))) (fun _ _ _ _ _ => ce_int))) (f2w (cf_lst ca_nil (Nat.le_of_ble_eq_true rfl)))))) (fun _ _ _ _ _ => (ce_var 15))))))))
    (css_cons (cs_if (ct_cmp (bin_ne hr.units) (e2w (ce_callK fk1_candidates hr (by decide) passL (ca_cons (ce_var 3) ca_nil) (ck_cons (ce_var 7) ck_nil))) (e2w (ce_var 8))) (css_one (cs_ret ce_bl)) css_nil)
    (css_cons (cs_own 9 sc_law.nd (cf_lst ca_nil (Nat.le_of_ble_eq_true rfl)))
    (css_cons (cs_for rfl (ci_range1 M.range ce_int) (cg_name 10 sc_law.nd)
    (css_cons (cs_asg 13 sc_law.nd (f2e (cf_comp (own := [("one", 15)]) (is := [15]) rfl sc_law.nd (ciw_seq (e2w (ce_var 8))) (blkOk_by (N := ["script", "town", "k", "kinds_here", "some", "goal", "asked", "answers_here", "due", "best", "word", "found", "odd", "results", "j", "one", "there", "deed"]) (sc := (defScope s_law)) (by decide +kernel)) (by decide) (fun _ _ _ _ _ => (cg_name 15 sc_law.nd)) (fun _ _ _ _ _ => cts_nil) (fun _ _ _ _ _ => (ce_ix (e2w (ce_var 15)) (e2w (ce_var 10)))))))
    (css_one (cs_app 9 (ce_tup (ca_cons (ce_callB1 (cr_maxD rfl) M.max bt_max (f2w (cf_comp (own := [("there", 16)]) (is := [16]) rfl sc_law.nd (ci_w (ci_range1 M.range ce_int)) (blkOk_by (N := ["script", "town", "k", "kinds_here", "some", "goal", "asked", "answers_here", "due", "best", "word", "found", "odd", "results", "j", "one", "there", "deed"]) (sc := (defScope s_law)) (by decide +kernel)) (by decide) (fun _ _ _ _ _ => (cg_name 16 sc_law.nd)) (fun _ _ _ _ _ => cts_nil) (fun _ _ _ _ _ => (ce_lcnt hr.u65 (ce_var 13) (ce_var 16)))))) (ca_cons (ce_var 10) ca_nil)))))))
    (css_cons (cs_asg 11 sc_law.nd (r_res M.toBt R Lm rfl rfl hr (LamX.lamS_by (sc := (defScope s_law)) (by decide +kernel)) fun _ _ _ _ _ _ _ hr => (ce_callK fk1_best_word hr (by decide) passM (ca_cons (ce_var 3) ca_nil) (ck_cons (ce_var 7) ck_nil))))
    (css_cons (cs_if (ct_w (cw_or (ct_w (cw_and (ct_cmp (bin_eq hr.units) (e2w (ce_var 8)) (e2w (ce_tup ca_nil))) (pw_and1 (ct_cmp (bin_ne hr.units) (e2w (ce_var 11)) (e2w (ce_tup (ca_cons ce_str ca_nil))))))) (pw_or1 (ct_w (cw_and (ct_cmp (bin_eq hr.units) (e2w (ce_callB1 cr_len M.len bt_len (e2w (ce_var 8)))) (e2w ce_int)) (pw_and1 (ct_cmp (bin_ne hr.units) (e2w (ce_var 11)) (e2w (ce_tup (ca_cons ce_str (ca_cons ce_non ca_nil))))))))))) (css_one (cs_ret ce_bl)) css_nil)
    (css_cons (cs_if (ct_w (cw_and (ct_cmp bin_gt (e2w (ce_callB1 cr_len M.len bt_len (e2w (ce_var 8)))) (e2w ce_int)) (pw_and1 (ct_cmp (bin_ne hr.units) (e2w (ce_var 11)) (e2w (ce_tup (ca_cons ce_str (ca_cons (ce_ix (e2w (ce_callB1 (cr_minA rfl hr.u65) M.min bt_min (cw_peek 9))) (e2w ce_int)) ca_nil)))))))) (css_one (cs_ret ce_bl)) css_nil)
    (css_one (cs_for rfl (ci_seq (ce_tup (ca_cons ce_non (ca_cons (f2e (cf_lst ca_nil (Nat.le_of_ble_eq_true rfl))) (ca_cons (ce_tup (ca_cons (ce_tup (ca_cons ce_int ca_nil)) ca_nil)) (ca_cons (ce_tup (ca_cons (ce_tup (ca_cons ce_int (ca_cons ce_int ca_nil))) ca_nil)) (ca_cons (ce_tup (ca_cons (ce_tup (ca_cons (ce_neg ce_int) (ca_cons ce_int ca_nil))) ca_nil)) (ca_cons (ce_tup (ca_cons (ce_tup (ca_cons ce_int (ca_cons ce_bl ca_nil))) ca_nil)) (ca_cons (ce_tup (ca_cons ce_int (ca_cons ce_int ca_nil))) (ca_cons (ce_tup (ca_cons (f2e (cf_lst (ca_cons ce_int (ca_cons ce_int ca_nil)) (Nat.le_of_ble_eq_true rfl))) ca_nil)) ca_nil)))))))))) (cg_name 12 sc_law.nd)
    (css_cons (cs_own 7 sc_law.nd (cf_lst (ca_cons (r_res M.toBt R Lm rfl rfl hr (LamX.lamS_by (sc := (defScope s_law)) (by decide +kernel)) fun _ _ _ _ _ _ _ hr => (ce_call fd_candidates hr (by decide) passM (ca_cons (ce_var 3) (ca_cons (ce_var 12) ca_nil)))) ca_nil) (Nat.le_of_ble_eq_true rfl)))
    (css_one (cs_if (ct_cmp (bin_ne hr.units) (e2w (ce_bin bin_add (cw_peek 7) (f2w (cf_lst (ca_cons (r_res M.toBt R Lm rfl rfl hr (LamX.lamS_by (sc := (defScope s_law)) (by decide +kernel)) fun _ _ _ _ _ _ _ hr => (ce_call fd_best_word hr (by decide) passM (ca_cons (ce_var 3) (ca_cons (ce_var 12) ca_nil)))) ca_nil) (Nat.le_of_ble_eq_true rfl))))) (e2w (ce_bin bin_mul (f2w (cf_lst (ca_cons (ce_tup (ca_cons ce_str ca_nil)) ca_nil) (Nat.le_of_ble_eq_true rfl))) (e2w ce_int)))) (css_one (cs_ret ce_bl)) css_nil)))))))))))))))))))
    (css_cons (cs_forF 17 rfl sc_law.nd (par_cons fa_candidates.2 (par_cons fa_best_word.2 par_nil))
    (css_cons (cs_own 7 sc_law.nd (cf_lst (ca_cons (r_res M.toBt R Lm rfl rfl hr (LamX.lamS_by (sc := (defScope s_law)) (by decide +kernel)) fun _ _ _ _ _ _ _ hr => (ce_callR 17 (List.forall_mem_cons.mpr ⟨fa_candidates.1, List.forall_mem_cons.mpr ⟨fa_best_word.1, fun _ z => nomatch z⟩⟩) hr (by decide) passM (ca_cons (ce_tup (ca_cons ce_str (ca_cons ce_str ca_nil))) (ca_cons ce_non ca_nil)))) ca_nil) (Nat.le_of_ble_eq_true rfl)))
    (css_cons (cs_app 7 (r_res M.toBt R Lm rfl rfl hr (LamX.lamS_by (sc := (defScope s_law)) (by decide +kernel)) fun _ _ _ _ _ _ _ hr => (ce_callR 17 (List.forall_mem_cons.mpr ⟨fa_candidates.1, List.forall_mem_cons.mpr ⟨fa_best_word.1, fun _ z => nomatch z⟩⟩) hr (by decide) passM (ca_cons (ce_tup (ca_cons ce_str (ca_cons ce_str ca_nil))) (ca_cons ce_non ca_nil)))))
    (css_one (cs_if (ct_cmp (bin_ne hr.units) (e2w (ce_bin bin_add (cw_peek 7) (f2w (cf_lst (ca_cons (r_res M.toBt R Lm rfl rfl hr (LamX.lamS_by (sc := (defScope s_law)) (by decide +kernel)) fun _ _ _ _ _ _ _ hr => (ce_callR 17 (List.forall_mem_cons.mpr ⟨fa_candidates.1, List.forall_mem_cons.mpr ⟨fa_best_word.1, fun _ z => nomatch z⟩⟩) hr (by decide) passM (ca_cons (ce_tup (ca_cons ce_str (ca_cons ce_str ca_nil))) (ca_cons (ce_tup ca_nil) ca_nil)))) ca_nil) (Nat.le_of_ble_eq_true rfl))))) (f2w (cf_lst (ca_cons (ce_tup (ca_cons ce_str ca_nil)) (ca_cons (ce_tup (ca_cons ce_str ca_nil)) (ca_cons (ce_tup (ca_cons ce_str ca_nil)) ca_nil))) (Nat.le_of_ble_eq_true rfl)))) (css_one (cs_ret ce_bl)) css_nil)))))
    (css_one (cs_ret ce_bl)))))
end
end K20
set_option Elab.async false
set_option linter.all false
set_option maxRecDepth 100000
set_option maxHeartbeats 4000000
namespace BG
open PySem
/-- it returns, and Q holds of what is returned -/
def W {α : Type} (r : Option (Out α)) (Q : α → Tn → Prop) : Prop := match r with
  | some (.ok a t) => Q a t
  | _ => False
section
variable {α β : Type} {Q : α → Tn → Prop}
theorem W.ex {r : Option (Out α)} (h : W r Q) : ∃ a t, r = some (.ok a t) ∧ Q a t := by
  match r, h with
  | some (.ok a t), h => exact ⟨a, t, rfl, h⟩
theorem W.mono {Q' : α → Tn → Prop} {r : Option (Out α)} (h : W r Q) (i : ∀ a t, Q a t → Q' a t) : W r Q' := by
  obtain ⟨a, t, rfl, q⟩ := h.ex
  exact i a t q
theorem w_ret {a : α} {t : Tn} (h : Q a t) : W (ret a t) Q := h
theorem w_bnd {m : M β} {f : β → M α} {t : Tn} (h : W (m t) fun a t' => W (f a t') Q) : W (bnd m f t) Q := by
  obtain ⟨a, t', e, q⟩ := h.ex
  rw [bnd_ok e]; exact q
theorem w_calm {m : M α} {t : Tn} (h : W (m t) Q) : W (calm m t) Q := by
  obtain ⟨a, t', e, q⟩ := h.ex
  unfold calm; rw [e]; exact q
theorem w_eq {m : M α} {a : α} {t : Tn} (e : m = ret a) (h : Q a t) : W (m t) Q := by rw [e]; exact h
end
theorem eq_of_W {m : M D} {d : D} (h : ∀ t, W (m t) fun x t' => x = d ∧ t' = t) : m = ret d := by
  funext t
  obtain ⟨a, t', e, rfl, rfl⟩ := (h t).ex
  exact e
section
variable {S : Sl} {t : Tn} {Q : D → Tn → Prop}
theorem w_var {i : Nat} {d : D} (e : S[i]? = some (.val d)) (h : Q d t) : W (eVar i S t) Q := by
  unfold eVar; rw [e]; exact h
theorem w_peekV {i : Nat} {d : D} (e : S[i]? = some (.val d)) (h : Q d t) : W (ePeek i S t) Q := by
  unfold ePeek; rw [e]; exact h
theorem w_peekO {i : Nat} {ds : List D} (e : S[i]? = some (.own ds)) (h : Q (.lst ds) t) : W (ePeek i S t) Q := by
  unfold ePeek; rw [e]; exact h
theorem w_c {d : D} (h : Q d t) : W (eC d S t) Q := h
theorem w_bin {op : D → D → M D} {a b : Ex} (h : W (a S t) fun x t1 => W (b S t1) fun y t2 => W (op x y t2) Q) : W (eBin op a b S t) Q := w_bnd (h.mono fun _ _ h => w_bnd h)
theorem w_un {op : D → M D} {a : Ex} (h : W (a S t) fun x t1 => W (op x t1) Q) : W (eUn op a S t) Q := w_bnd h
theorem w_evnil {Q : List D → Tn → Prop} (h : Q [] t) : W (evs [] S t) Q := h
theorem w_evcons {f : Ex} {fs : List Ex} {Q : List D → Tn → Prop} (h : W (f S t) fun d t1 => W (evs fs S t1) fun ds t2 => Q (d :: ds) t2) : W (evs (f :: fs) S t) Q := w_bnd (h.mono fun _ _ h => w_bnd h)
theorem w_evc1 {f : Ex} {fs hs : List Ex} {Q : List D → Tn → Prop} (h : W (evs (f :: (fs ++ hs)) S t) Q) : W (evs ((f :: fs) ++ hs) S t) Q := h
theorem w_evc0 {hs : List Ex} {Q : List D → Tn → Prop} (h : W (evs hs S t) Q) : W (evs ([] ++ hs) S t) Q := h
theorem w_tup {fs : List Ex} (h : W (evs fs S t) fun ds t1 => Q (.tup ds) t1) : W (eTup fs S t) Q := w_bnd h
theorem w_lst {fs : List Ex} (h : W (evs fs S t) fun ds t1 => Q (.lst ds) t1) : W (eLst fs S t) Q := w_bnd h
theorem w_call {F : Fn} {fs : List Ex} (h : W (evs fs S t) fun ds t1 => W (F ds t1) Q) : W (eCall F fs S t) Q := w_bnd h
/-- of a truth value -/
def Bl (Q : Bool → Tn → Prop) : D → Tn → Prop := fun d t => match d with
  | .bl b => Q b t
  | _ => False
theorem w_and {a b : Ex} (h : W (a S t) (Bl fun k t1 => (k = true → W (b S t1) Q) ∧ (k = false → Q (.bl false) t1))) : W (eAnd a b S t) Q := w_bnd (h.mono fun d t1 q => by
  cases d with
  | bl k => cases k with
    | true => exact q.1 rfl
    | false => exact q.2 rfl
  | _ => exact q.elim)
theorem w_or {a b : Ex} (h : W (a S t) (Bl fun k t1 => (k = false → W (b S t1) Q) ∧ (k = true → Q (.bl true) t1))) : W (eOr a b S t) Q := w_bnd (h.mono fun d t1 q => by
  cases d with
  | bl k => cases k with
    | true => exact q.2 rfl
    | false => exact q.1 rfl
  | _ => exact q.elim)
theorem w_ife {c a b : Ex} (h : W (c S t) (Bl fun k t1 => (k = true → W (a S t1) Q) ∧ (k = false → W (b S t1) Q))) : W (eIf c a b S t) Q := w_bnd (h.mono fun d t1 q => by
  cases d with
  | bl k => cases k with
    | true => exact q.1 rfl
    | false => exact q.2 rfl
  | _ => exact q.elim)
theorem w_chain {o1 o2 : D → D → M D} {a b c : Ex} (h : W (a S t) fun x t1 => W (b S t1) fun y t2 => W (o1 x y t2) (Bl fun k t3 => (k = true → W (c S t3) fun u t4 => W (o2 y u t4) Q) ∧ (k = false → Q (.bl false) t3))) : W (eChain o1 o2 a b c S t) Q :=
  w_bnd (h.mono fun x t1 h => w_bnd (h.mono fun y t2 h => w_bnd (h.mono fun d t3 q => by
    cases d with
    | bl k => cases k with
      | true => exact w_bnd (q.1 rfl)
      | false => exact q.2 rfl
    | _ => exact q.elim)))
theorem w_not {b : Bool} (h : Q (.bl (!b)) t) : W (oNot (.bl b) t) Q := h
theorem w_slice {a : Ex} {lo hi : Option Ex} (h : W (a S t) fun x t1 => W (oEx lo S t1) fun l t2 => W (oEx hi S t2) fun u t3 => W (pSlice x l u t3) Q) : W (eSlice a lo hi S t) Q :=
  w_bnd (h.mono fun x t1 h => w_bnd (h.mono fun l t2 h => w_bnd h))
theorem w_oN {Q : Option Int → Tn → Prop} (h : Q none t) : W (oEx none S t) Q := h
/-- of a number -/
def In (Q : Int → Tn → Prop) : D → Tn → Prop := fun d t => match d with
  | .int i => Q i t
  | _ => False
theorem w_oS {f : Ex} {Q : Option Int → Tn → Prop} (h : W (f S t) (In fun i t1 => Q (some i) t1)) : W (oEx (some f) S t) Q := w_bnd (h.mono fun d t1 q => by
  cases d with
  | int k => exact q
  | _ => exact q.elim)
theorem w_comp {vs : List Nat} {it : Sl → M (List D)} {tg : Tg} {cond elt : Ex} (h : W (it S t) fun ds t1 => ds.length ≤ sizeLine ∧ W (cmpL tg cond elt (wipeS S vs) ds t1) fun rs t2 => Q (.lst rs) t2) : W (eComp vs it tg cond elt S t) Q :=
  w_bnd (h.mono fun ds t1 ⟨h1, h2⟩ => by rw [if_pos h1]; exact w_bnd h2)
/-- of a tuple or a list -/
def Sq (Q : List D → Tn → Prop) : D → Tn → Prop := fun d t => match d with
  | .tup ds => Q ds t
  | .lst ds => Q ds t
  | _ => False
theorem w_itSeq {f : Ex} {Q : List D → Tn → Prop} (h : W (f S t) (Sq Q)) : W (itSeq f S t) Q := w_bnd (h.mono fun d t1 q => by
  cases d with
  | tup ds => exact q
  | lst ds => exact q
  | _ => exact q.elim)
def rng (n : Nat) : List D := (List.range n).map fun (i : Nat) => D.int (i : Int)
theorem rng_eq (n : Nat) : ((List.range n).map fun (i : Nat) => D.int ((0 : Int) + (i : Int))) = rng n := by
  unfold rng
  exact List.map_congr_left fun i _ => by rw [Int.zero_add]
theorem w_itR {f : Ex} {Q : List D → Tn → Prop} (h : W (f S t) (In fun j t1 => 0 ≤ j ∧ j < 2 ^ 62 ∧ Q (rng j.toNat) t1)) : W (itRange1 f S t) Q := w_bnd (h.mono fun d t1 q => by
  cases d with
  | int k =>
    obtain ⟨h1, h2, h3⟩ := q
    show W ((if -(2 ^ 62) ≤ k ∧ k < 2 ^ 62 then ret ((List.range k.toNat).map fun (i : Nat) => D.int ((0 : Int) + (i : Int))) else stuck) t1) Q
    rw [if_pos ⟨by omega, h2⟩, rng_eq]
    exact h3
  | _ => exact q.elim)
end
section
variable {S : Sl} {t : Tn} {Q : Fl → Tn → Prop}
/-- what follows: on with the slots, or back with a value -/
def Nx (N : Sl → Tn → Prop) (R : D → Tn → Prop) : Fl → Tn → Prop := fun fl t => match fl with
  | .nx S => N S t
  | .ret d => R d t
theorem w_nil (h : Q (.nx S) t) : W (sNil S t) Q := h
theorem w_seq {a b : Stm} (h : W (a S t) (Nx (fun S' t' => W (b S' t') Q) (fun d t' => Q (.ret d) t'))) : W (sSeq a b S t) Q := w_bnd (h.mono fun fl t1 q => by
  cases fl with
  | nx S' => exact q
  | ret d => exact q)
theorem w_asg {i : Nat} {e : Ex} (h : W (e S t) fun d t1 => Q (.nx (S.set i (.val d))) t1) : W (sAsg i e S t) Q := w_bnd h
/-- of a list -/
def Ls (Q : List D → Tn → Prop) : D → Tn → Prop := fun d t => match d with
  | .lst ds => Q ds t
  | _ => False
theorem w_own {i : Nat} {e : Ex} (h : W (e S t) (Ls fun ds t1 => Q (.nx (S.set i (.own ds))) t1)) : W (sOwn i e S t) Q := w_bnd (h.mono fun d t1 q => by
  cases d with
  | lst ds => exact q
  | _ => exact q.elim)
theorem w_par {i j : Nat} {a b : Ex} (h : W (a S t) fun x t1 => W (b S t1) fun y t2 => Q (.nx ((S.set i (.val x)).set j (.val y))) t2) : W (sPar i j a b S t) Q := w_bnd (h.mono fun _ _ h => w_bnd h)
theorem w_parO {i j : Nat} {a b : Ex} (h : W (a S t) fun x t1 => W (b S t1) (Ls fun ds t2 => Q (.nx ((S.set i (.val x)).set j (.own ds))) t2)) : W (sParO i j a b S t) Q := w_bnd (h.mono fun _ _ h => w_bnd (h.mono fun d t1 q => by
  cases d with
  | lst ds => exact q
  | _ => exact q.elim))
theorem w_app {i : Nat} {ds : List D} {e : Ex} (he : S[i]? = some (.own ds)) (h : W (e S t) fun d t1 => ds.length < sizeLine ∧ Q (.nx (S.set i (.own (ds ++ [d])))) t1) : W (sApp i e S t) Q := by
  unfold sApp
  rw [he]
  exact w_bnd (h.mono fun d t1 ⟨h1, h2⟩ => by
    show W ((if ds.length < sizeLine then ret (Fl.nx (S.set i (.own (ds ++ [d])))) else stuck) t1) Q
    rw [if_pos h1]; exact h2)
theorem w_expr {e : Ex} (h : W (e S t) fun _ t1 => Q (.nx S) t1) : W (sExpr e S t) Q := w_bnd h
theorem w_if {c : Ex} {a b : Stm} (h : W (c S t) (Bl fun k t1 => (k = true → W (a S t1) Q) ∧ (k = false → W (b S t1) Q))) : W (sIf c a b S t) Q := w_bnd (h.mono fun d t1 q => by
  cases d with
  | bl k => cases k with
    | true => exact q.1 rfl
    | false => exact q.2 rfl
  | _ => exact q.elim)
theorem w_sret {e : Ex} (h : W (e S t) fun d t1 => Q (.ret d) t1) : W (sRet e S t) Q := w_bnd h
theorem w_frz {i : Nat} {ds : List D} {a : Stm} (he : S[i]? = some (.own ds)) (h : W (a (S.set i (.val (.lst ds))) t) Q) : W (sFrz i a S t) Q := by
  unfold sFrz; rw [he]; exact h
theorem w_for {it : Sl → M (List D)} {tg : Tg} {body : Stm} (h : W (it S t) fun ds t1 => W (forL tg body ds S t1) Q) : W (sFor it tg body S t) Q := w_bnd (w_calm h)
theorem w_forI {tg : Tg} {body : Stm} (I : Nat → Sl → Tn → Prop) : ∀ {ds : List D} {k : Nat} {S : Sl} {t : Tn}, I k S t →
    (∀ i d, ds[i]? = some d → ∀ S t, I (k + i) S t → ∃ S', tg d S = some S' ∧ W (body S' t) (Nx (fun S2 t2 => I (k + i + 1) S2 t2) fun d t2 => Q (.ret d) t2)) →
    (∀ S t, I (k + ds.length) S t → Q (.nx S) t) → W (forL tg body ds S t) Q
  | [], k, S, t, h0, _, hQ => hQ S t h0
  | d :: ds, k, S, t, h0, hs, hQ => by
    obtain ⟨S', e, w⟩ := hs 0 d rfl S t h0
    show W ((match tg d S with
      | none => stuck
      | some S' => bnd (calm (body S')) fun fl => match fl with
        | .nx S'' => forL tg body ds S''
        | .ret v => ret (.ret v)) t) Q
    rw [e]
    exact w_bnd (w_calm (w.mono fun fl t1 q => by
      cases fl with
      | ret v => exact q
      | nx S2 =>
        refine w_forI I (k := k + 1) q (fun i d' e' S t hI => ?_) fun S t hI => hQ S t (by rw [List.length_cons, Nat.add_comm ds.length 1, ← Nat.add_assoc]; exact hI)
        have := hs (i + 1) d' e' S t (by rw [Nat.add_comm i 1, ← Nat.add_assoc]; exact hI)
        rw [Nat.add_comm i 1, ← Nat.add_assoc] at this
        exact this))
/-- with an invariant that does not count -/
theorem w_forC {tg : Tg} {body : Stm} {ds : List D} {S : Sl} {t : Tn} (I : Sl → Tn → Prop) (h0 : I S t)
    (hs : ∀ d ∈ ds, ∀ S t, I S t → ∃ S', tg d S = some S' ∧ W (body S' t) (Nx (fun S2 t2 => I S2 t2) fun d t2 => Q (.ret d) t2))
    (hQ : ∀ S t, I S t → Q (.nx S) t) : W (forL tg body ds S t) Q :=
  w_forI (fun _ => I) (k := 0) h0 (fun i d e S t hI => hs d (List.mem_of_getElem? e) S t hI) fun S t hI => hQ S t hI
end
theorem w_fn {n : Nat} {body : Stm} {ds : List D} {t : Tn} {Q : D → Tn → Prop} (h : W (body (slots0 n ds) t) (Nx (fun _ t1 => Q .non t1) Q)) : W (fnOf n body ds t) Q := w_bnd (h.mono fun fl t1 q => by
  cases fl with
  | nx S => exact q
  | ret d => exact q)
section
variable {tg : Tg} {cond elt : Ex} {S : Sl}
theorem cmpL_pure {p : D → Bool} {e : D → D} : ∀ {ds : List D}, (∀ d ∈ ds, ∃ S', tg d S = some S' ∧ cond S' = ret (.bl (p d)) ∧ (p d = true → elt S' = ret (e d))) → cmpL tg cond elt S ds = ret ((ds.filter p).map e)
  | [], _ => rfl
  | d :: ds, h => by
    obtain ⟨S', e1, e2, e3⟩ := h d (List.mem_cons_self ..)
    have ih := cmpL_pure (p := p) (e := e) fun d hd => h d (List.mem_cons_of_mem _ hd)
    show (match tg d S with
      | none => stuck
      | some S' => bnd (calm (cond S')) fun b => match b with
        | .bl true => bnd (calm (elt S')) fun r => bnd (cmpL tg cond elt S ds) fun rs => ret (r :: rs)
        | .bl false => cmpL tg cond elt S ds
        | _ => stuck) = _
    rw [e1]
    show bnd (calm (cond S')) _ = _
    rw [e2]
    cases hp : p d with
    | true =>
      show bnd (calm (elt S')) _ = _
      rw [e3 hp, ih, List.filter_cons_of_pos hp, List.map_cons]
      rfl
    | false =>
      show cmpL tg cond elt S ds = _
      rw [ih, List.filter_cons_of_neg (by rw [hp]; decide)]
theorem w_cmpL {T : Tn → Prop} {R : D → D → Prop} {Q : List D → Tn → Prop} : ∀ {ds : List D} {t : Tn}, T t →
    (∀ d ∈ ds, ∀ t, T t → ∃ S', tg d S = some S' ∧ cond S' = ret (.bl true) ∧ W (elt S' t) fun r t1 => T t1 ∧ R d r) →
    (∀ rs t, T t → ds.length = rs.length → (∀ (i : Nat) (d r : D), ds[i]? = some d → rs[i]? = some r → R d r) → Q rs t) → W (cmpL tg cond elt S ds t) Q
  | [], t, ht, _, hQ => hQ [] t ht rfl fun i d r e => by simp at e
  | d :: ds, t, ht, h, hQ => by
    obtain ⟨S', e1, e2, e3⟩ := h d (List.mem_cons_self ..) t ht
    show W ((match tg d S with
      | none => stuck
      | some S' => bnd (calm (cond S')) fun b => match b with
        | .bl true => bnd (calm (elt S')) fun r => bnd (cmpL tg cond elt S ds) fun rs => ret (r :: rs)
        | .bl false => cmpL tg cond elt S ds
        | _ => stuck) t) Q
    rw [e1]
    show W (bnd (calm (cond S')) _ t) Q
    rw [e2]
    refine w_bnd (w_calm (w_ret ?_))
    refine w_bnd (w_calm (e3.mono fun r t1 ⟨ht1, hr⟩ => w_bnd ?_))
    refine w_cmpL ht1 (fun d hd => h d (List.mem_cons_of_mem _ hd)) fun rs t2 ht2 hl hR => ?_
    refine hQ (r :: rs) t2 ht2 (by rw [List.length_cons, List.length_cons, hl]) fun i d' r' e e' => ?_
    cases i with
    | zero => cases e; cases e'; exact hr
    | succ i => exact hR i d' r' e e'
end
theorem w_cmpP {tg : Tg} {cond elt : Ex} {S : Sl} {t : Tn} {Q : List D → Tn → Prop} {ds : List D} (p : D → Bool) (e : D → D) (h : ∀ d ∈ ds, ∃ S', tg d S = some S' ∧ cond S' = ret (.bl (p d)) ∧ (p d = true → elt S' = ret (e d))) (q : Q ((ds.filter p).map e) t) : W (cmpL tg cond elt S ds t) Q := by
  rw [cmpL_pure h]; exact q
section
variable {S : Sl} {c : Int} {rs : List (Int × Int)} {st : Sto}
theorem w_tc {i : Nat} {Q : D → Tn → Prop} (e : S[i]? = some (.val .town)) (h : Q (.int c) (some (c, rs), st)) : W (eTC i S (some (c, rs), st)) Q := by
  unfold eTC isTown; rw [e]; exact h
theorem w_stc {i : Nat} {e : Ex} {t : Tn} {Q : Fl → Tn → Prop} (he : S[i]? = some (.val .town)) (h : W (e S t) (In fun n t1 => ∃ c rs st, t1 = (some (c, rs), st) ∧ Q (.nx S) (some (n, rs), st))) : W (sTC i e S t) Q := by
  unfold sTC isTown
  rw [he, if_pos rfl]
  exact w_bnd (h.mono fun d t1 q => by
    cases d with
    | int n => obtain ⟨c, rs, st, rfl, q⟩ := q; exact q
    | _ => exact q.elim)
end
section
variable {S : Sl} {c : Int} {rs : List (Int × Int)}
theorem w_tr {i : Nat} {k d : Ex} {t : Tn} {Q : D → Tn → Prop} (he : S[i]? = some (.val .town)) (h : W (k S t) (In fun n t1 => W (d S t1) fun b t2 => ∃ c rs st, t2 = (some (c, rs), st) ∧ Q (match rLook rs n with | some v => .int v | none => b) (some (c, rs), st))) : W (eTR i k d S t) Q := by
  unfold eTR isTown
  rw [he, if_pos rfl]
  exact w_bnd (h.mono fun a t1 q => by
    cases a with
    | int n => exact w_bnd (q.mono fun b t2 q => by obtain ⟨c, rs, st, rfl, q⟩ := q; exact q)
    | _ => exact q.elim)
theorem w_str {i : Nat} {k e : Ex} {t : Tn} {Q : Fl → Tn → Prop} (he : S[i]? = some (.val .town)) (h : W (e S t) (In fun v t1 => W (k S t1) (In fun n t2 => ∃ c rs st, t2 = (some (c, rs), st) ∧ rs.length < 1000000 ∧ Q (.nx S) (some (c, rPut rs n v), st)))) : W (sTR i k e S t) Q := by
  unfold sTR isTown
  rw [he, if_pos rfl]
  exact w_bnd (h.mono fun d t1 q => by
    cases d with
    | int v => exact w_bnd (q.mono fun a t2 q => by
        cases a with
        | int n =>
          obtain ⟨c, rs, st, rfl, hl, q⟩ := q
          show W (if rs.length < 1000000 then some (.ok (.nx S) (some (c, rPut rs n v), st)) else none) Q
          rw [if_pos hl]; exact q
        | _ => exact q.elim)
    | _ => exact q.elim)
theorem w_scr {i : Nat} {ns : List Int} {t : Tn} {Q : D → Tn → Prop} (e : S[i]? = some (.val (.scr ns))) (h : Q (.bl (!ns.isEmpty)) t) : W (eScr i S t) Q := by
  unfold eScr scrAt; rw [e]; exact h
theorem w_begun {st : Sto} {Q : D → Tn → Prop} (h : Q .town (some (0, []), st)) : W (eBegun S (none, st)) Q := h
end
end BG
set_option Elab.async false
set_option linter.all false
set_option maxRecDepth 100000
set_option maxHeartbeats 4000000
namespace BG
open PySem L2
section
variable {t : Tn} {Q : D → Tn → Prop}
theorem nx_nx {N : Sl → Tn → Prop} {R : D → Tn → Prop} {S : Sl} (h : N S t) : Nx N R (.nx S) t := h
theorem nx_ret {N : Sl → Tn → Prop} {R : D → Tn → Prop} {d : D} (h : R d t) : Nx N R (.ret d) t := h
theorem bl_i {Q : Bool → Tn → Prop} {b : Bool} (h : Q b t) : Bl Q (.bl b) t := h
theorem in_i {Q : Int → Tn → Prop} {b : Int} (h : Q b t) : In Q (.int b) t := h
theorem sq_t {Q : List D → Tn → Prop} {b : List D} (h : Q b t) : Sq Q (.tup b) t := h
theorem sq_l {Q : List D → Tn → Prop} {b : List D} (h : Q b t) : Sq Q (.lst b) t := h
theorem ls_l {Q : List D → Tn → Prop} {b : List D} (h : Q b t) : Ls Q (.lst b) t := h
theorem ift {A B : Prop} (h : A) : (true = true → A) ∧ (true = false → B) := ⟨fun _ => h, fun e => Bool.noConfusion e⟩
theorem iff' {A B : Prop} (h : B) : (false = true → A) ∧ (false = false → B) := ⟨fun e => Bool.noConfusion e, fun _ => h⟩
theorem ift2 {A B : Prop} (h : A) : (true = false → B) ∧ (true = true → A) := ⟨fun e => Bool.noConfusion e, fun _ => h⟩
theorem iff2 {A B : Prop} (h : B) : (false = false → B) ∧ (false = true → A) := ⟨fun _ => h, fun e => Bool.noConfusion e⟩
theorem ift_of {A B : Prop} {k : Bool} (e : k = true) (h : A) : (k = true → A) ∧ (k = false → B) := by subst e; exact ift h
theorem iff_of {A B : Prop} {k : Bool} (e : k = false) (h : B) : (k = true → A) ∧ (k = false → B) := by subst e; exact iff' h
theorem ift2_of {A B : Prop} {k : Bool} (e : k = true) (h : A) : (k = false → B) ∧ (k = true → A) := by subst e; exact ift2 h
theorem iff2_of {A B : Prop} {k : Bool} (e : k = false) (h : B) : (k = false → B) ∧ (k = true → A) := by subst e; exact iff2 h
theorem w_addI {i j : Int} (h : Q (.int (i + j)) t) : W (pAdd (.int i) (.int j) t) Q := h
theorem w_addT {xs ys : List D} (hl : xs.length + ys.length ≤ sizeLine) (h : Q (.tup (xs ++ ys)) t) : W (pAdd (.tup xs) (.tup ys) t) Q := by
  show W ((if xs.length + ys.length ≤ sizeLine then ret (.tup (xs ++ ys)) else stuck) t) Q
  rw [if_pos hl]; exact h
theorem w_addL {xs ys : List D} (hl : xs.length + ys.length ≤ sizeLine) (h : Q (.lst (xs ++ ys)) t) : W (pAdd (.lst xs) (.lst ys) t) Q := by
  show W ((if xs.length + ys.length ≤ sizeLine then ret (.lst (xs ++ ys)) else stuck) t) Q
  rw [if_pos hl]; exact h
theorem w_sub {i j : Int} (h : Q (.int (i - j)) t) : W (pSub (.int i) (.int j) t) Q := h
theorem w_mulI {i j : Int} (hl : -(2 ^ 64) < i ∧ i < 2 ^ 64) (h : Q (.int (i * j)) t) : W (pMul (.int i) (.int j) t) Q := by
  show W ((if -(2 ^ 64) < i ∧ i < 2 ^ 64 then ret (.int (i * j)) else stuck) t) Q
  rw [if_pos hl]; exact h
theorem w_mulT {xs : List D} {k : Int} (hl : xs ≠ [] ∧ 2 ≤ k ∧ k ≤ 1000 ∧ xs.length ≤ 1000) (h : Q (.tup (List.replicate k.toNat xs).flatten) t) : W (pMul (.tup xs) (.int k) t) Q := by
  show W ((if xs ≠ [] ∧ 2 ≤ k ∧ k ≤ 1000 ∧ xs.length ≤ 1000 then ret (.tup (List.replicate k.toNat xs).flatten) else stuck) t) Q
  rw [if_pos hl]; exact h
theorem w_mulL {xs : List D} {k : Int} (hl : 0 ≤ k ∧ k ≤ 1000 ∧ xs.length ≤ 1000) (h : Q (.lst (List.replicate k.toNat xs).flatten) t) : W (pMul (.lst xs) (.int k) t) Q := by
  show W ((if 0 ≤ k ∧ k ≤ 1000 ∧ xs.length ≤ 1000 then ret (.lst (List.replicate k.toNat xs).flatten) else stuck) t) Q
  rw [if_pos hl]; exact h
theorem w_mod {i j : Int} (hl : 0 < j) (h : Q (.int (i % j)) t) : W (pMod (.int i) (.int j) t) Q := by
  show W ((if 0 < j then ret (.int (i % j)) else stuck) t) Q
  rw [if_pos hl]; exact h
theorem w_div {i j : Int} (hl : 0 < j ∧ j < 1073741824) (h : Q (.int (i / j)) t) : W (pDiv (.int i) (.int j) t) Q := by
  show W ((if 0 < j ∧ j < 1073741824 then ret (.int (i / j)) else stuck) t) Q
  rw [if_pos hl]; exact h
theorem w_pow {i j : Int} (hl : 0 ≤ j ∧ j ≤ 1000000 ∧ i.natAbs < 2 ^ 64) (h : Q (.int (i ^ j.toNat)) t) : W (pPow (.int i) (.int j) t) Q := by
  show W ((if 0 ≤ j ∧ j ≤ 1000000 ∧ i.natAbs < 2 ^ 64 then ret (.int (i ^ j.toNat)) else stuck) t) Q
  rw [if_pos hl]; exact h
theorem w_xor {i j : Int} (h : Q (.int (Builtin.bitXor i j)) t) : W (pXor (.int i) (.int j) t) Q := h
theorem w_eqD {p q : D} (hp : okD p 60 = true) (hq : okD q 60 = true) (h : Q (.bl (PyData.eqv p.py q.py)) t) : W (pEq p q t) Q := by
  unfold pEq; rw [if_pos ⟨hp, hq⟩]; exact h
theorem w_neD {p q : D} (hp : okD p 60 = true) (hq : okD q 60 = true) (h : Q (.bl (!PyData.eqv p.py q.py)) t) : W (pNe p q t) Q := by
  unfold pNe; rw [if_pos ⟨hp, hq⟩]; exact h
theorem w_ltI {i j : Int} (h : Q (.bl (decide (i < j))) t) : W (pLt (.int i) (.int j) t) Q := h
theorem w_leI {i j : Int} (h : Q (.bl (decide (i ≤ j))) t) : W (pLe (.int i) (.int j) t) Q := h
theorem w_gtI {i j : Int} (h : Q (.bl (decide (j < i))) t) : W (pGt (.int i) (.int j) t) Q := h
theorem w_geI {i j : Int} (h : Q (.bl (decide (j ≤ i))) t) : W (pGe (.int i) (.int j) t) Q := h
theorem w_inT {p : D} {ds : List D} (hp : okD p 60 = true) (hq : okA ds 60 = true) (h : Q (.bl (inD p ds)) t) : W (pIn p (.tup ds) t) Q := by
  show W ((if okD p 60 = true ∧ okA ds 60 = true then ret (.bl (inD p ds)) else stuck) t) Q
  rw [if_pos ⟨hp, hq⟩]; exact h
theorem w_inL {p : D} {ds : List D} (hp : okD p 60 = true) (hq : okA ds 60 = true) (h : Q (.bl (inD p ds)) t) : W (pIn p (.lst ds) t) Q := by
  show W ((if okD p 60 = true ∧ okA ds 60 = true then ret (.bl (inD p ds)) else stuck) t) Q
  rw [if_pos ⟨hp, hq⟩]; exact h
theorem w_idxT {ds : List D} {i : Int} {d : D} (e : atI ds i = some d) (h : Q d t) : W (pIdx (.tup ds) (.int i) t) Q := by
  show W ((match atI ds i with | some d => ret d | none => stuck) t) Q
  rw [e]; exact h
theorem w_idxL {ds : List D} {i : Int} {d : D} (e : atI ds i = some d) (h : Q d t) : W (pIdx (.lst ds) (.int i) t) Q := by
  show W ((match atI ds i with | some d => ret d | none => stuck) t) Q
  rw [e]; exact h
theorem w_idxS {ns : List Int} {i : Int} {n : Int} (e : atI ns i = some n) (h : Q (.int n) t) : W (pIdx (.scr ns) (.int i) t) Q := by
  show W ((match atI ns i with | some d => ret (D.int d) | none => stuck) t) Q
  rw [e]; exact h
theorem w_slT {ds : List D} {lo hi : Option Int} (h : Q (.tup (cutD ds lo hi)) t) : W (pSlice (.tup ds) lo hi t) Q := h
theorem w_slL {ds : List D} {lo hi : Option Int} (h : Q (.lst (cutD ds lo hi)) t) : W (pSlice (.lst ds) lo hi t) Q := h
theorem w_lenT {ds : List D} (h : Q (.int ds.length) t) : W (bLen (.tup ds) t) Q := h
theorem w_lenL {ds : List D} (h : Q (.int ds.length) t) : W (bLen (.lst ds) t) Q := h
theorem w_lenS {ns : List Int} (h : Q (.int ns.length) t) : W (bLen (.scr ns) t) Q := h
theorem w_tupL {ds : List D} (h : Q (.tup ds) t) : W (bTuple (.lst ds) t) Q := h
theorem w_tupT {ds : List D} (h : Q (.tup ds) t) : W (bTuple (.tup ds) t) Q := h
theorem w_lstL {ds : List D} (h : Q (.lst ds) t) : W (bList (.lst ds) t) Q := h
theorem w_lstT {ds : List D} (h : Q (.lst ds) t) : W (bList (.tup ds) t) Q := h
theorem w_isi {T : Ty} {d : D} {b : Bool} (e : isTy T d = some b) (h : Q (.bl b) t) : W (pIsi T d t) Q := by
  unfold pIsi; rw [e]; exact h
theorem w_allL {ds : List D} {bs : List Bool} (e : bools ds = some bs) (h : Q (.bl (bs.all id)) t) : W (bAll (.lst ds) t) Q := by
  show W ((match bools ds with | some bs => ret (D.bl (bs.all id)) | none => stuck) t) Q
  rw [e]; exact h
theorem w_neg {i : Int} (h : Q (.int (-i)) t) : W (pNeg (.int i) t) Q := h
theorem w_rng {i : Int} (hl : 0 ≤ i ∧ i ≤ 1000000) (h : Q (.lst (rng i.toNat)) t) : W (pRng (.int i) t) Q := by
  show W ((if 0 ≤ i ∧ i ≤ 1000000 then ret (D.lst ((List.range i.toNat).map fun (i : Nat) => D.int (i : Int))) else stuck) t) Q
  rw [if_pos hl]; exact h
theorem w_isn {p : D} (h : Q (.bl (isN p)) t) : W (pIs p .non t) Q := by cases p <;> exact h
theorem w_isnn {p : D} (h : Q (.bl (!isN p)) t) : W (pIsNot p .non t) Q := by cases p <;> exact h
end
theorem w_eqI {i j : Int} {t : Tn} {Q : D → Tn → Prop} (h : Q (.bl (decide (i = j))) t) : W (pEq (.int i) (.int j) t) Q := by
  refine w_eqD rfl rfl ?_
  have e : PyData.eqv (D.int i).py (D.int j).py = decide (i = j) := by
    show (i == j) = decide (i = j)
    rw [Bool.eq_iff_iff, beq_iff_eq, decide_eq_true_iff]
  rw [e]; exact h
theorem w_neI {i j : Int} {t : Tn} {Q : D → Tn → Prop} (h : Q (.bl (decide (i ≠ j))) t) : W (pNe (.int i) (.int j) t) Q := by
  refine w_neD rfl rfl ?_
  have e : (!PyData.eqv (D.int i).py (D.int j).py) = decide (i ≠ j) := by
    show (!(i == j)) = decide (i ≠ j)
    by_cases h : i = j
    · rw [decide_eq_false (by simp [h]), beq_iff_eq.mpr h]; rfl
    · rw [decide_eq_true h, beq_eq_false_iff_ne.mpr h]; rfl
  rw [e]; exact h
/-- of a pair -/
def Pr (Q : D → D → Tn → Prop) : D → Tn → Prop := fun d t => match d with
  | .tup [a, b] => Q a b t
  | _ => False
theorem pr_i {Q : D → D → Tn → Prop} {a b : D} {t : Tn} (h : Q a b t) : Pr Q (.tup [a, b]) t := h
theorem w_asgP {i j : Nat} {e : Ex} {S : Sl} {t : Tn} {Q : Fl → Tn → Prop} (h : W (e S t) (Pr fun a b t1 => Q (.nx ((S.set i (.val a)).set j (.val b))) t1)) : W (sAsgG (gP i j) e S t) Q := w_bnd (h.mono fun d t1 q => by
  unfold Pr at q
  split at q
  · exact q
  · exact q.elim)
theorem w_cmpM {tg : Tg} {elt : Ex} {S : Sl} {t : Tn} {Q : List D → Tn → Prop} {ds : List D} (e : D → D) (h : ∀ d ∈ ds, ∃ S', tg d S = some S' ∧ elt S' = ret (e d)) (q : Q (ds.map e) t) : W (cmpL tg (eC (.bl true)) elt S ds t) Q := by
  refine w_cmpP (fun _ => true) e (fun d hd => ?_) (by rw [show ds.filter (fun _ => true) = ds from List.filter_eq_self.mpr fun _ _ => rfl]; exact q)
  obtain ⟨S', e1, e2⟩ := h d hd
  exact ⟨S', e1, rfl, fun _ => e2⟩
mutual
def nobl : D → Bool
  | .non => true
  | .bl _ => false
  | .int _ => true
  | .str _ => true
  | .tup xs => noblA xs
  | .lst xs => noblA xs
  | .town => false
  | .scr _ => false
  | .dct _ _ => false
  | .dTT _ _ => false
  | .hnd _ => false
def noblA : List D → Bool
  | [] => true
  | d :: ds => nobl d && noblA ds
end
mutual
theorem eqv_iff : ∀ {p q : D}, nobl p = true → nobl q = true → (PyData.eqv p.py q.py = true ↔ p = q)
  | .non, q, hp, hq => by cases q <;> first | exact ⟨fun _ => rfl, fun _ => rfl⟩ | (cases hq; done) | (constructor <;> intro h <;> cases h; done)
  | .int i, q, hp, hq => by
    cases q with
    | int j =>
      show ((i == j) = true ↔ _)
      rw [beq_iff_eq]
      exact ⟨fun h => by rw [h], fun h => by cases h; rfl⟩
    | _ => first | (cases hq; done) | (constructor <;> intro h <;> cases h)
  | .str i, q, hp, hq => by
    cases q with
    | str j =>
      show ((i == j) = true ↔ _)
      rw [beq_iff_eq]
      exact ⟨fun h => by rw [h], fun h => by cases h; rfl⟩
    | _ => first | (cases hq; done) | (constructor <;> intro h <;> cases h)
  | .tup xs, q, hp, hq => by
    cases q with
    | tup ys =>
      have := eqvA_iff (ds := xs) (es := ys) hp hq
      show (PyData.eqvAll (pyA xs) (pyA ys) = true ↔ _)
      rw [this]
      exact ⟨fun h => by rw [h], fun h => by cases h; rfl⟩
    | _ => first | (cases hq; done) | (constructor <;> intro h <;> cases h)
  | .lst xs, q, hp, hq => by
    cases q with
    | lst ys =>
      have := eqvA_iff (ds := xs) (es := ys) hp hq
      show (PyData.eqvAll (pyA xs) (pyA ys) = true ↔ _)
      rw [this]
      exact ⟨fun h => by rw [h], fun h => by cases h; rfl⟩
    | _ => first | (cases hq; done) | (constructor <;> intro h <;> cases h)
theorem eqvA_iff : ∀ {ds es : List D}, noblA ds = true → noblA es = true → (PyData.eqvAll (pyA ds) (pyA es) = true ↔ ds = es)
  | [], [], _, _ => ⟨fun _ => rfl, fun _ => rfl⟩
  | [], e :: es, _, _ => ⟨fun h => (nomatch h), fun h => (nomatch h)⟩
  | d :: ds, [], _, _ => ⟨fun h => (nomatch h), fun h => (nomatch h)⟩
  | d :: ds, e :: es, hp, hq => by
    have hp : (nobl d && noblA ds) = true := hp
    have hq : (nobl e && noblA es) = true := hq
    rw [Bool.and_eq_true] at hp hq
    show ((PyData.eqv d.py e.py && PyData.eqvAll (pyA ds) (pyA es)) = true ↔ _)
    rw [Bool.and_eq_true, eqv_iff hp.1 hq.1, eqvA_iff hp.2 hq.2, List.cons.injEq]
end
theorem w_resE {nm : Nat → Str} {al : Nat → Bool} {F : Fn} {fs : List Ex} {S : Sl} {t : Tn} {Q : D → Tn → Prop} (h : W (evs fs S t) fun ds t1 => W (eResM nm al (F ds) t1) Q) : W (eRes nm al (eCall F fs) S t) Q := by
  obtain ⟨ds, t1, e, q⟩ := h.ex
  unfold eRes
  have e2 : eCall F fs S t = F ds t1 := by unfold eCall; exact bnd_ok e
  unfold eResM at q ⊢
  rw [e2]
  exact q
theorem w_rmX {nm : Nat → Str} {al : Nat → Bool} {m : M D} {t : Tn} {Q : D → Tn → Prop} {c : Nat} (h : m = raise c) (ha : al c = true) (q : Q (.tup [.str (nm c)]) t) : W (eResM nm al m t) Q := by
  unfold eResM
  rw [h]
  show W (if al c = true then some (.ok (.tup [.str (nm c)]) t) else none) Q
  rw [if_pos ha]; exact q
theorem w_rA {m : M D} {t : Tn} {Q : D → Tn → Prop} (h : m = raise 7) (q : Q (.tup [.str "answers"]) t) : W (eResM resNm al12 m t) Q := w_rmX h rfl q
theorem w_fnil {tg : Tg} {body : Stm} {S : Sl} {t : Tn} {Q : Fl → Tn → Prop} (h : Q (.nx S) t) : W (forL tg body [] S t) Q := h
theorem w_fcons {tg : Tg} {body : Stm} {d : D} {ds : List D} {S S' : Sl} {t : Tn} {Q : Fl → Tn → Prop} (e : tg d S = some S') (h : W (body S' t) (Nx (fun S2 t2 => W (forL tg body ds S2 t2) Q) fun d t2 => Q (.ret d) t2)) : W (forL tg body (d :: ds) S t) Q := by
  show W ((match tg d S with
      | none => stuck
      | some S' => bnd (calm (body S')) fun fl => match fl with
        | .nx S'' => forL tg body ds S''
        | .ret v => ret (.ret v)) t) Q
  rw [e]
  exact w_bnd (w_calm (h.mono fun fl t1 q => by cases fl with | ret v => exact q | nx S2 => exact q))
theorem and_lt {a b : Nat} {P : Prop} (h : a < b) (p : P) : a < b ∧ P := ⟨h, p⟩
theorem and_le {a b : Nat} {P : Prop} (h : a ≤ b) (p : P) : a ≤ b ∧ P := ⟨h, p⟩
theorem and_ri {j : Int} {P : Prop} (h : 0 ≤ j) (h2 : j < 2 ^ 62) (p : P) : 0 ≤ j ∧ j < 2 ^ 62 ∧ P := ⟨h, h2, p⟩
/-- of a tuple -/
def Tp (Q : List D → Tn → Prop) : D → Tn → Prop := fun d t => match d with
  | .tup ds => Q ds t
  | _ => False
theorem tp_t {Q : List D → Tn → Prop} {b : List D} {t : Tn} (h : Q b t) : Tp Q (.tup b) t := h
end BG
set_option Elab.async false
set_option linter.all false
set_option maxRecDepth 100000
set_option maxHeartbeats 4000000
namespace BL
open PySem BG L2
local macro_rules | `(tactic| infer_instance) => `(tactic| first | (with_reducible first | refine w_seq ?_ | refine w_asg ?_ | refine w_asgP ?_ | refine pr_i ?_ | refine w_eqI ?_ | refine w_neI ?_ | refine w_own ?_ | refine w_par ?_ | refine w_parO ?_ | refine w_expr ?_ | refine w_if ?_ | refine w_sret ?_ | refine w_nil ?_ | refine w_for ?_ | refine w_bin ?_ | refine w_un ?_ | refine w_tup ?_ | refine w_lst ?_ | refine w_call ?_ | refine w_and ?_ | refine w_or ?_ | refine w_ife ?_ | refine w_chain ?_ | refine w_slice ?_ | refine w_oN ?_ | refine w_oS ?_ | refine w_comp ?_ | refine w_itSeq ?_ | refine w_itR ?_ | refine w_evnil ?_ | refine w_evcons ?_ | refine w_evc1 ?_ | refine w_evc0 ?_ | refine w_c ?_ | refine nx_nx ?_ | refine nx_ret ?_ | refine bl_i ?_ | refine in_i ?_ | refine sq_t ?_ | refine sq_l ?_ | refine ls_l ?_ | refine tp_t ?_ | refine w_not ?_ | refine w_addI ?_ | refine w_sub ?_ | refine w_xor ?_ | refine w_ltI ?_ | refine w_leI ?_ | refine w_gtI ?_ | refine w_geI ?_ | refine w_slT ?_ | refine w_slL ?_ | refine w_lenT ?_ | refine w_lenL ?_ | refine w_lenS ?_ | refine w_tupL ?_ | refine w_tupT ?_ | refine w_lstL ?_ | refine w_lstT ?_ | refine w_neg ?_ | refine w_isn ?_ | refine w_isnn ?_ | refine w_begun ?_ | refine w_ret ?_ | refine w_resE ?_) | (with_reducible refine w_var (by with_unfolding_all rfl) ?_) | (with_reducible refine w_peekV (by with_unfolding_all rfl) ?_) | (with_reducible refine w_peekO (by with_unfolding_all rfl) ?_) | (with_reducible refine w_app (by with_unfolding_all rfl) ?_) | (with_reducible refine w_frz (by with_unfolding_all rfl) ?_) | (with_reducible refine w_scr (by with_unfolding_all rfl) ?_) | (with_reducible refine w_tc (by with_unfolding_all rfl) ?_) | (with_reducible refine w_stc (by with_unfolding_all rfl) ?_) | (with_reducible refine w_tr (by with_unfolding_all rfl) ?_) | (with_reducible refine w_str (by with_unfolding_all rfl) ?_) | (with_reducible refine w_idxT (by with_unfolding_all rfl) ?_) | (with_reducible refine w_idxL (by with_unfolding_all rfl) ?_) | (with_reducible refine w_isi (by with_unfolding_all rfl) ?_) | ((with_reducible first | refine w_addT ?_ ?_ | refine w_addL ?_ ?_ | refine w_mulI ?_ ?_ | refine w_mulT ?_ ?_ | refine w_mulL ?_ ?_ | refine w_mod ?_ ?_ | refine w_div ?_ ?_ | refine w_pow ?_ ?_ | refine w_rng ?_ ?_); (first | decide | omega | (refine ⟨?_, ?_⟩ <;> omega) | (refine ⟨?_, ?_, ?_⟩ <;> omega) | (simp only [List.length_cons, List.length_nil, List.length_append, List.length_reverse, BL.cD_len, BL.iD_len, BL.mkx_len, BL.sizeL]; omega) | (refine ⟨List.cons_ne_nil _ _, ?_⟩; simp only [List.length_cons, List.length_nil]; omega))) | ((with_reducible first | refine w_eqD ?_ ?_ ?_ | refine w_neD ?_ ?_ ?_ | refine w_inT ?_ ?_ ?_ | refine w_inL ?_ ?_ ?_); (first | rfl | with_unfolding_all rfl); (first | rfl | with_unfolding_all rfl)) | ((with_reducible refine ift_of ?_ ?_); (with_unfolding_all rfl)) | ((with_reducible refine iff_of ?_ ?_); (with_unfolding_all rfl)) | ((with_reducible refine ift2_of ?_ ?_); (with_unfolding_all rfl)) | ((with_reducible refine iff2_of ?_ ?_); (with_unfolding_all rfl)) | ((with_reducible refine ift_of ?_ ?_); exact decide_eq_true (by omega)) | ((with_reducible refine iff_of ?_ ?_); exact decide_eq_false (by omega)) | ((with_reducible refine ift2_of ?_ ?_); exact decide_eq_true (by omega)) | ((with_reducible refine iff2_of ?_ ?_); exact decide_eq_false (by omega)))
variable {st : Sto}
theorem nd_le : ∀ (n : Nat) (l : List Int), l.Nodup → (∀ k ∈ l, 0 ≤ k ∧ k < (n : Int)) → l.length ≤ n
  | 0, l, _, h => by
    cases l with
    | nil => exact Nat.le_refl _
    | cons k r => have := h k (List.mem_cons_self ..); omega
  | n + 1, l, nd, h => by
    have ih := nd_le n (l.erase (n : Int)) (nd.erase _) fun k hk => by
      have h1 := (nd.mem_erase_iff).mp hk
      have h2 := h k h1.2
      have := h1.1
      omega
    by_cases hm : (n : Int) ∈ l
    · rw [List.length_erase_of_mem hm] at ih; omega
    · rw [List.erase_of_not_mem hm] at ih; omega
structure TOk (st : Sto) (t : Tn) : Prop where
  ex : ∃ c rs, t = (some (c, rs), st) ∧ (rs.map Prod.fst).Nodup ∧ ∀ k ∈ rs.map Prod.fst, (0 : Int) ≤ k ∧ k < ((64 : Nat) : Int)
theorem TOk.begun {st : Sto} : TOk st (some (0, []), st) := ⟨0, [], rfl, .nil, fun k h => nomatch h⟩
theorem rPut_keys (rs : List (Int × Int)) (k v : Int) : (rPut rs k v).map Prod.fst = if (rs.any fun p => decide (p.1 = k)) = true then rs.map Prod.fst else rs.map Prod.fst ++ [k] := by
  unfold rPut
  split
  · rw [List.map_map]
    refine List.map_congr_left fun p _ => ?_
    show (if p.1 = k then (p.1, v) else p).1 = p.1
    split <;> rfl
  · rw [List.map_append]; rfl
theorem atI_nat {α : Type} {xs : List α} {n : Nat} {x : α} (e : xs[n]? = some x) : atI xs (n : Int) = some x := by
  unfold atI ixN
  have hl : n < xs.length := (List.getElem?_eq_some_iff.mp e).1
  rw [if_pos (by omega), if_pos (by omega)]
  show xs[(n : Int).toNat]? = some x
  rw [Int.toNat_natCast]; exact e
theorem atI_of {α : Type} {xs : List α} {i : Int} (h0 : 0 ≤ i) (h1 : i < xs.length) : ∃ x, x ∈ xs ∧ atI xs i = some x ∧ xs[i.toNat]? = some x := by
  have hl : i.toNat < xs.length := by omega
  refine ⟨xs[i.toNat], List.getElem_mem hl, ?_, List.getElem?_eq_getElem hl⟩
  have := atI_nat (xs := xs) (n := i.toNat) (List.getElem?_eq_getElem hl)
  rw [Int.toNat_of_nonneg h0] at this
  exact this
/-- what is left of the draw's body when the number at the place is known -/
theorem draw_tail {ns : List Int} {m a n c : Int} {rs : List (Int × Int)} {Q : D → Tn → Prop} {b : Stm} {S : Sl} (hb : S = [.val (.scr ns), .val .town, .val (.int m), .val (.int a), .val (.int n), .un]) (nd : (rs.map Prod.fst).Nodup) (hk : ∀ k ∈ rs.map Prod.fst, (0 : Int) ≤ k ∧ k < ((64 : Nat) : Int)) (a0 : 0 ≤ a) (a1 : a < 64) (h0 : 0 < m) (h1 : m < 1073741824) (hQ : ∀ r t', 0 ≤ r → r < m → (TOk st) t' → Q (.int r) t') :
    W ((sSeq (sIf (eBin pGe (eVar 4) (eBin pPow (eC (.int 10)) (eC (.int 18)))) (sSeq (sTR 1 (eVar 3) (eBin pDiv (eVar 4) (eVar 2))) (sRet (eBin pMod (eVar 4) (eVar 2)))) sNil)
      (sSeq (sAsg 5 (eBin pMod (eBin pAdd (eVar 4) (eBin pMul (eC (.int 104729)) (eTC 1))) (eC (.int 4294967291))))
      (sSeq (sAsg 5 (eBin pMod (eBin pPow (eVar 5) (eC (.int 5))) (eC (.int 4294967279))))
      (sRet (eBin pMod (eBin pDiv (eBin pMod (eBin pAdd (eBin pMul (eBin pDiv (eVar 5) (eC (.int 64))) (eC (.int 69621))) (eVar 5)) (eC (.int 4294967231))) (eC (.int 8))) (eVar 2)))))) S (some (c, rs), st)) (Nx (fun _ t1 => Q .non t1) Q) := by
  subst hb
  repeat (first | infer_instance)
  refine ⟨fun _ => ?_, fun _ => ?_⟩
  · repeat (first | infer_instance)
    refine ⟨c, rs, st, rfl, ?_, ?_⟩
    · have := nd_le 64 _ nd hk
      rw [List.length_map] at this
      omega
    repeat (first | infer_instance)
    refine hQ _ _ (Int.emod_nonneg _ (Int.ne_of_gt h0)) (Int.emod_lt_of_pos _ h0) ⟨c, _, rfl, ?_, ?_⟩
    · rw [rPut_keys]
      split
      · exact nd
      · rename_i hn
        refine List.nodup_append.mpr ⟨nd, List.nodup_cons.mpr ⟨fun h => (nomatch h), List.nodup_nil⟩, fun x hx y hy => ?_⟩
        rw [List.mem_singleton] at hy
        subst hy
        intro e
        subst e
        obtain ⟨p, hp, rfl⟩ := List.mem_map.mp hx
        exact hn (List.any_eq_true.mpr ⟨p, hp, decide_eq_true rfl⟩)
    · rw [rPut_keys]
      split
      · exact hk
      · intro k hk'
        rcases List.mem_append.mp hk' with h | h
        · exact hk k h
        · rw [List.mem_singleton] at h; omega
  · repeat (first | infer_instance)
    exact hQ _ _ (Int.emod_nonneg _ (Int.ne_of_gt h0)) (Int.emod_lt_of_pos _ h0) ⟨c, rs, rfl, nd, hk⟩
theorem w_draw {ns : List Int} {m : Int} {t : Tn} {Q : D → Tn → Prop} (hl : ns.length ≤ 63) (ht : (TOk st) t) (h0 : 0 < m) (h1 : m < 1073741824) (hQ : ∀ r t', 0 ≤ r → r < m → (TOk st) t' → Q (.int r) t') : W (f_law_draw [.scr ns, .town, .int m] t) Q := by
  obtain ⟨c, rs, rfl, nd, hk⟩ := ht.ex
  refine w_fn ?_
  show W (b_law_draw [.val (.scr ns), .val .town, .val (.int m), .un, .un, .un] _) _
  unfold b_law_draw
  cases ns with
  | nil =>
    repeat (first | infer_instance)
    refine ⟨c, rs, st, rfl, ?_⟩
    repeat (first | infer_instance)
    refine ⟨c + 1, rs, st, rfl, ?_⟩
    refine nx_nx ?_
    cases rLook rs 0 with
    | none => exact draw_tail (b := sNil) rfl nd hk (by decide) (by decide) h0 h1 hQ
    | some v => exact draw_tail (b := sNil) rfl nd hk (by decide) (by decide) h0 h1 hQ
  | cons x r =>
    have hp : 0 < ((x :: r).length : Int) := by simp only [List.length_cons]; omega
    have a1 := Int.emod_nonneg (c + 1) (Int.ne_of_gt hp)
    have a2 := Int.emod_lt_of_pos (c + 1) hp
    obtain ⟨y, _, hy, _⟩ := atI_of a1 a2
    repeat (first | infer_instance)
    refine ⟨c, rs, st, rfl, ?_⟩
    repeat (first | infer_instance)
    refine w_idxS hy ?_
    refine ⟨c + 1, rs, st, rfl, ?_⟩
    refine nx_nx ?_
    cases rLook rs ((c + 1) % ((x :: r).length : Int)) with
    | none => exact draw_tail (b := sNil) rfl nd hk a1 (by omega) h0 h1 hQ
    | some v => exact draw_tail (b := sNil) rfl nd hk a1 (by omega) h0 h1 hQ
end BL
set_option Elab.async false
set_option linter.all false
set_option maxRecDepth 100000
set_option maxHeartbeats 4000000
namespace BL
open PySem BG L2
local macro_rules | `(tactic| infer_instance) => `(tactic| first | (with_reducible first | refine w_seq ?_ | refine w_asg ?_ | refine w_asgP ?_ | refine pr_i ?_ | refine w_eqI ?_ | refine w_neI ?_ | refine w_own ?_ | refine w_par ?_ | refine w_parO ?_ | refine w_expr ?_ | refine w_if ?_ | refine w_sret ?_ | refine w_nil ?_ | refine w_for ?_ | refine w_bin ?_ | refine w_un ?_ | refine w_tup ?_ | refine w_lst ?_ | refine w_call ?_ | refine w_and ?_ | refine w_or ?_ | refine w_ife ?_ | refine w_chain ?_ | refine w_slice ?_ | refine w_oN ?_ | refine w_oS ?_ | refine w_comp ?_ | refine w_itSeq ?_ | refine w_itR ?_ | refine w_evnil ?_ | refine w_evcons ?_ | refine w_evc1 ?_ | refine w_evc0 ?_ | refine w_c ?_ | refine nx_nx ?_ | refine nx_ret ?_ | refine bl_i ?_ | refine in_i ?_ | refine sq_t ?_ | refine sq_l ?_ | refine ls_l ?_ | refine tp_t ?_ | refine w_not ?_ | refine w_addI ?_ | refine w_sub ?_ | refine w_xor ?_ | refine w_ltI ?_ | refine w_leI ?_ | refine w_gtI ?_ | refine w_geI ?_ | refine w_slT ?_ | refine w_slL ?_ | refine w_lenT ?_ | refine w_lenL ?_ | refine w_lenS ?_ | refine w_tupL ?_ | refine w_tupT ?_ | refine w_lstL ?_ | refine w_lstT ?_ | refine w_neg ?_ | refine w_isn ?_ | refine w_isnn ?_ | refine w_begun ?_ | refine w_ret ?_ | refine w_resE ?_) | (with_reducible refine w_var (by with_unfolding_all rfl) ?_) | (with_reducible refine w_peekV (by with_unfolding_all rfl) ?_) | (with_reducible refine w_peekO (by with_unfolding_all rfl) ?_) | (with_reducible refine w_app (by with_unfolding_all rfl) ?_) | (with_reducible refine w_frz (by with_unfolding_all rfl) ?_) | (with_reducible refine w_scr (by with_unfolding_all rfl) ?_) | (with_reducible refine w_tc (by with_unfolding_all rfl) ?_) | (with_reducible refine w_stc (by with_unfolding_all rfl) ?_) | (with_reducible refine w_tr (by with_unfolding_all rfl) ?_) | (with_reducible refine w_str (by with_unfolding_all rfl) ?_) | (with_reducible refine w_idxT (by with_unfolding_all rfl) ?_) | (with_reducible refine w_idxL (by with_unfolding_all rfl) ?_) | (with_reducible refine w_isi (by with_unfolding_all rfl) ?_) | ((with_reducible first | refine w_addT ?_ ?_ | refine w_addL ?_ ?_ | refine w_mulI ?_ ?_ | refine w_mulT ?_ ?_ | refine w_mulL ?_ ?_ | refine w_mod ?_ ?_ | refine w_div ?_ ?_ | refine w_pow ?_ ?_ | refine w_rng ?_ ?_); (first | decide | omega | (refine ⟨?_, ?_⟩ <;> omega) | (refine ⟨?_, ?_, ?_⟩ <;> omega) | (simp only [List.length_cons, List.length_nil, List.length_append, List.length_reverse, BL.cD_len, BL.iD_len, BL.mkx_len, BL.sizeL]; omega) | (refine ⟨List.cons_ne_nil _ _, ?_⟩; simp only [List.length_cons, List.length_nil]; omega))) | ((with_reducible first | refine w_eqD ?_ ?_ ?_ | refine w_neD ?_ ?_ ?_ | refine w_inT ?_ ?_ ?_ | refine w_inL ?_ ?_ ?_); (first | rfl | with_unfolding_all rfl); (first | rfl | with_unfolding_all rfl)) | ((with_reducible refine ift_of ?_ ?_); (with_unfolding_all rfl)) | ((with_reducible refine iff_of ?_ ?_); (with_unfolding_all rfl)) | ((with_reducible refine ift2_of ?_ ?_); (with_unfolding_all rfl)) | ((with_reducible refine iff2_of ?_ ?_); (with_unfolding_all rfl)) | ((with_reducible refine ift_of ?_ ?_); exact decide_eq_true (by omega)) | ((with_reducible refine iff_of ?_ ?_); exact decide_eq_false (by omega)) | ((with_reducible refine ift2_of ?_ ?_); exact decide_eq_true (by omega)) | ((with_reducible refine iff2_of ?_ ?_); exact decide_eq_false (by omega)))
variable {st : Sto}
def gts : List D := [.tup [.str "both", .int 0, .int 1, .int 2], .tup [.str "both", .int 0, .int 2, .int 1], .tup [.str "both", .int 1, .int 2, .int 0], .tup [.str "if", .int 0, .int 1], .tup [.str "if", .int 0, .int 2], .tup [.str "if", .int 1, .int 0], .tup [.str "if", .int 1, .int 2], .tup [.str "if", .int 2, .int 0], .tup [.str "if", .int 2, .int 1], .tup [.str "not", .int 0], .tup [.str "not", .int 1], .tup [.str "not", .int 2], .tup [.str "pick", .int 0, .int 1, .int 2], .tup [.str "pick", .int 1, .int 0, .int 2], .tup [.str "pick", .int 2, .int 0, .int 1], .tup [.str "swap", .int 0, .int 1], .tup [.str "swap", .int 0, .int 2], .tup [.str "swap", .int 1, .int 2]]
theorem law_gates_eq : f_law_gates [] = ret (.lst gts) := by with_unfolding_all rfl
theorem listed_eq : f_listed [] = ret (.lst gts) := by with_unfolding_all rfl
theorem gts_len : gts.length = 18 := by decide +kernel
theorem map_eq_all {α β : Type} {f g : α → β} {l : List α} (h : l.map f = l.map g) : ∀ x ∈ l, f x = g x := List.map_inj_left.mp h
theorem all_of {α : Type} {p : α → Bool} {l : List α} (h : l.all p = true) : ∀ x ∈ l, p x = true := List.all_eq_true.mp h
def kindD : D → D
  | .tup (k :: _) => k
  | _ => .non
def gateShape : D → Bool
  | .tup (.str k :: ls) => okD (.tup (.str k :: ls)) 20 && nobl (.tup (.str k :: ls))
  | _ => false
theorem gts_shape : ∀ g ∈ gts, gateShape g = true := all_of (by decide +kernel)
theorem gts_kind {g : D} (h : g ∈ gts) : ∃ k ls, g = .tup (.str k :: ls) ∧ okD g 20 = true ∧ nobl g = true := by
  have := gts_shape g h
  unfold gateShape at this
  split at this
  · rw [Bool.and_eq_true] at this; exact ⟨_, _, rfl, this.1, this.2⟩
  · cases this
mutual
theorem okD_le : ∀ {d : D} {n m : Nat}, n ≤ m → okD d n = true → okD d m = true
  | .non, n, m, h, e => by cases n <;> cases m <;> rfl
  | .bl _, n, m, h, e => by cases n <;> cases m <;> rfl
  | .int _, n, m, h, e => by cases n <;> cases m <;> rfl
  | .str x, n, m, h, e => by unfold okD at e ⊢; exact e
  | .tup xs, 0, m, h, e => by cases e
  | .tup xs, n + 1, 0, h, e => by omega
  | .tup xs, n + 1, m + 1, h, e => okA_le (ds := xs) (n := n) (m := m) (by omega) e
  | .lst xs, 0, m, h, e => by cases e
  | .lst xs, n + 1, 0, h, e => by omega
  | .lst xs, n + 1, m + 1, h, e => okA_le (ds := xs) (n := n) (m := m) (by omega) e
  | .town, n, m, h, e => by unfold okD at e; cases e
  | .scr _, n, m, h, e => by unfold okD at e; cases e
  | .dct _ _, n, m, h, e => by unfold okD at e; cases e
  | .dTT _ _, n, m, h, e => by unfold okD at e; cases e
  | .hnd _, n, m, h, e => by unfold okD at e; cases e
theorem okA_le : ∀ {ds : List D} {n m : Nat}, n ≤ m → okA ds n = true → okA ds m = true
  | [], _, _, _, _ => rfl
  | d :: ds, n, m, h, e => by
    have e : (okD d n && okA ds n) = true := e
    show (okD d m && okA ds m) = true
    rw [Bool.and_eq_true] at e ⊢
    exact ⟨okD_le h e.1, okA_le h e.2⟩
end
theorem okA_of {ds : List D} {n : Nat} (h : ∀ d ∈ ds, okD d n = true) : okA ds n = true := by rw [okA_all]; exact List.all_eq_true.mpr h
theorem noblA_of : ∀ {ds : List D}, (∀ d ∈ ds, nobl d = true) → noblA ds = true
  | [], _ => rfl
  | d :: ds, h => by
    show (nobl d && noblA ds) = true
    rw [h d (List.mem_cons_self ..), noblA_of fun d hd => h d (List.mem_cons_of_mem _ hd)]; rfl
theorem atI_zero {α : Type} {x : α} {xs : List α} : atI (x :: xs) 0 = some x := atI_nat (n := 0) rfl
def iD (ws : List Nat) : List D := ws.map fun (w : Nat) => D.int (w : Int)
theorem iD_len (ws : List Nat) : (iD ws).length = ws.length := List.length_map _
theorem iD_app (a b : List Nat) : iD (a ++ b) = iD a ++ iD b := List.map_append
end BL
set_option Elab.async false
set_option linter.all false
set_option maxRecDepth 100000
set_option maxHeartbeats 4000000
namespace BL
open PySem BG L2
local macro_rules | `(tactic| infer_instance) => `(tactic| first | (with_reducible first | refine w_seq ?_ | refine w_asg ?_ | refine w_asgP ?_ | refine pr_i ?_ | refine w_eqI ?_ | refine w_neI ?_ | refine w_own ?_ | refine w_par ?_ | refine w_parO ?_ | refine w_expr ?_ | refine w_if ?_ | refine w_sret ?_ | refine w_nil ?_ | refine w_for ?_ | refine w_bin ?_ | refine w_un ?_ | refine w_tup ?_ | refine w_lst ?_ | refine w_call ?_ | refine w_and ?_ | refine w_or ?_ | refine w_ife ?_ | refine w_chain ?_ | refine w_slice ?_ | refine w_oN ?_ | refine w_oS ?_ | refine w_comp ?_ | refine w_itSeq ?_ | refine w_itR ?_ | refine w_evnil ?_ | refine w_evcons ?_ | refine w_evc1 ?_ | refine w_evc0 ?_ | refine w_c ?_ | refine nx_nx ?_ | refine nx_ret ?_ | refine bl_i ?_ | refine in_i ?_ | refine sq_t ?_ | refine sq_l ?_ | refine ls_l ?_ | refine tp_t ?_ | refine w_not ?_ | refine w_addI ?_ | refine w_sub ?_ | refine w_xor ?_ | refine w_ltI ?_ | refine w_leI ?_ | refine w_gtI ?_ | refine w_geI ?_ | refine w_slT ?_ | refine w_slL ?_ | refine w_lenT ?_ | refine w_lenL ?_ | refine w_lenS ?_ | refine w_tupL ?_ | refine w_tupT ?_ | refine w_lstL ?_ | refine w_lstT ?_ | refine w_neg ?_ | refine w_isn ?_ | refine w_isnn ?_ | refine w_begun ?_ | refine w_ret ?_ | refine w_resE ?_) | (with_reducible refine w_var (by with_unfolding_all rfl) ?_) | (with_reducible refine w_peekV (by with_unfolding_all rfl) ?_) | (with_reducible refine w_peekO (by with_unfolding_all rfl) ?_) | (with_reducible refine w_app (by with_unfolding_all rfl) ?_) | (with_reducible refine w_frz (by with_unfolding_all rfl) ?_) | (with_reducible refine w_scr (by with_unfolding_all rfl) ?_) | (with_reducible refine w_tc (by with_unfolding_all rfl) ?_) | (with_reducible refine w_stc (by with_unfolding_all rfl) ?_) | (with_reducible refine w_tr (by with_unfolding_all rfl) ?_) | (with_reducible refine w_str (by with_unfolding_all rfl) ?_) | (with_reducible refine w_idxT (by with_unfolding_all rfl) ?_) | (with_reducible refine w_idxL (by with_unfolding_all rfl) ?_) | (with_reducible refine w_isi (by with_unfolding_all rfl) ?_) | ((with_reducible first | refine w_addT ?_ ?_ | refine w_addL ?_ ?_ | refine w_mulI ?_ ?_ | refine w_mulT ?_ ?_ | refine w_mulL ?_ ?_ | refine w_mod ?_ ?_ | refine w_div ?_ ?_ | refine w_pow ?_ ?_ | refine w_rng ?_ ?_); (first | decide | omega | (refine ⟨?_, ?_⟩ <;> omega) | (refine ⟨?_, ?_, ?_⟩ <;> omega) | (simp only [List.length_cons, List.length_nil, List.length_append, List.length_reverse, BL.cD_len, BL.iD_len, BL.mkx_len, BL.sizeL]; omega) | (refine ⟨List.cons_ne_nil _ _, ?_⟩; simp only [List.length_cons, List.length_nil]; omega))) | ((with_reducible first | refine w_eqD ?_ ?_ ?_ | refine w_neD ?_ ?_ ?_ | refine w_inT ?_ ?_ ?_ | refine w_inL ?_ ?_ ?_); (first | rfl | with_unfolding_all rfl); (first | rfl | with_unfolding_all rfl)) | ((with_reducible refine ift_of ?_ ?_); (with_unfolding_all rfl)) | ((with_reducible refine iff_of ?_ ?_); (with_unfolding_all rfl)) | ((with_reducible refine ift2_of ?_ ?_); (with_unfolding_all rfl)) | ((with_reducible refine iff2_of ?_ ?_); (with_unfolding_all rfl)) | ((with_reducible refine ift_of ?_ ?_); exact decide_eq_true (by omega)) | ((with_reducible refine iff_of ?_ ?_); exact decide_eq_false (by omega)) | ((with_reducible refine ift2_of ?_ ?_); exact decide_eq_true (by omega)) | ((with_reducible refine iff2_of ?_ ?_); exact decide_eq_false (by omega)))
def plain : D → Bool
  | .town => false
  | .scr _ => false
  | .dct _ _ => false
  | .dTT _ _ => false
  | .hnd _ => false
  | _ => true
theorem bools_map {α : Type} (f : α → Bool) : ∀ l : List α, bools (l.map fun x => D.bl (f x)) = some (l.map f)
  | [] => rfl
  | x :: l => by
    show (bools (l.map fun x => D.bl (f x))).map (f x :: ·) = _
    rw [bools_map f l]; rfl
theorem filter_true {α : Type} (l : List α) : l.filter (fun _ => true) = l := List.filter_eq_self.mpr fun _ _ => rfl
theorem all_map {α : Type} (f : α → Bool) (l : List α) : (l.map f).all id = l.all f := by rw [List.all_map]; rfl
/-- a circuit -/
def IsC (cs : List D) : Prop := cs.length ≤ 20 ∧ ∀ g ∈ cs, g ∈ gts
theorem sizeL : sizeLine = 16777216 := rfl
theorem intsD_map : ∀ l : List Int, intsD (l.map D.int) = some l
  | [] => rfl
  | x :: l => by
    show (intsD (l.map D.int)).map (x :: ·) = _
    rw [intsD_map l]; rfl
/-- an exchange -/
def IsX (ws : List Nat) : Prop := ws.Perm (List.range 8)
theorem IsX.len {ws : List Nat} (h : IsX ws) : ws.length = 8 := by have := h.length_eq; rw [List.length_range] at this; exact this
theorem IsX.lt {ws : List Nat} (h : IsX ws) {w : Nat} (hw : w ∈ ws) : w < 8 := List.mem_range.mp (h.mem_iff.mp hw)
theorem IsX.nodup {ws : List Nat} (h : IsX ws) : ws.Nodup := h.nodup_iff.mpr List.nodup_range
theorem intsD_iD (ws : List Nat) : intsD (iD ws) = some (ws.map fun (w : Nat) => (w : Int)) := by
  have := intsD_map (ws.map fun (w : Nat) => (w : Int))
  rw [List.map_map] at this
  exact this
theorem mem_iD {d : D} {ws : List Nat} (h : d ∈ iD ws) : ∃ w ∈ ws, d = .int (w : Int) := by
  obtain ⟨w, hw, rfl⟩ := List.mem_map.mp h; exact ⟨w, hw, rfl⟩
end BL
set_option Elab.async false
set_option linter.all false
set_option maxRecDepth 100000
set_option maxHeartbeats 4000000
namespace BL
open PySem BG L2
local macro_rules | `(tactic| infer_instance) => `(tactic| first | (with_reducible first | refine w_seq ?_ | refine w_asg ?_ | refine w_asgP ?_ | refine pr_i ?_ | refine w_eqI ?_ | refine w_neI ?_ | refine w_own ?_ | refine w_par ?_ | refine w_parO ?_ | refine w_expr ?_ | refine w_if ?_ | refine w_sret ?_ | refine w_nil ?_ | refine w_for ?_ | refine w_bin ?_ | refine w_un ?_ | refine w_tup ?_ | refine w_lst ?_ | refine w_call ?_ | refine w_and ?_ | refine w_or ?_ | refine w_ife ?_ | refine w_chain ?_ | refine w_slice ?_ | refine w_oN ?_ | refine w_oS ?_ | refine w_comp ?_ | refine w_itSeq ?_ | refine w_itR ?_ | refine w_evnil ?_ | refine w_evcons ?_ | refine w_evc1 ?_ | refine w_evc0 ?_ | refine w_c ?_ | refine nx_nx ?_ | refine nx_ret ?_ | refine bl_i ?_ | refine in_i ?_ | refine sq_t ?_ | refine sq_l ?_ | refine ls_l ?_ | refine tp_t ?_ | refine w_not ?_ | refine w_addI ?_ | refine w_sub ?_ | refine w_xor ?_ | refine w_ltI ?_ | refine w_leI ?_ | refine w_gtI ?_ | refine w_geI ?_ | refine w_slT ?_ | refine w_slL ?_ | refine w_lenT ?_ | refine w_lenL ?_ | refine w_lenS ?_ | refine w_tupL ?_ | refine w_tupT ?_ | refine w_lstL ?_ | refine w_lstT ?_ | refine w_neg ?_ | refine w_isn ?_ | refine w_isnn ?_ | refine w_begun ?_ | refine w_ret ?_ | refine w_resE ?_) | (with_reducible refine w_var (by with_unfolding_all rfl) ?_) | (with_reducible refine w_peekV (by with_unfolding_all rfl) ?_) | (with_reducible refine w_peekO (by with_unfolding_all rfl) ?_) | (with_reducible refine w_app (by with_unfolding_all rfl) ?_) | (with_reducible refine w_frz (by with_unfolding_all rfl) ?_) | (with_reducible refine w_scr (by with_unfolding_all rfl) ?_) | (with_reducible refine w_tc (by with_unfolding_all rfl) ?_) | (with_reducible refine w_stc (by with_unfolding_all rfl) ?_) | (with_reducible refine w_tr (by with_unfolding_all rfl) ?_) | (with_reducible refine w_str (by with_unfolding_all rfl) ?_) | (with_reducible refine w_idxT (by with_unfolding_all rfl) ?_) | (with_reducible refine w_idxL (by with_unfolding_all rfl) ?_) | (with_reducible refine w_isi (by with_unfolding_all rfl) ?_) | ((with_reducible first | refine w_addT ?_ ?_ | refine w_addL ?_ ?_ | refine w_mulI ?_ ?_ | refine w_mulT ?_ ?_ | refine w_mulL ?_ ?_ | refine w_mod ?_ ?_ | refine w_div ?_ ?_ | refine w_pow ?_ ?_ | refine w_rng ?_ ?_); (first | decide | omega | (refine ⟨?_, ?_⟩ <;> omega) | (refine ⟨?_, ?_, ?_⟩ <;> omega) | (simp only [List.length_cons, List.length_nil, List.length_append, List.length_reverse, BL.cD_len, BL.iD_len, BL.mkx_len, BL.sizeL]; omega) | (refine ⟨List.cons_ne_nil _ _, ?_⟩; simp only [List.length_cons, List.length_nil]; omega))) | ((with_reducible first | refine w_eqD ?_ ?_ ?_ | refine w_neD ?_ ?_ ?_ | refine w_inT ?_ ?_ ?_ | refine w_inL ?_ ?_ ?_); (first | rfl | with_unfolding_all rfl); (first | rfl | with_unfolding_all rfl)) | ((with_reducible refine ift_of ?_ ?_); (with_unfolding_all rfl)) | ((with_reducible refine iff_of ?_ ?_); (with_unfolding_all rfl)) | ((with_reducible refine ift2_of ?_ ?_); (with_unfolding_all rfl)) | ((with_reducible refine iff2_of ?_ ?_); (with_unfolding_all rfl)) | ((with_reducible refine ift_of ?_ ?_); exact decide_eq_true (by omega)) | ((with_reducible refine iff_of ?_ ?_); exact decide_eq_false (by omega)) | ((with_reducible refine ift2_of ?_ ?_); exact decide_eq_true (by omega)) | ((with_reducible refine iff2_of ?_ ?_); exact decide_eq_false (by omega)))
/-- gate number i -/
def gk (i : Nat) : D := gts.getD i .non
def apT : List (List Nat) := [[0, 1, 2, 7, 4, 5, 6, 3], [0, 1, 2, 3, 4, 7, 6, 5], [0, 1, 2, 3, 4, 5, 7, 6], [0, 3, 2, 1, 4, 7, 6, 5], [0, 5, 2, 7, 4, 1, 6, 3], [0, 1, 3, 2, 4, 5, 7, 6], [0, 1, 6, 7, 4, 5, 2, 3], [0, 1, 2, 3, 5, 4, 7, 6], [0, 1, 2, 3, 6, 7, 4, 5], [1, 0, 3, 2, 5, 4, 7, 6], [2, 3, 0, 1, 6, 7, 4, 5], [4, 5, 6, 7, 0, 1, 2, 3], [0, 1, 2, 5, 4, 3, 6, 7], [0, 1, 2, 6, 4, 5, 3, 7], [0, 1, 2, 3, 4, 6, 5, 7], [0, 2, 1, 3, 4, 6, 5, 7], [0, 4, 2, 6, 1, 5, 3, 7], [0, 1, 4, 5, 2, 3, 6, 7]]
def ap (i w : Nat) : Nat := (apT.getD i []).getD w 0
theorem ap_lt : ∀ i, i < 18 → ∀ w, w < 8 → ap i w < 8 := by decide +kernel
theorem ap_ap : ∀ i, i < 18 → ∀ w, w < 8 → ap i (ap i w) = w := by decide +kernel
theorem gk_mem {i : Nat} (h : i < 18) : gk i ∈ gts := by
  have hl : i < gts.length := by rw [gts_len]; exact h
  unfold gk
  rw [List.getD_eq_getElem?_getD, List.getElem?_eq_getElem hl]
  exact List.getElem_mem hl
theorem gts_gk : gts = (List.range 18).map gk := rfl
theorem applied_tab : (List.range 18).map (fun i => (List.range 8).map fun (w : Nat) => f_applied [gk i, .int (w : Int)]) = (List.range 18).map (fun i => (List.range 8).map fun (w : Nat) => ret (.int (ap i w : Int))) := by with_unfolding_all rfl
theorem applied_eq {i w : Nat} (hi : i < 18) (hw : w < 8) : f_applied [gk i, .int (w : Int)] = ret (.int (ap i w : Int)) :=
  map_eq_all (map_eq_all applied_tab i (List.mem_range.mpr hi)) w (List.mem_range.mpr hw)
abbrev Gs (c : List Nat) : Prop := ∀ i ∈ c, i < 18
def cD (c : List Nat) : List D := c.map gk
theorem cD_len (c : List Nat) : (cD c).length = c.length := List.length_map _
theorem cD_app (a b : List Nat) : cD (a ++ b) = cD a ++ cD b := List.map_append
theorem cD_mem {c : List Nat} (h : Gs c) : ∀ g ∈ cD c, g ∈ gts := fun g hg => by
  obtain ⟨i, hi, rfl⟩ := List.mem_map.mp hg
  exact gk_mem (h i hi)
theorem IsC.of {c : List Nat} (h : Gs c) (hl : c.length ≤ 20) : IsC (cD c) := ⟨by rw [cD_len]; exact hl, cD_mem h⟩
theorem Gs.app {a b : List Nat} (ha : Gs a) (hb : Gs b) : Gs (a ++ b) := fun i hi => (List.mem_append.mp hi).elim (ha i) (hb i)
theorem Gs.take {a : List Nat} (ha : Gs a) (n : Nat) : Gs (a.take n) := fun i hi => ha i (List.mem_of_mem_take hi)
theorem Gs.drop {a : List Nat} (ha : Gs a) (n : Nat) : Gs (a.drop n) := fun i hi => ha i (List.mem_of_mem_drop hi)
/-- what a circuit makes of a word -/
def mkw (c : List Nat) (w : Nat) : Nat := c.foldl (fun w i => ap i w) w
theorem mkw_app (a b : List Nat) (w : Nat) : mkw (a ++ b) w = mkw b (mkw a w) := List.foldl_append
theorem mkw_lt : ∀ {c : List Nat}, Gs c → ∀ {w : Nat}, w < 8 → mkw c w < 8
  | [], _, _, h => h
  | i :: c, hc, w, h => mkw_lt (c := c) (fun j hj => hc j (List.mem_cons_of_mem _ hj)) (ap_lt i (hc i (List.mem_cons_self ..)) w h)
theorem mkw_rev : ∀ {c : List Nat}, Gs c → ∀ {w : Nat}, w < 8 → mkw c.reverse (mkw c w) = w
  | [], _, _, _ => rfl
  | i :: c, hc, w, h => by
    have hi := hc i (List.mem_cons_self ..)
    have e := mkw_rev (c := c) (fun j hj => hc j (List.mem_cons_of_mem _ hj)) (ap_lt i hi w h)
    rw [List.reverse_cons, mkw_app]
    show ap i (mkw c.reverse (mkw c (ap i w))) = w
    rw [e]
    exact ap_ap i hi w h
/-- the exchange that a circuit makes -/
def mkx (c : List Nat) : List Nat := (List.range 8).map (mkw c)
theorem mkx_len (c : List Nat) : (mkx c).length = 8 := by unfold mkx; rw [List.length_map, List.length_range]
theorem mkx_get {c : List Nat} {w : Nat} (h : w < 8) : (mkx c)[w]? = some (mkw c w) := by unfold mkx; rw [List.getElem?_map, List.getElem?_range h]; rfl
theorem perm_range : ∀ {n : Nat} {l : List Nat}, l.Nodup → (∀ x ∈ l, x < n) → l.length = n → l.Perm (List.range n)
  | 0, l, _, _, hl => by rw [List.eq_nil_of_length_eq_zero hl]; exact .refl _
  | n + 1, l, nd, hlt, hl => by
    have hm : n ∈ l := by
      refine Classical.byContradiction fun hn => ?_
      have : (l.map fun (x : Nat) => (x : Int)).length ≤ n := nd_le n _ (List.Pairwise.map _ (fun a b hab e => hab (by omega)) nd) fun k hk => by
        obtain ⟨x, hx, rfl⟩ := List.mem_map.mp hk
        have h1 := hlt x hx
        have h2 : x ≠ n := fun e => hn (by rw [← e]; exact hx)
        exact ⟨by omega, by omega⟩
      rw [List.length_map] at this
      omega
    have h1 := List.perm_cons_erase hm
    have h2 : (l.erase n).length = n := by rw [List.length_erase_of_mem hm, hl]; rfl
    have h3 := perm_range (n := n) (nd.erase n) (fun x hx => by
      have q := (nd.mem_erase_iff).mp hx
      have := hlt x q.2
      have := q.1
      omega) h2
    rw [List.range_succ]
    exact (h1.trans (h3.cons n)).trans (List.perm_append_comm (l₁ := [n]) (l₂ := List.range n))
theorem mkx_x {c : List Nat} (hc : Gs c) : IsX (mkx c) := by
  refine perm_range ?_ (fun x hx => ?_) (mkx_len c)
  · unfold mkx
    refine List.pairwise_map.mpr ?_
    refine List.Pairwise.imp_of_mem ?_ (List.nodup_range (n := 8))
    intro a b ha hb hab e
    rw [List.mem_range] at ha hb
    have := mkw_rev hc ha
    rw [e, mkw_rev hc hb] at this
    exact hab this.symm
  · obtain ⟨w, hw, rfl⟩ := List.mem_map.mp hx
    exact mkw_lt hc (List.mem_range.mp hw)
theorem made_eq {c : List Nat} (hc : Gs c) : f_made [.tup (cD c)] = ret (.tup (iD (mkx c))) := by
  refine eq_of_W fun t => w_fn ?_
  show W (b_made [.val (.tup (cD c)), .un, .un, .un] t) _
  unfold b_made c_SAME
  repeat (first | infer_instance)
  refine w_forI (fun k S t' => ∃ x2 x3, S = [.val (.tup (cD c)), .val (.lst (iD (mkx (c.take k)))), x2, x3] ∧ t' = t) (k := 0) ⟨_, _, rfl, rfl⟩ (fun k d hd S t' ⟨x2, x3, hS, ht⟩ => ?_) fun S t' ⟨x2, x3, hS, ht⟩ => ?_
  · subst hS ht
    unfold cD at hd
    rw [List.getElem?_map] at hd
    cases hk : c[k]? with
    | none => rw [hk] at hd; cases hd
    | some i =>
      rw [hk] at hd
      cases hd
      have hi := hc i (List.mem_of_getElem? hk)
      have hkl : k < c.length := (List.getElem?_eq_some_iff.mp hk).1
      refine ⟨_, rfl, ?_⟩
      rw [Nat.zero_add]
      repeat (first | infer_instance)
      refine ⟨by rw [iD_len, mkx_len]; decide, w_cmpP (fun _ => true) (fun d => match d with | .int z => .int (ap i z.toNat : Int) | _ => .non) (fun d hd => ?_) ?_⟩
      · obtain ⟨w, hw, rfl⟩ := mem_iD hd
        have hw8 : w < 8 := by
          obtain ⟨v, hv, rfl⟩ := List.mem_map.mp hw
          exact mkw_lt (hc.take k) (List.mem_range.mp hv)
        refine ⟨_, rfl, rfl, fun _ => eq_of_W fun t => ?_⟩
        repeat (first | (with_reducible refine w_eq (applied_eq hi hw8) ?_) | infer_instance)
        exact ⟨rfl, rfl⟩
      · rw [filter_true]
        have e : (iD (mkx (c.take k))).map (fun d => match d with | .int z => D.int (ap i z.toNat : Int) | _ => .non) = iD (mkx (c.take (k + 1))) := by
          unfold iD mkx
          rw [List.map_map, List.map_map, List.map_map]
          refine List.map_congr_left fun w _ => ?_
          show D.int (ap i (Int.toNat ((mkw (c.take k) w : Nat) : Int)) : Int) = D.int ((mkw (c.take (k + 1)) w : Nat) : Int)
          rw [Int.toNat_natCast, List.take_add_one, hk, mkw_app]
          rfl
        rw [e]
        exact nx_nx ⟨.val (gk i), x3, rfl, rfl⟩
  · subst hS ht
    rw [cD_len, Nat.zero_add, List.take_length]
    repeat (first | infer_instance)
    exact ⟨rfl, rfl⟩
theorem atI_iD {ws : List Nat} {w y : Nat} (h : ws[w]? = some y) : atI (iD ws) (w : Int) = some (.int (y : Int)) := atI_nat (by unfold iD; rw [List.getElem?_map, h]; rfl)
end BL
set_option Elab.async false
set_option linter.all false
set_option maxRecDepth 100000
set_option maxHeartbeats 1000000
namespace BL
open PySem BG L2
variable {st : Sto}
theorem w_lbegun {Q : D → Tn → Prop} (h : Q .town (some (0, []), st)) : W (f_law_begun [] (none, st)) Q := h
theorem w_ne_no {p q : D} {t : Tn} {Q : D → Tn → Prop} (e : p = q) (h1 : okD p 60 = true) (h2 : nobl p = true) (h : Q (.bl false) t) : W (pNe p q t) Q := by
  subst e
  refine w_neD h1 h1 ?_
  rw [(eqv_iff h2 h2).mpr rfl]; exact h
theorem ok_iD (ws : List Nat) : okD (.tup (iD ws)) 60 = true := okA_of (n := 59) fun d hd => by obtain ⟨w, _, rfl⟩ := mem_iD hd; rfl
theorem nobl_iD (ws : List Nat) : nobl (.tup (iD ws)) = true := noblA_of fun d hd => by obtain ⟨w, _, rfl⟩ := mem_iD hd; rfl
/-- the end of a law -/
theorem law_of {F : Fn} {ns : List Int} (h : W (F [.scr ns] (none, [])) fun d _ => d = .bl true) : ∃ t', F [.scr ns] (none, []) = some (.ok (.bl true) t') := by
  obtain ⟨a, t, e, rfl⟩ := h.ex
  exact ⟨t, e⟩
end BL
set_option Elab.async false
set_option linter.all false
set_option maxRecDepth 100000
set_option maxHeartbeats 1000000
namespace BL
open PySem BG L2
local macro_rules | `(tactic| infer_instance) => `(tactic| first | (with_reducible first | refine w_seq ?_ | refine w_asg ?_ | refine w_asgP ?_ | refine pr_i ?_ | refine w_eqI ?_ | refine w_neI ?_ | refine w_own ?_ | refine w_par ?_ | refine w_parO ?_ | refine w_expr ?_ | refine w_if ?_ | refine w_sret ?_ | refine w_nil ?_ | refine w_for ?_ | refine w_bin ?_ | refine w_un ?_ | refine w_tup ?_ | refine w_lst ?_ | refine w_call ?_ | refine w_and ?_ | refine w_or ?_ | refine w_ife ?_ | refine w_chain ?_ | refine w_slice ?_ | refine w_oN ?_ | refine w_oS ?_ | refine w_comp ?_ | refine w_itSeq ?_ | refine w_itR ?_ | refine w_evnil ?_ | refine w_evcons ?_ | refine w_evc1 ?_ | refine w_evc0 ?_ | refine w_c ?_ | refine nx_nx ?_ | refine nx_ret ?_ | refine bl_i ?_ | refine in_i ?_ | refine sq_t ?_ | refine sq_l ?_ | refine ls_l ?_ | refine tp_t ?_ | refine w_not ?_ | refine w_addI ?_ | refine w_sub ?_ | refine w_xor ?_ | refine w_ltI ?_ | refine w_leI ?_ | refine w_gtI ?_ | refine w_geI ?_ | refine w_slT ?_ | refine w_slL ?_ | refine w_lenT ?_ | refine w_lenL ?_ | refine w_lenS ?_ | refine w_tupL ?_ | refine w_tupT ?_ | refine w_lstL ?_ | refine w_lstT ?_ | refine w_neg ?_ | refine w_isn ?_ | refine w_isnn ?_ | refine w_begun ?_ | refine w_ret ?_ | refine w_resE ?_) | (with_reducible refine w_var (by with_unfolding_all rfl) ?_) | (with_reducible refine w_peekV (by with_unfolding_all rfl) ?_) | (with_reducible refine w_peekO (by with_unfolding_all rfl) ?_) | (with_reducible refine w_app (by with_unfolding_all rfl) ?_) | (with_reducible refine w_frz (by with_unfolding_all rfl) ?_) | (with_reducible refine w_scr (by with_unfolding_all rfl) ?_) | (with_reducible refine w_tc (by with_unfolding_all rfl) ?_) | (with_reducible refine w_stc (by with_unfolding_all rfl) ?_) | (with_reducible refine w_tr (by with_unfolding_all rfl) ?_) | (with_reducible refine w_str (by with_unfolding_all rfl) ?_) | (with_reducible refine w_idxT (by with_unfolding_all rfl) ?_) | (with_reducible refine w_idxL (by with_unfolding_all rfl) ?_) | (with_reducible refine w_isi (by with_unfolding_all rfl) ?_) | ((with_reducible first | refine w_addT ?_ ?_ | refine w_addL ?_ ?_ | refine w_mulI ?_ ?_ | refine w_mulT ?_ ?_ | refine w_mulL ?_ ?_ | refine w_mod ?_ ?_ | refine w_div ?_ ?_ | refine w_pow ?_ ?_ | refine w_rng ?_ ?_); (first | decide | omega | (refine ⟨?_, ?_⟩ <;> omega) | (refine ⟨?_, ?_, ?_⟩ <;> omega) | (simp only [List.length_cons, List.length_nil, List.length_append, List.length_reverse, BL.cD_len, BL.iD_len, BL.mkx_len, BL.sizeL]; omega) | (refine ⟨List.cons_ne_nil _ _, ?_⟩; simp only [List.length_cons, List.length_nil]; omega))) | ((with_reducible first | refine w_eqD ?_ ?_ ?_ | refine w_neD ?_ ?_ ?_ | refine w_inT ?_ ?_ ?_ | refine w_inL ?_ ?_ ?_); (first | rfl | with_unfolding_all rfl); (first | rfl | with_unfolding_all rfl)) | ((with_reducible refine ift_of ?_ ?_); (with_unfolding_all rfl)) | ((with_reducible refine iff_of ?_ ?_); (with_unfolding_all rfl)) | ((with_reducible refine ift2_of ?_ ?_); (with_unfolding_all rfl)) | ((with_reducible refine iff2_of ?_ ?_); (with_unfolding_all rfl)) | ((with_reducible refine ift_of ?_ ?_); exact decide_eq_true (by omega)) | ((with_reducible refine iff_of ?_ ?_); exact decide_eq_false (by omega)) | ((with_reducible refine ift2_of ?_ ?_); exact decide_eq_true (by omega)) | ((with_reducible refine iff2_of ?_ ?_); exact decide_eq_false (by omega)))
theorem law_apply_tab : (List.range 18).map (fun i => (List.range 8).map fun (w : Nat) => f_law_apply [gk i, .int (w : Int)]) = (List.range 18).map (fun i => (List.range 8).map fun (w : Nat) => ret (.int (ap i w : Int))) := by with_unfolding_all rfl
theorem law_apply_eq {i w : Nat} (hi : i < 18) (hw : w < 8) : f_law_apply [gk i, .int (w : Int)] = ret (.int (ap i w : Int)) :=
  map_eq_all (map_eq_all law_apply_tab i (List.mem_range.mpr hi)) w (List.mem_range.mpr hw)
theorem law_made_eq {c : List Nat} (hc : Gs c) : f_law_made [.tup (cD c)] = ret (.tup (iD (mkx c))) := by
  refine eq_of_W fun t => w_fn ?_
  show W (b_law_made [.val (.tup (cD c)), .un, .un, .un] t) _
  unfold b_law_made
  repeat (first | infer_instance)
  refine ⟨by decide, by decide, ?_⟩
  refine w_forI (fun k S t' => ∃ x2 x3, S = [.val (.tup (cD c)), .own (iD ((List.range k).map (mkw c))), x2, x3] ∧ t' = t) (k := 0) ⟨_, _, rfl, rfl⟩ (fun k d hd S t' ⟨x2, x3, hS, ht⟩ => ?_) fun S t' ⟨x2, x3, hS, ht⟩ => ?_
  · subst hS ht
    have hk : k < 8 ∧ d = .int (k : Int) := by
      have hd : (rng 8)[k]? = some d := hd
      unfold rng at hd
      rw [List.getElem?_map] at hd
      by_cases h : k < 8
      · rw [List.getElem?_range h] at hd; cases hd; exact ⟨h, rfl⟩
      · rw [List.getElem?_eq_none (by rw [List.length_range]; omega)] at hd; cases hd
    obtain ⟨hk8, rfl⟩ := hk
    refine ⟨_, rfl, ?_⟩
    rw [Nat.zero_add]
    repeat (first | infer_instance)
    refine w_forI (fun j S u => ∃ x3, S = [.val (.tup (cD c)), .own (iD ((List.range k).map (mkw c))), .val (.int (mkw (c.take j) k : Int)), x3] ∧ u = t') (k := 0) ⟨_, rfl, rfl⟩ (fun j d hd S u ⟨x3, hS, ht⟩ => ?_) fun S u ⟨x3, hS, ht⟩ => ?_
    · subst hS ht
      unfold cD at hd
      rw [List.getElem?_map] at hd
      cases hj : c[j]? with
      | none => rw [hj] at hd; cases hd
      | some i =>
        rw [hj] at hd
        cases hd
        have hi := hc i (List.mem_of_getElem? hj)
        refine ⟨_, rfl, ?_⟩
        rw [Nat.zero_add]
        repeat (first | (with_reducible refine w_eq (law_apply_eq hi (mkw_lt (hc.take j) hk8)) ?_) | infer_instance)
        refine ⟨.val (gk i), ?_, rfl⟩
        rw [List.take_add_one, hj, mkw_app]
        rfl
    · subst hS ht
      rw [cD_len, Nat.zero_add, List.take_length]
      repeat (first | infer_instance)
      refine ⟨by rw [iD_len, List.length_map, List.length_range, sizeL]; omega, .val (.int (mkw c k : Int)), x3, ?_, rfl⟩
      rw [List.range_succ, List.map_append, iD_app]
      rfl
  · subst hS ht
    have e : 0 + (rng 8).length = 8 := by decide
    have hS : 0 + (rng (Int.toNat 8)).length = 8 := e
    rw [hS]
    repeat (first | infer_instance)
    exact ⟨rfl, rfl⟩
end BL
set_option Elab.async false
set_option linter.all false
set_option maxRecDepth 100000
set_option maxHeartbeats 1000000
namespace BM
section
variable (cm : Nat → Nat → Bool)
/-- the pair is watched -/
def tk (a b : Nat) : Bool := !cm a b || decide (a = b)
abbrev Fm := Nat → Nat → List Nat
def hit (g a b : Nat) : Bool := tk cm a b && (decide (a = g) || decide (b = g))
/-- all watched pairs with g end with g -/
def rmv (g : Nat) (f : Fm) : Prop := ∀ a b, hit cm g a b = true → (f a b).getLast? = some g
def addF (g : Nat) (f : Fm) : Fm := fun a b => if hit cm g a b = true then f a b ++ [g] else f a b
def dropF (g : Nat) (f : Fm) : Fm := fun a b => if hit cm g a b = true then (f a b).dropLast else f a b
open Classical in
noncomputable def act (g : Nat) (f : Fm) : Fm := if rmv cm g f then dropF cm g f else addF cm g f
/-- no two letters cancel -/
def Red (w : List Nat) : Prop := ∀ u g m v, w = u ++ g :: (m ++ g :: v) → ∃ x ∈ m, cm g x = false
theorem Red.nil : Red cm [] := fun u g m v e => by
  have := congrArg List.length e
  simp at this
noncomputable def run (w : List Nat) (f : Fm) : Fm := w.foldl (fun f g => act cm g f) f
end
end BM
set_option Elab.async false
set_option linter.all false
set_option maxRecDepth 100000
set_option maxHeartbeats 1000000
namespace BL
open PySem BG L2
local macro_rules | `(tactic| infer_instance) => `(tactic| first | (with_reducible first | refine w_seq ?_ | refine w_asg ?_ | refine w_asgP ?_ | refine pr_i ?_ | refine w_eqI ?_ | refine w_neI ?_ | refine w_own ?_ | refine w_par ?_ | refine w_parO ?_ | refine w_expr ?_ | refine w_if ?_ | refine w_sret ?_ | refine w_nil ?_ | refine w_for ?_ | refine w_bin ?_ | refine w_un ?_ | refine w_tup ?_ | refine w_lst ?_ | refine w_call ?_ | refine w_and ?_ | refine w_or ?_ | refine w_ife ?_ | refine w_chain ?_ | refine w_slice ?_ | refine w_oN ?_ | refine w_oS ?_ | refine w_comp ?_ | refine w_itSeq ?_ | refine w_itR ?_ | refine w_evnil ?_ | refine w_evcons ?_ | refine w_evc1 ?_ | refine w_evc0 ?_ | refine w_c ?_ | refine nx_nx ?_ | refine nx_ret ?_ | refine bl_i ?_ | refine in_i ?_ | refine sq_t ?_ | refine sq_l ?_ | refine ls_l ?_ | refine tp_t ?_ | refine w_not ?_ | refine w_addI ?_ | refine w_sub ?_ | refine w_xor ?_ | refine w_ltI ?_ | refine w_leI ?_ | refine w_gtI ?_ | refine w_geI ?_ | refine w_slT ?_ | refine w_slL ?_ | refine w_lenT ?_ | refine w_lenL ?_ | refine w_lenS ?_ | refine w_tupL ?_ | refine w_tupT ?_ | refine w_lstL ?_ | refine w_lstT ?_ | refine w_neg ?_ | refine w_isn ?_ | refine w_isnn ?_ | refine w_begun ?_ | refine w_ret ?_ | refine w_resE ?_) | (with_reducible refine w_var (by with_unfolding_all rfl) ?_) | (with_reducible refine w_peekV (by with_unfolding_all rfl) ?_) | (with_reducible refine w_peekO (by with_unfolding_all rfl) ?_) | (with_reducible refine w_app (by with_unfolding_all rfl) ?_) | (with_reducible refine w_frz (by with_unfolding_all rfl) ?_) | (with_reducible refine w_scr (by with_unfolding_all rfl) ?_) | (with_reducible refine w_tc (by with_unfolding_all rfl) ?_) | (with_reducible refine w_stc (by with_unfolding_all rfl) ?_) | (with_reducible refine w_tr (by with_unfolding_all rfl) ?_) | (with_reducible refine w_str (by with_unfolding_all rfl) ?_) | (with_reducible refine w_idxT (by with_unfolding_all rfl) ?_) | (with_reducible refine w_idxL (by with_unfolding_all rfl) ?_) | (with_reducible refine w_isi (by with_unfolding_all rfl) ?_) | ((with_reducible first | refine w_addT ?_ ?_ | refine w_addL ?_ ?_ | refine w_mulI ?_ ?_ | refine w_mulT ?_ ?_ | refine w_mulL ?_ ?_ | refine w_mod ?_ ?_ | refine w_div ?_ ?_ | refine w_pow ?_ ?_ | refine w_rng ?_ ?_); (first | decide | omega | (refine ⟨?_, ?_⟩ <;> omega) | (refine ⟨?_, ?_, ?_⟩ <;> omega) | (simp only [List.length_cons, List.length_nil, List.length_append, List.length_reverse, BL.cD_len, BL.iD_len, BL.mkx_len, BL.sizeL]; omega) | (refine ⟨List.cons_ne_nil _ _, ?_⟩; simp only [List.length_cons, List.length_nil]; omega))) | ((with_reducible first | refine w_eqD ?_ ?_ ?_ | refine w_neD ?_ ?_ ?_ | refine w_inT ?_ ?_ ?_ | refine w_inL ?_ ?_ ?_); (first | rfl | with_unfolding_all rfl); (first | rfl | with_unfolding_all rfl)) | ((with_reducible refine ift_of ?_ ?_); (with_unfolding_all rfl)) | ((with_reducible refine iff_of ?_ ?_); (with_unfolding_all rfl)) | ((with_reducible refine ift2_of ?_ ?_); (with_unfolding_all rfl)) | ((with_reducible refine iff2_of ?_ ?_); (with_unfolding_all rfl)) | ((with_reducible refine ift_of ?_ ?_); exact decide_eq_true (by omega)) | ((with_reducible refine iff_of ?_ ?_); exact decide_eq_false (by omega)) | ((with_reducible refine ift2_of ?_ ?_); exact decide_eq_true (by omega)) | ((with_reducible refine iff2_of ?_ ?_); exact decide_eq_false (by omega)))
theorem w_while {c : Ex} {body : Stm} {Q : Fl → Tn → Prop} (I : Nat → Sl → Tn → Prop)
    (hs : ∀ k S t, I k S t → W (c S t) (Bl fun b t1 => (b = true → W (body S t1) (Nx (fun S2 t2 => ∃ k', k' < k ∧ I k' S2 t2) fun d t2 => Q (.ret d) t2)) ∧ (b = false → Q (.nx S) t1))) :
    ∀ {n k : Nat} {S : Sl} {t : Tn}, k < n → I k S t → W (sWhile n c body S t) Q
  | 0, _, _, _, h, _ => absurd h (Nat.not_lt_zero _)
  | n + 1, k, S, t, h, h0 => by
    show W (bnd (calm (c S)) _ t) Q
    refine w_bnd (w_calm ((hs k S t h0).mono fun d t1 q => ?_))
    cases d with
    | bl b =>
      obtain ⟨q1, q2⟩ := q
      cases b with
      | false => exact q2 rfl
      | true =>
        refine w_bnd (w_calm ((q1 rfl).mono fun fl t2 q => ?_))
        cases fl with
        | ret d => exact q
        | nx S2 =>
          obtain ⟨k', hk', h'⟩ := q
          exact w_while I hs (by omega) h'
    | _ => exact q.elim
end BL
set_option Elab.async false
set_option linter.all false
set_option maxRecDepth 100000
set_option maxHeartbeats 1000000
namespace BL
open PySem BG L2
local macro_rules | `(tactic| infer_instance) => `(tactic| first | (with_reducible first | refine w_seq ?_ | refine w_asg ?_ | refine w_asgP ?_ | refine pr_i ?_ | refine w_eqI ?_ | refine w_neI ?_ | refine w_own ?_ | refine w_par ?_ | refine w_parO ?_ | refine w_expr ?_ | refine w_if ?_ | refine w_sret ?_ | refine w_nil ?_ | refine w_for ?_ | refine w_bin ?_ | refine w_un ?_ | refine w_tup ?_ | refine w_lst ?_ | refine w_call ?_ | refine w_and ?_ | refine w_or ?_ | refine w_ife ?_ | refine w_chain ?_ | refine w_slice ?_ | refine w_oN ?_ | refine w_oS ?_ | refine w_comp ?_ | refine w_itSeq ?_ | refine w_itR ?_ | refine w_evnil ?_ | refine w_evcons ?_ | refine w_evc1 ?_ | refine w_evc0 ?_ | refine w_c ?_ | refine nx_nx ?_ | refine nx_ret ?_ | refine bl_i ?_ | refine in_i ?_ | refine sq_t ?_ | refine sq_l ?_ | refine ls_l ?_ | refine tp_t ?_ | refine w_not ?_ | refine w_addI ?_ | refine w_sub ?_ | refine w_xor ?_ | refine w_ltI ?_ | refine w_leI ?_ | refine w_gtI ?_ | refine w_geI ?_ | refine w_slT ?_ | refine w_slL ?_ | refine w_lenT ?_ | refine w_lenL ?_ | refine w_lenS ?_ | refine w_tupL ?_ | refine w_tupT ?_ | refine w_lstL ?_ | refine w_lstT ?_ | refine w_neg ?_ | refine w_isn ?_ | refine w_isnn ?_ | refine w_begun ?_ | refine w_ret ?_ | refine w_resE ?_) | (with_reducible refine w_var (by with_unfolding_all rfl) ?_) | (with_reducible refine w_peekV (by with_unfolding_all rfl) ?_) | (with_reducible refine w_peekO (by with_unfolding_all rfl) ?_) | (with_reducible refine w_app (by with_unfolding_all rfl) ?_) | (with_reducible refine w_frz (by with_unfolding_all rfl) ?_) | (with_reducible refine w_scr (by with_unfolding_all rfl) ?_) | (with_reducible refine w_tc (by with_unfolding_all rfl) ?_) | (with_reducible refine w_stc (by with_unfolding_all rfl) ?_) | (with_reducible refine w_tr (by with_unfolding_all rfl) ?_) | (with_reducible refine w_str (by with_unfolding_all rfl) ?_) | (with_reducible refine w_idxT (by with_unfolding_all rfl) ?_) | (with_reducible refine w_idxL (by with_unfolding_all rfl) ?_) | (with_reducible refine w_isi (by with_unfolding_all rfl) ?_) | ((with_reducible first | refine w_addT ?_ ?_ | refine w_addL ?_ ?_ | refine w_mulI ?_ ?_ | refine w_mulT ?_ ?_ | refine w_mulL ?_ ?_ | refine w_mod ?_ ?_ | refine w_div ?_ ?_ | refine w_pow ?_ ?_ | refine w_rng ?_ ?_); (first | decide | omega | (refine ⟨?_, ?_⟩ <;> omega) | (refine ⟨?_, ?_, ?_⟩ <;> omega) | (simp only [List.length_cons, List.length_nil, List.length_append, List.length_reverse, BL.cD_len, BL.iD_len, BL.mkx_len, BL.sizeL]; omega) | (refine ⟨List.cons_ne_nil _ _, ?_⟩; simp only [List.length_cons, List.length_nil]; omega))) | ((with_reducible first | refine w_eqD ?_ ?_ ?_ | refine w_neD ?_ ?_ ?_ | refine w_inT ?_ ?_ ?_ | refine w_inL ?_ ?_ ?_); (first | rfl | with_unfolding_all rfl); (first | rfl | with_unfolding_all rfl)) | ((with_reducible refine ift_of ?_ ?_); (with_unfolding_all rfl)) | ((with_reducible refine iff_of ?_ ?_); (with_unfolding_all rfl)) | ((with_reducible refine ift2_of ?_ ?_); (with_unfolding_all rfl)) | ((with_reducible refine iff2_of ?_ ?_); (with_unfolding_all rfl)) | ((with_reducible refine ift_of ?_ ?_); exact decide_eq_true (by omega)) | ((with_reducible refine iff_of ?_ ?_); exact decide_eq_false (by omega)) | ((with_reducible refine ift2_of ?_ ?_); exact decide_eq_true (by omega)) | ((with_reducible refine iff2_of ?_ ?_); exact decide_eq_false (by omega)))
variable {st : Sto}
theorem rt_if {f : Ex} {a : Stm} {S : Sl} (h : f S = ret (.bl false)) : sIf f a sNil S = ret (.nx S) := by unfold sIf; rw [h]; rfl
theorem w_par3 {i j l : Nat} {a b c : Ex} {S : Sl} {t : Tn} {Q : Fl → Tn → Prop} (h : W (a S t) fun x t1 => W (b S t1) fun y t2 => W (c S t2) fun z t3 => Q (.nx (((S.set i (.val x)).set j (.val y)).set l (.val z))) t3) : W (sPar3 i j l a b c S t) Q :=
  w_bnd (h.mono fun x t1 h => w_bnd (h.mono fun y t2 h => w_bnd h))
theorem okA_iD (ws : List Nat) (n : Nat) : okA (iD ws) n = true := okA_of fun d hd => by obtain ⟨w, _, rfl⟩ := mem_iD hd; rfl
theorem w_max {n : Int} {r : List Int} {ds : List D} {t : Tn} {Q : D → Tn → Prop} (e : intsD ds = some (n :: r)) (h : Q (.int (maxI n r)) t) : W (bMax (.lst ds) t) Q := by
  show W ((match intsD ds with | some (n :: r) => ret (D.int (maxI n r)) | _ => stuck) t) Q
  rw [e]; exact h
def fb (m : Int) : Int := if m ≤ 1 then 0 else if m ≤ 2 then 1 else if m ≤ 4 then 2 else 3
end BL
set_option Elab.async false
set_option linter.all false
set_option maxRecDepth 100000
set_option maxHeartbeats 1000000
namespace BL
open PySem BG L2
end BL
set_option Elab.async false
set_option linter.all false
namespace BM
/-- a as a function on all numbers -/
def fn (bs : List Nat) (u : Nat) : Nat := bs.getD u u
theorem fn_map (bs : List Nat) {n : Nat} (h : bs.length = n) : (List.range n).map (fn bs) = bs := by
  subst h
  refine List.ext_getElem (by simp) fun i h1 h2 => ?_
  rw [List.getElem_map, List.getElem_range]
  unfold fn
  rw [List.getD_eq_getElem?_getD, List.getElem?_eq_getElem h2]; rfl
theorem fn_inj {bs : List Nat} {n : Nat} (h : bs.Perm (List.range n)) : ∀ u v, fn bs u = fn bs v → u = v := fun u v e => by
  have hl : bs.length = n := by rw [h.length_eq, List.length_range]
  have nd : bs.Nodup := h.nodup_iff.mpr List.nodup_range
  have lt : ∀ i, i < n → fn bs i < n := fun i hi => by
    unfold fn
    rw [List.getD_eq_getElem?_getD, List.getElem?_eq_getElem (by omega)]
    exact List.mem_range.mp (h.mem_iff.mp (List.getElem_mem ..))
  have ge : ∀ i, ¬ i < n → fn bs i = i := fun i hi => by
    unfold fn
    rw [List.getD_eq_getElem?_getD, List.getElem?_eq_none (by omega)]; rfl
  by_cases hu : u < n <;> by_cases hv : v < n
  · unfold fn at e
    rw [List.getD_eq_getElem?_getD, List.getD_eq_getElem?_getD, List.getElem?_eq_getElem (by omega), List.getElem?_eq_getElem (by omega)] at e
    exact (List.getElem_inj nd).mp e
  · have := lt u hu; rw [e, ge v hv] at this; omega
  · have := lt v hv; rw [← e, ge u hu] at this; omega
  · rw [ge u hu, ge v hv] at e; exact e
end BM
set_option Elab.async false
set_option linter.all false
namespace BM
def ap8 (p w : Nat) : Nat := Nat.land (Nat.shiftRight p (Nat.mul 3 w)) 7
def isMin (p w : Nat) : Nat → Nat → Bool
  | 0, _ => false
  | f+1, c => match Nat.ble c w with
    | true => Nat.beq c w
    | false => isMin p w f (ap8 p c)
def mn (p w : Nat) : Bool := isMin p w 8 (ap8 p w)
def leaf (p : Nat) (b : Bool) : Bool := (b ^^ (mn p 0 ^^ (mn p 1 ^^ (mn p 2 ^^ (mn p 3 ^^ (mn p 4 ^^ (mn p 5 ^^ (mn p 6 ^^ mn p 7)))))))) == false
def each (k : Nat → List Nat → Bool → Bool) : List Nat → List Nat → Bool → Bool
  | pre, [], _ => true
  | pre, x :: r, b => k x (pre ++ r) b && each k (pre ++ [x]) r (!b)
def go : Nat → Nat → Nat → List Nat → Bool → Bool
  | 0, sh, p, rest, b => leaf p b
  | n+1, sh, p, rest, b => each (fun x r b' => go n (Nat.add sh 3) (Nat.add p (Nat.shiftLeft x sh)) r (b ^^ b')) [] rest false
end BM
set_option Elab.async false
set_option linter.all false
set_option Elab.async false
set_option linter.all false
set_option Elab.async false
set_option linter.all false
namespace BM
def it (f : Nat → Nat) : Nat → Nat → Nat
  | 0, w => w
  | n + 1, w => f (it f n w)
end BM
set_option Elab.async false
set_option linter.all false
namespace BM
/-- the least k ≥ 1 with it f k w = w (8 at most) -/
def olF (f : Nat → Nat) (w : Nat) : Nat → Nat → Nat
  | 0, k => k
  | n + 1, k => if it f k w = w then k else olF f w n (k + 1)
def ol (f : Nat → Nat) (w : Nat) : Nat := olF f w 8 1
/-- a permutation of 0..7, as a function on all numbers -/
structure Pm (f : Nat → Nat) : Prop where
  inj : ∀ u v, f u = f v → u = v
  lt : ∀ u, u < 8 → f u < 8
/-- the words of the orbit, in its order -/
def orb (f : Nat → Nat) (w : Nat) : List Nat := (List.range (ol f w)).map fun i => it f i w
end BM
set_option Elab.async false
set_option linter.all false
namespace BM
/-- w is the least of its orbit -/
def lst (f : Nat → Nat) (w : Nat) : Bool := (orb f w).all fun v => decide (w ≤ v)
end BM
set_option Elab.async false
set_option linter.all false
namespace BM
theorem fn_get {xs : List Nat} {w : Nat} (h : w < xs.length) : fn xs w = xs[w] := by
  unfold fn; rw [List.getD_eq_getElem?_getD, List.getElem?_eq_getElem h]; rfl
theorem pm_fn {xs : List Nat} (h : xs.Perm (List.range 8)) : Pm (fn xs) := ⟨fn_inj h, fun u hu => by
  have hl : xs.length = 8 := by rw [h.length_eq, List.length_range]
  rw [fn_get (by omega)]
  exact List.mem_range.mp (h.mem_iff.mp (List.getElem_mem ..))⟩
/-- the number of inversions -/
def inv : List Nat → Nat
  | [] => 0
  | x :: r => (r.filter fun v => decide (v < x)).length + inv r
end BM
set_option Elab.async false
set_option linter.all false
set_option Elab.async false
set_option linter.all false
set_option maxRecDepth 100000
set_option maxHeartbeats 1000000
namespace BL
open PySem BG L2
local macro_rules | `(tactic| infer_instance) => `(tactic| first | (with_reducible first | refine w_seq ?_ | refine w_asg ?_ | refine w_asgP ?_ | refine pr_i ?_ | refine w_eqI ?_ | refine w_neI ?_ | refine w_own ?_ | refine w_par ?_ | refine w_parO ?_ | refine w_expr ?_ | refine w_if ?_ | refine w_sret ?_ | refine w_nil ?_ | refine w_for ?_ | refine w_bin ?_ | refine w_un ?_ | refine w_tup ?_ | refine w_lst ?_ | refine w_call ?_ | refine w_and ?_ | refine w_or ?_ | refine w_ife ?_ | refine w_chain ?_ | refine w_slice ?_ | refine w_oN ?_ | refine w_oS ?_ | refine w_comp ?_ | refine w_itSeq ?_ | refine w_itR ?_ | refine w_evnil ?_ | refine w_evcons ?_ | refine w_evc1 ?_ | refine w_evc0 ?_ | refine w_c ?_ | refine nx_nx ?_ | refine nx_ret ?_ | refine bl_i ?_ | refine in_i ?_ | refine sq_t ?_ | refine sq_l ?_ | refine ls_l ?_ | refine tp_t ?_ | refine w_not ?_ | refine w_addI ?_ | refine w_sub ?_ | refine w_xor ?_ | refine w_ltI ?_ | refine w_leI ?_ | refine w_gtI ?_ | refine w_geI ?_ | refine w_slT ?_ | refine w_slL ?_ | refine w_lenT ?_ | refine w_lenL ?_ | refine w_lenS ?_ | refine w_tupL ?_ | refine w_tupT ?_ | refine w_lstL ?_ | refine w_lstT ?_ | refine w_neg ?_ | refine w_isn ?_ | refine w_isnn ?_ | refine w_begun ?_ | refine w_ret ?_ | refine w_resE ?_) | (with_reducible refine w_var (by with_unfolding_all rfl) ?_) | (with_reducible refine w_peekV (by with_unfolding_all rfl) ?_) | (with_reducible refine w_peekO (by with_unfolding_all rfl) ?_) | (with_reducible refine w_app (by with_unfolding_all rfl) ?_) | (with_reducible refine w_frz (by with_unfolding_all rfl) ?_) | (with_reducible refine w_scr (by with_unfolding_all rfl) ?_) | (with_reducible refine w_tc (by with_unfolding_all rfl) ?_) | (with_reducible refine w_stc (by with_unfolding_all rfl) ?_) | (with_reducible refine w_tr (by with_unfolding_all rfl) ?_) | (with_reducible refine w_str (by with_unfolding_all rfl) ?_) | (with_reducible refine w_idxT (by with_unfolding_all rfl) ?_) | (with_reducible refine w_idxL (by with_unfolding_all rfl) ?_) | (with_reducible refine w_isi (by with_unfolding_all rfl) ?_) | ((with_reducible first | refine w_addT ?_ ?_ | refine w_addL ?_ ?_ | refine w_mulI ?_ ?_ | refine w_mulT ?_ ?_ | refine w_mulL ?_ ?_ | refine w_mod ?_ ?_ | refine w_div ?_ ?_ | refine w_pow ?_ ?_ | refine w_rng ?_ ?_); (first | decide | omega | (refine ⟨?_, ?_⟩ <;> omega) | (refine ⟨?_, ?_, ?_⟩ <;> omega) | (simp only [List.length_cons, List.length_nil, List.length_append, List.length_reverse, BL.cD_len, BL.iD_len, BL.mkx_len, BL.sizeL]; omega) | (refine ⟨List.cons_ne_nil _ _, ?_⟩; simp only [List.length_cons, List.length_nil]; omega))) | ((with_reducible first | refine w_eqD ?_ ?_ ?_ | refine w_neD ?_ ?_ ?_ | refine w_inT ?_ ?_ ?_ | refine w_inL ?_ ?_ ?_); (first | rfl | with_unfolding_all rfl); (first | rfl | with_unfolding_all rfl)) | ((with_reducible refine ift_of ?_ ?_); (with_unfolding_all rfl)) | ((with_reducible refine iff_of ?_ ?_); (with_unfolding_all rfl)) | ((with_reducible refine ift2_of ?_ ?_); (with_unfolding_all rfl)) | ((with_reducible refine iff2_of ?_ ?_); (with_unfolding_all rfl)) | ((with_reducible refine ift_of ?_ ?_); exact decide_eq_true (by omega)) | ((with_reducible refine iff_of ?_ ?_); exact decide_eq_false (by omega)) | ((with_reducible refine ift2_of ?_ ?_); exact decide_eq_true (by omega)) | ((with_reducible refine iff2_of ?_ ?_); exact decide_eq_false (by omega)))
theorem fx_get {xs : List Nat} (hl : xs.length = 8) {w : Nat} (hw : w < 8) : xs[w]? = some (BM.fn xs w) := by
  rw [List.getElem?_eq_getElem (by omega), BM.fn_get (by omega)]
theorem fx_lt {xs : List Nat} (h : IsX xs) {w : Nat} (hw : w < 8) : BM.fn xs w < 8 := (BM.pm_fn h).lt w hw
theorem fx_map {xs : List Nat} (h : IsX xs) : (List.range 8).map (BM.fn xs) = xs := BM.fn_map xs h.len
def inN (f : Nat → Nat) : D → D
  | .int i => .int (f i.toNat : Int)
  | d => d
theorem iD_mapN (f : Nat → Nat) (a : List Nat) : (iD a).map (inN f) = iD (a.map f) := by
  unfold iD; rw [List.map_map, List.map_map]; rfl
theorem then_eq {a b : List Nat} (ha : a.length ≤ 1000) (hw : ∀ w ∈ a, w < 8) (hb : b.length = 8) : f_then [.tup (iD a), .tup (iD b)] = ret (.tup (iD (a.map (BM.fn b)))) := by
  refine eq_of_W fun t => w_fn ?_
  show W (b_then [.val (.tup (iD a)), .val (.tup (iD b)), .un] t) _
  unfold b_then
  repeat (first | infer_instance)
  refine ⟨by rw [iD_len, sizeL]; omega, w_cmpM (inN (BM.fn b)) (fun d hd => ?_) ?_⟩
  · obtain ⟨w, hw', rfl⟩ := mem_iD hd
    refine ⟨_, rfl, eq_of_W fun t => ?_⟩
    repeat (first | (with_reducible refine w_idxT (atI_iD (fx_get hb (hw w hw'))) ?_) | infer_instance)
    exact ⟨rfl, rfl⟩
  · rw [iD_mapN]
    repeat (first | infer_instance)
    exact ⟨rfl, rfl⟩
abbrev thn (a b : List Nat) : List Nat := a.map (BM.fn b)
theorem thn_x {a b : List Nat} (ha : IsX a) (hb : IsX b) : IsX (thn a b) := by
  have h1 : (a.map (BM.fn b)).Perm ((List.range 8).map (BM.fn b)) := List.Perm.map _ ha
  rw [fx_map hb] at h1
  exact h1.trans hb
theorem thenX {a b : List Nat} (ha : IsX a) (hb : IsX b) : f_then [.tup (iD a), .tup (iD b)] = ret (.tup (iD (thn a b))) := then_eq (by rw [ha.len]; decide) (fun w hw => ha.lt hw) hb.len
theorem fx_thn {a b : List Nat} (ha : IsX a) (hb : IsX b) {w : Nat} (hw : w < 8) : BM.fn (thn a b) w = BM.fn b (BM.fn a w) := by
  have h1 := fx_get (thn_x ha hb).len hw
  rw [List.getElem?_map, fx_get ha.len hw] at h1
  exact (Option.some.inj h1).symm
theorem x_ext {a b : List Nat} (ha : IsX a) (hb : IsX b) (h : ∀ w, w < 8 → BM.fn a w = BM.fn b w) : a = b := by
  rw [← fx_map ha, ← fx_map hb]
  exact List.map_congr_left fun w hw => h w (List.mem_range.mp hw)
theorem range_x : IsX (List.range 8) := .refl _
theorem fx_range {w : Nat} (hw : w < 8) : BM.fn (List.range 8) w = w := by
  have h1 := fx_get range_x.len hw
  rw [List.getElem?_range hw] at h1
  exact (Option.some.inj h1).symm
def bk (xs : List Nat) : List Nat := (List.range 8).map fun w => xs.idxOf w
theorem IsX.mem {xs : List Nat} (h : IsX xs) {w : Nat} (hw : w < 8) : w ∈ xs := h.mem_iff.mpr (List.mem_range.mpr hw)
end BL
set_option Elab.async false
set_option linter.all false
set_option maxRecDepth 100000
set_option maxHeartbeats 1000000
namespace BL
open PySem BG L2
local macro_rules | `(tactic| infer_instance) => `(tactic| first | (with_reducible first | refine w_seq ?_ | refine w_asg ?_ | refine w_asgP ?_ | refine pr_i ?_ | refine w_eqI ?_ | refine w_neI ?_ | refine w_own ?_ | refine w_par ?_ | refine w_parO ?_ | refine w_expr ?_ | refine w_if ?_ | refine w_sret ?_ | refine w_nil ?_ | refine w_for ?_ | refine w_bin ?_ | refine w_un ?_ | refine w_tup ?_ | refine w_lst ?_ | refine w_call ?_ | refine w_and ?_ | refine w_or ?_ | refine w_ife ?_ | refine w_chain ?_ | refine w_slice ?_ | refine w_oN ?_ | refine w_oS ?_ | refine w_comp ?_ | refine w_itSeq ?_ | refine w_itR ?_ | refine w_evnil ?_ | refine w_evcons ?_ | refine w_evc1 ?_ | refine w_evc0 ?_ | refine w_c ?_ | refine nx_nx ?_ | refine nx_ret ?_ | refine bl_i ?_ | refine in_i ?_ | refine sq_t ?_ | refine sq_l ?_ | refine ls_l ?_ | refine tp_t ?_ | refine w_not ?_ | refine w_addI ?_ | refine w_sub ?_ | refine w_xor ?_ | refine w_ltI ?_ | refine w_leI ?_ | refine w_gtI ?_ | refine w_geI ?_ | refine w_slT ?_ | refine w_slL ?_ | refine w_lenT ?_ | refine w_lenL ?_ | refine w_lenS ?_ | refine w_tupL ?_ | refine w_tupT ?_ | refine w_lstL ?_ | refine w_lstT ?_ | refine w_neg ?_ | refine w_isn ?_ | refine w_isnn ?_ | refine w_begun ?_ | refine w_ret ?_ | refine w_resE ?_) | (with_reducible refine w_var (by with_unfolding_all rfl) ?_) | (with_reducible refine w_peekV (by with_unfolding_all rfl) ?_) | (with_reducible refine w_peekO (by with_unfolding_all rfl) ?_) | (with_reducible refine w_app (by with_unfolding_all rfl) ?_) | (with_reducible refine w_frz (by with_unfolding_all rfl) ?_) | (with_reducible refine w_scr (by with_unfolding_all rfl) ?_) | (with_reducible refine w_tc (by with_unfolding_all rfl) ?_) | (with_reducible refine w_stc (by with_unfolding_all rfl) ?_) | (with_reducible refine w_tr (by with_unfolding_all rfl) ?_) | (with_reducible refine w_str (by with_unfolding_all rfl) ?_) | (with_reducible refine w_idxT (by with_unfolding_all rfl) ?_) | (with_reducible refine w_idxL (by with_unfolding_all rfl) ?_) | (with_reducible refine w_isi (by with_unfolding_all rfl) ?_) | ((with_reducible first | refine w_addT ?_ ?_ | refine w_addL ?_ ?_ | refine w_mulI ?_ ?_ | refine w_mulT ?_ ?_ | refine w_mulL ?_ ?_ | refine w_mod ?_ ?_ | refine w_div ?_ ?_ | refine w_pow ?_ ?_ | refine w_rng ?_ ?_); (first | decide | omega | (refine ⟨?_, ?_⟩ <;> omega) | (refine ⟨?_, ?_, ?_⟩ <;> omega) | (simp only [List.length_cons, List.length_nil, List.length_append, List.length_reverse, BL.cD_len, BL.iD_len, BL.mkx_len, BL.sizeL]; omega) | (refine ⟨List.cons_ne_nil _ _, ?_⟩; simp only [List.length_cons, List.length_nil]; omega))) | ((with_reducible first | refine w_eqD ?_ ?_ ?_ | refine w_neD ?_ ?_ ?_ | refine w_inT ?_ ?_ ?_ | refine w_inL ?_ ?_ ?_); (first | rfl | with_unfolding_all rfl); (first | rfl | with_unfolding_all rfl)) | ((with_reducible refine ift_of ?_ ?_); (with_unfolding_all rfl)) | ((with_reducible refine iff_of ?_ ?_); (with_unfolding_all rfl)) | ((with_reducible refine ift2_of ?_ ?_); (with_unfolding_all rfl)) | ((with_reducible refine iff2_of ?_ ?_); (with_unfolding_all rfl)) | ((with_reducible refine ift_of ?_ ?_); exact decide_eq_true (by omega)) | ((with_reducible refine iff_of ?_ ?_); exact decide_eq_false (by omega)) | ((with_reducible refine ift2_of ?_ ?_); exact decide_eq_true (by omega)) | ((with_reducible refine iff2_of ?_ ?_); exact decide_eq_false (by omega)))
def row (f : Nat → Nat) (w n : Nat) : List Nat := (List.range n).map fun i => BM.it f i w
end BL
set_option Elab.async false
set_option linter.all false
set_option maxRecDepth 100000
set_option maxHeartbeats 1000000
namespace BL
open PySem BG L2
local macro_rules | `(tactic| infer_instance) => `(tactic| first | (with_reducible first | refine w_seq ?_ | refine w_asg ?_ | refine w_asgP ?_ | refine pr_i ?_ | refine w_eqI ?_ | refine w_neI ?_ | refine w_own ?_ | refine w_par ?_ | refine w_parO ?_ | refine w_expr ?_ | refine w_if ?_ | refine w_sret ?_ | refine w_nil ?_ | refine w_for ?_ | refine w_bin ?_ | refine w_un ?_ | refine w_tup ?_ | refine w_lst ?_ | refine w_call ?_ | refine w_and ?_ | refine w_or ?_ | refine w_ife ?_ | refine w_chain ?_ | refine w_slice ?_ | refine w_oN ?_ | refine w_oS ?_ | refine w_comp ?_ | refine w_itSeq ?_ | refine w_itR ?_ | refine w_evnil ?_ | refine w_evcons ?_ | refine w_evc1 ?_ | refine w_evc0 ?_ | refine w_c ?_ | refine nx_nx ?_ | refine nx_ret ?_ | refine bl_i ?_ | refine in_i ?_ | refine sq_t ?_ | refine sq_l ?_ | refine ls_l ?_ | refine tp_t ?_ | refine w_not ?_ | refine w_addI ?_ | refine w_sub ?_ | refine w_xor ?_ | refine w_ltI ?_ | refine w_leI ?_ | refine w_gtI ?_ | refine w_geI ?_ | refine w_slT ?_ | refine w_slL ?_ | refine w_lenT ?_ | refine w_lenL ?_ | refine w_lenS ?_ | refine w_tupL ?_ | refine w_tupT ?_ | refine w_lstL ?_ | refine w_lstT ?_ | refine w_neg ?_ | refine w_isn ?_ | refine w_isnn ?_ | refine w_begun ?_ | refine w_ret ?_ | refine w_resE ?_) | (with_reducible refine w_var (by with_unfolding_all rfl) ?_) | (with_reducible refine w_peekV (by with_unfolding_all rfl) ?_) | (with_reducible refine w_peekO (by with_unfolding_all rfl) ?_) | (with_reducible refine w_app (by with_unfolding_all rfl) ?_) | (with_reducible refine w_frz (by with_unfolding_all rfl) ?_) | (with_reducible refine w_scr (by with_unfolding_all rfl) ?_) | (with_reducible refine w_tc (by with_unfolding_all rfl) ?_) | (with_reducible refine w_stc (by with_unfolding_all rfl) ?_) | (with_reducible refine w_tr (by with_unfolding_all rfl) ?_) | (with_reducible refine w_str (by with_unfolding_all rfl) ?_) | (with_reducible refine w_idxT (by with_unfolding_all rfl) ?_) | (with_reducible refine w_idxL (by with_unfolding_all rfl) ?_) | (with_reducible refine w_isi (by with_unfolding_all rfl) ?_) | ((with_reducible first | refine w_addT ?_ ?_ | refine w_addL ?_ ?_ | refine w_mulI ?_ ?_ | refine w_mulT ?_ ?_ | refine w_mulL ?_ ?_ | refine w_mod ?_ ?_ | refine w_div ?_ ?_ | refine w_pow ?_ ?_ | refine w_rng ?_ ?_); (first | decide | omega | (refine ⟨?_, ?_⟩ <;> omega) | (refine ⟨?_, ?_, ?_⟩ <;> omega) | (simp only [List.length_cons, List.length_nil, List.length_append, List.length_reverse, BL.cD_len, BL.iD_len, BL.mkx_len, BL.sizeL]; omega) | (refine ⟨List.cons_ne_nil _ _, ?_⟩; simp only [List.length_cons, List.length_nil]; omega))) | ((with_reducible first | refine w_eqD ?_ ?_ ?_ | refine w_neD ?_ ?_ ?_ | refine w_inT ?_ ?_ ?_ | refine w_inL ?_ ?_ ?_); (first | rfl | with_unfolding_all rfl); (first | rfl | with_unfolding_all rfl)) | ((with_reducible refine ift_of ?_ ?_); (with_unfolding_all rfl)) | ((with_reducible refine iff_of ?_ ?_); (with_unfolding_all rfl)) | ((with_reducible refine ift2_of ?_ ?_); (with_unfolding_all rfl)) | ((with_reducible refine iff2_of ?_ ?_); (with_unfolding_all rfl)) | ((with_reducible refine ift_of ?_ ?_); exact decide_eq_true (by omega)) | ((with_reducible refine iff_of ?_ ?_); exact decide_eq_false (by omega)) | ((with_reducible refine ift2_of ?_ ?_); exact decide_eq_true (by omega)) | ((with_reducible refine iff2_of ?_ ?_); exact decide_eq_false (by omega)))
def lnT : List D := [.tup [.int 0, .int 1, .int 2], .tup [.int 0, .int 2, .int 1], .tup [.int 1, .int 0, .int 2], .tup [.int 1, .int 2, .int 0], .tup [.int 2, .int 0, .int 1], .tup [.int 2, .int 1, .int 0]]
def ln (j : Nat) : D := lnT.getD j .non
def mvT : List (List Nat) := [[0, 1, 2, 3, 4, 5, 6, 7], [0, 1, 4, 5, 2, 3, 6, 7], [0, 2, 1, 3, 4, 6, 5, 7], [0, 2, 4, 6, 1, 3, 5, 7], [0, 4, 1, 5, 2, 6, 3, 7], [0, 4, 2, 6, 1, 5, 3, 7]]
def mvl (j : Nat) : List Nat := mvT.getD j []
def mv (j w : Nat) : Nat := (mvl j).getD w 0
end BL
set_option Elab.async false
set_option linter.all false
namespace BM
def wt (w : Nat) : Nat := w % 2 + w / 2 % 2 + w / 4
theorem xr_lt {a b : Nat} (ha : a < 8) (hb : b < 8) : a ^^^ b < 8 := Nat.xor_lt_two_pow (n := 3) ha hb
theorem wt_pos : ∀ a, a < 8 → a ≠ 0 → 1 ≤ wt a := by decide
theorem xr_ne {a b : Nat} (h : a ≠ b) : a ^^^ b ≠ 0 := fun e => h (by
  have := congrArg (· ^^^ b) e
  simpa [Nat.xor_assoc] using this)
/-- what a name asks -/
def nmOk : Nat → (Nat → Nat) → Prop
  | 0, f => f 0 = 0
  | 1, f => ∀ x, x < 8 → wt x ≤ 1 → f x = x
  | 2, f => f 7 = 7
  | 3, f => ∀ x, x < 8 → wt (f x) = wt x
  | 4, f => ∀ x y, x < 8 → y < 8 → wt (x ^^^ y) % 2 = 0 → wt (f x ^^^ f y) % 2 = 0
  | 5, f => ∀ x y, x < 8 → y < 8 → wt (x ^^^ y) = 1 → wt (f x ^^^ f y) = 1
  | 6, f => ∀ x, x < 8 → f x = x ^^^ f 0
  | 7, f => ∀ x y, x < 8 → y < 8 → f (x ^^^ y) = f 0 ^^^ f x ^^^ f y
  | 8, f => ∀ x, x < 8 → wt x = 1 → wt (f x) = 1
  | _, _ => True
theorem nm_cases {p : Nat → Prop} {i : Nat} (hi : i < 9) (h0 : p 0) (h1 : p 1) (h2 : p 2) (h3 : p 3) (h4 : p 4) (h5 : p 5) (h6 : p 6) (h7 : p 7) (h8 : p 8) : p i := by
  rcases (by omega : i = 0 ∨ i = 1 ∨ i = 2 ∨ i = 3 ∨ i = 4 ∨ i = 5 ∨ i = 6 ∨ i = 7 ∨ i = 8) with rfl | rfl | rfl | rfl | rfl | rfl | rfl | rfl | rfl <;> assumption
theorem nm_congr {f g : Nat → Nat} (e : ∀ w, w < 8 → f w = g w) {i : Nat} (hi : i < 9) (h : nmOk i f) : nmOk i g := by
  revert h
  refine nm_cases (p := fun i => nmOk i f → nmOk i g) hi ?_ ?_ ?_ ?_ ?_ ?_ ?_ ?_ ?_
  · intro h; show g 0 = 0; rw [← e 0 (by decide)]; exact h
  · intro h x hx hw; rw [← e x hx]; exact h x hx hw
  · intro h; show g 7 = 7; rw [← e 7 (by decide)]; exact h
  · intro h x hx; rw [← e x hx]; exact h x hx
  · intro h x y hx hy hw; rw [← e x hx, ← e y hy]; exact h x y hx hy hw
  · intro h x y hx hy hw; rw [← e x hx, ← e y hy]; exact h x y hx hy hw
  · intro h x hx; rw [← e x hx, ← e 0 (by decide)]; exact h x hx
  · intro h x y hx hy; rw [← e _ (xr_lt hx hy), ← e x hx, ← e y hy, ← e 0 (by decide)]; exact h x y hx hy
  · intro h x hx hw; rw [← e x hx]; exact h x hx hw
theorem nm_id {i : Nat} (hi : i < 9) : nmOk i fun w => w := by
  refine nm_cases (p := fun i => nmOk i fun w => w) hi rfl (fun _ _ _ => rfl) rfl (fun _ _ => rfl) (fun _ _ _ _ h => h) (fun _ _ _ _ h => h) (fun x _ => ?_) (fun x y _ _ => ?_) (fun _ _ h => h)
  · show x = x ^^^ 0; rw [Nat.xor_zero]
  · show x ^^^ y = 0 ^^^ x ^^^ y; rw [Nat.zero_xor]
theorem nm_comp {f g : Nat → Nat} (P : Pm f) {i : Nat} (hi : i < 9) (hf : nmOk i f) (hg : nmOk i g) : nmOk i fun w => g (f w) := by
  revert hf hg
  refine nm_cases (p := fun i => nmOk i f → nmOk i g → nmOk i fun w => g (f w)) hi ?_ ?_ ?_ ?_ ?_ ?_ ?_ ?_ ?_
  · intro a b
    have a : f 0 = 0 := a
    have b : g 0 = 0 := b
    show g (f 0) = 0
    rw [a, b]
  · intro a b x hx hw
    show g (f x) = x
    rw [a x hx hw, b x hx hw]
  · intro a b
    have a : f 7 = 7 := a
    have b : g 7 = 7 := b
    show g (f 7) = 7
    rw [a, b]
  · intro a b x hx
    show wt (g (f x)) = wt x
    rw [b _ (P.lt x hx), a x hx]
  · intro a b x y hx hy hw
    exact b _ _ (P.lt x hx) (P.lt y hy) (a x y hx hy hw)
  · intro a b x y hx hy hw
    exact b _ _ (P.lt x hx) (P.lt y hy) (a x y hx hy hw)
  · intro a b x hx
    show g (f x) = x ^^^ g (f 0)
    rw [b _ (P.lt x hx), b _ (P.lt 0 (by decide)), a x hx, Nat.xor_assoc]
  · intro a b x y hx hy
    show g (f (x ^^^ y)) = g (f 0) ^^^ g (f x) ^^^ g (f y)
    have h0 := P.lt 0 (by decide)
    have h1 := P.lt x hx
    have h2 := P.lt y hy
    rw [a x y hx hy, b _ _ (xr_lt h0 h1) h2, b _ _ h0 h1]
    generalize g (f 0) = p
    generalize g (f x) = q
    generalize g (f y) = r
    generalize g 0 = z
    rw [← Nat.xor_assoc, ← Nat.xor_assoc, Nat.xor_self, Nat.zero_xor]
  · intro a b x hx hw
    exact b _ (P.lt x hx) (a x hx hw)
def rows : List (List Nat) := [] :: ((List.range 8).map (fun x => [x]) ++ (List.range 8).flatMap fun x => (List.range' (x + 1) (7 - x)).map fun y => [x, y])
theorem mem_rows {r : List Nat} : r ∈ rows ↔ r = [] ∨ (∃ x, x < 8 ∧ r = [x]) ∨ ∃ x y, x < y ∧ y < 8 ∧ r = [x, y] := by
  unfold rows
  rw [List.mem_cons, List.mem_append, List.mem_map, List.mem_flatMap]
  refine or_congr Iff.rfl (or_congr ?_ ?_)
  · exact ⟨fun ⟨x, h, e⟩ => ⟨x, List.mem_range.mp h, e.symm⟩, fun ⟨x, h, e⟩ => ⟨x, List.mem_range.mpr h, e.symm⟩⟩
  · constructor
    · rintro ⟨x, hx, h⟩
      obtain ⟨y, hy, rfl⟩ := List.mem_map.mp h
      rw [List.mem_range'_1] at hy
      have hx := List.mem_range.mp hx
      exact ⟨x, y, by omega, by omega, rfl⟩
    · rintro ⟨x, y, h1, h2, rfl⟩
      exact ⟨x, List.mem_range.mpr (by omega), List.mem_map.mpr ⟨y, by rw [List.mem_range'_1]; omega, rfl⟩⟩
/-- the condition of a name holds of a row -/
def hl : Nat → List Nat → (Nat → Nat) → Bool
  | 0, [], f => decide (f 0 ≠ 0)
  | 2, [], f => decide (f 7 ≠ 7)
  | 1, [x], f => decide (wt x ≤ 1) && decide (f x ≠ x)
  | 3, [x], f => decide (wt x ≠ wt (f x))
  | 6, [x], f => decide (x ^^^ f x ≠ f 0)
  | 8, [x], f => decide (wt x = 1) && decide (wt (f x) ≠ 1)
  | 4, [x, y], f => decide (wt (x ^^^ y) % 2 = 0) && decide (wt (f x ^^^ f y) % 2 = 1)
  | 5, [x, y], f => decide (wt (x ^^^ y) = 1) && decide (1 < wt (f x ^^^ f y))
  | 7, [x, y], f => decide (0 < x) && decide (f 0 ^^^ f x ^^^ f y ^^^ f (x ^^^ y) ≠ 0)
  | _, _, _ => false
def nmB (i : Nat) (f : Nat → Nat) : Bool := rows.all fun r => !hl i r f
theorem nmB_all {i : Nat} {f : Nat → Nat} : nmB i f = true ↔ ∀ r ∈ rows, hl i r f = false := by
  unfold nmB
  rw [List.all_eq_true]
  exact ⟨fun h r hr => by have := h r hr; revert this; cases hl i r f <;> decide, fun h r hr => by rw [h r hr]; rfl⟩
theorem nmB_iff {i : Nat} (hi : i < 9) {f : Nat → Nat} (P : Pm f) : nmB i f = true ↔ nmOk i f := by
  rw [nmB_all]
  have r0 : ([] : List Nat) ∈ rows := mem_rows.mpr (.inl rfl)
  have r1 : ∀ {x}, x < 8 → [x] ∈ rows := fun {x} h => mem_rows.mpr (.inr (.inl ⟨x, h, rfl⟩))
  have r2 : ∀ {x y}, x < y → y < 8 → [x, y] ∈ rows := fun {x y} h h2 => mem_rows.mpr (.inr (.inr ⟨x, y, h, h2, rfl⟩))
  have sp : ∀ {i : Nat}, hl i [] f = false → (∀ x, x < 8 → hl i [x] f = false) → (∀ x y, x < y → y < 8 → hl i [x, y] f = false) → ∀ r ∈ rows, hl i r f = false := fun {i} h0 h1 h2 r hr => by
    rcases mem_rows.mp hr with rfl | ⟨x, hx, rfl⟩ | ⟨x, y, hxy, hy, rfl⟩
    · exact h0
    · exact h1 x hx
    · exact h2 x y hxy hy
  refine nm_cases (p := fun i => (∀ r ∈ rows, hl i r f = false) ↔ nmOk i f) hi ?_ ?_ ?_ ?_ ?_ ?_ ?_ ?_ ?_
  · constructor
    · intro h
      show f 0 = 0
      exact Decidable.byContradiction fun z => by have := h [] r0; rw [show hl 0 [] f = decide (f 0 ≠ 0) from rfl, decide_eq_true z] at this; cases this
    · intro h
      exact sp (decide_eq_false (not_not_intro h)) (fun _ _ => rfl) (fun _ _ _ _ => rfl)
  · constructor
    · intro h x hx hw
      have := h [x] (r1 hx)
      rw [show hl 1 [x] f = (decide (wt x ≤ 1) && decide (f x ≠ x)) from rfl, decide_eq_true hw, Bool.true_and] at this
      exact Decidable.byContradiction fun z => by rw [decide_eq_true z] at this; cases this
    · intro h
      refine sp rfl (fun x hx => ?_) (fun _ _ _ _ => rfl)
      show (decide (wt x ≤ 1) && decide (f x ≠ x)) = false
      by_cases c : wt x ≤ 1
      · rw [decide_eq_false (not_not_intro (h x hx c)), Bool.and_false]
      · rw [decide_eq_false c, Bool.false_and]
  · constructor
    · intro h
      show f 7 = 7
      exact Decidable.byContradiction fun z => by have := h [] r0; rw [show hl 2 [] f = decide (f 7 ≠ 7) from rfl, decide_eq_true z] at this; cases this
    · intro h
      exact sp (decide_eq_false (not_not_intro h)) (fun _ _ => rfl) (fun _ _ _ _ => rfl)
  · constructor
    · intro h x hx
      exact Decidable.byContradiction fun z => by have := h [x] (r1 hx); rw [show hl 3 [x] f = decide (wt x ≠ wt (f x)) from rfl, decide_eq_true (show wt x ≠ wt (f x) from fun e => z e.symm)] at this; cases this
    · intro h
      exact sp rfl (fun x hx => decide_eq_false (not_not_intro (h x hx).symm)) (fun _ _ _ _ => rfl)
  · constructor
    · intro h
      have key : ∀ x y, x < y → y < 8 → wt (x ^^^ y) % 2 = 0 → wt (f x ^^^ f y) % 2 = 0 := fun x y hxy hy hw => by
        have := h [x, y] (r2 hxy hy)
        rw [show hl 4 [x, y] f = (decide (wt (x ^^^ y) % 2 = 0) && decide (wt (f x ^^^ f y) % 2 = 1)) from rfl, decide_eq_true hw, Bool.true_and] at this
        have := of_decide_eq_false this
        omega
      intro x y hx hy hw
      rcases Nat.lt_trichotomy x y with c | c | c
      · exact key x y c hy hw
      · rw [c, Nat.xor_self]; rfl
      · rw [Nat.xor_comm]
        rw [Nat.xor_comm] at hw
        exact key y x c hx hw
    · intro h
      refine sp rfl (fun _ _ => rfl) fun x y hxy hy => ?_
      show (decide (wt (x ^^^ y) % 2 = 0) && decide (wt (f x ^^^ f y) % 2 = 1)) = false
      by_cases c : wt (x ^^^ y) % 2 = 0
      · have := h x y (by omega) hy c
        rw [decide_eq_false (by omega : ¬ wt (f x ^^^ f y) % 2 = 1), Bool.and_false]
      · rw [decide_eq_false c, Bool.false_and]
  · constructor
    · intro h
      have key : ∀ x y, x < y → y < 8 → wt (x ^^^ y) = 1 → wt (f x ^^^ f y) = 1 := fun x y hxy hy hw => by
        have := h [x, y] (r2 hxy hy)
        rw [show hl 5 [x, y] f = (decide (wt (x ^^^ y) = 1) && decide (1 < wt (f x ^^^ f y))) from rfl, decide_eq_true hw, Bool.true_and] at this
        have h1 := of_decide_eq_false this
        have h2 := wt_pos _ (xr_lt (P.lt x (by omega)) (P.lt y hy)) (xr_ne fun e => by have := P.inj _ _ e; omega)
        omega
      intro x y hx hy hw
      rcases Nat.lt_trichotomy x y with c | c | c
      · exact key x y c hy hw
      · rw [c, Nat.xor_self] at hw; cases hw
      · rw [Nat.xor_comm]
        rw [Nat.xor_comm] at hw
        exact key y x c hx hw
    · intro h
      refine sp rfl (fun _ _ => rfl) fun x y hxy hy => ?_
      show (decide (wt (x ^^^ y) = 1) && decide (1 < wt (f x ^^^ f y))) = false
      by_cases c : wt (x ^^^ y) = 1
      · have := h x y (by omega) hy c
        rw [decide_eq_false (by omega : ¬ 1 < wt (f x ^^^ f y)), Bool.and_false]
      · rw [decide_eq_false c, Bool.false_and]
  · constructor
    · intro h x hx
      have : x ^^^ f x = f 0 := Decidable.byContradiction fun z => by have := h [x] (r1 hx); rw [show hl 6 [x] f = decide (x ^^^ f x ≠ f 0) from rfl, decide_eq_true z] at this; cases this
      rw [← this, ← Nat.xor_assoc, Nat.xor_self, Nat.zero_xor]
    · intro h
      refine sp rfl (fun x hx => decide_eq_false (not_not_intro ?_)) (fun _ _ _ _ => rfl)
      rw [h x hx, ← Nat.xor_assoc, Nat.xor_self, Nat.zero_xor]
  · constructor
    · intro h
      have can : ∀ {a b c d : Nat}, a ^^^ b ^^^ c ^^^ d = 0 → d = a ^^^ b ^^^ c := fun {a b c d} e => by
        have := congrArg (fun z => a ^^^ b ^^^ c ^^^ z) e
        simp only [Nat.xor_zero] at this
        rw [← this, ← Nat.xor_assoc, Nat.xor_self, Nat.zero_xor]
      have key : ∀ x y, 0 < x → x < y → y < 8 → f (x ^^^ y) = f 0 ^^^ f x ^^^ f y := fun x y h0 hxy hy => by
        have := h [x, y] (r2 hxy hy)
        rw [show hl 7 [x, y] f = (decide (0 < x) && decide (f 0 ^^^ f x ^^^ f y ^^^ f (x ^^^ y) ≠ 0)) from rfl, decide_eq_true h0, Bool.true_and] at this
        exact can (Decidable.byContradiction fun z => by rw [decide_eq_true z] at this; cases this)
      intro x y hx hy
      by_cases x0 : x = 0
      · subst x0; rw [Nat.zero_xor, Nat.xor_self, Nat.zero_xor]
      by_cases y0 : y = 0
      · subst y0; rw [Nat.xor_zero, Nat.xor_comm (f 0), Nat.xor_assoc, Nat.xor_self, Nat.xor_zero]
      rcases Nat.lt_trichotomy x y with c | c | c
      · exact key x y (by omega) c hy
      · subst c; rw [Nat.xor_self, Nat.xor_assoc, Nat.xor_self, Nat.xor_zero]
      · rw [Nat.xor_comm x y, key y x (by omega) c hx, Nat.xor_assoc, Nat.xor_assoc, Nat.xor_comm (f y)]
    · intro h
      refine sp rfl (fun _ _ => rfl) fun x y hxy hy => ?_
      show (decide (0 < x) && decide (f 0 ^^^ f x ^^^ f y ^^^ f (x ^^^ y) ≠ 0)) = false
      rw [decide_eq_false (not_not_intro (by rw [h x y (by omega) hy, Nat.xor_self])), Bool.and_false]
  · constructor
    · intro h x hx hw
      have := h [x] (r1 hx)
      rw [show hl 8 [x] f = (decide (wt x = 1) && decide (wt (f x) ≠ 1)) from rfl, decide_eq_true hw, Bool.true_and] at this
      exact Decidable.byContradiction fun z => by rw [decide_eq_true z] at this; cases this
    · intro h
      refine sp rfl (fun x hx => ?_) (fun _ _ _ _ => rfl)
      show (decide (wt x = 1) && decide (wt (f x) ≠ 1)) = false
      by_cases c : wt x = 1
      · rw [decide_eq_false (not_not_intro (h x hx c)), Bool.and_false]
      · rw [decide_eq_false c, Bool.false_and]
end BM
set_option Elab.async false
set_option linter.all false
set_option maxRecDepth 100000
set_option maxHeartbeats 1000000
namespace BL
open PySem BG L2
local macro_rules | `(tactic| infer_instance) => `(tactic| first | (with_reducible first | refine w_seq ?_ | refine w_asg ?_ | refine w_asgP ?_ | refine pr_i ?_ | refine w_eqI ?_ | refine w_neI ?_ | refine w_own ?_ | refine w_par ?_ | refine w_parO ?_ | refine w_expr ?_ | refine w_if ?_ | refine w_sret ?_ | refine w_nil ?_ | refine w_for ?_ | refine w_bin ?_ | refine w_un ?_ | refine w_tup ?_ | refine w_lst ?_ | refine w_call ?_ | refine w_and ?_ | refine w_or ?_ | refine w_ife ?_ | refine w_chain ?_ | refine w_slice ?_ | refine w_oN ?_ | refine w_oS ?_ | refine w_comp ?_ | refine w_itSeq ?_ | refine w_itR ?_ | refine w_evnil ?_ | refine w_evcons ?_ | refine w_evc1 ?_ | refine w_evc0 ?_ | refine w_c ?_ | refine nx_nx ?_ | refine nx_ret ?_ | refine bl_i ?_ | refine in_i ?_ | refine sq_t ?_ | refine sq_l ?_ | refine ls_l ?_ | refine tp_t ?_ | refine w_not ?_ | refine w_addI ?_ | refine w_sub ?_ | refine w_xor ?_ | refine w_ltI ?_ | refine w_leI ?_ | refine w_gtI ?_ | refine w_geI ?_ | refine w_slT ?_ | refine w_slL ?_ | refine w_lenT ?_ | refine w_lenL ?_ | refine w_lenS ?_ | refine w_tupL ?_ | refine w_tupT ?_ | refine w_lstL ?_ | refine w_lstT ?_ | refine w_neg ?_ | refine w_isn ?_ | refine w_isnn ?_ | refine w_begun ?_ | refine w_ret ?_ | refine w_resE ?_) | (with_reducible refine w_var (by with_unfolding_all rfl) ?_) | (with_reducible refine w_peekV (by with_unfolding_all rfl) ?_) | (with_reducible refine w_peekO (by with_unfolding_all rfl) ?_) | (with_reducible refine w_app (by with_unfolding_all rfl) ?_) | (with_reducible refine w_frz (by with_unfolding_all rfl) ?_) | (with_reducible refine w_scr (by with_unfolding_all rfl) ?_) | (with_reducible refine w_tc (by with_unfolding_all rfl) ?_) | (with_reducible refine w_stc (by with_unfolding_all rfl) ?_) | (with_reducible refine w_tr (by with_unfolding_all rfl) ?_) | (with_reducible refine w_str (by with_unfolding_all rfl) ?_) | (with_reducible refine w_idxT (by with_unfolding_all rfl) ?_) | (with_reducible refine w_idxL (by with_unfolding_all rfl) ?_) | (with_reducible refine w_isi (by with_unfolding_all rfl) ?_) | ((with_reducible first | refine w_addT ?_ ?_ | refine w_addL ?_ ?_ | refine w_mulI ?_ ?_ | refine w_mulT ?_ ?_ | refine w_mulL ?_ ?_ | refine w_mod ?_ ?_ | refine w_div ?_ ?_ | refine w_pow ?_ ?_ | refine w_rng ?_ ?_); (first | decide | omega | (refine ⟨?_, ?_⟩ <;> omega) | (refine ⟨?_, ?_, ?_⟩ <;> omega) | (simp only [List.length_cons, List.length_nil, List.length_append, List.length_reverse, BL.cD_len, BL.iD_len, BL.mkx_len, BL.sizeL]; omega) | (refine ⟨List.cons_ne_nil _ _, ?_⟩; simp only [List.length_cons, List.length_nil]; omega))) | ((with_reducible first | refine w_eqD ?_ ?_ ?_ | refine w_neD ?_ ?_ ?_ | refine w_inT ?_ ?_ ?_ | refine w_inL ?_ ?_ ?_); (first | rfl | with_unfolding_all rfl); (first | rfl | with_unfolding_all rfl)) | ((with_reducible refine ift_of ?_ ?_); (with_unfolding_all rfl)) | ((with_reducible refine iff_of ?_ ?_); (with_unfolding_all rfl)) | ((with_reducible refine ift2_of ?_ ?_); (with_unfolding_all rfl)) | ((with_reducible refine iff2_of ?_ ?_); (with_unfolding_all rfl)) | ((with_reducible refine ift_of ?_ ?_); exact decide_eq_true (by omega)) | ((with_reducible refine iff_of ?_ ?_); exact decide_eq_false (by omega)) | ((with_reducible refine ift2_of ?_ ?_); exact decide_eq_true (by omega)) | ((with_reducible refine iff2_of ?_ ?_); exact decide_eq_false (by omega)))
def kn (i : Nat) : Str := (["both", "if", "not", "pick", "swap"] : List Str).getD i ""
def ks (m : Nat) : List Str := ((List.range 5).filter fun i => Nat.testBit m i).map kn
def kd (m : Nat) : List D := (ks m).map D.str
abbrev Kd (m : Nat) : Prop := 1 ≤ m ∧ m < 32
theorem kd_tab {α : Type} {f g : Nat → α} (h : (List.range 31).map (fun i => f (i + 1)) = (List.range 31).map fun i => g (i + 1)) {m : Nat} (hm : Kd m) : f m = g m := by
  have := map_eq_all h (m - 1) (List.mem_range.mpr (by omega))
  rw [show m - 1 + 1 = m by omega] at this
  exact this
theorem check_kinds_tab : (List.range 31).map (fun i => f_check_kinds [.tup (kd (i + 1))]) = (List.range 31).map (fun i => ret .non) := by with_unfolding_all rfl
theorem check_kinds_eq {m : Nat} (hm : Kd m) : f_check_kinds [.tup (kd m)] = ret .non := kd_tab (f := fun m => f_check_kinds [.tup (kd m)]) (g := fun _ => ret .non) check_kinds_tab hm
def barN (i : Nat) : List Nat := [[2], [2, 1, 4], [2, 1, 0], [2, 1, 0], [1, 0], [1, 0, 3], [1, 0, 4, 3], [0, 3], [2, 1]].getD i []
/-- a name is allowed for kinds -/
def al (m i : Nat) : Bool := !(barN i).any fun k => Nat.testBit m k
def cnt (m : Nat) : Nat := [0, 24, 168, 5040, 8, 40320, 1344, 40320, 6, 24, 5040, 5040, 1152, 40320, 40320, 40320, 6, 144, 168, 5040, 48, 40320, 1344, 40320, 36, 144, 5040, 5040, 1152, 40320, 40320, 40320].getD m 0
theorem counted_tab : (List.range 31).map (fun i => f_counted [.tup (kd (i + 1))]) = (List.range 31).map (fun i => ret (.int (cnt (i + 1) : Nat))) := by with_unfolding_all rfl
theorem counted_eq {m : Nat} (hm : Kd m) : f_counted [.tup (kd m)] = ret (.int (cnt m : Nat)) := kd_tab (f := fun m => f_counted [.tup (kd m)]) (g := fun m => ret (.int (cnt m : Nat))) counted_tab hm
theorem x_at {xs : List Nat} (hx : IsX xs) {w : Nat} (hw : w < 8) : atI (iD xs) (w : Int) = some (.int (BM.fn xs w : Nat)) := atI_iD (fx_get hx.len hw)
end BL
set_option Elab.async false
set_option linter.all false
set_option maxRecDepth 100000
set_option maxHeartbeats 1000000
namespace BL
open PySem BG L2
local macro_rules | `(tactic| infer_instance) => `(tactic| first | (with_reducible first | refine w_seq ?_ | refine w_asg ?_ | refine w_asgP ?_ | refine pr_i ?_ | refine w_eqI ?_ | refine w_neI ?_ | refine w_own ?_ | refine w_par ?_ | refine w_parO ?_ | refine w_expr ?_ | refine w_if ?_ | refine w_sret ?_ | refine w_nil ?_ | refine w_for ?_ | refine w_bin ?_ | refine w_un ?_ | refine w_tup ?_ | refine w_lst ?_ | refine w_call ?_ | refine w_and ?_ | refine w_or ?_ | refine w_ife ?_ | refine w_chain ?_ | refine w_slice ?_ | refine w_oN ?_ | refine w_oS ?_ | refine w_comp ?_ | refine w_itSeq ?_ | refine w_itR ?_ | refine w_evnil ?_ | refine w_evcons ?_ | refine w_evc1 ?_ | refine w_evc0 ?_ | refine w_c ?_ | refine nx_nx ?_ | refine nx_ret ?_ | refine bl_i ?_ | refine in_i ?_ | refine sq_t ?_ | refine sq_l ?_ | refine ls_l ?_ | refine tp_t ?_ | refine w_not ?_ | refine w_addI ?_ | refine w_sub ?_ | refine w_xor ?_ | refine w_ltI ?_ | refine w_leI ?_ | refine w_gtI ?_ | refine w_geI ?_ | refine w_slT ?_ | refine w_slL ?_ | refine w_lenT ?_ | refine w_lenL ?_ | refine w_lenS ?_ | refine w_tupL ?_ | refine w_tupT ?_ | refine w_lstL ?_ | refine w_lstT ?_ | refine w_neg ?_ | refine w_isn ?_ | refine w_isnn ?_ | refine w_begun ?_ | refine w_ret ?_ | refine w_resE ?_) | (with_reducible refine w_var (by with_unfolding_all rfl) ?_) | (with_reducible refine w_peekV (by with_unfolding_all rfl) ?_) | (with_reducible refine w_peekO (by with_unfolding_all rfl) ?_) | (with_reducible refine w_app (by with_unfolding_all rfl) ?_) | (with_reducible refine w_frz (by with_unfolding_all rfl) ?_) | (with_reducible refine w_scr (by with_unfolding_all rfl) ?_) | (with_reducible refine w_tc (by with_unfolding_all rfl) ?_) | (with_reducible refine w_stc (by with_unfolding_all rfl) ?_) | (with_reducible refine w_tr (by with_unfolding_all rfl) ?_) | (with_reducible refine w_str (by with_unfolding_all rfl) ?_) | (with_reducible refine w_idxT (by with_unfolding_all rfl) ?_) | (with_reducible refine w_idxL (by with_unfolding_all rfl) ?_) | (with_reducible refine w_isi (by with_unfolding_all rfl) ?_) | ((with_reducible first | refine w_addT ?_ ?_ | refine w_addL ?_ ?_ | refine w_mulI ?_ ?_ | refine w_mulT ?_ ?_ | refine w_mulL ?_ ?_ | refine w_mod ?_ ?_ | refine w_div ?_ ?_ | refine w_pow ?_ ?_ | refine w_rng ?_ ?_); (first | decide | omega | (refine ⟨?_, ?_⟩ <;> omega) | (refine ⟨?_, ?_, ?_⟩ <;> omega) | (simp only [List.length_cons, List.length_nil, List.length_append, List.length_reverse, BL.cD_len, BL.iD_len, BL.mkx_len, BL.sizeL]; omega) | (refine ⟨List.cons_ne_nil _ _, ?_⟩; simp only [List.length_cons, List.length_nil]; omega))) | ((with_reducible first | refine w_eqD ?_ ?_ ?_ | refine w_neD ?_ ?_ ?_ | refine w_inT ?_ ?_ ?_ | refine w_inL ?_ ?_ ?_); (first | rfl | with_unfolding_all rfl); (first | rfl | with_unfolding_all rfl)) | ((with_reducible refine ift_of ?_ ?_); (with_unfolding_all rfl)) | ((with_reducible refine iff_of ?_ ?_); (with_unfolding_all rfl)) | ((with_reducible refine ift2_of ?_ ?_); (with_unfolding_all rfl)) | ((with_reducible refine iff2_of ?_ ?_); (with_unfolding_all rfl)) | ((with_reducible refine ift_of ?_ ?_); exact decide_eq_true (by omega)) | ((with_reducible refine iff_of ?_ ?_); exact decide_eq_false (by omega)) | ((with_reducible refine ift2_of ?_ ?_); exact decide_eq_true (by omega)) | ((with_reducible refine iff2_of ?_ ?_); exact decide_eq_false (by omega)))
end BL
set_option Elab.async false
set_option linter.all false
set_option maxRecDepth 100000
set_option maxHeartbeats 1000000
namespace BL
open PySem BG L2
local macro_rules | `(tactic| infer_instance) => `(tactic| first | (with_reducible first | refine w_seq ?_ | refine w_asg ?_ | refine w_asgP ?_ | refine pr_i ?_ | refine w_eqI ?_ | refine w_neI ?_ | refine w_own ?_ | refine w_par ?_ | refine w_parO ?_ | refine w_expr ?_ | refine w_if ?_ | refine w_sret ?_ | refine w_nil ?_ | refine w_for ?_ | refine w_bin ?_ | refine w_un ?_ | refine w_tup ?_ | refine w_lst ?_ | refine w_call ?_ | refine w_and ?_ | refine w_or ?_ | refine w_ife ?_ | refine w_chain ?_ | refine w_slice ?_ | refine w_oN ?_ | refine w_oS ?_ | refine w_comp ?_ | refine w_itSeq ?_ | refine w_itR ?_ | refine w_evnil ?_ | refine w_evcons ?_ | refine w_evc1 ?_ | refine w_evc0 ?_ | refine w_c ?_ | refine nx_nx ?_ | refine nx_ret ?_ | refine bl_i ?_ | refine in_i ?_ | refine sq_t ?_ | refine sq_l ?_ | refine ls_l ?_ | refine tp_t ?_ | refine w_not ?_ | refine w_addI ?_ | refine w_sub ?_ | refine w_xor ?_ | refine w_ltI ?_ | refine w_leI ?_ | refine w_gtI ?_ | refine w_geI ?_ | refine w_slT ?_ | refine w_slL ?_ | refine w_lenT ?_ | refine w_lenL ?_ | refine w_lenS ?_ | refine w_tupL ?_ | refine w_tupT ?_ | refine w_lstL ?_ | refine w_lstT ?_ | refine w_neg ?_ | refine w_isn ?_ | refine w_isnn ?_ | refine w_begun ?_ | refine w_ret ?_ | refine w_resE ?_) | (with_reducible refine w_var (by with_unfolding_all rfl) ?_) | (with_reducible refine w_peekV (by with_unfolding_all rfl) ?_) | (with_reducible refine w_peekO (by with_unfolding_all rfl) ?_) | (with_reducible refine w_app (by with_unfolding_all rfl) ?_) | (with_reducible refine w_frz (by with_unfolding_all rfl) ?_) | (with_reducible refine w_scr (by with_unfolding_all rfl) ?_) | (with_reducible refine w_tc (by with_unfolding_all rfl) ?_) | (with_reducible refine w_stc (by with_unfolding_all rfl) ?_) | (with_reducible refine w_tr (by with_unfolding_all rfl) ?_) | (with_reducible refine w_str (by with_unfolding_all rfl) ?_) | (with_reducible refine w_idxT (by with_unfolding_all rfl) ?_) | (with_reducible refine w_idxL (by with_unfolding_all rfl) ?_) | (with_reducible refine w_isi (by with_unfolding_all rfl) ?_) | ((with_reducible first | refine w_addT ?_ ?_ | refine w_addL ?_ ?_ | refine w_mulI ?_ ?_ | refine w_mulT ?_ ?_ | refine w_mulL ?_ ?_ | refine w_mod ?_ ?_ | refine w_div ?_ ?_ | refine w_pow ?_ ?_ | refine w_rng ?_ ?_); (first | decide | omega | (refine ⟨?_, ?_⟩ <;> omega) | (refine ⟨?_, ?_, ?_⟩ <;> omega) | (simp only [List.length_cons, List.length_nil, List.length_append, List.length_reverse, BL.cD_len, BL.iD_len, BL.mkx_len, BL.sizeL]; omega) | (refine ⟨List.cons_ne_nil _ _, ?_⟩; simp only [List.length_cons, List.length_nil]; omega))) | ((with_reducible first | refine w_eqD ?_ ?_ ?_ | refine w_neD ?_ ?_ ?_ | refine w_inT ?_ ?_ ?_ | refine w_inL ?_ ?_ ?_); (first | rfl | with_unfolding_all rfl); (first | rfl | with_unfolding_all rfl)) | ((with_reducible refine ift_of ?_ ?_); (with_unfolding_all rfl)) | ((with_reducible refine iff_of ?_ ?_); (with_unfolding_all rfl)) | ((with_reducible refine ift2_of ?_ ?_); (with_unfolding_all rfl)) | ((with_reducible refine iff2_of ?_ ?_); (with_unfolding_all rfl)) | ((with_reducible refine ift_of ?_ ?_); exact decide_eq_true (by omega)) | ((with_reducible refine iff_of ?_ ?_); exact decide_eq_false (by omega)) | ((with_reducible refine ift2_of ?_ ?_); exact decide_eq_true (by omega)) | ((with_reducible refine iff2_of ?_ ?_); exact decide_eq_false (by omega)))
def good (m : Nat) (f : Nat → Nat) : Bool := (List.range 9).all fun i => !al m i || BM.nmB i f
theorem good_iff {m : Nat} {f : Nat → Nat} : good m f = true ↔ ∀ i, i < 9 → al m i = true → BM.nmB i f = true := by
  unfold good
  rw [List.all_eq_true]
  constructor
  · intro h i hi ha
    have := h i (List.mem_range.mpr hi)
    rw [ha] at this
    exact this
  · intro h i hi
    cases ha : al m i with
    | false => rfl
    | true => rw [h i (List.mem_range.mp hi) ha]; rfl
end BL
set_option Elab.async false
set_option linter.all false
set_option maxRecDepth 100000
set_option maxHeartbeats 1000000
namespace BL
open PySem BG L2
local macro_rules | `(tactic| infer_instance) => `(tactic| first | (with_reducible first | refine w_seq ?_ | refine w_asg ?_ | refine w_asgP ?_ | refine pr_i ?_ | refine w_eqI ?_ | refine w_neI ?_ | refine w_own ?_ | refine w_par ?_ | refine w_parO ?_ | refine w_expr ?_ | refine w_if ?_ | refine w_sret ?_ | refine w_nil ?_ | refine w_for ?_ | refine w_bin ?_ | refine w_un ?_ | refine w_tup ?_ | refine w_lst ?_ | refine w_call ?_ | refine w_and ?_ | refine w_or ?_ | refine w_ife ?_ | refine w_chain ?_ | refine w_slice ?_ | refine w_oN ?_ | refine w_oS ?_ | refine w_comp ?_ | refine w_itSeq ?_ | refine w_itR ?_ | refine w_evnil ?_ | refine w_evcons ?_ | refine w_evc1 ?_ | refine w_evc0 ?_ | refine w_c ?_ | refine nx_nx ?_ | refine nx_ret ?_ | refine bl_i ?_ | refine in_i ?_ | refine sq_t ?_ | refine sq_l ?_ | refine ls_l ?_ | refine tp_t ?_ | refine w_not ?_ | refine w_addI ?_ | refine w_sub ?_ | refine w_xor ?_ | refine w_ltI ?_ | refine w_leI ?_ | refine w_gtI ?_ | refine w_geI ?_ | refine w_slT ?_ | refine w_slL ?_ | refine w_lenT ?_ | refine w_lenL ?_ | refine w_lenS ?_ | refine w_tupL ?_ | refine w_tupT ?_ | refine w_lstL ?_ | refine w_lstT ?_ | refine w_neg ?_ | refine w_isn ?_ | refine w_isnn ?_ | refine w_begun ?_ | refine w_ret ?_ | refine w_resE ?_) | (with_reducible refine w_var (by with_unfolding_all rfl) ?_) | (with_reducible refine w_peekV (by with_unfolding_all rfl) ?_) | (with_reducible refine w_peekO (by with_unfolding_all rfl) ?_) | (with_reducible refine w_app (by with_unfolding_all rfl) ?_) | (with_reducible refine w_frz (by with_unfolding_all rfl) ?_) | (with_reducible refine w_scr (by with_unfolding_all rfl) ?_) | (with_reducible refine w_tc (by with_unfolding_all rfl) ?_) | (with_reducible refine w_stc (by with_unfolding_all rfl) ?_) | (with_reducible refine w_tr (by with_unfolding_all rfl) ?_) | (with_reducible refine w_str (by with_unfolding_all rfl) ?_) | (with_reducible refine w_idxT (by with_unfolding_all rfl) ?_) | (with_reducible refine w_idxL (by with_unfolding_all rfl) ?_) | (with_reducible refine w_isi (by with_unfolding_all rfl) ?_) | ((with_reducible first | refine w_addT ?_ ?_ | refine w_addL ?_ ?_ | refine w_mulI ?_ ?_ | refine w_mulT ?_ ?_ | refine w_mulL ?_ ?_ | refine w_mod ?_ ?_ | refine w_div ?_ ?_ | refine w_pow ?_ ?_ | refine w_rng ?_ ?_); (first | decide | omega | (refine ⟨?_, ?_⟩ <;> omega) | (refine ⟨?_, ?_, ?_⟩ <;> omega) | (simp only [List.length_cons, List.length_nil, List.length_append, List.length_reverse, BL.cD_len, BL.iD_len, BL.mkx_len, BL.sizeL]; omega) | (refine ⟨List.cons_ne_nil _ _, ?_⟩; simp only [List.length_cons, List.length_nil]; omega))) | ((with_reducible first | refine w_eqD ?_ ?_ ?_ | refine w_neD ?_ ?_ ?_ | refine w_inT ?_ ?_ ?_ | refine w_inL ?_ ?_ ?_); (first | rfl | with_unfolding_all rfl); (first | rfl | with_unfolding_all rfl)) | ((with_reducible refine ift_of ?_ ?_); (with_unfolding_all rfl)) | ((with_reducible refine iff_of ?_ ?_); (with_unfolding_all rfl)) | ((with_reducible refine ift2_of ?_ ?_); (with_unfolding_all rfl)) | ((with_reducible refine iff2_of ?_ ?_); (with_unfolding_all rfl)) | ((with_reducible refine ift_of ?_ ?_); exact decide_eq_true (by omega)) | ((with_reducible refine iff_of ?_ ?_); exact decide_eq_false (by omega)) | ((with_reducible refine ift2_of ?_ ?_); exact decide_eq_true (by omega)) | ((with_reducible refine iff2_of ?_ ?_); exact decide_eq_false (by omega)))
variable {st : Sto}
def apL (i : Nat) : List Nat := apT.getD i []
theorem apL_x : ∀ i, i < 18 → IsX (apL i) := fun i hi => by
  have h : ∀ i, i < 18 → (apL i).Nodup ∧ (∀ x ∈ apL i, x < 8) ∧ (apL i).length = 8 := by decide +kernel
  obtain ⟨h1, h2, h3⟩ := h i hi
  exact perm_range h1 h2 h3
theorem fx_mkx {c : List Nat} {w : Nat} (hw : w < 8) : BM.fn (mkx c) w = mkw c w := by
  have h := fx_get (mkx_len c) hw
  rw [mkx_get hw] at h
  exact (Option.some.inj h).symm
theorem good_ok {m : Nat} {xs : List Nat} (hx : IsX xs) : good m (BM.fn xs) = true ↔ ∀ i, i < 9 → al m i = true → BM.nmOk i (BM.fn xs) := by
  rw [good_iff]
  exact forall_congr' fun i => forall_congr' fun hi => forall_congr' fun _ => BM.nmB_iff hi (BM.pm_fn hx)
theorem good_thn {m : Nat} {a b : List Nat} (ha : IsX a) (hb : IsX b) (h1 : good m (BM.fn a) = true) (h2 : good m (BM.fn b) = true) : good m (BM.fn (thn a b)) = true := by
  rw [good_ok ha] at h1
  rw [good_ok hb] at h2
  rw [good_ok (thn_x ha hb)]
  exact fun i hi q => BM.nm_congr (fun w hw => (fx_thn ha hb hw).symm) hi (BM.nm_comp (BM.pm_fn ha) hi (h1 i hi q) (h2 i hi q))
theorem thn_assoc {a b c : List Nat} (ha : IsX a) (hb : IsX b) (hc : IsX c) : thn (thn a b) c = thn a (thn b c) := by
  refine x_ext (thn_x (thn_x ha hb) hc) (thn_x ha (thn_x hb hc)) fun w hw => ?_
  rw [fx_thn (thn_x ha hb) hc hw, fx_thn ha hb hw, fx_thn ha (thn_x hb hc) hw, fx_thn hb hc (fx_lt ha hw)]
theorem thn_id {a : List Nat} (ha : IsX a) : thn a (List.range 8) = a ∧ thn (List.range 8) a = a := by
  refine ⟨x_ext (thn_x ha range_x) ha fun w hw => ?_, x_ext (thn_x range_x ha) ha fun w hw => ?_⟩
  · rw [fx_thn ha range_x hw, fx_range (fx_lt ha hw)]
  · rw [fx_thn range_x ha hw, fx_range hw]
def kg (i : Nat) : Nat := if i < 3 then 0 else if i < 9 then 1 else if i < 12 then 2 else if i < 15 then 3 else 4
theorem kg_tab : ∀ m, m < 32 → ∀ i, i < 18 → inD (kindD (gk i)) (kd m) = Nat.testBit m (kg i) := by decide +kernel
theorem gate_ok : ∀ i, i < 18 → ∀ n, n < 9 → (barN n).all (fun k => k != kg i) = true → BM.nmB n (BM.fn (apL i)) = true := by decide +kernel
theorem al_bar {m n k : Nat} (h : al m n = true) (hk : Nat.testBit m k = true) : (barN n).all (fun q => q != k) = true := by
  rw [List.all_eq_true]
  intro q hq
  rw [bne_iff_ne]
  intro e
  subst e
  unfold al at h
  rw [show (barN n).any (fun k => Nat.testBit m k) = true from List.any_eq_true.mpr ⟨q, hq, hk⟩] at h
  cases h
theorem good_gate {m i : Nat} (hi : i < 18) (hk : Nat.testBit m (kg i) = true) : good m (BM.fn (apL i)) = true := good_iff.mpr fun n hn ha => gate_ok i hi n hn (al_bar ha hk)
theorem good_same (m : Nat) : good m (BM.fn (List.range 8)) = true := by
  rw [good_ok range_x]
  exact fun i hi _ => BM.nm_congr (fun w hw => (fx_range hw).symm) hi (BM.nm_id hi)
theorem ks_ok : ∀ m, m < 32 → okA (kd m) 59 = true ∧ noblA (kd m) = true ∧ (kd m).length ≤ 5 := by decide +kernel
end BL
set_option Elab.async false
set_option linter.all false
set_option maxRecDepth 100000
set_option maxHeartbeats 2000000
namespace BL
open PySem BG L2
local macro_rules | `(tactic| infer_instance) => `(tactic| first | (with_reducible first | refine w_seq ?_ | refine w_asg ?_ | refine w_asgP ?_ | refine pr_i ?_ | refine w_eqI ?_ | refine w_neI ?_ | refine w_own ?_ | refine w_par ?_ | refine w_parO ?_ | refine w_expr ?_ | refine w_if ?_ | refine w_sret ?_ | refine w_nil ?_ | refine w_for ?_ | refine w_bin ?_ | refine w_un ?_ | refine w_tup ?_ | refine w_lst ?_ | refine w_call ?_ | refine w_and ?_ | refine w_or ?_ | refine w_ife ?_ | refine w_chain ?_ | refine w_slice ?_ | refine w_oN ?_ | refine w_oS ?_ | refine w_comp ?_ | refine w_itSeq ?_ | refine w_itR ?_ | refine w_evnil ?_ | refine w_evcons ?_ | refine w_evc1 ?_ | refine w_evc0 ?_ | refine w_c ?_ | refine nx_nx ?_ | refine nx_ret ?_ | refine bl_i ?_ | refine in_i ?_ | refine sq_t ?_ | refine sq_l ?_ | refine ls_l ?_ | refine tp_t ?_ | refine w_not ?_ | refine w_addI ?_ | refine w_sub ?_ | refine w_xor ?_ | refine w_ltI ?_ | refine w_leI ?_ | refine w_gtI ?_ | refine w_geI ?_ | refine w_slT ?_ | refine w_slL ?_ | refine w_lenT ?_ | refine w_lenL ?_ | refine w_lenS ?_ | refine w_tupL ?_ | refine w_tupT ?_ | refine w_lstL ?_ | refine w_lstT ?_ | refine w_neg ?_ | refine w_isn ?_ | refine w_isnn ?_ | refine w_begun ?_ | refine w_ret ?_ | refine w_resE ?_) | (with_reducible refine w_var (by with_unfolding_all rfl) ?_) | (with_reducible refine w_peekV (by with_unfolding_all rfl) ?_) | (with_reducible refine w_peekO (by with_unfolding_all rfl) ?_) | (with_reducible refine w_app (by with_unfolding_all rfl) ?_) | (with_reducible refine w_frz (by with_unfolding_all rfl) ?_) | (with_reducible refine w_scr (by with_unfolding_all rfl) ?_) | (with_reducible refine w_tc (by with_unfolding_all rfl) ?_) | (with_reducible refine w_stc (by with_unfolding_all rfl) ?_) | (with_reducible refine w_tr (by with_unfolding_all rfl) ?_) | (with_reducible refine w_str (by with_unfolding_all rfl) ?_) | (with_reducible refine w_idxT (by with_unfolding_all rfl) ?_) | (with_reducible refine w_idxL (by with_unfolding_all rfl) ?_) | (with_reducible refine w_isi (by with_unfolding_all rfl) ?_) | ((with_reducible first | refine w_addT ?_ ?_ | refine w_addL ?_ ?_ | refine w_mulI ?_ ?_ | refine w_mulT ?_ ?_ | refine w_mulL ?_ ?_ | refine w_mod ?_ ?_ | refine w_div ?_ ?_ | refine w_pow ?_ ?_ | refine w_rng ?_ ?_); (first | decide | omega | (refine ⟨?_, ?_⟩ <;> omega) | (refine ⟨?_, ?_, ?_⟩ <;> omega) | (simp only [List.length_cons, List.length_nil, List.length_append, List.length_reverse, BL.cD_len, BL.iD_len, BL.mkx_len, BL.sizeL]; omega) | (refine ⟨List.cons_ne_nil _ _, ?_⟩; simp only [List.length_cons, List.length_nil]; omega))) | ((with_reducible first | refine w_eqD ?_ ?_ ?_ | refine w_neD ?_ ?_ ?_ | refine w_inT ?_ ?_ ?_ | refine w_inL ?_ ?_ ?_); (first | rfl | with_unfolding_all rfl); (first | rfl | with_unfolding_all rfl)) | ((with_reducible refine ift_of ?_ ?_); (with_unfolding_all rfl)) | ((with_reducible refine iff_of ?_ ?_); (with_unfolding_all rfl)) | ((with_reducible refine ift2_of ?_ ?_); (with_unfolding_all rfl)) | ((with_reducible refine iff2_of ?_ ?_); (with_unfolding_all rfl)) | ((with_reducible refine ift_of ?_ ?_); exact decide_eq_true (by omega)) | ((with_reducible refine iff_of ?_ ?_); exact decide_eq_false (by omega)) | ((with_reducible refine ift2_of ?_ ?_); exact decide_eq_true (by omega)) | ((with_reducible refine iff2_of ?_ ?_); exact decide_eq_false (by omega)))
/-- the greatest word that a condition reads -/
def need : Nat → List Nat → Nat
  | 2, _ => 7
  | _, [x] => x
  | 7, [x, y] => max (max x y) (x ^^^ y)
  | _, [x, y] => max x y
  | _, _ => 0
theorem hl_need (i : Nat) (r : List Nat) {f g : Nat → Nat} (h : ∀ j, j ≤ need i r → f j = g j) : BM.hl i r f = BM.hl i r g := by
  unfold BM.hl
  split
  · rw [h 0 (Nat.zero_le _)]
  · rw [h 7 (Nat.le_refl _)]
  · rename_i x
    rw [h x (Nat.le_refl _)]
  · rename_i x
    rw [h x (Nat.le_refl _)]
  · rename_i x
    rw [h x (Nat.le_refl _), h 0 (Nat.zero_le _)]
  · rename_i x
    rw [h x (Nat.le_refl _)]
  · rename_i x y
    rw [h x (Nat.le_max_left x y), h y (Nat.le_max_right x y)]
  · rename_i x y
    rw [h x (Nat.le_max_left x y), h y (Nat.le_max_right x y)]
  · rename_i x y
    have h1 : x ≤ need 7 [x, y] := Nat.le_trans (Nat.le_max_left x y) (Nat.le_max_left _ _)
    have h2 : y ≤ need 7 [x, y] := Nat.le_trans (Nat.le_max_right x y) (Nat.le_max_left _ _)
    have h3 : x ^^^ y ≤ need 7 [x, y] := Nat.le_max_right _ _
    rw [h x h1, h y h2, h _ h3, h 0 (Nat.zero_le _)]
  · rfl
def rowsAt (m k : Nat) : List (Nat × List Nat) := ((List.range 9).filter fun i => al m i).flatMap fun i => (BM.rows.filter fun r => need i r == k).map fun r => (i, r)
def okAt (T : List (Nat × List Nat)) (p : List Nat) : Bool := T.all fun q => !BM.hl q.1 q.2 (BM.fn p)
def extd (T : List (Nat × List Nat)) (ps : List (List Nat)) : List (List Nat) := ps.flatMap fun p => (List.range 8).filterMap fun v => if p.contains v then none else if okAt T (p ++ [v]) then some (p ++ [v]) else none
def searchT : List (List (Nat × List Nat)) → List (List Nat) → List (List Nat)
  | [], ps => ps
  | T :: Ts, ps => searchT Ts (extd T ps)
def tabs (m : Nat) : List (List (Nat × List Nat)) := (List.range 8).map (rowsAt m)
def allOf (m : Nat) : List (List Nat) := searchT (tabs m) [[]]
theorem extd_mem {T : List (Nat × List Nat)} {ps : List (List Nat)} {p : List Nat} {v : Nat} (hp : p ∈ ps) (hv : v < 8) (hn : v ∉ p) (ok : okAt T (p ++ [v]) = true) : p ++ [v] ∈ extd T ps := by
  refine List.mem_flatMap.mpr ⟨p, hp, List.mem_filterMap.mpr ⟨v, List.mem_range.mpr hv, ?_⟩⟩
  rw [if_neg (by rw [List.contains_iff_mem]; exact hn), if_pos ok]
theorem mem_rowsAt {m k i : Nat} {r : List Nat} (h : (i, r) ∈ rowsAt m k) : i < 9 ∧ al m i = true ∧ r ∈ BM.rows ∧ need i r = k := by
  unfold rowsAt at h
  obtain ⟨j, hj, h⟩ := List.mem_flatMap.mp h
  obtain ⟨q, hq, e⟩ := List.mem_map.mp h
  cases e
  obtain ⟨h1, h2⟩ := List.mem_filter.mp hj
  obtain ⟨h3, h4⟩ := List.mem_filter.mp hq
  exact ⟨List.mem_range.mp h1, h2, h3, beq_iff_eq.mp h4⟩
theorem fn_take {xs : List Nat} {k j : Nat} (hk : k ≤ xs.length) (hj : j < k) : BM.fn (xs.take k) j = BM.fn xs j := by
  unfold BM.fn
  rw [List.getD_eq_getElem?_getD, List.getD_eq_getElem?_getD, List.getElem?_take, if_pos hj]
theorem okAt_take {m : Nat} {xs : List Nat} (hx : IsX xs) (hg : good m (BM.fn xs) = true) {k : Nat} (hk : k < 8) : okAt (rowsAt m k) (xs.take (k + 1)) = true := by
  unfold okAt
  refine List.all_eq_true.mpr fun q hq => ?_
  obtain ⟨h1, h2, h3, h4⟩ := mem_rowsAt (i := q.1) (r := q.2) hq
  have e : BM.hl q.1 q.2 (BM.fn (xs.take (k + 1))) = BM.hl q.1 q.2 (BM.fn xs) := hl_need _ _ fun j hj => fn_take (by rw [hx.len]; omega) (by omega)
  rw [e, BM.nmB_all.mp (good_iff.mp hg q.1 h1 h2) q.2 h3]
  rfl
theorem search_take {m : Nat} {xs : List Nat} (hx : IsX xs) (hg : good m (BM.fn xs) = true) : ∀ (n k : Nat) (ps : List (List Nat)), k + n = 8 → xs.take k ∈ ps → xs ∈ searchT ((List.range' k n).map (rowsAt m)) ps
  | 0, k, ps, h, hp => by
    have e : xs.take k = xs := List.take_of_length_le (by rw [hx.len]; omega)
    rw [e] at hp
    exact hp
  | n + 1, k, ps, h, hp => by
    rw [List.range'_succ, List.map_cons]
    refine search_take hx hg n (k + 1) _ (by omega) ?_
    have hl : k < xs.length := by rw [hx.len]; omega
    have e : xs.take (k + 1) = xs.take k ++ [xs[k]] := by rw [List.take_succ, List.getElem?_eq_getElem hl]; rfl
    have ok := okAt_take hx hg (k := k) (by omega)
    rw [e] at ok ⊢
    refine extd_mem hp (hx.lt (List.getElem_mem hl)) (fun hm => ?_) ok
    obtain ⟨j, hj, ej⟩ := List.mem_iff_getElem.mp hm
    have hj' : j < k := by rw [List.length_take] at hj; omega
    rw [List.getElem_take] at ej
    have := (List.getElem_inj hx.nodup).mp ej
    omega
theorem mem_allOf {m : Nat} {xs : List Nat} (hx : IsX xs) (hg : good m (BM.fn xs) = true) : xs ∈ allOf m := by
  have := search_take hx hg 8 0 [[]] rfl (by simp)
  unfold allOf tabs
  rw [List.range_eq_range']
  exact this
def redT (m : Nat) : List (List (List Nat)) := match m with
  | 1 => [[[], [], [], [], [], [], [], []], [[], [], [], [], [], [], [], []], [[], [], [], [], [], [], [], []], [[], [], [], [], [], [1, 0], [2, 0], [0]], [[], [], [], [], [], [], [], []], [[], [], [], [], [], [], [2, 1], [1]], [[], [], [], [], [], [], [], [2]], [[], [], [], [], [], [], [], []]]
  | 2 => [[[], [], [], [], [], [], [], []], [[], [], [5, 3], [3], [7, 4], [4], [5, 3, 4], [3, 4]], [[], [], [], [5], [8, 6], [7, 8, 6], [6], [5, 6]], [[], [], [], [], [], [], [], []], [[], [], [], [], [], [7], [8], [7, 8]], [[], [], [], [], [], [], [], []], [[], [], [], [], [], [], [], []], [[], [], [], [], [], [], [], []]]
  | 4 => [[[], [9], [10], [9, 10], [11], [9, 11], [10, 11], [9, 10, 11]], [[], [], [], [], [], [], [], []], [[], [], [], [], [], [], [], []], [[], [], [], [], [], [], [], []], [[], [], [], [], [], [], [], []], [[], [], [], [], [], [], [], []], [[], [], [], [], [], [], [], []], [[], [], [], [], [], [], [], []]]
  | 6 => [[[], [9], [10], [3, 9], [11], [4, 9], [6, 10], [3, 4, 9]], [[], [], [5, 3], [3], [7, 4], [4], [5, 3, 4], [3, 4]], [[], [], [], [5], [8, 6], [7, 8, 6], [6], [5, 6]], [[], [], [], [], [], [], [], []], [[], [], [], [], [], [7], [8], [7, 8]], [[], [], [], [], [], [], [], []], [[], [], [], [], [], [], [], []], [[], [], [], [], [], [], [], []]]
  | 8 => [[[], [], [], [], [], [], [], []], [[], [], [], [], [], [], [], []], [[], [], [], [], [], [], [], []], [[], [], [], [], [], [12], [13], []], [[], [], [], [], [], [], [], []], [[], [], [], [], [], [], [14], []], [[], [], [], [], [], [], [], []], [[], [], [], [], [], [], [], []]]
  | 9 => [[[], [], [], [], [], [], [], []], [[], [], [], [], [], [], [], []], [[], [], [], [], [], [], [], []], [[], [], [], [], [], [12], [13], [0]], [[], [], [], [], [], [], [], []], [[], [], [], [], [], [], [14], [1]], [[], [], [], [], [], [], [], [2]], [[], [], [], [], [], [], [], []]]
  | 12 => [[[], [9], [10], [9, 10], [11], [9, 11], [10, 11], [9, 10, 11]], [[], [], [11, 14, 11], [], [10, 13, 10], [], [], [10, 12, 10]], [[], [], [], [], [9, 12, 9], [], [], [9, 13, 9]], [[], [], [], [], [], [12], [13], []], [[], [], [], [], [], [], [], [9, 14, 9]], [[], [], [], [], [], [], [14], []], [[], [], [], [], [], [], [], []], [[], [], [], [], [], [], [], []]]
  | 16 => [[[], [], [], [], [], [], [], []], [[], [], [15], [], [16], [], [], []], [[], [], [], [], [17], [], [], []], [[], [], [], [], [], [], [], []], [[], [], [], [], [], [], [], []], [[], [], [], [], [], [], [], []], [[], [], [], [], [], [], [], []], [[], [], [], [], [], [], [], []]]
  | 17 => [[[], [], [], [], [], [], [], []], [[], [], [15], [], [16], [], [], []], [[], [], [], [], [17], [], [], []], [[], [], [], [], [], [1, 0], [2, 0], [0]], [[], [], [], [], [], [], [], []], [[], [], [], [], [], [], [2, 1], [1]], [[], [], [], [], [], [], [], [2]], [[], [], [], [], [], [], [], []]]
  | 18 => [[[], [], [], [], [], [], [], []], [[], [], [15], [3], [16], [4], [6, 15], [3, 4]], [[], [], [], [5], [17], [7, 17], [6], [5, 6]], [[], [], [], [], [], [], [], []], [[], [], [], [], [], [7], [8], [7, 8]], [[], [], [], [], [], [], [], []], [[], [], [], [], [], [], [], []], [[], [], [], [], [], [], [], []]]
  | 20 => [[[], [9], [10], [9, 10], [11], [9, 11], [10, 11], [9, 10, 11]], [[], [], [15], [], [16], [], [], []], [[], [], [], [], [17], [], [], []], [[], [], [], [], [], [], [], []], [[], [], [], [], [], [], [], []], [[], [], [], [], [], [], [], []], [[], [], [], [], [], [], [], []], [[], [], [], [], [], [], [], []]]
  | 22 => [[[], [9], [10], [3, 9], [11], [4, 9], [6, 10], [3, 4, 9]], [[], [], [15], [3], [16], [4], [6, 15], [3, 4]], [[], [], [], [5], [17], [7, 17], [6], [5, 6]], [[], [], [], [], [], [], [], []], [[], [], [], [], [], [7], [8], [7, 8]], [[], [], [], [], [], [], [], []], [[], [], [], [], [], [], [], []], [[], [], [], [], [], [], [], []]]
  | 24 => [[[], [], [], [], [], [], [], []], [[], [], [15], [], [16], [], [], []], [[], [], [], [], [17], [], [], []], [[], [], [], [], [], [12], [13], []], [[], [], [], [], [], [], [], []], [[], [], [], [], [], [], [14], []], [[], [], [], [], [], [], [], []], [[], [], [], [], [], [], [], []]]
  | 25 => [[[], [], [], [], [], [], [], []], [[], [], [15], [], [16], [], [], []], [[], [], [], [], [17], [], [], []], [[], [], [], [], [], [12], [13], [0]], [[], [], [], [], [], [], [], []], [[], [], [], [], [], [], [14], [1]], [[], [], [], [], [], [], [], [2]], [[], [], [], [], [], [], [], []]]
  | 28 => [[[], [9], [10], [9, 10], [11], [9, 11], [10, 11], [9, 10, 11]], [[], [], [15], [], [16], [], [], [10, 12, 10]], [[], [], [], [], [17], [], [], [9, 13, 9]], [[], [], [], [], [], [12], [13], []], [[], [], [], [], [], [], [], [9, 14, 9]], [[], [], [], [], [], [], [14], []], [[], [], [], [], [], [], [], []], [[], [], [], [], [], [], [], []]]
  | _ => []
def code (f : List Nat) : Nat := f.foldl (fun a w => 8 * a + w) 0
def asc : List Nat → Bool
  | a :: b :: l => a < b && asc (b :: l)
  | _ => true
def red (T : List (List (List Nat))) : List Nat → List Nat → List Nat
  | [], f => f
  | b :: bs, f => red T bs (((T.getD b []).getD (f.getD b 0) []).foldl (fun h i => thn h (apL i)) f)
def few : List Nat := [1, 2, 4, 6, 8, 9, 12, 16, 17, 18, 20, 22, 24, 25, 28]
/-- what is checked by the kernel -/
def EnP (m : Nat) : Prop := (allOf m).length = cnt m ∧ asc ((allOf m).map code) = true ∧ (allOf m).all (fun f => red (redT m) (List.range 8) f == List.range 8) = true
instance (m : Nat) : Decidable (EnP m) := by unfold EnP; infer_instance
end BL
set_option Elab.async false
set_option linter.all false
set_option maxRecDepth 100000
namespace BL
theorem asc_pair : ∀ {l : List Nat}, asc l = true → l.Pairwise (· < ·)
  | [], _ => .nil
  | [a], _ => List.pairwise_singleton ..
  | a :: b :: l, h => by
    unfold asc at h
    rw [Bool.and_eq_true, decide_eq_true_eq] at h
    have ih := asc_pair h.2
    refine List.pairwise_cons.mpr ⟨fun c hc => ?_, ih⟩
    rcases List.mem_cons.mp hc with rfl | hc
    · exact h.1
    · exact Nat.lt_trans h.1 ((List.pairwise_cons.mp ih).1 c hc)
/-- what is told of all -/
def EnQ (m : Nat) : Prop := (allOf m).length = cnt m ∧ ((allOf m).map code).Pairwise (· < ·) ∧ (allOf m).all (fun f => red (redT m) (List.range 8) f == List.range 8) = true
theorem EnP.q {m : Nat} (h : EnP m) : EnQ m := ⟨h.1, asc_pair h.2.1, h.2.2⟩
theorem extd_app (T : List (Nat × List Nat)) (a b : List (List Nat)) : extd T (a ++ b) = extd T a ++ extd T b := List.flatMap_append
theorem search_app : ∀ (Ts : List (List (Nat × List Nat))) (a b : List (List Nat)), searchT Ts (a ++ b) = searchT Ts a ++ searchT Ts b
  | [], _, _ => rfl
  | T :: Ts, a, b => by
    show searchT Ts (extd T (a ++ b)) = searchT Ts (extd T a) ++ searchT Ts (extd T b)
    rw [extd_app, search_app]
theorem search_nil : ∀ (Ts : List (List (Nat × List Nat))), searchT Ts [] = []
  | [] => rfl
  | T :: Ts => search_nil Ts
def part (m v : Nat) : List (List Nat) := searchT ((List.range' 1 7).map (rowsAt m)) [[v]]
def PtP (m n v : Nat) : Prop := (part m v).length = n ∧ asc ((part m v).map code) = true ∧ (part m v).all (fun f => red (redT m) (List.range 8) f == List.range 8 && decide (v * 2097152 ≤ code f) && decide (code f < (v + 1) * 2097152)) = true
instance (m n v : Nat) : Decidable (PtP m n v) := by unfold PtP; infer_instance
theorem search_map : ∀ (Ts : List (List (Nat × List Nat))) (vs : List Nat), searchT Ts (vs.map fun v => [v]) = vs.flatMap fun v => searchT Ts [[v]]
  | Ts, [] => search_nil Ts
  | Ts, v :: vs => by
    rw [List.map_cons, show [v] :: vs.map (fun v => [v]) = [[v]] ++ vs.map (fun v => [v]) from rfl, search_app, search_map Ts vs, List.flatMap_cons]
theorem parts_of {m : Nat} (h : extd (rowsAt m 0) [[]] = (List.range 8).map fun v => [v]) : allOf m = (List.range 8).flatMap (part m) := by
  show searchT ((List.range' 1 7).map (rowsAt m)) (extd (rowsAt m 0) [[]]) = _
  rw [h, search_map]
  rfl
theorem parts_q {m n : Nat} : ∀ {vs : List Nat}, vs.Pairwise (· < ·) → (∀ v ∈ vs, PtP m n v) →
    (vs.flatMap (part m)).length = vs.length * n ∧ ((vs.flatMap (part m)).map code).Pairwise (· < ·) ∧ (vs.flatMap (part m)).all (fun f => red (redT m) (List.range 8) f == List.range 8) = true
  | [], _, _ => ⟨by simp, .nil, rfl⟩
  | v :: vs, hp, h => by
    obtain ⟨i1, i2, i3⟩ := parts_q (List.pairwise_cons.mp hp).2 fun u hu => h u (List.mem_cons_of_mem _ hu)
    obtain ⟨p1, p2, p3⟩ := h v (List.mem_cons_self ..)
    have p4 := List.all_eq_true.mp p3
    rw [List.flatMap_cons]
    refine ⟨by rw [List.length_append, p1, i1, List.length_cons, Nat.succ_mul, Nat.add_comm], ?_, ?_⟩
    · rw [List.map_append]
      refine List.pairwise_append.mpr ⟨asc_pair p2, i2, fun a ha b hb => ?_⟩
      obtain ⟨f, hf, rfl⟩ := List.mem_map.mp ha
      obtain ⟨k, hk, rfl⟩ := List.mem_map.mp hb
      obtain ⟨u, hu, hk⟩ := List.mem_flatMap.mp hk
      have q1 := p4 f hf
      have q2 := List.all_eq_true.mp (h u (List.mem_cons_of_mem _ hu)).2.2 k hk
      simp only [Bool.and_eq_true, decide_eq_true_eq] at q1 q2
      have := (List.pairwise_cons.mp hp).1 u hu
      omega
    · rw [List.all_append, i3, Bool.and_true]
      refine List.all_eq_true.mpr fun f hf => ?_
      have q1 := p4 f hf
      simp only [Bool.and_eq_true] at q1
      exact q1.1.1
theorem enq_of {m n : Nat} (h : extd (rowsAt m 0) [[]] = (List.range 8).map fun v => [v]) (hc : cnt m = 8 * n) (hp : ∀ v ∈ List.range 8, PtP m n v) : EnQ m := by
  obtain ⟨i1, i2, i3⟩ := parts_q (vs := List.range 8) (by decide) hp
  unfold EnQ
  rw [parts_of h]
  exact ⟨by rw [i1, hc]; rfl, i2, i3⟩
theorem eight {P : Nat → Prop} (h0 : P 0) (h1 : P 1) (h2 : P 2) (h3 : P 3) (h4 : P 4) (h5 : P 5) (h6 : P 6) (h7 : P 7) : ∀ v ∈ List.range 8, P v := fun v hv => by
  have hv := List.mem_range.mp hv
  match v, hv with
  | 0, _ => exact h0
  | 1, _ => exact h1
  | 2, _ => exact h2
  | 3, _ => exact h3
  | 4, _ => exact h4
  | 5, _ => exact h5
  | 6, _ => exact h6
  | 7, _ => exact h7
end BL
set_option Elab.async false
set_option linter.all false
set_option maxRecDepth 100000
namespace BL
theorem en_1 : EnP 1 := by decide +kernel
theorem en_2 : EnP 2 := by decide +kernel
theorem en_4 : EnP 4 := by decide +kernel
theorem en_8 : EnP 8 := by decide +kernel
theorem en_16 : EnP 16 := by decide +kernel
theorem en_17 : EnP 17 := by decide +kernel
theorem en_20 : EnP 20 := by decide +kernel
theorem en_24 : EnP 24 := by decide +kernel
end BL
set_option Elab.async false
set_option linter.all false
set_option maxRecDepth 100000
namespace BL
theorem pt_6_0 : PtP 6 168 0 := by decide +kernel
theorem pt_6_1 : PtP 6 168 1 := by decide +kernel
theorem pt_6_2 : PtP 6 168 2 := by decide +kernel
theorem pt_6_3 : PtP 6 168 3 := by decide +kernel
theorem pt_6_4 : PtP 6 168 4 := by decide +kernel
theorem pt_6_5 : PtP 6 168 5 := by decide +kernel
theorem pt_6_6 : PtP 6 168 6 := by decide +kernel
theorem pt_6_7 : PtP 6 168 7 := by decide +kernel
theorem en_6 : EnQ 6 := enq_of (n := 168) (by decide +kernel) (by decide +kernel) (eight pt_6_0 pt_6_1 pt_6_2 pt_6_3 pt_6_4 pt_6_5 pt_6_6 pt_6_7)
end BL
set_option Elab.async false
set_option linter.all false
set_option maxRecDepth 100000
namespace BL
theorem pt_12_0 : PtP 12 144 0 := by decide +kernel
theorem pt_12_1 : PtP 12 144 1 := by decide +kernel
theorem pt_12_2 : PtP 12 144 2 := by decide +kernel
theorem pt_12_3 : PtP 12 144 3 := by decide +kernel
theorem pt_12_4 : PtP 12 144 4 := by decide +kernel
theorem pt_12_5 : PtP 12 144 5 := by decide +kernel
theorem pt_12_6 : PtP 12 144 6 := by decide +kernel
theorem pt_12_7 : PtP 12 144 7 := by decide +kernel
theorem en_12 : EnQ 12 := enq_of (n := 144) (by decide +kernel) (by decide +kernel) (eight pt_12_0 pt_12_1 pt_12_2 pt_12_3 pt_12_4 pt_12_5 pt_12_6 pt_12_7)
end BL
set_option Elab.async false
set_option linter.all false
set_option maxRecDepth 100000
set_option maxHeartbeats 2000000
namespace BL
open PySem BG L2
/-- reached by gates of the kinds m -/
inductive Rch (m : Nat) : List Nat → Prop
  | same : Rch m (List.range 8)
  | step {f : List Nat} {i : Nat} : Rch m f → i < 18 → Nat.testBit m (kg i) = true → Rch m (thn f (apL i))
theorem same_x : IsX (List.range 8) := List.Perm.refl _
theorem Rch.x {m : Nat} {f : List Nat} (h : Rch m f) : IsX f := by
  induction h with
  | same => exact same_x
  | step _ hi _ ih => exact thn_x ih (apL_x _ hi)
theorem Rch.good {m : Nat} {f : List Nat} (h : Rch m f) : good m (BM.fn f) = true := by
  induction h with
  | same => exact good_same m
  | step h hi hk ih => exact good_thn h.x (apL_x _ hi) ih (good_gate hi hk)
theorem ap_twice : ∀ i, i < 18 → thn (apL i) (apL i) = List.range 8 := by decide +kernel
theorem thn_twice {f : List Nat} (hf : IsX f) {i : Nat} (hi : i < 18) : thn (thn f (apL i)) (apL i) = f := by
  rw [thn_assoc hf (apL_x i hi) (apL_x i hi), ap_twice i hi, (thn_id hf).1]
theorem Rch.back {m : Nat} {f : List Nat} (hf : IsX f) {i : Nat} (hi : i < 18) (hk : Nat.testBit m (kg i) = true) (h : Rch m (thn f (apL i))) : Rch m f := by
  have := Rch.step h hi hk
  rw [thn_twice hf hi] at this
  exact this
theorem Rch.word {m : Nat} : ∀ {w : List Nat} {f : List Nat}, IsX f → (∀ i ∈ w, i < 18 ∧ Nat.testBit m (kg i) = true) → Rch m (w.foldl (fun h i => thn h (apL i)) f) → Rch m f
  | [], f, _, _, h => h
  | i :: w, f, hf, hw, h => by
    obtain ⟨h1, h2⟩ := hw i (List.mem_cons_self ..)
    exact Rch.back hf h1 h2 (Rch.word (thn_x hf (apL_x i h1)) (fun j hj => hw j (List.mem_cons_of_mem _ hj)) h)
theorem word_x {w : List Nat} : ∀ {f : List Nat}, IsX f → (∀ i ∈ w, i < 18) → IsX (w.foldl (fun h i => thn h (apL i)) f) := by
  induction w with
  | nil => exact fun h _ => h
  | cons i w ih => exact fun hf hw => ih (thn_x hf (apL_x i (hw i (List.mem_cons_self ..)))) fun j hj => hw j (List.mem_cons_of_mem _ hj)
def wOk (m : Nat) (T : List (List (List Nat))) : Bool := T.all fun r => r.all fun w => w.all fun i => decide (i < 18) && Nat.testBit m (kg i)
theorem wOk_at {m : Nat} {T : List (List (List Nat))} (h : wOk m T = true) (b v : Nat) : ∀ i ∈ (T.getD b []).getD v [], i < 18 ∧ Nat.testBit m (kg i) = true := fun i hi => by
  rw [List.getD_eq_getElem?_getD, List.getD_eq_getElem?_getD] at hi
  cases e : T[b]? with
  | none => rw [e] at hi; simp at hi
  | some r =>
    rw [e] at hi
    have hi : i ∈ (r[v]?).getD [] := hi
    cases e2 : r[v]? with
    | none => rw [e2] at hi; cases hi
    | some w =>
      rw [e2] at hi
      have hi : i ∈ w := hi
      have := List.all_eq_true.mp (List.all_eq_true.mp (List.all_eq_true.mp h r (List.mem_of_getElem? e)) w (List.mem_of_getElem? e2)) i hi
      rw [Bool.and_eq_true, decide_eq_true_eq] at this
      exact this
theorem red_rch {m : Nat} {T : List (List (List Nat))} (h : wOk m T = true) : ∀ {bs f : List Nat}, IsX f → Rch m (red T bs f) → Rch m f
  | [], f, _, r => r
  | b :: bs, f, hf, r => by
    have hw := wOk_at h b (f.getD b 0)
    exact Rch.word hf hw (red_rch h (word_x hf fun i hi => (hw i hi).1) r)
theorem asc_nodup {l : List (List Nat)} (h : (l.map code).Pairwise (· < ·)) : l.Nodup := by
  have := List.pairwise_map.mp h
  exact this.imp (S := fun a b => a ≠ b) fun {a b} (h : code a < code b) (e : a = b) => by rw [e] at h; exact Nat.lt_irrefl _ h
theorem ndl_le {α : Type} [DecidableEq α] : ∀ {a b : List α}, a.Nodup → (∀ x ∈ a, x ∈ b) → a.length ≤ b.length
  | [], b, _, _ => Nat.zero_le _
  | x :: a, b, nd, h => by
    obtain ⟨h1, h2⟩ := List.nodup_cons.mp nd
    have hx := h x (List.mem_cons_self ..)
    have := ndl_le (b := b.erase x) h2 fun y hy => (List.mem_erase_of_ne (show y ≠ x from fun z => h1 (by rw [← z]; exact hy))).mpr (h y (List.mem_cons_of_mem _ hy))
    rw [List.length_erase_of_mem hx] at this
    have : 0 < b.length := List.length_pos_of_mem hx
    rw [List.length_cons]; omega
/-- the kinds that stand for the others with the same exchanges -/
def bs (m : Nat) : Nat := if m = 22 then 6 else if m = 18 then 2 else if m = 9 then 1 else if m = 25 then 17 else if m = 28 then 12 else m
theorem en_all : ∀ m ∈ few, EnQ (bs m) := by
  intro m hm
  unfold few at hm
  simp only [List.mem_cons, List.not_mem_nil, or_false] at hm
  rcases hm with rfl | rfl | rfl | rfl | rfl | rfl | rfl | rfl | rfl | rfl | rfl | rfl | rfl | rfl | rfl
  · exact en_1.q
  · exact en_2.q
  · exact en_4.q
  · exact en_6
  · exact en_8.q
  · exact en_1.q
  · exact en_12
  · exact en_16.q
  · exact en_17.q
  · exact en_2.q
  · exact en_20.q
  · exact en_6
  · exact en_24.q
  · exact en_17.q
  · exact en_12
theorem bs_tab : ∀ m ∈ few, (List.range 9).map (al (bs m)) = (List.range 9).map (al m) ∧ cnt (bs m) = cnt m ∧ wOk m (redT (bs m)) = true := by decide +kernel
theorem good_bs {m : Nat} (hm : m ∈ few) (f : Nat → Nat) : good (bs m) f = good m f := by
  have e : ∀ i ∈ List.range 9, al (bs m) i = al m i := List.map_inj_left.mp (bs_tab m hm).1
  unfold good
  rw [Bool.eq_iff_iff, List.all_eq_true, List.all_eq_true]
  exact ⟨fun h i hi => by rw [← e i hi]; exact h i hi, fun h i hi => by rw [e i hi]; exact h i hi⟩
/-- a list without doubles of what is reached is not longer than cnt m -/
theorem rch_len {m : Nat} (hm : m ∈ few) {L : List (List Nat)} (nd : L.Nodup) (h : ∀ f ∈ L, Rch m f) : L.length ≤ cnt m := by
  have e := (en_all m hm).1
  rw [(bs_tab m hm).2.1] at e
  rw [← e]
  exact ndl_le nd fun f hf => mem_allOf (h f hf).x (by rw [good_bs hm]; exact (h f hf).good)
def Pfx (k : Nat) (p : List Nat) : Prop := p.Nodup ∧ (∀ x ∈ p, x < 8) ∧ p.length = k
theorem extd_inv {T : List (Nat × List Nat)} {ps : List (List Nat)} {k : Nat} (h : ∀ p ∈ ps, Pfx k p) : ∀ p ∈ extd T ps, Pfx (k + 1) p := fun q hq => by
  obtain ⟨p, hp, h1⟩ := List.mem_flatMap.mp hq
  obtain ⟨v, hv, h2⟩ := List.mem_filterMap.mp h1
  obtain ⟨n, l, z⟩ := h p hp
  by_cases c : p.contains v = true
  · rw [if_pos c] at h2; cases h2
  · rw [if_neg c] at h2
    split at h2
    · cases h2
      refine ⟨?_, fun x hx => ?_, by rw [List.length_append, z]; rfl⟩
      · refine List.nodup_append.mpr ⟨n, by simp, fun x hx y hy => ?_⟩
        rw [List.mem_singleton] at hy
        subst hy
        exact fun e => c (List.contains_iff_mem.mpr (e ▸ hx))
      · rcases List.mem_append.mp hx with hx | hx
        · exact l x hx
        · rw [List.mem_singleton] at hx
          rw [hx]; exact List.mem_range.mp hv
    · cases h2
theorem search_inv : ∀ {Ts : List (List (Nat × List Nat))} {ps : List (List Nat)} {k : Nat}, (∀ p ∈ ps, Pfx k p) → ∀ p ∈ searchT Ts ps, Pfx (k + Ts.length) p
  | [], ps, k, h => h
  | T :: Ts, ps, k, h => fun p hp => by
    have := search_inv (Ts := Ts) (extd_inv (T := T) h) p hp
    rw [List.length_cons]
    rw [show k + (Ts.length + 1) = k + 1 + Ts.length by omega]
    exact this
theorem pfx_x {p : List Nat} (h : Pfx 8 p) : IsX p := by
  obtain ⟨n, l, z⟩ := h
  refine (List.perm_ext_iff_of_nodup n List.nodup_range).mpr fun x => ⟨fun hx => List.mem_range.mpr (l x hx), fun hx => ?_⟩
  by_cases c : x ∈ p
  · exact c
  · have := ndl_le (a := x :: p) (b := List.range 8) (List.nodup_cons.mpr ⟨c, n⟩) fun y hy => by
      rcases List.mem_cons.mp hy with rfl | hy
      · exact hx
      · exact List.mem_range.mpr (l y hy)
    rw [List.length_cons, z, List.length_range] at this
    omega
theorem allOf_x {m : Nat} {f : List Nat} (h : f ∈ allOf m) : IsX f := by
  refine pfx_x ?_
  have := search_inv (Ts := tabs m) (ps := [[]]) (k := 0) (fun p hp => by rw [List.mem_singleton] at hp; subst hp; exact ⟨List.nodup_nil, ⟨fun _ z => (List.not_mem_nil z).elim, rfl⟩⟩) f h
  have e : (tabs m).length = 8 := by unfold tabs; rw [List.length_map, List.length_range]
  rw [e] at this
  exact this
/-- all that is reached, once each: cnt m of them -/
theorem rch_cnt {m : Nat} (hm : m ∈ few) {L : List (List Nat)} (nd : L.Nodup) (h : ∀ f, f ∈ L ↔ Rch m f) : L.length = cnt m := by
  refine Nat.le_antisymm (rch_len hm nd fun f hf => (h f).mp hf) ?_
  have e := (en_all m hm).1
  rw [(bs_tab m hm).2.1] at e
  rw [← e]
  refine ndl_le (asc_nodup (en_all m hm).2.1) fun f hf => (h f).mpr ?_
  have e := beq_iff_eq.mp (List.all_eq_true.mp (en_all m hm).2.2 f hf)
  exact red_rch (bs_tab m hm).2.2 (allOf_x hf) (by rw [e]; exact .same)
end BL
set_option Elab.async false
set_option linter.all false
set_option maxRecDepth 100000
set_option maxHeartbeats 2000000
namespace BL
open PySem BG L2
local macro_rules | `(tactic| infer_instance) => `(tactic| first | (with_reducible first | refine w_seq ?_ | refine w_asg ?_ | refine w_asgP ?_ | refine pr_i ?_ | refine w_eqI ?_ | refine w_neI ?_ | refine w_own ?_ | refine w_par ?_ | refine w_parO ?_ | refine w_expr ?_ | refine w_if ?_ | refine w_sret ?_ | refine w_nil ?_ | refine w_for ?_ | refine w_bin ?_ | refine w_un ?_ | refine w_tup ?_ | refine w_lst ?_ | refine w_call ?_ | refine w_and ?_ | refine w_or ?_ | refine w_ife ?_ | refine w_chain ?_ | refine w_slice ?_ | refine w_oN ?_ | refine w_oS ?_ | refine w_comp ?_ | refine w_itSeq ?_ | refine w_itR ?_ | refine w_evnil ?_ | refine w_evcons ?_ | refine w_evc1 ?_ | refine w_evc0 ?_ | refine w_c ?_ | refine nx_nx ?_ | refine nx_ret ?_ | refine bl_i ?_ | refine in_i ?_ | refine sq_t ?_ | refine sq_l ?_ | refine ls_l ?_ | refine tp_t ?_ | refine w_not ?_ | refine w_addI ?_ | refine w_sub ?_ | refine w_xor ?_ | refine w_ltI ?_ | refine w_leI ?_ | refine w_gtI ?_ | refine w_geI ?_ | refine w_slT ?_ | refine w_slL ?_ | refine w_lenT ?_ | refine w_lenL ?_ | refine w_lenS ?_ | refine w_tupL ?_ | refine w_tupT ?_ | refine w_lstL ?_ | refine w_lstT ?_ | refine w_neg ?_ | refine w_isn ?_ | refine w_isnn ?_ | refine w_begun ?_ | refine w_ret ?_ | refine w_resE ?_) | (with_reducible refine w_var (by with_unfolding_all rfl) ?_) | (with_reducible refine w_peekV (by with_unfolding_all rfl) ?_) | (with_reducible refine w_peekO (by with_unfolding_all rfl) ?_) | (with_reducible refine w_app (by with_unfolding_all rfl) ?_) | (with_reducible refine w_frz (by with_unfolding_all rfl) ?_) | (with_reducible refine w_scr (by with_unfolding_all rfl) ?_) | (with_reducible refine w_tc (by with_unfolding_all rfl) ?_) | (with_reducible refine w_stc (by with_unfolding_all rfl) ?_) | (with_reducible refine w_tr (by with_unfolding_all rfl) ?_) | (with_reducible refine w_str (by with_unfolding_all rfl) ?_) | (with_reducible refine w_idxT (by with_unfolding_all rfl) ?_) | (with_reducible refine w_idxL (by with_unfolding_all rfl) ?_) | (with_reducible refine w_isi (by with_unfolding_all rfl) ?_) | ((with_reducible first | refine w_addT ?_ ?_ | refine w_addL ?_ ?_ | refine w_mulI ?_ ?_ | refine w_mulT ?_ ?_ | refine w_mulL ?_ ?_ | refine w_mod ?_ ?_ | refine w_div ?_ ?_ | refine w_pow ?_ ?_ | refine w_rng ?_ ?_); (first | decide | omega | (refine ⟨?_, ?_⟩ <;> omega) | (refine ⟨?_, ?_, ?_⟩ <;> omega) | (simp only [List.length_cons, List.length_nil, List.length_append, List.length_reverse, BL.cD_len, BL.iD_len, BL.mkx_len, BL.sizeL]; omega) | (refine ⟨List.cons_ne_nil _ _, ?_⟩; simp only [List.length_cons, List.length_nil]; omega))) | ((with_reducible first | refine w_eqD ?_ ?_ ?_ | refine w_neD ?_ ?_ ?_ | refine w_inT ?_ ?_ ?_ | refine w_inL ?_ ?_ ?_); (first | rfl | with_unfolding_all rfl); (first | rfl | with_unfolding_all rfl)) | ((with_reducible refine ift_of ?_ ?_); (with_unfolding_all rfl)) | ((with_reducible refine iff_of ?_ ?_); (with_unfolding_all rfl)) | ((with_reducible refine ift2_of ?_ ?_); (with_unfolding_all rfl)) | ((with_reducible refine iff2_of ?_ ?_); (with_unfolding_all rfl)) | ((with_reducible refine ift_of ?_ ?_); exact decide_eq_true (by omega)) | ((with_reducible refine iff_of ?_ ?_); exact decide_eq_false (by omega)) | ((with_reducible refine ift2_of ?_ ?_); exact decide_eq_true (by omega)) | ((with_reducible refine iff2_of ?_ ?_); exact decide_eq_false (by omega)))
def kI (f : List Nat) : List Int := f.map fun (w : Nat) => (w : Int)
def kT (ks : List (List Nat)) : List (List Int × D) := ks.map fun f => (kI f, D.bl true)
def xT (ks : List (List Nat)) : List D := ks.map fun f => D.tup (iD f)
def gI (m : Nat) : List Nat := (List.range 18).filter fun i => Nat.testBit m (kg i)
theorem intK_iD (f : List Nat) : intK (.tup (iD f)) = some (kI f) := intsD_iD f
theorem kI_inj : ∀ {a b : List Nat}, kI a = kI b → a = b
  | [], [], _ => rfl
  | [], y :: b, h => by cases h
  | x :: a, [], h => by cases h
  | x :: a, y :: b, h => by
    obtain ⟨h1, h2⟩ := List.cons.inj h
    rw [Int.ofNat.inj h1, kI_inj h2]
theorem kT_keys (ks : List (List Nat)) : (kT ks).map (·.1) = ks.map kI := by unfold kT; rw [List.map_map]; rfl
theorem kT_mem {f : List Nat} {ks : List (List Nat)} : kI f ∈ (kT ks).map (·.1) ↔ f ∈ ks := by
  rw [kT_keys, List.mem_map]
  exact ⟨fun ⟨g, h, e⟩ => kI_inj e ▸ h, fun h => ⟨f, h, rfl⟩⟩
section
variable {S : Sl} {t : Tn}
theorem w_tin {neg : Bool} {i : Nat} {k : Ex} {ks : List (List Nat)} {f : List Nat} {Q : D → Tn → Prop} (e : S[i]? = some (.dcT (kT ks))) (hk : k S = ret (.tup (iD f))) (h : Q (.bl (neg ^^ decide (f ∈ ks))) t) : W (eTIn neg i k S t) Q := by
  unfold eTIn
  rw [hk]
  show W ((match tAt S i, intK (.tup (iD f)) with | some ks, some y => BG.ret (D.bl (neg ^^ decide (y ∈ List.map (fun (q : List Int × D) => q.1) ks))) | _, _ => BG.stuck) t) Q
  rw [show tAt S i = some (kT ks) by unfold tAt; rw [e], intK_iD]
  have e2 : decide (kI f ∈ (kT ks).map (·.1)) = decide (f ∈ ks) := decide_eq_decide.mpr kT_mem
  show Q (.bl (neg ^^ decide (kI f ∈ (kT ks).map (·.1)))) t
  rw [e2]
  exact h
theorem w_tset {i : Nat} {k e : Ex} {ks : List (List Nat)} {f : List Nat} {Q : Fl → Tn → Prop} (e1 : S[i]? = some (.dcT (kT ks))) (he : e S = ret (.bl true)) (hk : k S = ret (.tup (iD f))) (hl : ks.length < 1000000) (hn : f ∉ ks) (h : Q (.nx (S.set i (.dcT (kT (ks ++ [f]))))) t) : W (sTSet i k e S t) Q := by
  unfold sTSet
  rw [e1, he, hk]
  show W ((match some (SV.dcT (kT ks)), intK (.tup (iD f)) with | some (SV.dcT ks), some y => if ks.length < 1000000 ∧ y ∉ List.map (fun (q : List Int × D) => q.1) ks then BG.ret (Fl.nx (S.set i (SV.dcT (ks ++ [(y, D.bl true)])))) else BG.stuck | _, _ => BG.stuck) t) Q
  rw [intK_iD]
  show W ((if (kT ks).length < 1000000 ∧ kI f ∉ (kT ks).map (fun q => q.1) then BG.ret (Fl.nx (S.set i (SV.dcT (kT ks ++ [(kI f, D.bl true)])))) else BG.stuck) t) Q
  rw [if_pos ⟨by unfold kT; rw [List.length_map]; exact hl, fun z => hn (kT_mem.mp z)⟩]
  have e3 : kT ks ++ [(kI f, D.bl true)] = kT (ks ++ [f]) := by unfold kT; rw [List.map_append]; rfl
  rw [e3]
  exact h
theorem w_pop {j i : Nat} {w : List (List Nat)} {f : List Nat} {Q : Fl → Tn → Prop} (e : S[i]? = some (.own (xT (w ++ [f])))) (h : Q (.nx ((S.set i (.own (xT w))).set j (.val (.tup (iD f))))) t) : W (sPop j i S t) Q := by
  unfold sPop
  rw [e]
  have e1 : xT (w ++ [f]) = xT w ++ [D.tup (iD f)] := by unfold xT; rw [List.map_append]; rfl
  show W ((match (xT (w ++ [f])).getLast? with | some d => BG.ret (Fl.nx ((S.set i (SV.own (xT (w ++ [f])).dropLast)).set j (SV.val d))) | none => BG.stuck) t) Q
  rw [e1, List.getLast?_append, List.dropLast_concat]
  exact h
end
/-- what the search keeps -/
structure AI (m : Nat) (ks w : List (List Nat)) : Prop where
  nd : ks.Nodup
  rc : ∀ f ∈ ks, Rch m f
  sm : List.range 8 ∈ ks
  wk : ∀ f ∈ w, f ∈ ks
  cl : ∀ f ∈ ks, f ∈ w ∨ ∀ i ∈ gI m, thn f (apL i) ∈ ks
theorem mem_gI {m i : Nat} : i ∈ gI m ↔ i < 18 ∧ Nat.testBit m (kg i) = true := by
  unfold gI
  rw [List.mem_filter, List.mem_range]
theorem AI.done {m : Nat} {ks : List (List Nat)} (h : AI m ks []) (f : List Nat) : f ∈ ks ↔ Rch m f := by
  refine ⟨h.rc f, fun r => ?_⟩
  induction r with
  | same => exact h.sm
  | step r hi hk ih => exact ((h.cl _ ih).resolve_left (fun z => nomatch z)) _ (mem_gI.mpr ⟨hi, hk⟩)
def eThere : Ex := (eUn bTuple (eComp [7] (itSeq (eVar 5)) (gN 7) (eC (.bl true)) (eBin pIdx (eVar 2) (eVar 7))))
theorem there_eq {g h : List Nat} (hg : IsX g) (hh : IsX h) (s0 s1 s3 s4 s6 s7 : SV) : eThere [s0, s1, .val (.tup (iD g)), s3, s4, .val (.tup (iD h)), s6, s7] = ret (.tup (iD (thn h g))) := by
  unfold eThere
  refine eq_of_W fun t => ?_
  repeat (first | infer_instance)
  refine ⟨by rw [iD_len, sizeL, hh.len]; omega, w_cmpM (inN (BM.fn g)) (fun d hd => ?_) ?_⟩
  · obtain ⟨w, hw', rfl⟩ := mem_iD hd
    refine ⟨_, rfl, eq_of_W fun t => ?_⟩
    repeat (first | (with_reducible refine w_idxT (atI_iD (fx_get hg.len (hh.lt hw'))) ?_) | infer_instance)
    exact ⟨rfl, rfl⟩
  · rw [iD_mapN]
    repeat (first | infer_instance)
    exact ⟨rfl, rfl⟩
/-- within a turn: the first gates are done for h -/
structure AJ (m : Nat) (h : List Nat) (is : List Nat) (ks w : List (List Nat)) : Prop where
  nd : ks.Nodup
  rc : ∀ f ∈ ks, Rch m f
  sm : List.range 8 ∈ ks
  wk : ∀ f ∈ w, f ∈ ks
  hk : h ∈ ks
  cl : ∀ f ∈ ks, f ∈ w ∨ f = h ∨ ∀ i ∈ gI m, thn f (apL i) ∈ ks
  dn : ∀ i ∈ is, thn h (apL i) ∈ ks
theorem AI.pop {m : Nat} {ks w : List (List Nat)} {h : List Nat} (a : AI m ks (w ++ [h])) : AJ m h [] ks w where
  nd := a.nd
  rc := a.rc
  sm := a.sm
  wk := fun f hf => a.wk f (List.mem_append_left _ hf)
  hk := a.wk h (List.mem_append_right _ (List.mem_singleton.mpr rfl))
  cl := fun f hf => by
    rcases a.cl f hf with z | z
    · rcases List.mem_append.mp z with z | z
      · exact .inl z
      · exact .inr (.inl (List.mem_singleton.mp z))
    · exact .inr (.inr z)
  dn := fun _ z => nomatch z
theorem AJ.end {m : Nat} {ks w : List (List Nat)} {h : List Nat} (a : AJ m h (gI m) ks w) : AI m ks w where
  nd := a.nd
  rc := a.rc
  sm := a.sm
  wk := a.wk
  cl := fun f hf => by
    rcases a.cl f hf with z | z | z
    · exact .inl z
    · subst z; exact .inr a.dn
    · exact .inr z
theorem AJ.old {m : Nat} {is : List Nat} {ks w : List (List Nat)} {h : List Nat} {i : Nat} (a : AJ m h is ks w) (hi : thn h (apL i) ∈ ks) : AJ m h (is ++ [i]) ks w :=
  ⟨a.nd, a.rc, a.sm, a.wk, a.hk, a.cl, fun j hj => by
    rcases List.mem_append.mp hj with z | z
    · exact a.dn j z
    · rw [List.mem_singleton] at z; rw [z]; exact hi⟩
theorem AJ.new {m : Nat} {is : List Nat} {ks w : List (List Nat)} {h : List Nat} {i : Nat} (a : AJ m h is ks w) (hi : i ∈ gI m) (hn : thn h (apL i) ∉ ks) : AJ m h (is ++ [i]) (ks ++ [thn h (apL i)]) (w ++ [thn h (apL i)]) where
  nd := List.nodup_append.mpr ⟨a.nd, by simp, fun x hx y hy => by rw [List.mem_singleton] at hy; subst hy; exact fun e => hn (e ▸ hx)⟩
  rc := fun f hf => by
    rcases List.mem_append.mp hf with z | z
    · exact a.rc f z
    · rw [List.mem_singleton] at z
      rw [z]
      exact .step (a.rc h a.hk) (mem_gI.mp hi).1 (mem_gI.mp hi).2
  sm := List.mem_append_left _ a.sm
  wk := fun f hf => by
    rcases List.mem_append.mp hf with z | z
    · exact List.mem_append_left _ (a.wk f z)
    · exact List.mem_append_right _ z
  hk := List.mem_append_left _ a.hk
  cl := fun f hf => by
    rcases List.mem_append.mp hf with z | z
    · rcases a.cl f z with y | y | y
      · exact .inl (List.mem_append_left _ y)
      · exact .inr (.inl y)
      · exact .inr (.inr fun j hj => List.mem_append_left _ (y j hj))
    · exact .inl (List.mem_append_right _ z)
  dn := fun j hj => by
    rcases List.mem_append.mp hj with z | z
    · exact List.mem_append_left _ (a.dn j z)
    · rw [List.mem_singleton] at z
      rw [z]
      exact List.mem_append_right _ (List.mem_singleton.mpr rfl)
def whAll : Stm := (sWhile 1000000 (eBin pNe (ePeek 4) (eLst []))
    (sSeq (sPop 5 4)
    (sFor (itSeq (eVar 1)) (gN 2)
    (sSeq (sAsg 6 eThere)
    (sIf (eTIn true 3 (eVar 6)) (sSeq (sTSet 3 (eVar 6) (eC (.bl true)))
    (sApp 4 (eVar 6))) sNil)))))
theorem cnt_few : ∀ m ∈ few, cnt m < 1400 := by decide +kernel
/-- a gate of a turn -/
theorem w_turn {m : Nat} (hm : m ∈ few) {h : List Nat} {is : List Nat} {ks w : List (List Nat)} {i : Nat} (a : AJ m h is ks w) (hi : i ∈ gI m) (hb : (cnt m - ks.length) + w.length ≤ 2000) {s0 s1 x6 x7 : SV} {t : Tn} {Q : Fl → Tn → Prop}
    (q : ∀ ks' w' y6, AJ m h (is ++ [i]) ks' w' → (cnt m - ks'.length) + w'.length = (cnt m - ks.length) + w.length → Q (.nx [s0, s1, .val (.tup (iD (apL i))), .dcT (kT ks'), .own (xT w'), .val (.tup (iD h)), y6, x7]) t) :
    W ((sSeq (sAsg 6 eThere) (sIf (eTIn true 3 (eVar 6)) (sSeq (sTSet 3 (eVar 6) (eC (.bl true))) (sApp 4 (eVar 6))) sNil)) [s0, s1, .val (.tup (iD (apL i))), .dcT (kT ks), .own (xT w), .val (.tup (iD h)), x6, x7] t) Q := by
  have hx := (a.rc h a.hk).x
  have gx := apL_x i (mem_gI.mp hi).1
  have hsz := sizeL
  have hl := rch_len hm a.nd a.rc
  have hc := cnt_few m hm
  refine w_seq (w_asg (w_eq (there_eq gx hx _ _ _ _ _ _) ?_))
  refine nx_nx ?_
  dsimp only [List.set]
  refine w_if (w_tin (ks := ks) (f := thn h (apL i)) rfl rfl ?_)
  by_cases c : thn h (apL i) ∈ ks
  · rw [decide_eq_true c]
    refine ⟨fun z => Bool.noConfusion z, fun _ => ?_⟩
    exact q ks w _ (a.old c) rfl
  · rw [decide_eq_false c]
    refine ⟨fun _ => ?_, fun z => Bool.noConfusion z⟩
    refine w_seq (w_tset (ks := ks) (f := thn h (apL i)) rfl rfl rfl (by omega) c ?_)
    refine nx_nx ?_
    dsimp only [List.set]
    have b := a.new hi c
    have hl2 := rch_len hm b.nd b.rc
    rw [List.length_append, List.length_singleton] at hl2
    refine w_app rfl (w_var rfl ⟨?_, ?_⟩)
    · unfold xT; rw [List.length_map]; omega
    · have e : xT w ++ [D.tup (iD (thn h (apL i)))] = xT (w ++ [thn h (apL i)]) := by unfold xT; rw [List.map_append]; rfl
      rw [e]
      exact q _ _ _ b (by rw [List.length_append, List.length_append, List.length_singleton]; omega)
theorem ok_xT : ∀ w : List (List Nat), okA (xT w) 59 = true
  | [] => rfl
  | f :: w => by
    show (okD (.tup (iD f)) 59 && okA (xT w) 59) = true
    rw [ok_xT w, Bool.and_true]
    exact okA_iD f 58
theorem ne_nil {w : List (List Nat)} {t : Tn} {Q : D → Tn → Prop} (h : Q (.bl (!w.isEmpty)) t) : W (pNe (.lst (xT w)) (.lst []) t) Q := by
  refine w_neD (ok_xT w) rfl ?_
  cases w with
  | nil => exact h
  | cons f w => exact h
theorem w_whAll {m : Nat} (hm : m ∈ few) {s0 x2 x5 x6 x7 : SV} {t : Tn} {Q : Fl → Tn → Prop}
    (q : ∀ ks y2 y5 y6 y7, ks.Nodup → (∀ f, f ∈ ks ↔ Rch m f) → Q (.nx [s0, .val (.lst (xT ((gI m).map apL))), y2, .dcT (kT ks), .own [], y5, y6, y7]) t) :
    W (whAll [s0, .val (.lst (xT ((gI m).map apL))), x2, .dcT (kT [List.range 8]), .own (xT [List.range 8]), x5, x6, x7] t) Q := by
  have hc := cnt_few m hm
  unfold whAll
  refine w_while (fun k S t' => t' = t ∧ ∃ ks w x2 x5 x6 x7, S = [s0, .val (.lst (xT ((gI m).map apL))), x2, .dcT (kT ks), .own (xT w), x5, x6, x7] ∧ AI m ks w ∧ (cnt m - ks.length) + w.length = k ∧ k ≤ 2000) (fun k S t' ⟨ht, ks, w, x2, x5, x6, x7, hS, ai, hk, hb⟩ => ?_) (k := (cnt m - 1) + 1) (by omega) ⟨rfl, [List.range 8], [List.range 8], x2, x5, x6, x7, rfl, ?_, rfl, by omega⟩
  · subst hS ht
    refine w_bin (w_peekO rfl ?_)
    refine w_lst ?_
    refine ne_nil ?_
    rcases List.eq_nil_or_concat w with rfl | ⟨w, h, rfl⟩
    · refine ⟨fun z => Bool.noConfusion z, fun _ => ?_⟩
      exact q ks _ _ _ _ ai.nd ai.done
    · rw [List.concat_eq_append] at hk ai ⊢
      rw [List.length_append, List.length_singleton] at hk
      refine ⟨fun _ => ?_, fun z => by cases w <;> exact Bool.noConfusion z⟩
      refine w_seq (w_pop (w := w) (f := h) rfl ?_)
      refine nx_nx ?_
      dsimp only [List.set]
      refine w_for (w_itSeq (w_var rfl ?_))
      refine w_forI (fun j S t1 => t1 = t' ∧ ∃ ks' w' y2 y6 y7, S = [s0, .val (.lst (xT ((gI m).map apL))), y2, .dcT (kT ks'), .own (xT w'), .val (.tup (iD h)), y6, y7] ∧ AJ m h ((gI m).take j) ks' w' ∧ (cnt m - ks'.length) + w'.length = (cnt m - ks.length) + w.length) (k := 0) ⟨rfl, ks, w, _, _, _, rfl, ai.pop, rfl⟩ (fun j d hd S t1 ⟨e, ks', w', y2, y6, y7, hS, aj, hm'⟩ => ?_) (fun S t1 ⟨e, ks', w', y2, y6, y7, hS, aj, hm'⟩ => ?_)
      · subst hS e
        unfold xT at hd
        rw [List.map_map, List.getElem?_map] at hd
        cases ei : (gI m)[j]? with
        | none => rw [ei] at hd; cases hd
        | some i =>
          rw [ei] at hd
          cases hd
          refine ⟨_, rfl, ?_⟩
          rw [Nat.zero_add] at aj ⊢
          have e2 : (gI m).take (j + 1) = (gI m).take j ++ [i] := by rw [List.take_succ, ei]; rfl
          refine w_turn hm aj (List.mem_of_getElem? ei) (by omega) fun ks2 w2 y aj2 hm2 => ?_
          refine nx_nx ?_
          exact ⟨rfl, ks2, w2, _, _, _, rfl, by rw [e2]; exact aj2, by omega⟩
      · subst hS e
        refine nx_nx ?_
        have e3 : (gI m).take (0 + (xT ((gI m).map apL)).length) = gI m := by
          unfold xT
          rw [List.length_map, List.length_map, Nat.zero_add, List.take_length]
        rw [e3] at aj
        exact ⟨(cnt m - ks'.length) + w'.length, by omega, rfl, ks', w', _, _, _, _, rfl, aj.end, rfl, by omega⟩
  · refine ⟨by simp, fun f hf => ?_, List.mem_singleton.mpr rfl, fun f hf => hf, fun f hf => .inl hf⟩
    rw [List.mem_singleton] at hf
    rw [hf]; exact .same
end BL
set_option Elab.async false
set_option linter.all false
set_option maxRecDepth 100000
set_option maxHeartbeats 2000000
namespace BL
open PySem BG L2
/-- exchanges with circuits to them -/
theorem mem_gI' {m i : Nat} : i ∈ gI m ↔ i < 18 ∧ Nat.testBit m (kg i) = true := by
  unfold gI
  rw [List.mem_filter, List.mem_range]
abbrev Ent := List (List Nat × List Nat)
/-- a circuit of the kinds m -/
def Wd (m : Nat) (c : List Nat) : Prop := ∀ i ∈ c, i < 18 ∧ Nat.testBit m (kg i) = true
theorem Wd.gs {m : Nat} {c : List Nat} (h : Wd m c) : Gs c := fun i hi => (h i hi).1
theorem Wd.nil {m : Nat} : Wd m [] := fun _ h => nomatch h
theorem Wd.app {m : Nat} {a b : List Nat} (ha : Wd m a) (hb : Wd m b) : Wd m (a ++ b) := fun i hi => (List.mem_append.mp hi).elim (ha i) (hb i)
theorem Wd.left {m : Nat} {a b : List Nat} (h : Wd m (a ++ b)) : Wd m a := fun i hi => h i (List.mem_append_left _ hi)
theorem Wd.right {m : Nat} {a b : List Nat} (h : Wd m (a ++ b)) : Wd m b := fun i hi => h i (List.mem_append_right _ hi)
theorem Wd.one {m i : Nat} (hi : i < 18) (hk : Nat.testBit m (kg i) = true) : Wd m [i] := fun j hj => by rw [List.mem_singleton] at hj; subst hj; exact ⟨hi, hk⟩
theorem mkx_app {a b : List Nat} (ha : Gs a) (hb : Gs b) : mkx (a ++ b) = thn (mkx a) (mkx b) := by
  refine x_ext (mkx_x (ha.app hb)) (thn_x (mkx_x ha) (mkx_x hb)) fun w hw => ?_
  rw [fx_mkx hw, fx_thn (mkx_x ha) (mkx_x hb) hw, fx_mkx hw, fx_mkx (mkw_lt ha hw), mkw_app]
theorem mk1 : ∀ i, i < 18 → mkx [i] = apL i := by decide +kernel
theorem mkx_snoc {c : List Nat} {i : Nat} (hc : Gs c) (hi : i < 18) : mkx (c ++ [i]) = thn (mkx c) (apL i) := by
  rw [mkx_app hc (fun j hj => by rw [List.mem_singleton] at hj; subst hj; exact hi), mk1 i hi]
theorem mkx_nil : mkx [] = List.range 8 := by decide +kernel
theorem rch_wd {m : Nat} {f : List Nat} : Rch m f ↔ ∃ c, Wd m c ∧ f = mkx c := by
  constructor
  · intro r
    induction r with
    | same => exact ⟨[], .nil, mkx_nil.symm⟩
    | step r hi hk ih =>
      obtain ⟨c, hc, rfl⟩ := ih
      exact ⟨c ++ [_], hc.app (.one hi hk), (mkx_snoc hc.gs hi).symm⟩
  · rintro ⟨c, hc, rfl⟩
    have go : ∀ (n : Nat) (c : List Nat), c.length = n → Wd m c → Rch m (mkx c) := by
      intro n
      induction n with
      | zero => intro c hl hc; rw [List.eq_nil_of_length_eq_zero hl, mkx_nil]; exact .same
      | succ n ih =>
        intro c hl hc
        have hne : c ≠ [] := fun z => by rw [z] at hl; cases hl
        have e := List.dropLast_concat_getLast hne
        rw [← e] at hc ⊢
        have h1 := hc.right _ (List.mem_singleton.mpr rfl)
        rw [mkx_snoc hc.left.gs h1.1]
        exact .step (ih _ (by rw [List.length_dropLast, hl]; rfl) hc.left) h1.1 h1.2
    exact go _ c rfl hc
def lk (L : Ent) (h : List Nat) : List Nat := ((L.find? fun q => decide (q.1 = h)).map (·.2)).getD []
def gadd (h c : List Nat) (s : Ent × List (List Nat)) (i : Nat) : Ent × List (List Nat) := if thn h (apL i) ∈ s.1.map (·.1) then s else (s.1 ++ [(thn h (apL i), c ++ [i])], s.2 ++ [thn h (apL i)])
def growH (gs : List Nat) (s : Ent × List (List Nat)) (h : List Nat) : Ent × List (List Nat) := gs.foldl (gadd h (lk s.1 h)) s
def growL (gs : List Nat) (lev : List (List Nat)) (L : Ent) : Ent × List (List Nat) := lev.foldl (growH gs) (L, [])
theorem find_key : ∀ {L : Ent} {h : List Nat}, h ∈ L.map (·.1) → ∃ c, L.find? (fun q => decide (q.1 = h)) = some (h, c) ∧ (h, c) ∈ L
  | [], h, hm => nomatch hm
  | (f, c) :: L, h, hm => by
    rw [List.find?_cons]
    by_cases e : f = h
    · subst e
      rw [decide_eq_true rfl]
      exact ⟨c, rfl, List.mem_cons_self ..⟩
    · rw [decide_eq_false e]
      rw [List.map_cons, List.mem_cons] at hm
      obtain ⟨c', h1, h2⟩ := find_key (L := L) (hm.resolve_left fun z => e z.symm)
      exact ⟨c', h1, List.mem_cons_of_mem _ h2⟩
theorem lk_find {L : Ent} {h : List Nat} (hm : h ∈ L.map (·.1)) : L.find? (fun q => decide (q.1 = h)) = some (h, lk L h) ∧ (h, lk L h) ∈ L := by
  obtain ⟨c, h1, h2⟩ := find_key hm
  have e : lk L h = c := by unfold lk; rw [h1]; rfl
  rw [e]; exact ⟨h1, h2⟩
theorem lk_app {L E : Ent} {h : List Nat} (hm : h ∈ L.map (·.1)) : lk (L ++ E) h = lk L h := by
  obtain ⟨c, h1, _⟩ := find_key hm
  unfold lk
  rw [List.find?_append, h1]; rfl
structure GI (m : Nat) (L0 : Ent) (lev : List (List Nat)) (s : Ent × List (List Nat)) : Prop where
  app : ∃ E, s.1 = L0 ++ E ∧ E.map (·.1) = s.2
  nd : (s.1.map (·.1)).Nodup
  new : ∀ q ∈ s.1, q ∈ L0 ∨ ∃ h c i, h ∈ lev ∧ (h, c) ∈ L0 ∧ i ∈ gI m ∧ q = (thn h (apL i), c ++ [i]) ∧ q.1 ∉ L0.map (·.1)
section
variable {m : Nat} {L0 : Ent} {lev : List (List Nat)}
theorem GI.add {s : Ent × List (List Nat)} {h c : List Nat} {i : Nat} (g : GI m L0 lev s) (hh : h ∈ lev) (hc : (h, c) ∈ L0) (hi : i ∈ gI m) : GI m L0 lev (gadd h c s i) ∧ thn h (apL i) ∈ (gadd h c s i).1.map (·.1) ∧ ∀ f ∈ s.1.map (·.1), f ∈ (gadd h c s i).1.map (·.1) := by
  unfold gadd
  by_cases z : thn h (apL i) ∈ s.1.map (·.1)
  · rw [if_pos z]; exact ⟨g, z, fun _ h => h⟩
  · rw [if_neg z]
    obtain ⟨E, e1, e2⟩ := g.app
    refine ⟨⟨⟨E ++ [(thn h (apL i), c ++ [i])], by rw [e1, List.append_assoc], by rw [List.map_append, e2]; rfl⟩, ?_, fun q hq => ?_⟩, ?_, fun f hf => ?_⟩
    · show ((s.1 ++ [(thn h (apL i), c ++ [i])]).map (·.1)).Nodup
      rw [List.map_append]
      refine List.nodup_append.mpr ⟨g.nd, by simp, fun x hx y hy => ?_⟩
      rw [List.map_singleton, List.mem_singleton] at hy
      subst hy
      exact fun e => z (by have e : x = thn h (apL i) := e; rw [← e]; exact hx)
    · rcases List.mem_append.mp hq with hq | hq
      · exact g.new q hq
      · rw [List.mem_singleton] at hq
        subst hq
        refine .inr ⟨h, c, i, hh, hc, hi, rfl, fun k => z ?_⟩
        rw [e1, List.map_append]
        exact List.mem_append_left _ k
    · show thn h (apL i) ∈ (s.1 ++ [(thn h (apL i), c ++ [i])]).map (·.1)
      rw [List.map_append]
      exact List.mem_append_right _ (List.mem_singleton.mpr rfl)
    · show f ∈ (s.1 ++ [(thn h (apL i), c ++ [i])]).map (·.1)
      rw [List.map_append]
      exact List.mem_append_left _ hf
theorem GI.adds {h c : List Nat} (hh : h ∈ lev) (hc : (h, c) ∈ L0) : ∀ {is : List Nat} {s : Ent × List (List Nat)}, (∀ i ∈ is, i ∈ gI m) → GI m L0 lev s → GI m L0 lev (is.foldl (gadd h c) s) ∧ (∀ i ∈ is, thn h (apL i) ∈ (is.foldl (gadd h c) s).1.map (·.1)) ∧ ∀ f ∈ s.1.map (·.1), f ∈ (is.foldl (gadd h c) s).1.map (·.1)
  | [], s, _, g => ⟨g, (fun _ h => nomatch h), fun _ h => h⟩
  | i :: is, s, hi, g => by
    obtain ⟨g1, a1, b1⟩ := g.add hh hc (hi i (List.mem_cons_self ..))
    obtain ⟨g2, a2, b2⟩ := GI.adds hh hc (is := is) (fun j hj => hi j (List.mem_cons_of_mem _ hj)) g1
    refine ⟨g2, fun j hj => ?_, fun f hf => b2 f (b1 f hf)⟩
    rcases List.mem_cons.mp hj with rfl | hj
    · exact b2 _ a1
    · exact a2 j hj
theorem GI.lk {s : Ent × List (List Nat)} {h : List Nat} (g : GI m L0 lev s) (hm : h ∈ L0.map (·.1)) : lk s.1 h = BL.lk L0 h ∧ (h, BL.lk L0 h) ∈ L0 := by
  obtain ⟨E, e1, e2⟩ := g.app
  rw [e1]
  exact ⟨lk_app hm, (lk_find hm).2⟩
theorem GI.levs (hk : ∀ h ∈ lev, h ∈ L0.map (·.1)) : ∀ {hs : List (List Nat)} {s : Ent × List (List Nat)}, (∀ h ∈ hs, h ∈ lev) → GI m L0 lev s → GI m L0 lev (hs.foldl (growH (gI m)) s) ∧ (∀ h ∈ hs, ∀ i ∈ gI m, thn h (apL i) ∈ (hs.foldl (growH (gI m)) s).1.map (·.1)) ∧ ∀ f ∈ s.1.map (·.1), f ∈ (hs.foldl (growH (gI m)) s).1.map (·.1)
  | [], s, _, g => ⟨g, (fun _ h => nomatch h), fun _ h => h⟩
  | h :: hs, s, hl, g => by
    have hh := hl h (List.mem_cons_self ..)
    obtain ⟨e1, e2⟩ := g.lk (hk h hh)
    obtain ⟨g1, a1, b1⟩ := GI.adds hh e2 (is := gI m) (fun _ h => h) g
    rw [← e1] at g1 a1 b1
    obtain ⟨g2, a2, b2⟩ := GI.levs hk (hs := hs) (s := growH (gI m) s h) (fun k hk' => hl k (List.mem_cons_of_mem _ hk')) g1
    refine ⟨g2, fun k hk' => ?_, fun f hf => b2 f (b1 f hf)⟩
    rcases List.mem_cons.mp hk' with rfl | hk'
    · exact fun i hi => b2 _ (a1 i hi)
    · exact a2 k hk'
end
structure Bfs (m : Nat) (s0 : List Nat) (L : Ent) (lev : List (List Nat)) (d : Nat) : Prop where
  nd : (L.map (·.1)).Nodup
  ok : ∀ q ∈ L, Wd m q.2 ∧ q.1 = thn s0 (mkx q.2) ∧ q.2.length ≤ d ∧ ∀ c, Wd m c → thn s0 (mkx c) = q.1 → q.2.length ≤ c.length
  all : ∀ c, Wd m c → c.length ≤ d → thn s0 (mkx c) ∈ L.map (·.1)
  lev : ∀ f, f ∈ lev ↔ ∃ c, (f, c) ∈ L ∧ c.length = d
theorem Bfs.start {m : Nat} {s0 : List Nat} (hs : IsX s0) : Bfs m s0 [(s0, [])] [s0] 0 where
  nd := by simp
  ok := fun q hq => by
    rw [List.mem_singleton] at hq
    subst hq
    exact ⟨.nil, by show s0 = thn s0 (mkx []); rw [mkx_nil, (thn_id hs).1], Nat.le_refl _, fun _ _ _ => Nat.zero_le _⟩
  all := fun c _ hl => by
    rw [List.eq_nil_of_length_eq_zero (Nat.le_zero.mp hl), mkx_nil, (thn_id hs).1]
    exact List.mem_singleton.mpr rfl
  lev := fun f => by
    rw [List.mem_singleton]
    constructor
    · rintro rfl
      exact ⟨[], List.mem_singleton.mpr rfl, rfl⟩
    · rintro ⟨c, h, _⟩
      rw [List.mem_singleton] at h
      cases h; rfl
section
variable {m : Nat} {s0 : List Nat} {L : Ent} {lev : List (List Nat)} {d : Nat}
theorem Bfs.key (b : Bfs m s0 L lev d) {f : List Nat} (h : f ∈ lev) : f ∈ L.map (·.1) := by
  obtain ⟨c, h1, _⟩ := (b.lev f).mp h
  exact List.mem_map.mpr ⟨_, h1, rfl⟩
theorem Bfs.uniq (b : Bfs m s0 L lev d) {f c c' : List Nat} (h : (f, c) ∈ L) (h' : (f, c') ∈ L) : c.length = c'.length := by
  obtain ⟨w1, e1, _, k1⟩ := b.ok _ h
  obtain ⟨w2, e2, _, k2⟩ := b.ok _ h'
  exact Nat.le_antisymm (k1 _ w2 e2.symm) (k2 _ w1 e1.symm)
theorem Bfs.x (b : Bfs m s0 L lev d) (hs : IsX s0) {f : List Nat} (h : f ∈ L.map (·.1)) : IsX f := by
  obtain ⟨q, hq, rfl⟩ := List.mem_map.mp h
  obtain ⟨w1, e1, _⟩ := b.ok q hq
  rw [e1]
  exact thn_x hs (mkx_x w1.gs)
theorem Bfs.grow (b : Bfs m s0 L lev d) (hs : IsX s0) : Bfs m s0 (growL (gI m) lev L).1 (growL (gI m) lev L).2 (d + 1) := by
  obtain ⟨g, a, mono⟩ := GI.levs (m := m) (L0 := L) (lev := lev) (fun h hh => b.key hh) (hs := lev) (s := (L, [])) (fun _ h => h) ⟨⟨[], (List.append_nil _).symm, rfl⟩, b.nd, fun q hq => .inl hq⟩
  have g : GI m L lev (growL (gI m) lev L) := g
  have a : ∀ h ∈ lev, ∀ i ∈ gI m, thn h (apL i) ∈ (growL (gI m) lev L).1.map (·.1) := a
  have mono : ∀ f ∈ L.map (·.1), f ∈ (growL (gI m) lev L).1.map (·.1) := mono
  generalize growL (gI m) lev L = s at *
  have new : ∀ q ∈ s.1, q ∈ L ∨ (Wd m q.2 ∧ q.1 = thn s0 (mkx q.2) ∧ q.2.length = d + 1 ∧ q.1 ∉ L.map (·.1)) := fun q hq => by
    rcases g.new q hq with z | ⟨h, c, i, h1, h2, h3, rfl, h5⟩
    · exact .inl z
    · obtain ⟨w1, e1, _, k1⟩ := b.ok _ h2
      obtain ⟨hi, hk⟩ := mem_gI'.mp h3
      obtain ⟨c', h6, h7⟩ := (b.lev h).mp h1
      refine .inr ⟨w1.app (.one hi hk), ?_, ?_, h5⟩
      · show thn h (apL i) = thn s0 (mkx (c ++ [i]))
        have e1 : h = thn s0 (mkx c) := e1
        rw [mkx_snoc w1.gs hi, e1, thn_assoc hs (mkx_x w1.gs) (apL_x i hi)]
      · show (c ++ [i]).length = d + 1
        rw [List.length_append, b.uniq h2 h6, h7]; rfl
  refine ⟨g.nd, fun q hq => ?_, fun c hc hl => ?_, fun f => ?_⟩
  · rcases new q hq with z | ⟨h1, h2, h3, h4⟩
    · obtain ⟨k1, k2, k3, k4⟩ := b.ok q z
      exact ⟨k1, k2, Nat.le_succ_of_le k3, k4⟩
    · refine ⟨h1, h2, Nat.le_of_eq h3, fun c hc e => ?_⟩
      rw [h3]
      refine Nat.lt_of_not_le fun z => h4 ?_
      rw [← e]
      exact b.all c hc z
  · by_cases hl' : c.length ≤ d
    · exact mono _ (b.all c hc hl')
    · have hlen : c.length = d + 1 := by omega
      have hne : c ≠ [] := fun z => by rw [z] at hlen; cases hlen
      have e := List.dropLast_concat_getLast hne
      generalize hi0 : c.getLast hne = i at e
      generalize hc0 : c.dropLast = c0 at e
      have hl0 : c0.length = d := by rw [← hc0, List.length_dropLast, hlen]; rfl
      rw [← e] at hc ⊢
      obtain ⟨hi, hk⟩ := hc.right i (List.mem_singleton.mpr rfl)
      have hf0 := b.all c0 hc.left (Nat.le_of_eq hl0)
      have step : ∀ c1, Wd m c1 → thn s0 (mkx c1) = thn s0 (mkx c0) → thn s0 (mkx (c0 ++ [i])) = thn s0 (mkx (c1 ++ [i])) := fun c1 h1 h2 => by
        rw [mkx_snoc hc.left.gs hi, mkx_snoc h1.gs hi, ← thn_assoc hs (mkx_x hc.left.gs) (apL_x i hi), ← thn_assoc hs (mkx_x h1.gs) (apL_x i hi), h2]
      obtain ⟨q, hq, eq⟩ := List.mem_map.mp hf0
      obtain ⟨k1, k2, k3, k4⟩ := b.ok q hq
      by_cases z : q.2.length = d
      · have hm : q.1 ∈ lev := (b.lev _).mpr ⟨q.2, hq, z⟩
        have := a q.1 hm i (mem_gI'.mpr ⟨hi, hk⟩)
        rw [k2, thn_assoc hs (mkx_x k1.gs) (apL_x i hi), ← mkx_snoc k1.gs hi, ← step q.2 k1 (by rw [← k2]; exact eq)] at this
        exact this
      · rw [step q.2 k1 (by rw [← k2]; exact eq)]
        exact mono _ (b.all _ (k1.app (.one hi hk)) (by rw [List.length_append]; show q.2.length + 1 ≤ d; omega))
  · obtain ⟨E, e1, e2⟩ := g.app
    rw [← e2]
    constructor
    · intro hf
      obtain ⟨q, hq, rfl⟩ := List.mem_map.mp hf
      have hq' : q ∈ s.1 := by rw [e1]; exact List.mem_append_right _ hq
      refine ⟨q.2, hq', ?_⟩
      rcases new q hq' with z | ⟨_, _, h3, _⟩
      · have nd := g.nd
        rw [e1, List.map_append] at nd
        exact absurd rfl ((List.nodup_append.mp nd).2.2 q.1 (List.mem_map.mpr ⟨q, z, rfl⟩) q.1 (List.mem_map.mpr ⟨q, hq, rfl⟩))
      · exact h3
    · rintro ⟨c, h1, h2⟩
      rw [e1] at h1
      rcases List.mem_append.mp h1 with z | z
      · have := (b.ok _ z).2.2.1
        have h2 : c.length = d + 1 := h2
        have : c.length ≤ d := this
        omega
      · exact List.mem_map.mpr ⟨_, z, rfl⟩
/-- no level more: all is reached -/
theorem Bfs.closed (b : Bfs m s0 L [] d) (hs : IsX s0) : ∀ (n : Nat) (c : List Nat), c.length = n → Wd m c → thn s0 (mkx c) ∈ L.map (·.1) := by
  intro n
  induction n using Nat.strongRecOn with
  | _ n ih =>
    intro c hl hc
    by_cases h : c.length ≤ d
    · exact b.all c hc h
    · have e := List.take_append_drop d c
      have ht : (c.take d).length = d := by rw [List.length_take]; omega
      rw [← e] at hc
      obtain ⟨q, hq, eq⟩ := List.mem_map.mp (b.all _ hc.left (Nat.le_of_eq ht))
      obtain ⟨k1, k2, k3, k4⟩ := b.ok q hq
      have lt : q.2.length < d := by
        refine Nat.lt_of_le_of_ne k3 fun z => ?_
        have := (b.lev q.1).mpr ⟨q.2, hq, z⟩
        cases this
      have e2 : thn s0 (mkx c) = thn s0 (mkx (q.2 ++ c.drop d)) := by
        have e3 : mkx c = mkx (c.take d ++ c.drop d) := by rw [e]
        rw [e3, mkx_app hc.left.gs hc.right.gs, mkx_app k1.gs hc.right.gs, ← thn_assoc hs (mkx_x hc.left.gs) (mkx_x hc.right.gs), ← thn_assoc hs (mkx_x k1.gs) (mkx_x hc.right.gs), ← k2, eq]
      rw [e2]
      refine ih _ ?_ _ rfl (k1.app hc.right)
      rw [List.length_append, List.length_drop]
      omega
end
end BL
set_option Elab.async false
set_option linter.all false
set_option maxRecDepth 100000
set_option maxHeartbeats 2000000
namespace BL
open PySem BG L2
variable {st : Sto}
theorem nat_of {z : Int} (h : 0 ≤ z) : ∃ n : Nat, z = (n : Int) := ⟨z.toNat, (Int.toNat_of_nonneg h).symm⟩
end BL
set_option Elab.async false
set_option linter.all false
set_option maxRecDepth 100000
set_option maxHeartbeats 2000000
namespace BL
open PySem BG L2
local macro_rules | `(tactic| infer_instance) => `(tactic| first | (with_reducible first | refine w_seq ?_ | refine w_asg ?_ | refine w_asgP ?_ | refine pr_i ?_ | refine w_eqI ?_ | refine w_neI ?_ | refine w_own ?_ | refine w_par ?_ | refine w_parO ?_ | refine w_expr ?_ | refine w_if ?_ | refine w_sret ?_ | refine w_nil ?_ | refine w_for ?_ | refine w_bin ?_ | refine w_un ?_ | refine w_tup ?_ | refine w_lst ?_ | refine w_call ?_ | refine w_and ?_ | refine w_or ?_ | refine w_ife ?_ | refine w_chain ?_ | refine w_slice ?_ | refine w_oN ?_ | refine w_oS ?_ | refine w_comp ?_ | refine w_itSeq ?_ | refine w_itR ?_ | refine w_evnil ?_ | refine w_evcons ?_ | refine w_evc1 ?_ | refine w_evc0 ?_ | refine w_c ?_ | refine nx_nx ?_ | refine nx_ret ?_ | refine bl_i ?_ | refine in_i ?_ | refine sq_t ?_ | refine sq_l ?_ | refine ls_l ?_ | refine tp_t ?_ | refine w_not ?_ | refine w_addI ?_ | refine w_sub ?_ | refine w_xor ?_ | refine w_ltI ?_ | refine w_leI ?_ | refine w_gtI ?_ | refine w_geI ?_ | refine w_slT ?_ | refine w_slL ?_ | refine w_lenT ?_ | refine w_lenL ?_ | refine w_lenS ?_ | refine w_tupL ?_ | refine w_tupT ?_ | refine w_lstL ?_ | refine w_lstT ?_ | refine w_neg ?_ | refine w_isn ?_ | refine w_isnn ?_ | refine w_begun ?_ | refine w_ret ?_ | refine w_resE ?_) | (with_reducible refine w_var (by with_unfolding_all rfl) ?_) | (with_reducible refine w_peekV (by with_unfolding_all rfl) ?_) | (with_reducible refine w_peekO (by with_unfolding_all rfl) ?_) | (with_reducible refine w_app (by with_unfolding_all rfl) ?_) | (with_reducible refine w_frz (by with_unfolding_all rfl) ?_) | (with_reducible refine w_scr (by with_unfolding_all rfl) ?_) | (with_reducible refine w_tc (by with_unfolding_all rfl) ?_) | (with_reducible refine w_stc (by with_unfolding_all rfl) ?_) | (with_reducible refine w_tr (by with_unfolding_all rfl) ?_) | (with_reducible refine w_str (by with_unfolding_all rfl) ?_) | (with_reducible refine w_idxT (by with_unfolding_all rfl) ?_) | (with_reducible refine w_idxL (by with_unfolding_all rfl) ?_) | (with_reducible refine w_isi (by with_unfolding_all rfl) ?_) | ((with_reducible first | refine w_addT ?_ ?_ | refine w_addL ?_ ?_ | refine w_mulI ?_ ?_ | refine w_mulT ?_ ?_ | refine w_mulL ?_ ?_ | refine w_mod ?_ ?_ | refine w_div ?_ ?_ | refine w_pow ?_ ?_ | refine w_rng ?_ ?_); (first | decide | omega | (refine ⟨?_, ?_⟩ <;> omega) | (refine ⟨?_, ?_, ?_⟩ <;> omega) | (simp only [List.length_cons, List.length_nil, List.length_append, List.length_reverse, BL.cD_len, BL.iD_len, BL.mkx_len, BL.sizeL]; omega) | (refine ⟨List.cons_ne_nil _ _, ?_⟩; simp only [List.length_cons, List.length_nil]; omega))) | ((with_reducible first | refine w_eqD ?_ ?_ ?_ | refine w_neD ?_ ?_ ?_ | refine w_inT ?_ ?_ ?_ | refine w_inL ?_ ?_ ?_); (first | rfl | with_unfolding_all rfl); (first | rfl | with_unfolding_all rfl)) | ((with_reducible refine ift_of ?_ ?_); (with_unfolding_all rfl)) | ((with_reducible refine iff_of ?_ ?_); (with_unfolding_all rfl)) | ((with_reducible refine ift2_of ?_ ?_); (with_unfolding_all rfl)) | ((with_reducible refine iff2_of ?_ ?_); (with_unfolding_all rfl)) | ((with_reducible refine ift_of ?_ ?_); exact decide_eq_true (by omega)) | ((with_reducible refine iff_of ?_ ?_); exact decide_eq_false (by omega)) | ((with_reducible refine ift2_of ?_ ?_); exact decide_eq_true (by omega)) | ((with_reducible refine iff2_of ?_ ?_); exact decide_eq_false (by omega)))
section
variable {S : Sl} {t : Tn} {n : Nat} {ks : List (List Int × D)} {v : Nat}
theorem w_obAt {α : Type} {o : Ob × Nat} {k : Ob → M α} {Q : α → Tn → Prop} (e : t.2[n]? = some o) (h : W (k o.1 t) Q) : W (bnd (obAt (.hnd n)) k t) Q := by rw [bnd_ok (obAt_ok e)]; exact h
theorem w_setOb {α : Type} {o : Ob} {q : Ob × Nat} {k : Unit → M α} {Q : α → Tn → Prop} (e : t.2[n]? = some q) (h : W (k () (t.1, t.2.set n (o, q.2 + 1))) Q) : W (bnd (setOb (.hnd n) o) k t) Q := by rw [bnd_ok (setOb_ok e)]; exact h
theorem w_mmin {neg : Bool} {k d : Ex} {kd : D} {y : List Int} {Q : D → Tn → Prop} (hk : k S = ret kd) (hd : d S = ret (.hnd n)) (e : t.2[n]? = some (.td ks, v)) (hy : intK kd = some y) (h : Q (.bl (neg ^^ decide (y ∈ ks.map (·.1)))) t) : W (eMIn neg k d S t) Q := by
  unfold eMIn
  rw [hk, ret_bnd, hd, ret_bnd]
  refine w_obAt e ?_
  show W ((match intK kd with | some y => BG.ret (D.bl (neg ^^ decide (y ∈ List.map (fun (q : List Int × D) => q.1) ks))) | none => BG.stuck) t) Q
  rw [hy]
  exact h
theorem w_mmix {d k : Ex} {kd r : D} {y : List Int} {Q : D → Tn → Prop} (hd : d S = ret (.hnd n)) (hk : k S = ret kd) (e : t.2[n]? = some (.td ks, v)) (hy : intK kd = some y) (hl : tLook ks y = some r) (h : Q r t) : W (eMIx d k S t) Q := by
  unfold eMIx
  rw [hd, ret_bnd, hk, ret_bnd]
  refine w_obAt e ?_
  show W ((match intK kd with | some y => (match tLook ks y with | some d => ret d | none => stuck) | none => stuck) t) Q
  rw [hy]
  show W ((match tLook ks y with | some d => ret d | none => stuck) t) Q
  rw [hl]
  exact h
theorem w_mset {d k e : Ex} {kd : D} {y : List Int} {Q : Fl → Tn → Prop} (hd : d S = ret (.hnd n)) (hk : k S = ret kd) (hy : intK kd = some y)
    (h : W (e S t) fun x t1 => ∃ ks v, t1.2[n]? = some (.td ks, v) ∧ ks.length < 1000000 ∧ y ∉ ks.map (·.1) ∧ Q (.nx S) (t1.1, t1.2.set n (.td (ks ++ [(y, x)]), v + 1))) : W (sMSet d k e S t) Q := by
  unfold sMSet
  refine w_bnd (h.mono fun x t1 ⟨ks, v, e1, h1, h2, q⟩ => ?_)
  rw [hd, ret_bnd, hk, ret_bnd]
  refine w_obAt e1 ?_
  show W ((match intK kd with | some y => if ks.length < 1000000 ∧ y ∉ List.map (fun (q : List Int × D) => q.1) ks then BG.bnd (setOb (.hnd n) (.td (ks ++ [(y, x)]))) fun _ => BG.ret (Fl.nx S) else BG.stuck | none => BG.stuck) t1) Q
  rw [hy]
  show W ((if ks.length < 1000000 ∧ y ∉ List.map (fun (q : List Int × D) => q.1) ks then bnd (setOb (.hnd n) (.td (ks ++ [(y, x)]))) fun _ => ret (Fl.nx S) else stuck) t1) Q
  rw [if_pos ⟨h1, h2⟩]
  exact w_setOb e1 q
theorem w_mnew {k v : Ex} {kd d : D} {y : List Int} {Q : D → Tn → Prop} (hk : k S = ret kd) (hv : v S = ret d) (hy : intK kd = some y) (h : Q (.hnd t.2.length) (t.1, t.2 ++ [(.td [(y, d)], 0)])) : W (eMNew k v S t) Q := by
  unfold eMNew
  rw [hk, ret_bnd, hv, ret_bnd, hy]
  exact h
end
def tdK (L : Ent) : List (List Int × D) := L.map fun q => (kI q.1, D.tup (cD q.2))
theorem tdK_len (L : Ent) : (tdK L).length = L.length := List.length_map _
theorem tdK_keys (L : Ent) : (tdK L).map (·.1) = (L.map (·.1)).map kI := by unfold tdK; rw [List.map_map, List.map_map]; rfl
theorem tdK_mem {f : List Nat} {L : Ent} : kI f ∈ (tdK L).map (·.1) ↔ f ∈ L.map (·.1) := by
  rw [tdK_keys]
  constructor
  · intro h
    obtain ⟨g, hg, e⟩ := List.mem_map.mp h
    rw [← kI_inj e]; exact hg
  · exact fun h => List.mem_map.mpr ⟨f, h, rfl⟩
theorem tdK_dec {f : List Nat} {L : Ent} : decide (kI f ∈ (tdK L).map (·.1)) = decide (f ∈ L.map (·.1)) := decide_eq_decide.mpr tdK_mem
theorem tdK_app (L E : Ent) : tdK (L ++ E) = tdK L ++ tdK E := List.map_append
theorem tdK_look {f : List Nat} : ∀ {L : Ent}, f ∈ L.map (·.1) → tLook (tdK L) (kI f) = some (.tup (cD (lk L f)))
  | [], h => nomatch h
  | (g, c) :: L, h => by
    unfold tLook
    show ((((kI g, D.tup (cD c)) :: tdK L).find? fun p => decide (p.1 = kI f)).map (·.2)) = _
    rw [List.find?_cons]
    by_cases e : g = f
    · subst e
      rw [decide_eq_true rfl]
      unfold lk
      rw [List.find?_cons, decide_eq_true rfl]; rfl
    · rw [decide_eq_false (fun z => e (kI_inj z))]
      rw [List.map_cons, List.mem_cons] at h
      have ih := tdK_look (L := L) (h.resolve_left fun z => e z.symm)
      unfold tLook at ih
      have e2 : lk ((g, c) :: L) f = lk L f := by unfold lk; rw [List.find?_cons, decide_eq_false e]
      rw [e2]
      exact ih
def gD (is : List Nat) : List D := is.map fun i => D.tup [gk i, .tup (iD (apL i))]
def gX2 (d : D) : D := match f_made [.tup [d]] (none, []) with
  | some (.ok x _) => .tup [d, x]
  | _ => .non
theorem made1' {i : Nat} (hi : i < 18) : f_made [.tup [gk i]] = ret (.tup (iD (apL i))) := by
  have := made_eq (c := [i]) fun j hj => by rw [List.mem_singleton] at hj; rw [hj]; exact hi
  rw [mk1 i hi] at this
  exact this
theorem gX2_gk {i : Nat} (hi : i < 18) : gX2 (gk i) = .tup [gk i, .tup (iD (apL i))] := by
  unfold gX2
  rw [made1' hi]
  rfl
theorem gates_of_eq {m : Nat} (hm : Kd m) : f_gates_of [.tup (kd m)] = ret (.lst (gD (gI m))) := by
  refine eq_of_W fun t => ?_
  unfold f_gates_of
  with_reducible refine w_fn ?_
  rw [show slots0 2 [D.tup (kd m)] = [.val (.tup (kd m)), .un] from rfl]
  unfold b_gates_of
  repeat (first | (with_reducible refine w_eq listed_eq ?_) | infer_instance)
  refine ⟨by decide +kernel, w_cmpP (fun g => inD (kindD g) (kd m)) gX2 (fun g hg => ?_) ?_⟩
  · obtain ⟨i, hi, e⟩ : ∃ i, i < 18 ∧ g = gk i := by
      rw [gts_gk] at hg
      obtain ⟨i, hi, e⟩ := List.mem_map.mp hg
      exact ⟨i, List.mem_range.mp hi, e.symm⟩
    obtain ⟨k, ls, e2, ok, nb⟩ := gts_kind hg
    subst e2
    refine ⟨_, rfl, eq_of_W fun t => ?_, fun _ => eq_of_W fun t => ?_⟩
    · repeat (first | (with_reducible refine w_idxT atI_zero ?_) | infer_instance)
      have ok2 : okD (.str k) 60 = true := by
        have : (okD (.str k) 19 && okA ls 19) = true := ok
        rw [Bool.and_eq_true] at this
        exact okD_le (by decide) this.1
      refine w_inT ok2 (okA_le (by decide) (ks_ok m hm.2).1) ?_
      exact ⟨rfl, rfl⟩
    · rw [e]
      repeat (first | (with_reducible refine w_eq (made1' hi) ?_) | infer_instance)
      exact ⟨(gX2_gk hi).symm, rfl⟩
  have e : (gts.filter fun g => inD (kindD g) (kd m)).map gX2 = gD (gI m) := by
    rw [gts_gk, List.filter_map, List.map_map]
    unfold gD gI
    have e : (List.range 18).filter ((fun g => inD (kindD g) (kd m)) ∘ gk) = (List.range 18).filter fun i => Nat.testBit m (kg i) := List.filter_congr fun i hi => kg_tab m hm.2 i (List.mem_range.mp hi)
    rw [e]
    exact List.map_congr_left fun i hi => gX2_gk (List.mem_range.mp (List.mem_filter.mp hi).1)
  rw [e]
  exact ⟨rfl, rfl⟩
def grIn : Stm := (sSeq (sAsg 7 (eCall f_then [(eVar 4), (eVar 6)]))
    (sIf (eMIn true (eVar 7) (eVar 0)) (sSeq (sMSet (eVar 0) (eVar 7) (eBin pAdd (eMIx (eVar 0) (eVar 4)) (eTup [(eVar 5)])))
    (sApp 3 (eVar 7))) sNil))
theorem at_set {st : Sto} {n : Nat} {o : Ob × Nat} (h : n < st.length) : (st.set n o)[n]? = some o := List.getElem?_set_self h
theorem xT_app (a b : List (List Nat)) : xT (a ++ b) = xT a ++ xT b := List.map_append
theorem xT_len (a : List (List Nat)) : (xT a).length = a.length := List.length_map _
theorem w_grIn {n : Nat} {st : Sto} (hn : n < st.length) {a1 a2 : SV} {h c : List Nat} (hh : IsX h) (hc : c.length ≤ 100000) {tw : Option (Int × List (Int × Int))} {Q : Fl → Tn → Prop} : ∀ {is : List Nat} {s : Ent × List (List Nat)} {x5 x6 x7 : SV} {v : Nat}, (∀ i ∈ is, i < 18) → h ∈ s.1.map (·.1) → lk s.1 h = c → s.1.length + is.length < 1000000 → s.2.length + is.length < 1000000 →
    (∀ y5 y6 y7 v', Q (.nx [.val (.hnd n), a1, a2, .own (xT (is.foldl (gadd h c) s).2), .val (.tup (iD h)), y5, y6, y7]) (tw, st.set n (.td (tdK (is.foldl (gadd h c) s).1), v'))) →
    W (forL (gP 5 6) grIn (gD is) [.val (.hnd n), a1, a2, .own (xT s.2), .val (.tup (iD h)), x5, x6, x7] (tw, st.set n (.td (tdK s.1), v))) Q
  | [], s, x5, x6, x7, v, _, _, _, _, _, q => w_fnil (q x5 x6 x7 v)
  | i :: is, s, x5, x6, x7, v, hi, hm, hk, b1, b2, q => by
    have h18 := hi i (List.mem_cons_self ..)
    have hx := apL_x i h18
    rw [List.length_cons] at b1 b2
    refine w_fcons rfl ?_
    unfold grIn
    refine w_seq (w_asg (w_call (w_evcons (w_var rfl (w_evcons (w_var rfl (w_evnil (w_eq (thenX hh hx) (nx_nx ?_)))))))))
    dsimp only [List.set]
    refine w_if (w_mmin (n := n) rfl rfl (at_set hn) (intK_iD _) ?_)
    rw [tdK_dec, Bool.true_xor]
    refine bl_i ⟨fun z => ?_, fun z => ?_⟩
    · have z : thn h (apL i) ∉ s.1.map (·.1) := fun k => by rw [decide_eq_true k] at z; cases z
      have e : gadd h c s i = (s.1 ++ [(thn h (apL i), c ++ [i])], s.2 ++ [thn h (apL i)]) := by unfold gadd; rw [if_neg z]
      refine w_seq (w_mset (n := n) rfl rfl (intK_iD _) ?_)
      refine w_bin (w_mmix (n := n) rfl rfl (at_set hn) (intK_iD _) (tdK_look hm) ?_)
      rw [hk]
      refine w_tup (w_evcons (w_var rfl (w_evnil (w_addT (by rw [cD_len, sizeL]; show c.length + 1 ≤ _; omega) ?_))))
      refine ⟨_, _, at_set hn, by rw [tdK_len]; omega, fun k => z (tdK_mem.mp k), nx_nx ?_⟩
      refine w_app rfl (w_var rfl ⟨by rw [xT_len, sizeL]; omega, ?_⟩)
      dsimp only [List.set]
      have e1 : tdK s.1 ++ [(kI (thn h (apL i)), D.tup (cD c ++ [gk i]))] = tdK (gadd h c s i).1 := by
        rw [e, tdK_app]
        show _ = tdK s.1 ++ [(kI (thn h (apL i)), D.tup (cD (c ++ [i])))]
        rw [cD_app]; rfl
      have e2 : xT s.2 ++ [D.tup (iD (thn h (apL i)))] = xT (gadd h c s i).2 := by rw [e, xT_app]; rfl
      rw [e1, e2, List.set_set]
      refine nx_nx ?_
      refine w_grIn hn hh hc (fun j hj => hi j (List.mem_cons_of_mem _ hj)) ?_ ?_ ?_ ?_ q
      · rw [e]
        show h ∈ (s.1 ++ [(thn h (apL i), c ++ [i])]).map (·.1)
        rw [List.map_append]
        exact List.mem_append_left _ hm
      · rw [e, ← hk]
        exact lk_app hm
      · rw [e]
        show (s.1 ++ [_]).length + is.length < 1000000
        rw [List.length_append]
        show s.1.length + 1 + is.length < 1000000
        omega
      · rw [e]
        show (s.2 ++ [_]).length + is.length < 1000000
        rw [List.length_append]
        show s.2.length + 1 + is.length < 1000000
        omega
    · have z : thn h (apL i) ∈ s.1.map (·.1) := of_decide_eq_true (by revert z; cases decide (thn h (apL i) ∈ s.1.map (·.1)) <;> decide)
      have e : gadd h c s i = s := by unfold gadd; rw [if_pos z]
      refine w_nil (nx_nx ?_)
      refine w_grIn hn hh hc (fun j hj => hi j (List.mem_cons_of_mem _ hj)) hm hk (by omega) (by omega) ?_
      rw [List.foldl_cons, e] at q
      exact q
theorem gadd_len (h c : List Nat) (s : Ent × List (List Nat)) (i : Nat) : (gadd h c s i).1.length ≤ s.1.length + 1 ∧ (gadd h c s i).2.length ≤ s.2.length + 1 := by
  unfold gadd
  split
  · omega
  · constructor <;> (show (_ ++ [_]).length ≤ _; rw [List.length_append]; exact Nat.le_refl _)
theorem gadds_len (h c : List Nat) : ∀ (is : List Nat) (s : Ent × List (List Nat)), (is.foldl (gadd h c) s).1.length ≤ s.1.length + is.length ∧ (is.foldl (gadd h c) s).2.length ≤ s.2.length + is.length
  | [], s => ⟨Nat.le_refl _, Nat.le_refl _⟩
  | i :: is, s => by
    obtain ⟨a1, a2⟩ := gadd_len h c s i
    obtain ⟨b1, b2⟩ := gadds_len h c is (gadd h c s i)
    rw [List.foldl_cons, List.length_cons]
    omega
theorem gI_len (m : Nat) : (gI m).length ≤ 18 := by
  unfold gI
  exact Nat.le_trans (List.length_filter_le _ _) (by rw [List.length_range]; exact Nat.le_refl _)
theorem w_grOut {m n : Nat} {st : Sto} (hn : n < st.length) {a1 : SV} {L0 : Ent} {lev : List (List Nat)} (hc : ∀ q ∈ L0, q.2.length ≤ 100000) (hk : ∀ h ∈ lev, h ∈ L0.map (·.1)) (hx : ∀ h ∈ lev, IsX h) {tw : Option (Int × List (Int × Int))} {Q : Fl → Tn → Prop} : ∀ {hs : List (List Nat)} {s : Ent × List (List Nat)} {x4 x5 x6 x7 : SV} {v : Nat}, (∀ h ∈ hs, h ∈ lev) → GI m L0 lev s → s.1.length + 18 * hs.length < 900000 → s.2.length + 18 * hs.length < 900000 →
    (∀ y4 y5 y6 y7 v', Q (.nx [.val (.hnd n), a1, .val (.lst (gD (gI m))), .own (xT (hs.foldl (growH (gI m)) s).2), y4, y5, y6, y7]) (tw, st.set n (.td (tdK (hs.foldl (growH (gI m)) s).1), v'))) →
    W (forL (gN 4) (sFor (itSeq (eVar 2)) (gP 5 6) grIn) (xT hs) [.val (.hnd n), a1, .val (.lst (gD (gI m))), .own (xT s.2), x4, x5, x6, x7] (tw, st.set n (.td (tdK s.1), v))) Q
  | [], s, x4, x5, x6, x7, v, _, _, _, _, q => w_fnil (q x4 x5 x6 x7 v)
  | h :: hs, s, x4, x5, x6, x7, v, hl, g, b1, b2, q => by
    have hh := hl h (List.mem_cons_self ..)
    obtain ⟨e1, e2⟩ := g.lk (hk h hh)
    obtain ⟨E, e3, _⟩ := g.app
    have hm : h ∈ s.1.map (·.1) := by rw [e3, List.map_append]; exact List.mem_append_left _ (hk h hh)
    have g18 := gI_len m
    rw [List.length_cons] at b1 b2
    refine w_fcons rfl ?_
    dsimp only [List.set]
    refine w_for (w_itSeq (w_var rfl (sq_l ?_)))
    refine w_grIn hn (hx h hh) (hc _ e2) (fun i hi => (mem_gI'.mp hi).1) hm e1 (by omega) (by omega) fun y5 y6 y7 v' => nx_nx ?_
    have g1 := (GI.adds hh e2 (is := gI m) (fun _ h => h) g).1
    obtain ⟨l1, l2⟩ := gadds_len h (lk L0 h) (gI m) s
    refine w_grOut hn hc hk hx (hs := hs) (s := (gI m).foldl (gadd h (lk L0 h)) s) (fun k hk' => hl k (List.mem_cons_of_mem _ hk')) g1 (by omega) (by omega) ?_
    intro y4 y5 y6 y7 v'
    have := q y4 y5 y6 y7 v'
    rw [List.foldl_cons] at this
    have e4 : growH (gI m) s h = (gI m).foldl (gadd h (lk L0 h)) s := by unfold growH; rw [e1]
    rw [e4] at this
    exact this
theorem w_grown {m n : Nat} {st : Sto} (hn : n < st.length) {L : Ent} {lev : List (List Nat)} (nd : (L.map (·.1)).Nodup) (hc : ∀ q ∈ L, q.2.length ≤ 100000) (hk : ∀ h ∈ lev, h ∈ L.map (·.1)) (hx : ∀ h ∈ lev, IsX h) (hb : L.length + 18 * lev.length < 900000) {tw : Option (Int × List (Int × Int))} {v : Nat} {Q : D → Tn → Prop}
    (q : ∀ v', Q (.lst (xT (growL (gI m) lev L).2)) (tw, st.set n (.td (tdK (growL (gI m) lev L).1), v'))) :
    W (f_grown [.hnd n, .lst (xT lev), .lst (gD (gI m))] (tw, st.set n (.td (tdK L), v))) Q := by
  unfold f_grown
  with_reducible refine w_fn ?_
  rw [show slots0 8 [D.hnd n, .lst (xT lev), .lst (gD (gI m))] = [.val (.hnd n), .val (.lst (xT lev)), .val (.lst (gD (gI m))), .un, .un, .un, .un, .un] from rfl]
  unfold b_grown
  refine w_seq (w_own (w_lst (w_evnil (ls_l (nx_nx ?_)))))
  dsimp only [List.set]
  refine w_seq (w_for (w_itSeq (w_var rfl (sq_l ?_))))
  refine w_grOut (s := (L, [])) hn hc hk hx (fun _ h => h) ⟨⟨[], (List.append_nil _).symm, rfl⟩, nd, fun q hq => .inl hq⟩ hb (by show 0 + 18 * lev.length < 900000; omega) fun y4 y5 y6 y7 v' => nx_nx ?_
  refine w_frz rfl ?_
  dsimp only [List.set]
  refine w_sret (w_var rfl (nx_ret ?_))
  exact q v'
end BL
set_option Elab.async false
set_option linter.all false
set_option maxRecDepth 100000
set_option maxHeartbeats 2000000
namespace BL
open PySem BG L2
local macro_rules | `(tactic| infer_instance) => `(tactic| first | (with_reducible first | refine w_seq ?_ | refine w_asg ?_ | refine w_asgP ?_ | refine pr_i ?_ | refine w_eqI ?_ | refine w_neI ?_ | refine w_own ?_ | refine w_par ?_ | refine w_parO ?_ | refine w_expr ?_ | refine w_if ?_ | refine w_sret ?_ | refine w_nil ?_ | refine w_for ?_ | refine w_bin ?_ | refine w_un ?_ | refine w_tup ?_ | refine w_lst ?_ | refine w_call ?_ | refine w_and ?_ | refine w_or ?_ | refine w_ife ?_ | refine w_chain ?_ | refine w_slice ?_ | refine w_oN ?_ | refine w_oS ?_ | refine w_comp ?_ | refine w_itSeq ?_ | refine w_itR ?_ | refine w_evnil ?_ | refine w_evcons ?_ | refine w_evc1 ?_ | refine w_evc0 ?_ | refine w_c ?_ | refine nx_nx ?_ | refine nx_ret ?_ | refine bl_i ?_ | refine in_i ?_ | refine sq_t ?_ | refine sq_l ?_ | refine ls_l ?_ | refine tp_t ?_ | refine w_not ?_ | refine w_addI ?_ | refine w_sub ?_ | refine w_xor ?_ | refine w_ltI ?_ | refine w_leI ?_ | refine w_gtI ?_ | refine w_geI ?_ | refine w_slT ?_ | refine w_slL ?_ | refine w_lenT ?_ | refine w_lenL ?_ | refine w_lenS ?_ | refine w_tupL ?_ | refine w_tupT ?_ | refine w_lstL ?_ | refine w_lstT ?_ | refine w_neg ?_ | refine w_isn ?_ | refine w_isnn ?_ | refine w_begun ?_ | refine w_ret ?_ | refine w_resE ?_) | (with_reducible refine w_var (by with_unfolding_all rfl) ?_) | (with_reducible refine w_peekV (by with_unfolding_all rfl) ?_) | (with_reducible refine w_peekO (by with_unfolding_all rfl) ?_) | (with_reducible refine w_app (by with_unfolding_all rfl) ?_) | (with_reducible refine w_frz (by with_unfolding_all rfl) ?_) | (with_reducible refine w_scr (by with_unfolding_all rfl) ?_) | (with_reducible refine w_tc (by with_unfolding_all rfl) ?_) | (with_reducible refine w_stc (by with_unfolding_all rfl) ?_) | (with_reducible refine w_tr (by with_unfolding_all rfl) ?_) | (with_reducible refine w_str (by with_unfolding_all rfl) ?_) | (with_reducible refine w_idxT (by with_unfolding_all rfl) ?_) | (with_reducible refine w_idxL (by with_unfolding_all rfl) ?_) | (with_reducible refine w_isi (by with_unfolding_all rfl) ?_) | ((with_reducible first | refine w_addT ?_ ?_ | refine w_addL ?_ ?_ | refine w_mulI ?_ ?_ | refine w_mulT ?_ ?_ | refine w_mulL ?_ ?_ | refine w_mod ?_ ?_ | refine w_div ?_ ?_ | refine w_pow ?_ ?_ | refine w_rng ?_ ?_); (first | decide | omega | (refine ⟨?_, ?_⟩ <;> omega) | (refine ⟨?_, ?_, ?_⟩ <;> omega) | (simp only [List.length_cons, List.length_nil, List.length_append, List.length_reverse, BL.cD_len, BL.iD_len, BL.mkx_len, BL.sizeL]; omega) | (refine ⟨List.cons_ne_nil _ _, ?_⟩; simp only [List.length_cons, List.length_nil]; omega))) | ((with_reducible first | refine w_eqD ?_ ?_ ?_ | refine w_neD ?_ ?_ ?_ | refine w_inT ?_ ?_ ?_ | refine w_inL ?_ ?_ ?_); (first | rfl | with_unfolding_all rfl); (first | rfl | with_unfolding_all rfl)) | ((with_reducible refine ift_of ?_ ?_); (with_unfolding_all rfl)) | ((with_reducible refine iff_of ?_ ?_); (with_unfolding_all rfl)) | ((with_reducible refine ift2_of ?_ ?_); (with_unfolding_all rfl)) | ((with_reducible refine iff2_of ?_ ?_); (with_unfolding_all rfl)) | ((with_reducible refine ift_of ?_ ?_); exact decide_eq_true (by omega)) | ((with_reducible refine iff_of ?_ ?_); exact decide_eq_false (by omega)) | ((with_reducible refine ift2_of ?_ ?_); exact decide_eq_true (by omega)) | ((with_reducible refine iff2_of ?_ ?_); exact decide_eq_false (by omega)))
/-- it raises -/
def Xc {α : Type} (r : Option (Out α)) (Q : Nat → Tn → Prop) : Prop := match r with
  | some (.exc c t) => Q c t
  | _ => False
theorem x_bnd1 {α β : Type} {m : M α} {f : α → M β} {t : Tn} {Q : Nat → Tn → Prop} (h : Xc (m t) Q) : Xc (bnd m f t) Q := by
  unfold bnd
  cases e : m t with
  | none => rw [e] at h; exact h
  | some o =>
    rw [e] at h
    cases o with
    | ok a t' => exact h.elim
    | exc c t' => exact h
theorem x_bnd2 {α β : Type} {m : M α} {f : α → M β} {t : Tn} {Q : Nat → Tn → Prop} (h : W (m t) fun a t' => Xc (f a t') Q) : Xc (bnd m f t) Q := by
  obtain ⟨a, t', e, q⟩ := h.ex
  rw [bnd_ok e]; exact q
theorem x_fn {n : Nat} {body : Stm} {ds : List D} {t : Tn} {Q : Nat → Tn → Prop} (h : Xc (body (slots0 n ds) t) Q) : Xc (fnOf n body ds t) Q := x_bnd1 h
theorem x_seq1 {a b : Stm} {S : Sl} {t : Tn} {Q : Nat → Tn → Prop} (h : Xc (a S t) Q) : Xc (sSeq a b S t) Q := x_bnd1 h
theorem x_if {c : Ex} {a b : Stm} {S : Sl} {t : Tn} {Q : Nat → Tn → Prop} (h : W (c S t) (Bl fun k t1 => (k = true → Xc (a S t1) Q) ∧ (k = false → Xc (b S t1) Q))) : Xc (sIf c a b S t) Q := x_bnd2 (h.mono fun d t1 q => by
  cases d with
  | bl k => cases k with
    | true => exact q.1 rfl
    | false => exact q.2 rfl
  | _ => exact q.elim)
theorem x_raise {c : Nat} {S : Sl} {t : Tn} {Q : Nat → Tn → Prop} (h : Q c t) : Xc (sRaise c S t) Q := h
def leX (f g : List Nat) : Bool := leD (.tup (iD f)) (.tup (iD g))
def sX (l : List (List Nat)) : List (List Nat) := isrt leX l
theorem insr_xT (f : List Nat) : ∀ l : List (List Nat), insr leD (.tup (iD f)) (xT l) = xT (insr leX f l)
  | [] => rfl
  | g :: l => by
    show (if leD (.tup (iD f)) (.tup (iD g)) then D.tup (iD f) :: D.tup (iD g) :: xT l else D.tup (iD g) :: insr leD (.tup (iD f)) (xT l)) = xT (if leX f g then f :: g :: l else g :: insr leX f l)
    rw [insr_xT f l]
    show (if leX f g then _ else _) = _
    cases leX f g <;> rfl
theorem isrt_xT : ∀ l : List (List Nat), isrt leD (xT l) = xT (sX l)
  | [] => rfl
  | f :: l => by
    show insr leD (.tup (iD f)) (isrt leD (xT l)) = xT (insr leX f (isrt leX l))
    rw [isrt_xT l]
    exact insr_xT f (sX l)
theorem sX_mem {f : List Nat} : ∀ {l : List (List Nat)}, f ∈ sX l ↔ f ∈ l
  | [] => Iff.rfl
  | g :: l => by
    show f ∈ insr leX g (isrt leX l) ↔ _
    rw [insr_mem, List.mem_cons]
    exact or_congr Iff.rfl sX_mem
theorem sX_len (l : List (List Nat)) : (sX l).length = l.length := isrt_length leX l
theorem leX_total : PySem.W.TotalLe leX := ⟨fun a b c => leD_total.trans _ _ _, fun a b => leD_total.total _ _⟩
theorem toks_iD : ∀ l : List Nat, PySem.W.keyToksAll (pyA (iD l)) = (l.flatMap fun (w : Nat) => [Sum.inl 1, Sum.inl (w : Int)]) ++ [Sum.inl 0]
  | [] => by unfold iD; simp only [List.map_nil, pyA, PySem.W.keyToksAll, List.flatMap_nil, List.nil_append]
  | w :: l => by
    have ih := toks_iD l
    unfold iD at ih ⊢
    simp only [List.map_cons, pyA, D.py, PySem.W.keyToksAll, PySem.W.keyToks]
    rw [ih, List.flatMap_cons]
    rfl
theorem toks_inj : ∀ {a b : List Nat}, PySem.W.keyToksAll (pyA (iD a)) = PySem.W.keyToksAll (pyA (iD b)) → a = b
  | [], [], _ => rfl
  | [], y :: b, h => by rw [toks_iD, toks_iD] at h; simp at h
  | x :: a, [], h => by rw [toks_iD, toks_iD] at h; simp at h
  | x :: a, y :: b, h => by
    rw [toks_iD, toks_iD, List.flatMap_cons, List.flatMap_cons] at h
    simp only [List.cons_append, List.nil_append, List.cons.injEq, Sum.inl.injEq, true_and] at h
    have e : x = y := by omega
    have e2 : a = b := toks_inj (by rw [toks_iD, toks_iD]; exact h.2)
    rw [e, e2]
theorem leX_anti {f g : List Nat} (h1 : leX f g = true) (h2 : leX g f = true) : f = g := by
  have k : ∀ f g, leX f g = true → (PyProof.Rows.listOrd PyProof.Rows.itemOrd).blt (PySem.W.keyToks (D.tup (iD g)).py) (PySem.W.keyToks (D.tup (iD f)).py) = false := fun f g h => by
    have h : (!(PyProof.Rows.listOrd PyProof.Rows.itemOrd).blt (PySem.W.keyToks (D.tup (iD g)).py) (PySem.W.keyToks (D.tup (iD f)).py)) = true := h
    revert h
    cases (PyProof.Rows.listOrd PyProof.Rows.itemOrd).blt (PySem.W.keyToks (D.tup (iD g)).py) (PySem.W.keyToks (D.tup (iD f)).py) <;> decide
  have e := (PyProof.Rows.listOrd PyProof.Rows.itemOrd).total _ _ (k g f h2) (k f g h1)
  have e : PySem.W.keyToksAll (pyA (iD f)) = PySem.W.keyToksAll (pyA (iD g)) := by
    have e : PySem.W.keyToks (D.tup (iD f)).py = PySem.W.keyToks (D.tup (iD g)).py := e
    simp only [D.py, PySem.W.keyToks] at e
    exact e
  exact toks_inj e
theorem sX_eq {l1 l2 : List (List Nat)} (n1 : l1.Nodup) (n2 : l2.Nodup) (h : ∀ f, f ∈ l1 ↔ f ∈ l2) : sX l1 = sX l2 := by
  have e1 : sX l1 = l2.mergeSort leX := by
    refine PySem.W.sort_unique leX_total (isrt_pair leX leX_total l1) fun c => ?_
    rw [show (sX l1).filter (PySem.W.sameRank leX c) = _ from isrt_filter leX leX_total c l1]
    have one : ∀ l : List (List Nat), l.Nodup → ∀ x ∈ l, PySem.W.sameRank leX c x = true → l.filter (PySem.W.sameRank leX c) = [x] := fun l nd x hx hr => by
      have key : ∀ y ∈ l.filter (PySem.W.sameRank leX c), y = x := fun y hy => by
        obtain ⟨h1, h2⟩ := List.mem_filter.mp hy
        unfold PySem.W.sameRank at h2 hr
        rw [Bool.and_eq_true] at h2 hr
        exact leX_anti (leX_total.trans _ _ _ h2.2 hr.1) (leX_total.trans _ _ _ hr.2 h2.1)
      have ndf : (l.filter (PySem.W.sameRank leX c)).Nodup := nd.filter _
      have hm : x ∈ l.filter (PySem.W.sameRank leX c) := List.mem_filter.mpr ⟨hx, hr⟩
      cases hl : l.filter (PySem.W.sameRank leX c) with
      | nil => rw [hl] at hm; cases hm
      | cons y r =>
        rw [hl] at key ndf
        have e1 := key y (List.mem_cons_self ..)
        cases r with
        | nil => rw [e1]
        | cons z r =>
          have e2 := key z (List.mem_cons_of_mem _ (List.mem_cons_self ..))
          rw [e1, e2] at ndf
          exact absurd (List.mem_cons_self ..) (List.nodup_cons.mp ndf).1
    by_cases z : ∃ x ∈ l1, PySem.W.sameRank leX c x = true
    · obtain ⟨x, hx, hr⟩ := z
      rw [one l1 n1 x hx hr, one l2 n2 x ((h x).mp hx) hr]
    · have e1 : l1.filter (PySem.W.sameRank leX c) = [] := List.filter_eq_nil_iff.mpr fun x hx hr => z ⟨x, hx, hr⟩
      have e2 : l2.filter (PySem.W.sameRank leX c) = [] := List.filter_eq_nil_iff.mpr fun x hx hr => z ⟨x, (h x).mpr hx, hr⟩
      rw [e1, e2]
  rw [e1]
  exact (isrt_merge leX leX_total l2).symm
theorem alike_iD : ∀ {a b : List Nat}, a.length = b.length → PySem.W.alikeAll (pyA (iD a)) (pyA (iD b)) = true
  | [], [], _ => by unfold iD; simp only [List.map_nil, pyA, PySem.W.alikeAll]
  | x :: a, y :: b, h => by
    have ih := alike_iD (a := a) (b := b) (by simpa using h)
    unfold iD at ih ⊢
    simp only [List.map_cons, pyA, D.py, PySem.W.alikeAll, PySem.W.alike]
    rw [ih]; rfl
theorem srtOk_xT {l : List (List Nat)} (hx : ∀ f ∈ l, IsX f) : srtOk (xT l) = true := by
  unfold srtOk
  have h1 : okA (xT l) 60 = true := okA_of fun d hd => by
    obtain ⟨f, _, rfl⟩ := List.mem_map.mp hd
    exact ok_iD f
  have h2 : ((xT l).all fun a => (xT l).all fun b => PySem.W.alike a.py b.py) = true := List.all_eq_true.mpr fun a ha => List.all_eq_true.mpr fun b hb => by
    obtain ⟨f, hf, rfl⟩ := List.mem_map.mp ha
    obtain ⟨g, hg, rfl⟩ := List.mem_map.mp hb
    simp only [D.py, PySem.W.alike]
    exact alike_iD (by rw [(hx f hf).len, (hx g hg).len])
  have h3 : (xT l).all isTupC = true := List.all_eq_true.mpr fun a ha => by
    obtain ⟨f, hf, rfl⟩ := List.mem_map.mp ha
    have := (hx f hf).len
    match f, this with
    | x :: r, _ => rfl
  rw [h1, h2, h3]; rfl
theorem w_srtL {l : List (List Nat)} (hx : ∀ f ∈ l, IsX f) (hl : l.length ≤ 1000000) {t : Tn} {Q : D → Tn → Prop} (h : Q (.lst (xT (sX l))) t) : W (bSortedA (.lst (xT l)) t) Q := by
  show W ((if srtOk (xT l) = true ∧ (xT l).length ≤ 1000000 then ret (.lst (isrt leD (xT l))) else stuck) t) Q
  rw [if_pos ⟨srtOk_xT hx, by rw [xT_len]; exact hl⟩, isrt_xT]
  exact h
theorem w_cmpMP {tg : Tg} {cond elt : Ex} {S : Sl} {t : Tn} {n v : Nat} {o : Ob × Nat} (eo : t.2[n]? = some o) (hv : o.2 = v) {Q : List D → Tn → Prop} (p : D → Bool) (e : D → D) : ∀ {ds : List D}, (∀ d ∈ ds, ∃ S', tg d S = some S' ∧ cond S' = ret (.bl (p d)) ∧ (p d = true → elt S' = ret (e d))) → cmpM n v tg cond elt S ds t = some (.ok ((ds.filter p).map e) t)
  | [], _ => by
    show bnd (verAt n v) (fun _ => ret []) t = _
    rw [bnd_ok (verAt_ok eo hv)]; rfl
  | d :: ds, h => by
    obtain ⟨S', e1, e2, e3⟩ := h d (List.mem_cons_self ..)
    have ih := w_cmpMP eo hv (Q := Q) p e (ds := ds) fun d hd => h d (List.mem_cons_of_mem _ hd)
    show bnd (verAt n v) (fun _ => match tg d S with
      | none => stuck
      | some S' => bnd (calm (cond S')) fun b => match b with
        | .bl true => bnd (calm (elt S')) fun r => bnd (cmpM n v tg cond elt S ds) fun rs => ret (r :: rs)
        | .bl false => cmpM n v tg cond elt S ds
        | _ => stuck) t = _
    rw [bnd_ok (verAt_ok eo hv), e1]
    show bnd (calm (cond S')) _ t = _
    rw [e2]
    cases hp : p d with
    | true =>
      show bnd (calm (elt S')) _ t = _
      rw [e3 hp, List.filter_cons_of_pos hp, List.map_cons]
      show bnd (cmpM n v tg cond elt S ds) _ t = _
      rw [bnd_ok ih]; rfl
    | false =>
      show cmpM n v tg cond elt S ds t = _
      rw [ih, List.filter_cons_of_neg (by rw [hp]; decide)]
theorem w_compM {it : Ob → Option (List D)} {vs : List Nat} {f : Ex} {tg : Tg} {cond elt : Ex} {S : Sl} {t : Tn} {n : Nat} {o : Ob × Nat} {ds : List D} {Q : D → Tn → Prop} (hf : f S = ret (.hnd n)) (eo : t.2[n]? = some o) (ei : it o.1 = some ds) (hl : ds.length ≤ sizeLine) (p : D → Bool) (e : D → D)
    (h : ∀ d ∈ ds, ∃ S', tg d (wipeS S vs) = some S' ∧ cond S' = ret (.bl (p d)) ∧ (p d = true → elt S' = ret (e d))) (q : Q (.lst ((ds.filter p).map e)) t) : W (eCompM it vs f tg cond elt S t) Q := by
  unfold eCompM
  rw [hf, ret_bnd, items_ok eo ei, if_pos hl]
  rw [bnd_ok (w_cmpMP eo rfl (Q := fun _ _ => True) p e h)]
  exact q
def aD (ps : List (Nat × Nat)) : List D := ps.map fun p => D.tup [.int (p.1 : Nat), .int (p.2 : Nat)]
def AOk (ps : List (Nat × Nat)) : Prop := ∀ p ∈ ps, p.1 < 8 ∧ p.2 < 8
def agr (ps : List (Nat × Nat)) (f : List Nat) : Bool := ps.all fun p => decide (BM.fn f p.1 = p.2)
theorem is_answer_tab : (List.range 8).map (fun (a : Nat) => (List.range 8).map fun (b : Nat) => f_is_answer [.tup [.int (a : Int), .int (b : Int)]]) = (List.range 8).map (fun a => (List.range 8).map fun b => ret (.bl true)) := by with_unfolding_all rfl
theorem is_answer_eq {a b : Nat} (ha : a < 8) (hb : b < 8) : f_is_answer [.tup [.int (a : Int), .int (b : Int)]] = ret (.bl true) := map_eq_all (map_eq_all is_answer_tab a (List.mem_range.mpr ha)) b (List.mem_range.mpr hb)
theorem aD_mem {d : D} {ps : List (Nat × Nat)} (h : d ∈ aD ps) : ∃ p ∈ ps, d = .tup [.int (p.1 : Nat), .int (p.2 : Nat)] := by
  obtain ⟨p, hp, e⟩ := List.mem_map.mp h
  exact ⟨p, hp, e.symm⟩
theorem kI_iD (f : List Nat) : (kI f).map D.int = iD f := by unfold kI iD; rw [List.map_map]; rfl
theorem td_items (L : Ent) : itTd (.td (tdK L)) = some (xT (L.map (·.1))) := by
  show some ((tdK L).map fun q => D.tup (q.1.map D.int)) = _
  unfold tdK xT
  rw [List.map_map, List.map_map]
  congr 1
  refine List.map_congr_left fun q _ => ?_
  show D.tup ((kI q.1).map D.int) = D.tup (iD q.1)
  rw [kI_iD]
theorem set_last {st : Sto} {x y : Ob × Nat} : (st ++ [x]).set st.length y = st ++ [y] := by
  rw [List.set_append_right _ _ (Nat.le_refl _), Nat.sub_self]; rfl
theorem bfs_rch {m : Nat} {L : Ent} {lev : List (List Nat)} {d : Nat} (b : Bfs m (List.range 8) L lev d) : ∀ f ∈ L.map (·.1), Rch m f := fun f hf => by
  obtain ⟨q, hq, rfl⟩ := List.mem_map.mp hf
  obtain ⟨h1, h2, _⟩ := b.ok q hq
  rw [h2, (thn_id (mkx_x h1.gs)).2]
  exact rch_wd.mpr ⟨_, h1, rfl⟩
theorem lev_le {m : Nat} {s0 : List Nat} {L : Ent} {lev : List (List Nat)} {d : Nat} (b : Bfs m s0 L lev d) (nd : lev.Nodup) : lev.length ≤ L.length := by
  have := ndl_le nd fun f hf => b.key hf
  rw [List.length_map] at this
  exact this
theorem growL_found {gs : List Nat} {lev : List (List Nat)} {L : Ent} {m : Nat} (hg : gs = gI m) (nd : (L.map (·.1)).Nodup) (hk : ∀ h ∈ lev, h ∈ L.map (·.1)) : (growL gs lev L).1.length = L.length + (growL gs lev L).2.length ∧ (growL gs lev L).2.Nodup ∧ ∃ E, (growL gs lev L).1 = L ++ E ∧ E.map (·.1) = (growL gs lev L).2 := by
  subst hg
  obtain ⟨g, _, _⟩ := GI.levs (m := m) (L0 := L) (lev := lev) hk (hs := lev) (s := (L, [])) (fun _ h => h) ⟨⟨[], (List.append_nil _).symm, rfl⟩, nd, fun q hq => .inl hq⟩
  have g : GI m L lev (growL (gI m) lev L) := g
  obtain ⟨E, e1, e2⟩ := g.app
  have n2 := g.nd
  rw [e1, List.map_append] at n2
  refine ⟨by rw [e1, List.length_append, ← e2, List.length_map], by rw [← e2]; exact (List.nodup_append.mp n2).2.1, E, e1, e2⟩
def whAgr : Nat → Stm := fun N => sWhile N (eTru (eVar 4)) (sAsg 4 (eCall f_grown [(eVar 3), (eVar 4), (eVar 5)]))
theorem w_whAgr {m : Nat} (hm : m ∈ few) {n : Nat} {st : Sto} (hn : n < st.length) {a0 a1 a2 a6 a7 : SV} {tw : Option (Int × List (Int × Int))} {Q : Fl → Tn → Prop}
    (q : ∀ L d v, Bfs m (List.range 8) L [] d → Q (.nx [a0, a1, a2, .val (.hnd n), .val (.lst []), .val (.lst (gD (gI m))), a6, a7]) (tw, st.set n (.td (tdK L), v))) :
    ∀ (N : Nat) {L : Ent} {lev : List (List Nat)} {d v : Nat}, Bfs m (List.range 8) L lev d → lev.Nodup → (lev = [] → 1 ≤ N) → (lev ≠ [] → cnt m + 2 ≤ N + L.length ∧ d + 1 ≤ L.length) →
    W (whAgr N [a0, a1, a2, .val (.hnd n), .val (.lst (xT lev)), .val (.lst (gD (gI m))), a6, a7] (tw, st.set n (.td (tdK L), v))) Q
  | 0, L, lev, d, v, b, nd, h1, h2 => by
    by_cases z : lev = []
    · exact absurd (h1 z) (by decide)
    · have := h2 z
      have l1 := rch_len hm b.nd (bfs_rch b)
      rw [List.length_map] at l1
      omega
  | N + 1, L, lev, d, v, b, nd, h1, h2 => by
    have l1 := rch_len hm b.nd (bfs_rch b)
    rw [List.length_map] at l1
    have c1 := cnt_few m hm
    unfold whAgr sWhile whileL
    refine w_bnd (w_calm ?_)
    have et : ∀ t, eTru (eVar 4) [a0, a1, a2, .val (.hnd n), .val (.lst (xT lev)), .val (.lst (gD (gI m))), a6, a7] t = some (.ok (.bl (!(xT lev).isEmpty)) t) := fun t => rfl
    rw [et]
    cases lev with
    | nil => exact q L d v b
    | cons f fs =>
      obtain ⟨h2, h3⟩ := h2 (fun z => nomatch z)
      have l2 := lev_le b nd
      show W (bnd (calm (sAsg 4 (eCall f_grown [(eVar 3), (eVar 4), (eVar 5)]) _)) _ _) Q
      refine w_bnd (w_calm (w_asg (w_call (w_evcons (w_var rfl (w_evcons (w_var rfl (w_evcons (w_var rfl (w_evnil ?_)))))))))) 
      refine w_grown hn b.nd (fun q hq => ?_) (fun h hh => b.key hh) (fun h hh => b.x same_x (b.key hh)) (by omega) fun v' => ?_
      · have := (b.ok q hq).2.2.1; omega
      · obtain ⟨g1, g2, _⟩ := growL_found (m := m) rfl b.nd (fun h hh => b.key (lev := f :: fs) hh)
        have b2 := b.grow same_x
        dsimp only [List.set]
        show W (whAgr N _ _) Q
        refine w_whAgr hm hn q N b2 g2 (fun z => by omega) fun z => ?_
        have : 0 < (growL (gI m) (f :: fs) L).2.length := List.length_pos_iff.mpr z
        omega
theorem bfs_all {m : Nat} {L : Ent} {d : Nat} (b : Bfs m (List.range 8) L [] d) (f : List Nat) : f ∈ L.map (·.1) ↔ Rch m f := by
  refine ⟨bfs_rch b f, fun r => ?_⟩
  obtain ⟨c, hc, rfl⟩ := rch_wd.mp r
  have := b.closed same_x _ c rfl hc
  rw [(thn_id (mkx_x hc.gs)).2] at this
  exact this
theorem few_kd : ∀ m ∈ few, 1 ≤ m ∧ m < 32 := by decide +kernel
theorem w_gtI {i j : Int} {t : Tn} {Q : D → Tn → Prop} (h : Q (.bl (decide (j < i))) t) : W (pGt (.int i) (.int j) t) Q := h
theorem w_agreeing {m : Nat} (hm : m ∈ few) {ps : List (Nat × Nat)} (hp : AOk ps) (hpl : ps.length ≤ 1000) {t : Tn} {Q : D → Tn → Prop}
    (q : ∀ (ks : List (List Nat)) (more : Sto), ks.Nodup → (∀ f, f ∈ ks ↔ Rch m f) → Q (.lst (xT (sX (ks.filter (agr ps))))) (t.1, t.2 ++ more)) : W (f_agreeing [.tup (kd m), .tup (aD ps)] t) Q := by
  have hk : Kd m := few_kd m hm
  have c1 := cnt_few m hm
  unfold f_agreeing
  with_reducible refine w_fn ?_
  rw [show slots0 8 [D.tup (kd m), D.tup (aD ps)] = [.val (.tup (kd m)), .val (.tup (aD ps)), .un, .un, .un, .un, .un, .un] from rfl]
  unfold b_agreeing
  refine w_seq (w_expr (w_call (w_evcons (w_var rfl (w_evnil (w_eq (check_kinds_eq hk) (nx_nx ?_)))))))
  have h1 : (eBin pGt (eCall f_counted [(eVar 0)]) (eC (.int 1400))) [.val (.tup (kd m)), .val (.tup (aD ps)), .un, .un, .un, .un, .un, .un] = ret (.bl false) := by
    refine eq_of_W fun t => w_bin (w_call (w_evcons (w_var rfl (w_evnil (w_eq (counted_eq hk) (w_c (w_gtI ?_)))))))
    rw [decide_eq_false (by omega)]
    exact ⟨rfl, rfl⟩
  with_reducible refine w_seq (w_eq (rt_if h1) (nx_nx ?_))
  have h2 : (eOr (eUn oNot (eUn (pIsi .tuple) (eVar 1))) (eUn oNot (eUn bAll (eComp [2] (itSeq (eVar 1)) (gN 2) (eC (.bl true)) (eCall f_is_answer [(eVar 2)]))))) [.val (.tup (kd m)), .val (.tup (aD ps)), .un, .un, .un, .un, .un, .un] = ret (.bl false) := by
    refine eq_of_W fun t => ?_
    repeat (first | infer_instance)
    refine ⟨by unfold aD; rw [List.length_map, sizeL]; omega, w_cmpM (fun _ => .bl true) (fun d hd => ?_) ?_⟩
    · obtain ⟨p, hp', rfl⟩ := aD_mem hd
      exact ⟨_, rfl, eq_of_W fun t => w_call (w_evcons (w_var rfl (w_evnil (w_eq (is_answer_eq (hp p hp').1 (hp p hp').2) ⟨rfl, rfl⟩))))⟩
    · have e : bools ((aD ps).map fun _ => D.bl true) = some ((aD ps).map fun _ => true) := bools_map (fun _ => true) (aD ps)
      refine w_allL e ?_
      rw [show ((aD ps).map fun _ => true).all id = true from by rw [List.all_map]; exact List.all_eq_true.mpr fun _ _ => rfl]
      repeat (first | infer_instance)
      exact ⟨rfl, rfl⟩
  with_reducible refine w_seq (w_eq (rt_if h2) (nx_nx ?_))
  refine w_seq (w_par3 (w_mnew (kd := c_SAME) (d := .tup []) (y := kI (List.range 8)) rfl rfl (by with_unfolding_all rfl) ?_))
  refine w_lst (w_evcons (w_c (w_evnil ?_)))
  refine w_call (w_evcons (w_var rfl (w_evnil (w_eq (gates_of_eq hk) ?_))))
  refine nx_nx ?_
  dsimp only [List.set]
  have e0 : D.lst [c_SAME] = .lst (xT [List.range 8]) := by with_unfolding_all rfl
  rw [e0]
  have e1 : (t.1, t.2 ++ [(Ob.td [(kI (List.range 8), D.tup [])], 0)]) = (t.1, (t.2 ++ [(Ob.td [(kI (List.range 8), D.tup [])], 0)]).set t.2.length (.td (tdK [(List.range 8, [])]), 0)) := by rw [set_last]; rfl
  rw [e1]
  refine w_seq ?_
  refine w_whAgr hm (n := t.2.length) (by rw [List.length_append]; exact Nat.lt_succ_self _) (fun L d v b => ?_) 1000000 (Bfs.start same_x) (by simp) (fun z => by decide) fun _ => ⟨by show cnt m + 2 ≤ 1000000 + 1; omega, Nat.le_refl _⟩
  refine nx_nx ?_
  rw [set_last]
  have l1 := rch_len hm b.nd (bfs_rch b)
  rw [List.length_map] at l1
  have xs : ∀ f ∈ L.map (·.1), IsX f := fun f hf => b.x same_x hf
  refine w_sret (w_un (w_compM (n := t.2.length) (o := (.td (tdK L), v)) (ds := xT (L.map (·.1))) rfl (by show (t.2 ++ [_])[t.2.length]? = _; rw [List.getElem?_append_right (Nat.le_refl _), Nat.sub_self]; rfl) (td_items L) (by rw [xT_len, List.length_map, sizeL]; omega) (fun d => match d with | .tup ws => agr ps (match intsD ws with | some ns => ns.map Int.toNat | none => []) | _ => false) id (fun d hd => ?_) ?_))
  · obtain ⟨f, hf, rfl⟩ := List.mem_map.mp hd
    have hx := xs f hf
    refine ⟨_, rfl, eq_of_W fun t => ?_, fun _ => eq_of_W fun t => ?_⟩
    · repeat (first | infer_instance)
      refine ⟨by unfold aD; rw [List.length_map, sizeL]; omega, w_cmpM (fun d => match d with | .tup [.int a, .int b] => .bl (decide (BM.fn f a.toNat = b.toNat)) | _ => .non) (fun d hd => ?_) ?_⟩
      · obtain ⟨p, hp', rfl⟩ := aD_mem hd
        obtain ⟨p1, p2⟩ := hp p hp'
        refine ⟨_, rfl, eq_of_W fun t => ?_⟩
        repeat (first | (with_reducible refine w_idxT (x_at hx p1) ?_) | infer_instance)
        refine ⟨congrArg D.bl ?_, rfl⟩
        rw [Bool.eq_iff_iff, decide_eq_true_iff, decide_eq_true_iff]
        show ((BM.fn f p.1 : Nat) : Int) = (p.2 : Int) ↔ BM.fn f (Int.toNat (p.1 : Int)) = Int.toNat (p.2 : Int)
        rw [Int.toNat_natCast, Int.toNat_natCast]
        omega
      · have e2 : (aD ps).map (fun d => match d with | .tup [.int a, .int b] => D.bl (decide (BM.fn f a.toNat = b.toNat)) | _ => .non) = ps.map fun p => D.bl (decide (BM.fn f p.1 = p.2)) := by
          unfold aD
          rw [List.map_map]
          rfl
        rw [e2]
        refine w_allL (bools_map (fun p : Nat × Nat => decide (BM.fn f p.1 = p.2)) ps) ?_
        refine ⟨congrArg D.bl ?_, rfl⟩
        rw [all_map]
        show agr ps f = agr ps (match intsD (iD f) with | some ns => ns.map Int.toNat | none => [])
        rw [intsD_iD]
        congr 1
        show f = (f.map fun (w : Nat) => (w : Int)).map Int.toNat
        rw [List.map_map]
        exact (List.map_id'' (fun w => Int.toNat_natCast w) f).symm
    · repeat (first | infer_instance)
      exact ⟨rfl, rfl⟩
  have e3 : ((xT (L.map (·.1))).filter fun d => match d with | .tup ws => agr ps (match intsD ws with | some ns => ns.map Int.toNat | none => []) | _ => false).map id = xT ((L.map (·.1)).filter (agr ps)) := by
    rw [List.map_id]
    unfold xT
    rw [List.filter_map]
    congr 1
    refine List.filter_congr fun f _ => ?_
    show agr ps (match intsD (iD f) with | some ns => ns.map Int.toNat | none => []) = agr ps f
    rw [intsD_iD]
    congr 1
    show (f.map fun (w : Nat) => (w : Int)).map Int.toNat = f
    rw [List.map_map]
    exact List.map_id'' (fun w => Int.toNat_natCast w) f
  rw [e3]
  refine w_srtL (fun f hf => xs f (List.mem_filter.mp hf).1) (Nat.le_trans (List.length_filter_le _ _) (by rw [List.length_map]; omega)) ?_
  exact nx_ret (q _ _ b.nd (bfs_all b))
end BL
set_option Elab.async false
set_option linter.all false
set_option maxRecDepth 100000
set_option maxHeartbeats 2000000
namespace BL
open PySem BG L2
theorem w_candidates {m : Nat} (hm : m ∈ few) {ps : List (Nat × Nat)} (hp : AOk ps) (hpl : ps.length ≤ 1000) {t : Tn} {Q : D → Tn → Prop}
    (q : ∀ (ks : List (List Nat)) (more : Sto), ks.Nodup → (∀ f, f ∈ ks ↔ Rch m f) → Q (.tup (xT (sX (ks.filter (agr ps))))) (t.1, t.2 ++ more)) : W (f_candidates [.tup (kd m), .tup (aD ps)] t) Q := by
  unfold f_candidates
  with_reducible refine w_fn ?_
  rw [show slots0 2 [D.tup (kd m), D.tup (aD ps)] = [.val (.tup (kd m)), .val (.tup (aD ps))] from rfl]
  unfold b_candidates
  refine w_sret (w_un (w_call (w_evcons (w_var rfl (w_evcons (w_var rfl (w_evnil ?_)))))))
  refine w_agreeing hm hp hpl fun ks more nd mem => ?_
  exact w_tupL (nx_ret (q ks more nd mem))
def resW (l : List (List Nat)) (w : Nat) : List Nat := l.map fun f => BM.fn f w
def cw (l : List (List Nat)) (w j : Nat) : Int := (cntD (iD (resW l w)) (.int (j : Nat)) : Nat)
def mxv (l : List (List Nat)) (w : Nat) : Int := maxI (cw l w 0) [cw l w 1, cw l w 2, cw l w 3, cw l w 4, cw l w 5, cw l w 6, cw l w 7]
def bestD (l : List (List Nat)) : List D := (List.range 8).map fun (w : Nat) => D.tup [.int (mxv l w), .int (w : Int)]
theorem w_lcnt {a b : Ex} {S : Sl} {t : Tn} {ds : List D} {d : D} {Q : D → Tn → Prop} (ha : a S = ret (.lst ds)) (hb : b S = ret d) (o1 : okA ds 59 = true) (o2 : okD d 60 = true) (h : Q (.int (cntD ds d : Nat)) t) : W (eLM pCnt a b S t) Q := by
  unfold eLM
  rw [ha, ret_bnd]
  show W (bnd (b S) (fun y => pCnt ds y) t) Q
  rw [hb, ret_bnd]
  unfold pCnt
  rw [if_pos ⟨o1, o2⟩]
  exact h
theorem okA_iDn (l : List Nat) : okA (iD l) 59 = true := okA_of fun d hd => by obtain ⟨w, _, rfl⟩ := mem_iD hd; rfl
/-- the greatest count, by any walk over the eight words -/
theorem w_maxC {l : List (List Nat)} {w : Nat} {i j : Nat} {it : Sl → M (List D)} {S : Sl} {t : Tn} {Q : D → Tn → Prop} (hj : j < S.length) (hij : i ≠ j) (hit : it S = ret (iD (List.range 8))) (hi : S[i]? = some (.val (.lst (iD (resW l w))))) (h : Q (.int (mxv l w)) t) :
    W (eUn bMax (eComp [j] it (gN j) (eC (.bl true)) (eLM pCnt (eVar i) (eVar j))) S t) Q := by
  refine w_un (w_comp ?_)
  rw [hit]
  refine ⟨by decide, w_cmpM (fun d => match d with | .int k => .int (cw l w k.toNat) | _ => .non) (fun d hd => ?_) ?_⟩
  · obtain ⟨k, hk, rfl⟩ := mem_iD hd
    have e0 : wipeS S [j] = S.set j .un := rfl
    refine ⟨_, rfl, eq_of_W fun t => ?_⟩
    refine w_lcnt (ds := iD (resW l w)) (d := .int (k : Int)) ?_ ?_ (okA_iDn _) rfl ?_
    · show eVar i (((S.set j .un)).set j (.val (.int (k : Int)))) = _
      unfold eVar
      rw [List.getElem?_set_ne (Ne.symm hij), List.getElem?_set_ne (Ne.symm hij), hi]
    · show eVar j (((S.set j .un)).set j (.val (.int (k : Int)))) = _
      unfold eVar
      rw [List.getElem?_set_self (by rw [List.length_set]; exact hj)]
    · refine ⟨?_, rfl⟩
      show D.int _ = D.int (cw l w (Int.toNat (k : Int)))
      rw [Int.toNat_natCast]; rfl
  · have e : (iD (List.range 8)).map (fun d => match d with | .int k => D.int (cw l w k.toNat) | _ => .non) = [cw l w 0, cw l w 1, cw l w 2, cw l w 3, cw l w 4, cw l w 5, cw l w 6, cw l w 7].map D.int := rfl
    rw [e]
    exact w_max (intsD_map _) h
/-- what the rows tell of a word -/
theorem w_resC {l : List (List Nat)} (hx : ∀ f ∈ l, IsX f) (hl : l.length ≤ 1000000) {w : Nat} (hw : w < 8) {i j k : Nat} {r : D} {S : Sl} {t : Tn} {Q : D → Tn → Prop} (hr : r = .lst (xT l) ∨ r = .tup (xT l)) (hj : j < S.length) (hij : i ≠ j) (hkj : k ≠ j) (hi : S[i]? = some (.val r)) (hk : S[k]? = some (.val (.int (w : Int)))) (h : Q (.lst (iD (resW l w))) t) :
    W (eComp [j] (itSeq (eVar i)) (gN j) (eC (.bl true)) (eBin pIdx (eVar j) (eVar k)) S t) Q := by
  have hsz := sizeL
  refine w_comp ?_
  have e : itSeq (eVar i) S = ret (xT l) := by
    unfold itSeq eVar
    rw [hi]
    rcases hr with rfl | rfl <;> rfl
  rw [e]
  refine ⟨by rw [xT_len]; omega, w_cmpM (fun d => match d with | .tup ds => (match atI ds (w : Int) with | some x => x | none => .non) | _ => .non) (fun d hd => ?_) ?_⟩
  · obtain ⟨f, hf, rfl⟩ := List.mem_map.mp hd
    refine ⟨_, rfl, eq_of_W fun t => ?_⟩
    have g1 : eVar j ((S.set j .un).set j (.val (.tup (iD f)))) = ret (.tup (iD f)) := by
      unfold eVar
      rw [List.getElem?_set_self (by rw [List.length_set]; exact hj)]
    have g2 : eVar k ((S.set j .un).set j (.val (.tup (iD f)))) = ret (.int (w : Int)) := by
      unfold eVar
      rw [List.getElem?_set_ne (Ne.symm hkj), List.getElem?_set_ne (Ne.symm hkj), hk]
    refine w_bin ?_
    show W (eVar j ((S.set j .un).set j (.val (.tup (iD f)))) t) _
    rw [g1]
    show W (eVar k ((S.set j .un).set j (.val (.tup (iD f)))) t) _
    rw [g2]
    refine w_idxT (x_at (hx f hf) hw) ⟨?_, rfl⟩
    show _ = (match atI (iD f) (w : Int) with | some x => x | none => D.non)
    rw [x_at (hx f hf) hw]
  · have e2 : (xT l).map (fun d => match d with | .tup ds => (match atI ds (w : Int) with | some x => x | none => D.non) | _ => .non) = iD (resW l w) := by
      unfold xT iD resW
      rw [List.map_map, List.map_map]
      refine List.map_congr_left fun f hf => ?_
      show (match atI (iD f) (w : Int) with | some x => x | none => D.non) = _
      rw [x_at (hx f hf) hw]; rfl
    rw [e2]
    exact h
theorem minOk_best (l : List (List Nat)) : minOk (bestD l) = true := by
  unfold minOk
  have h1 : okA (bestD l) 60 = true := okA_of fun d hd => by obtain ⟨w, _, rfl⟩ := List.mem_map.mp hd; rfl
  have h2 : ((bestD l).all fun a => (bestD l).all fun b => PySem.W.alike a.py b.py) = true := List.all_eq_true.mpr fun a ha => List.all_eq_true.mpr fun b hb => by
    obtain ⟨w, _, rfl⟩ := List.mem_map.mp ha
    obtain ⟨u, _, rfl⟩ := List.mem_map.mp hb
    simp only [D.py, pyA, PySem.W.alike, PySem.W.alikeAll]
    rfl
  have h3 : (bestD l).all (fun a => !isNone a) = true := List.all_eq_true.mpr fun a ha => by
    obtain ⟨w, _, rfl⟩ := List.mem_map.mp ha
    rfl
  rw [h1, h2, h3]; rfl
theorem bestD_cons (l : List (List Nat)) : bestD l = .tup [.int (mxv l 0), .int 0] :: (bestD l).tail := rfl
/-- the best word's number -/
theorem best_ex (l : List (List Nat)) : ∃ w, w < 8 ∧ minDD (.tup [.int (mxv l 0), .int 0]) (bestD l).tail = .tup [.int (mxv l w), .int ((w : Nat) : Int)] := by
  have h := minDD_mem (bestD l).tail (.tup [.int (mxv l 0), .int 0])
  rw [← bestD_cons] at h
  obtain ⟨w, hw, e⟩ := List.mem_map.mp h
  exact ⟨w, List.mem_range.mp hw, e.symm⟩
noncomputable def bw (l : List (List Nat)) : Nat := Classical.choose (best_ex l)
theorem bw_spec (l : List (List Nat)) : bw l < 8 ∧ minDD (.tup [.int (mxv l 0), .int 0]) (bestD l).tail = .tup [.int (mxv l (bw l)), .int ((bw l : Nat) : Int)] := Classical.choose_spec (best_ex l)
theorem w_minB {l : List (List Nat)} {t : Tn} {Q : D → Tn → Prop} (h : Q (.tup [.int (mxv l (bw l)), .int ((bw l : Nat) : Int)]) t) : W (bMinA (.lst (bestD l)) t) Q := by
  have e := minOk_best l
  rw [bestD_cons] at e ⊢
  show W ((if minOk (.tup [.int (mxv l 0), .int 0] :: (bestD l).tail) = true then ret (minDD (.tup [.int (mxv l 0), .int 0]) (bestD l).tail) else stuck) t) Q
  rw [if_pos e, (bw_spec l).2]
  exact h
theorem bestD_take (l : List (List Nat)) (k : Nat) (hk : k < 8) : (bestD l).take k ++ [D.tup [.int (mxv l k), .int (k : Int)]] = (bestD l).take (k + 1) := by
  have e : (bestD l)[k]? = some (D.tup [.int (mxv l k), .int (k : Int)]) := by unfold bestD; rw [List.getElem?_map, List.getElem?_range hk]; rfl
  rw [List.take_succ, e]; rfl
theorem okX (l : List (List Nat)) : okD (.tup (xT l)) 60 = true ∧ okD (.lst (xT l)) 60 = true := ⟨ok_xT l, ok_xT l⟩
theorem noX : ∀ l : List (List Nat), noblA (xT l) = true := fun l => noblA_of fun d hd => by obtain ⟨f, _, rfl⟩ := List.mem_map.mp hd; exact nobl_iD f
theorem w_eqNil {l : List (List Nat)} {t : Tn} {Q : D → Tn → Prop} (h : Q (.bl l.isEmpty) t) : W (pEq (.lst (xT l)) (.lst []) t) Q := by
  refine w_eqD (okX l).2 rfl ?_
  cases l with
  | nil => exact h
  | cons f l => exact h
/-- best_word, of the rows that agree -/
theorem best_word_is {m : Nat} (hm : m ∈ few) {ps : List (Nat × Nat)} (hp : AOk ps) (hpl : ps.length ≤ 1000) {t : Tn} : ∃ (ks : List (List Nat)) (more : Sto), ks.Nodup ∧ (∀ f, f ∈ ks ↔ Rch m f) ∧
    f_best_word [.tup (kd m), .tup (aD ps)] t = (if sX (ks.filter (agr ps)) = [] then some (.exc 7 (t.1, t.2 ++ more)) else if (sX (ks.filter (agr ps))).length = 1 then some (.ok .non (t.1, t.2 ++ more)) else some (.ok (.int ((bw (sX (ks.filter (agr ps))) : Nat) : Int)) (t.1, t.2 ++ more))) := by
  obtain ⟨r, t', e, ks, more, nd, mem, er, et⟩ : ∃ r t', f_agreeing [.tup (kd m), .tup (aD ps)] t = some (.ok r t') ∧ ∃ (ks : List (List Nat)) (more : Sto), ks.Nodup ∧ (∀ f, f ∈ ks ↔ Rch m f) ∧ r = .lst (xT (sX (ks.filter (agr ps)))) ∧ t' = (t.1, t.2 ++ more) :=
    (w_agreeing hm hp hpl (Q := fun r t' => ∃ (ks : List (List Nat)) (more : Sto), ks.Nodup ∧ (∀ f, f ∈ ks ↔ Rch m f) ∧ r = .lst (xT (sX (ks.filter (agr ps)))) ∧ t' = (t.1, t.2 ++ more)) fun ks more nd mem => ⟨ks, more, nd, mem, rfl, rfl⟩).ex
  subst er et
  have hx : ∀ f ∈ sX (ks.filter (agr ps)), IsX f := fun f hf => ((mem f).mp (List.mem_filter.mp (sX_mem.mp hf)).1).x
  have hl : (sX (ks.filter (agr ps))).length ≤ 1000000 := by
    rw [sX_len]
    have l1 := rch_len hm nd fun f hf => (mem f).mp hf
    have c1 := cnt_few m hm
    exact Nat.le_trans (List.length_filter_le _ _) (by omega)
  refine ⟨ks, more, nd, mem, ?_⟩
  generalize sX (ks.filter (agr ps)) = l at *
  have head : ∀ {P : Option (Out Fl) → Prop}, P (sSeq (sIf (eBin pEq (eVar 2) (eLst [])) (sRaise 7) sNil)
    (sSeq (sIf (eBin pEq (eUn bLen (eVar 2)) (eC (.int 1))) (sRet (eC .non)) sNil)
    (sSeq (sOwn 3 (eLst []))
    (sSeq (sFor (itSeq (eC c_SAME)) (gN 4)
    (sSeq (sAsg 5 (eComp [6] (itSeq (eVar 2)) (gN 6) (eC (.bl true)) (eBin pIdx (eVar 6) (eVar 4))))
    (sApp 3 (eTup [(eUn bMax (eComp [7] (itSeq (eC c_SAME)) (gN 7) (eC (.bl true)) (eLM pCnt (eVar 5) (eVar 7)))), (eVar 4)]))))
    (sRet (eBin pIdx (eUn bMinA (ePeek 3)) (eC (.int 1))))))) [.val (.tup (kd m)), .val (.tup (aD ps)), .val (.lst (xT l)), .un, .un, .un, .un, .un] (t.1, t.2 ++ more)) → P (b_best_word (slots0 8 [.tup (kd m), .tup (aD ps)]) t) := fun {P} h => by
    unfold b_best_word
    have e2 : sAsg 2 (eCall f_agreeing [(eVar 0), (eVar 1)]) (slots0 8 [.tup (kd m), .tup (aD ps)]) t = some (.ok (.nx [.val (.tup (kd m)), .val (.tup (aD ps)), .val (.lst (xT l)), .un, .un, .un, .un, .un]) (t.1, t.2 ++ more)) := by
      show bnd (bnd (evs [(eVar 0), (eVar 1)] (slots0 8 [.tup (kd m), .tup (aD ps)])) fun ds => f_agreeing ds) _ t = _
      have e3 : bnd (evs [(eVar 0), (eVar 1)] (slots0 8 [.tup (kd m), .tup (aD ps)])) (fun ds => f_agreeing ds) t = some (.ok (.lst (xT l)) (t.1, t.2 ++ more)) := e
      rw [bnd_ok e3]; rfl
    unfold sSeq
    rw [bnd_ok e2]
    exact h
  by_cases h0 : l = []
  · rw [if_pos h0]
    have : Xc (f_best_word [.tup (kd m), .tup (aD ps)] t) fun c t' => c = 7 ∧ t' = (t.1, t.2 ++ more) := by
      unfold f_best_word
      refine x_fn (head (P := fun r => Xc r _) ?_)
      refine x_seq1 (x_if (w_bin (w_var rfl (w_lst (w_evnil (w_eqNil ?_))))))
      rw [h0]
      exact ⟨fun _ => x_raise ⟨rfl, rfl⟩, fun z => nomatch z⟩
    cases er : f_best_word [.tup (kd m), .tup (aD ps)] t with
    | none => rw [er] at this; exact this.elim
    | some o =>
      rw [er] at this
      cases o with
      | ok a b => exact this.elim
      | exc c t' => obtain ⟨rfl, rfl⟩ := this; rfl
  · rw [if_neg h0]
    have ne : l.isEmpty = false := by cases l with | nil => exact absurd rfl h0 | cons _ _ => rfl
    have : W (f_best_word [.tup (kd m), .tup (aD ps)] t) fun d t' => d = (if l.length = 1 then .non else .int ((bw l : Nat) : Int)) ∧ t' = (t.1, t.2 ++ more) := by
      unfold f_best_word
      refine w_fn (head (P := fun r => W r _) ?_)
      refine w_seq (w_if (w_bin (w_var rfl (w_lst (w_evnil (w_eqNil ?_))))))
      rw [ne]
      refine ⟨(fun z => nomatch z), fun _ => w_nil (nx_nx ?_)⟩
      refine w_seq (w_if (w_bin (w_un (w_var rfl (w_lenL (w_c (w_eqI ?_)))))))
      rw [xT_len]
      refine ⟨fun z => ?_, fun z => w_nil (nx_nx ?_)⟩
      · have z := of_decide_eq_true z
        refine w_sret (w_c (nx_ret ⟨?_, rfl⟩))
        rw [if_pos (by omega)]
      · have z : ¬ ((l.length : Nat) : Int) = 1 := of_decide_eq_false z
        refine w_seq (w_own (w_lst (w_evnil (ls_l (nx_nx ?_)))))
        dsimp only [List.set]
        refine w_seq (w_for (w_itSeq (w_c ?_)))
        show W (forL (gN 4) _ (iD (List.range 8)) _ _) _
        refine w_forI (fun k S t' => k ≤ 8 ∧ t' = (t.1, t.2 ++ more) ∧ ∃ x4 x5, S = [.val (.tup (kd m)), .val (.tup (aD ps)), .val (.lst (xT l)), .own ((bestD l).take k), x4, x5, .un, .un]) (k := 0) ⟨Nat.zero_le _, rfl, _, _, rfl⟩ (fun i d ed S t' ⟨hk, ht, x4, x5, hS⟩ => ?_) fun S t' ⟨hk, ht, x4, x5, hS⟩ => ?_
        · subst hS ht
          rw [Nat.zero_add] at hk ⊢
          have hi : i < 8 := by
            have := (List.getElem?_eq_some_iff.mp ed).1
            rw [iD_len, List.length_range] at this
            exact this
          have e4 : d = .int (i : Int) := by
            unfold iD at ed
            rw [List.getElem?_map, List.getElem?_range hi] at ed
            exact (Option.some.inj ed).symm
          subst e4
          refine ⟨_, rfl, ?_⟩
          dsimp only [List.set]
          refine w_seq (w_asg (w_resC hx hl hi (r := .lst (xT l)) (.inl rfl) (by show 6 < 8; decide) (by decide) (by decide) rfl rfl (nx_nx ?_)))
          dsimp only [List.set]
          refine w_app rfl (w_tup (w_evcons (w_maxC (l := l) (w := i) (by show 7 < 8; decide) (by decide) (by with_unfolding_all rfl) rfl (w_evcons (w_var rfl (w_evnil ⟨?_, ?_⟩))))))
          · rw [List.length_take, sizeL]; omega
          · dsimp only [List.set]
            rw [bestD_take l i hi]
            exact nx_nx ⟨by omega, rfl, _, _, rfl⟩
        · subst hS ht
          refine nx_nx ?_
          have e5 : (bestD l).take (0 + (iD (List.range 8)).length) = bestD l := rfl
          rw [e5]
          refine w_sret (w_bin (w_un (w_peekO rfl (w_minB (w_c (w_idxT rfl (nx_ret ⟨?_, rfl⟩)))))))
          rw [if_neg (by omega)]
    obtain ⟨d, t', e6, rfl, rfl⟩ := this.ex
    rw [e6]
    by_cases h1 : l.length = 1
    · rw [if_pos h1, if_pos h1]
    · rw [if_neg h1, if_neg h1]
end BL
set_option Elab.async false
set_option linter.all false
set_option maxRecDepth 100000
set_option maxHeartbeats 2000000
namespace K20
open PySem BG BL L2
local macro_rules | `(tactic| infer_instance) => `(tactic| first | (with_reducible first | refine w_seq ?_ | refine w_asg ?_ | refine w_asgP ?_ | refine pr_i ?_ | refine w_eqI ?_ | refine w_neI ?_ | refine w_own ?_ | refine w_par ?_ | refine w_parO ?_ | refine w_expr ?_ | refine w_if ?_ | refine w_sret ?_ | refine w_nil ?_ | refine w_for ?_ | refine w_bin ?_ | refine w_un ?_ | refine w_tup ?_ | refine w_lst ?_ | refine w_call ?_ | refine w_and ?_ | refine w_or ?_ | refine w_ife ?_ | refine w_chain ?_ | refine w_slice ?_ | refine w_oN ?_ | refine w_oS ?_ | refine w_comp ?_ | refine w_itSeq ?_ | refine w_itR ?_ | refine w_evnil ?_ | refine w_evcons ?_ | refine w_evc1 ?_ | refine w_evc0 ?_ | refine w_c ?_ | refine nx_nx ?_ | refine nx_ret ?_ | refine bl_i ?_ | refine in_i ?_ | refine sq_t ?_ | refine sq_l ?_ | refine ls_l ?_ | refine tp_t ?_ | refine w_not ?_ | refine w_addI ?_ | refine w_sub ?_ | refine w_xor ?_ | refine w_ltI ?_ | refine w_leI ?_ | refine w_gtI ?_ | refine w_geI ?_ | refine w_slT ?_ | refine w_slL ?_ | refine w_lenT ?_ | refine w_lenL ?_ | refine w_lenS ?_ | refine w_tupL ?_ | refine w_tupT ?_ | refine w_lstL ?_ | refine w_lstT ?_ | refine w_neg ?_ | refine w_isn ?_ | refine w_isnn ?_ | refine w_begun ?_ | refine w_ret ?_ | refine w_resE ?_) | (with_reducible refine w_var (by with_unfolding_all rfl) ?_) | (with_reducible refine w_peekV (by with_unfolding_all rfl) ?_) | (with_reducible refine w_peekO (by with_unfolding_all rfl) ?_) | (with_reducible refine w_app (by with_unfolding_all rfl) ?_) | (with_reducible refine w_frz (by with_unfolding_all rfl) ?_) | (with_reducible refine w_scr (by with_unfolding_all rfl) ?_) | (with_reducible refine w_tc (by with_unfolding_all rfl) ?_) | (with_reducible refine w_stc (by with_unfolding_all rfl) ?_) | (with_reducible refine w_tr (by with_unfolding_all rfl) ?_) | (with_reducible refine w_str (by with_unfolding_all rfl) ?_) | (with_reducible refine w_idxT (by with_unfolding_all rfl) ?_) | (with_reducible refine w_idxL (by with_unfolding_all rfl) ?_) | (with_reducible refine w_isi (by with_unfolding_all rfl) ?_) | ((with_reducible first | refine w_addT ?_ ?_ | refine w_addL ?_ ?_ | refine w_mulI ?_ ?_ | refine w_mulT ?_ ?_ | refine w_mulL ?_ ?_ | refine w_mod ?_ ?_ | refine w_div ?_ ?_ | refine w_pow ?_ ?_ | refine w_rng ?_ ?_); (first | decide | omega | (refine ⟨?_, ?_⟩ <;> omega) | (refine ⟨?_, ?_, ?_⟩ <;> omega) | (simp only [List.length_cons, List.length_nil, List.length_append, List.length_reverse, BL.cD_len, BL.iD_len, BL.mkx_len, BL.sizeL]; omega) | (refine ⟨List.cons_ne_nil _ _, ?_⟩; simp only [List.length_cons, List.length_nil]; omega))) | ((with_reducible first | refine w_eqD ?_ ?_ ?_ | refine w_neD ?_ ?_ ?_ | refine w_inT ?_ ?_ ?_ | refine w_inL ?_ ?_ ?_); (first | rfl | with_unfolding_all rfl); (first | rfl | with_unfolding_all rfl)) | ((with_reducible refine ift_of ?_ ?_); (with_unfolding_all rfl)) | ((with_reducible refine iff_of ?_ ?_); (with_unfolding_all rfl)) | ((with_reducible refine ift2_of ?_ ?_); (with_unfolding_all rfl)) | ((with_reducible refine iff2_of ?_ ?_); (with_unfolding_all rfl)) | ((with_reducible refine ift_of ?_ ?_); exact decide_eq_true (by omega)) | ((with_reducible refine iff_of ?_ ?_); exact decide_eq_false (by omega)) | ((with_reducible refine ift2_of ?_ ?_); exact decide_eq_true (by omega)) | ((with_reducible refine iff2_of ?_ ?_); exact decide_eq_false (by omega)))
def gX (d : D) : D := match f_law_made [.tup [d]] (none, []) with
  | some (.ok x _) => x
  | _ => .non
theorem made1 {i : Nat} (hi : i < 18) : f_law_made [.tup [gk i]] = ret (.tup (iD (apL i))) := by
  have := law_made_eq (c := [i]) fun j hj => by rw [List.mem_singleton] at hj; rw [hj]; exact hi
  rw [mk1 i hi] at this
  exact this
theorem gX_gk {i : Nat} (hi : i < 18) : gX (gk i) = .tup (iD (apL i)) := by
  unfold gX
  rw [made1 hi]
  rfl
theorem filter_gk {m : Nat} (hm : m < 32) : (gts.filter fun g => inD (kindD g) (kd m)).map gX = xT ((gI m).map apL) := by
  rw [gts_gk, List.filter_map, List.map_map]
  unfold xT gI
  rw [List.map_map]
  have e : (List.range 18).filter ((fun g => inD (kindD g) (kd m)) ∘ gk) = (List.range 18).filter fun i => Nat.testBit m (kg i) := List.filter_congr fun i hi => kg_tab m hm i (List.mem_range.mp hi)
  rw [e]
  refine List.map_congr_left fun i hi => ?_
  exact gX_gk (List.mem_range.mp (List.mem_filter.mp hi).1)
theorem w_law_all {m : Nat} (hm : m ∈ few) (h32 : m < 32) {t : Tn} {Q : D → Tn → Prop} (q : ∀ ks : List (List Nat), ks.Nodup → (∀ f, f ∈ ks ↔ Rch m f) → Q (.lst (xT ks)) t) : W (f_law_all [.tup (kd m)] t) Q := by
  unfold f_law_all
  with_reducible refine w_fn ?_
  rw [show slots0 8 [D.tup (kd m)] = [.val (.tup (kd m)), .un, .un, .un, .un, .un, .un, .un] from rfl]
  unfold b_law_all
  with_reducible refine w_seq ?_
  repeat (first | (with_reducible refine w_eq law_gates_eq ?_) | infer_instance)
  refine ⟨by decide +kernel, w_cmpP (fun g => inD (kindD g) (kd m)) gX (fun g hg => ?_) ?_⟩
  · obtain ⟨k, ls, e, ok, nb⟩ := gts_kind hg
    subst e
    refine ⟨_, rfl, eq_of_W fun t => ?_, fun _ => eq_of_W fun t => ?_⟩
    · repeat (first | (with_reducible refine w_idxT atI_zero ?_) | infer_instance)
      have ok2 : okD (.str k) 60 = true := by
        have : (okD (.str k) 19 && okA ls 19) = true := ok
        rw [Bool.and_eq_true] at this
        exact okD_le (by decide) this.1
      refine w_inT ok2 (okA_le (by decide) (ks_ok m h32).1) ?_
      exact ⟨rfl, rfl⟩
    · obtain ⟨i, hi, e⟩ : ∃ i, i < 18 ∧ D.tup (.str k :: ls) = gk i := by
        rw [gts_gk] at hg
        obtain ⟨i, hi, e⟩ := List.mem_map.mp hg
        exact ⟨i, List.mem_range.mp hi, e.symm⟩
      rw [e]
      repeat (first | (with_reducible refine w_eq (made1 hi) ?_) | infer_instance)
      exact ⟨(gX_gk hi).symm, rfl⟩
  rw [filter_gk h32]
  with_reducible refine nx_nx ?_
  dsimp only [List.set]
  generalize hg : D.lst (xT ((gI m).map apL)) = gs
  have e1 : ∀ s0 : SV, sTNew 3 (eUn bTuple (eUn pRng (eC (.int 8)))) (eC (.bl true)) [s0, .val gs, .un, .un, .un, .un, .un, .un] = ret (.nx [s0, .val gs, .un, .dcT (kT [List.range 8]), .un, .un, .un, .un]) := fun _ => rfl
  have e2 : ∀ s0 : SV, sOwn 4 (eTList 3) [s0, .val gs, .un, .dcT (kT [List.range 8]), .un, .un, .un, .un] = ret (.nx [s0, .val gs, .un, .dcT (kT [List.range 8]), .own (xT [List.range 8]), .un, .un, .un]) := fun _ => rfl
  with_reducible refine w_seq ?_
  with_reducible refine w_eq (e1 _) ?_
  with_reducible refine nx_nx ?_
  with_reducible refine w_seq ?_
  with_reducible refine w_eq (e2 _) ?_
  with_reducible refine nx_nx ?_
  subst hg
  with_reducible refine w_seq ?_
  refine w_whAll hm fun ks y2 y5 y6 y7 nd mem => ?_
  with_reducible refine nx_nx ?_
  have l1 := rch_len hm nd fun f hf => (mem f).mp hf
  have c1 := cnt_few m hm
  have e3 : ∀ (s0 s1 s2 s4 s5 s6 s7 : SV), eTList 3 [s0, s1, s2, .dcT (kT ks), s4, s5, s6, s7] = ret (.lst (xT ks)) := fun _ _ _ _ _ _ _ => by
    show (if (kT ks).length < 1000000 then ret (D.lst ((kT ks).map fun q => D.tup (q.1.map D.int))) else stuck) = _
    rw [if_pos (by unfold kT; rw [List.length_map]; omega)]
    congr 2
    unfold kT xT
    rw [List.map_map]
    refine List.map_congr_left fun f _ => ?_
    show D.tup ((kI f).map D.int) = _
    rw [kI_iD]
  refine w_sret ?_
  with_reducible refine w_eq (e3 _ _ _ _ _ _ _) ?_
  exact nx_ret (q ks nd mem)
def fewK : List Nat := [4, 16, 8, 1, 20, 24, 17, 2, 12, 6, 9]
theorem fewK_few : ∀ m ∈ fewK, m ∈ few := by decide +kernel
theorem fewK_tab : fewK.map (fun m => D.tup (kd m)) = [.tup [.str "not"], .tup [.str "swap"], .tup [.str "pick"], .tup [.str "both"], .tup [.str "not", .str "swap"], .tup [.str "pick", .str "swap"], .tup [.str "both", .str "swap"], .tup [.str "if"], .tup [.str "not", .str "pick"], .tup [.str "if", .str "not"], .tup [.str "both", .str "pick"]] := by with_unfolding_all rfl
theorem w_few {ns : List Int} {st : Sto} {t : Tn} {Q : D → Tn → Prop} (hl : ns.length ≤ 63) (ht : TOk st t) (hQ : ∀ m t', m ∈ fewK → TOk st t' → Q (.tup (kd m)) t') : W (f_law_few [.scr ns, .town] t) Q := by
  unfold f_law_few
  with_reducible refine w_fn ?_
  rw [show slots0 3 [D.scr ns, D.town] = [.val (.scr ns), .val .town, .un] from rfl]
  unfold b_law_few
  repeat (first | infer_instance)
  refine w_draw hl ht (by decide) (by decide) fun z t1 z0 z1 ht1 => ?_
  have e : atI (fewK.map fun m => D.tup (kd m)) z = some (.tup (kd (fewK.getD z.toNat 0))) := by
    have hz : z.toNat < fewK.length := by show z.toNat < 11; omega
    have := atI_nat (xs := fewK.map fun m => D.tup (kd m)) (n := z.toNat) (x := .tup (kd (fewK.getD z.toNat 0))) (by
      rw [List.getElem?_map, List.getElem?_eq_getElem hz, List.getD_eq_getElem?_getD, List.getElem?_eq_getElem hz]; rfl)
    rw [Int.toNat_of_nonneg z0] at this
    exact this
  rw [fewK_tab] at e
  refine w_idxT e (nx_ret (hQ _ _ ?_ ht1))
  have hz : z.toNat < fewK.length := by show z.toNat < 11; omega
  rw [List.getD_eq_getElem?_getD, List.getElem?_eq_getElem hz]
  exact List.getElem_mem hz
def oddA : List D := [.non, .lst [], .tup [.tup [.int 0]], .tup [.tup [.int 0, .int 8]], .tup [.tup [.int (-1), .int 0]], .tup [.tup [.int 0, .bl true]], .tup [.int 0, .int 0], .tup [.lst [.int 0, .int 0]]]
theorem odd_tab : fewK.map (fun m => oddA.map fun d => f_agreeing [.tup (kd m), d]) = fewK.map (fun m => oddA.map fun d => raise 7) := by with_unfolding_all rfl
theorem odd_cand {m : Nat} (hm : m ∈ fewK) {d : D} (hd : d ∈ oddA) : f_candidates [.tup (kd m), d] = raise 7 := by
  have e := map_eq_all (map_eq_all odd_tab m hm) d hd
  unfold f_candidates b_candidates
  show bnd (bnd (bnd (f_agreeing [.tup (kd m), d]) _) _) _ = _
  rw [e]; rfl
theorem odd_best {m : Nat} (hm : m ∈ fewK) {d : D} (hd : d ∈ oddA) : f_best_word [.tup (kd m), d] = raise 7 := by
  have e := map_eq_all (map_eq_all odd_tab m hm) d hd
  unfold f_best_word b_best_word
  show bnd (bnd (bnd (f_agreeing [.tup (kd m), d]) _) _) _ = _
  rw [e]; rfl
theorem deed_no (F : Fn) (h : F = f_candidates ∨ F = f_best_word) : F [.tup [.str "not", .str "if"], .non] = raise 5 ∧ F [.tup [.str "both", .str "if"], .non] = raise 9 ∧ F [.tup [.str "both", .str "not"], .tup []] = raise 9 := by
  rcases h with rfl | rfl
  · exact ⟨by with_unfolding_all rfl, by with_unfolding_all rfl, by with_unfolding_all rfl⟩
  · exact ⟨by with_unfolding_all rfl, by with_unfolding_all rfl, by with_unfolding_all rfl⟩
theorem w_callX {nm : Nat → Str} {al : Nat → Bool} {i : Nat} {a : Addr} {Fs : List (Addr × Fn)} {F : Fn} {fs : List Ex} {ds : List D} {S : Sl} {t : Tn} {c : Nat} {Q : D → Tn → Prop} (e1 : S[i]? = some (.raw (.ref a))) (e2 : fnAt a Fs = some F) (e3 : evs fs S = ret ds) (e4 : F ds = raise c) (ha : al c = true) (h : Q (.tup [.str (nm c)]) t) : W (eRes nm al (eCallR i Fs fs) S t) Q := by
  show W (eResM nm al (eCallR i Fs fs S) t) Q
  have e : eCallR i Fs fs S = raise c := by
    unfold eCallR
    rw [e1]
    show (match fnAt a Fs with | some F => eCall F fs S | none => stuck) = _
    rw [e2]
    show bnd (evs fs S) (fun ds => F ds) = _
    rw [e3, ret_bnd, e4]
  exact w_rmX e ha h
theorem w_ffcons {i : Nat} {body : Stm} {a : Addr} {as : List Addr} {S : Sl} {t : Tn} {Q : Fl → Tn → Prop} (h : W (body (S.set i (.raw (.ref a))) t) (Nx (fun S2 t2 => W (forF i body as S2 t2) Q) fun d t2 => Q (.ret d) t2)) : W (forF i body (a :: as) S t) Q :=
  w_bnd (w_calm (h.mono fun fl t1 q => by cases fl with | ret v => exact q | nx S2 => exact q))
theorem sX_filter {ks ks' : List (List Nat)} {m : Nat} (n1 : ks.Nodup) (n2 : ks'.Nodup) (h1 : ∀ f, f ∈ ks ↔ Rch m f) (h2 : ∀ f, f ∈ ks' ↔ Rch m f) (p : List Nat → Bool) : sX (ks.filter p) = sX (ks'.filter p) :=
  sX_eq (n1.filter _) (n2.filter _) fun f => by rw [List.mem_filter, List.mem_filter, h1, h2]
theorem w_eqLN {ds : List D} {t : Tn} {Q : D → Tn → Prop} (ho : okA ds 59 = true) (h : Q (.bl ds.isEmpty) t) : W (pEq (.lst ds) (.lst []) t) Q := by
  refine w_eqD (show okA ds 59 = true from ho) rfl ?_
  cases ds with
  | nil => exact h
  | cons f l => exact h
theorem law_true (A : Nat → Addr) (ns : List Int) (hl : ns.length ≤ 63) : ∃ t', f_law A [.scr ns] (none, []) = some (.ok (.bl true) t') := by
  refine law_of ?_
  have hsz := sizeL
  unfold f_law
  with_reducible refine w_fn ?_
  rw [show slots0 18 [D.scr ns] = [.val (.scr ns), .un, .un, .un, .un, .un, .un, .un, .un, .un, .un, .un, .un, .un, .un, .un, .un, .un] from rfl]
  unfold b_law
  refine w_seq (w_asg (w_call (w_evnil (w_lbegun (nx_nx ?_)))))
  dsimp only [List.set]
  refine w_seq (w_for (w_itR (w_c (in_i ⟨by decide, by decide, ?_⟩))))
  refine w_forC (fun S t => ∃ st x2 x3 x4 x5 x6 x7 x8 x9 x10 x11 x12 x13, S = [.val (.scr ns), .val .town, x2, x3, x4, x5, x6, x7, x8, x9, x10, x11, x12, x13, .un, .un, .un, .un] ∧ TOk st t) ⟨_, _, _, _, _, _, _, _, _, _, _, _, _, rfl, .begun⟩ (fun k hk S t ⟨st, x2, x3, x4, x5, x6, x7, x8, x9, x10, x11, x12, x13, hS, ht⟩ => ?_) fun S t ⟨st, x2, x3, x4, x5, x6, x7, x8, x9, x10, x11, x12, x13, hS, ht⟩ => ?_
  · subst hS
    refine ⟨_, rfl, ?_⟩
    dsimp only [List.set]
    refine w_seq (w_asg (w_call (w_evcons (w_var rfl (w_evcons (w_var rfl (w_evnil ?_)))))))
    refine w_few hl ht fun m t1 hmK ht1 => ?_
    have hm := fewK_few m hmK
    have hK : Kd m := few_kd m hm
    have c1 := cnt_few m hm
    refine nx_nx ?_
    dsimp only [List.set]
    refine w_seq (w_asg (w_call (w_evcons (w_var rfl (w_evnil ?_)))))
    refine w_law_all hm hK.2 fun ks nd mem => ?_
    refine nx_nx ?_
    dsimp only [List.set]
    have lks := rch_cnt hm nd mem
    have hpos : 0 < ks.length := List.length_pos_iff.mpr fun z => by
      have := (mem (List.range 8)).mpr .same
      rw [z] at this; cases this
    -- the goal
    refine w_seq (w_asg (w_bin (w_var rfl (w_call (w_evcons (w_var rfl (w_evcons (w_var rfl (w_evcons (w_un (w_var rfl (w_lenL (w_evnil ?_)))))))))))))
    rw [xT_len]
    refine w_draw hl ht1 (by omega) (by omega) fun z t2 z0 z1 ht2 => ?_
    obtain ⟨f, hf, ef⟩ : ∃ f, f ∈ ks ∧ atI (xT ks) z = some (.tup (iD f)) := by
      have hz : z.toNat < ks.length := by omega
      refine ⟨ks[z.toNat], List.getElem_mem hz, ?_⟩
      have := atI_nat (xs := xT ks) (n := z.toNat) (x := .tup (iD ks[z.toNat])) (by unfold xT; rw [List.getElem?_map, List.getElem?_eq_getElem hz]; rfl)
      rw [Int.toNat_of_nonneg z0] at this
      exact this
    have hfx : IsX f := ((mem f).mp hf).x
    refine w_idxL ef (nx_nx ?_)
    dsimp only [List.set]
    -- what is asked
    refine w_seq (w_asg (w_comp (w_itR (w_call (w_evcons (w_var rfl (w_evcons (w_var rfl (w_evcons (w_c (w_evnil ?_))))))))))) 
    refine w_draw hl ht2 (by decide) (by decide) fun n t3 n0 n1 ht3 => in_i ⟨n0, by omega, ?_⟩
    refine ⟨by unfold rng; rw [List.length_map, List.length_range]; omega, ?_⟩
    refine w_cmpL (T := TOk st) (R := fun _ r => ∃ w : Nat, w < 8 ∧ r = .int (w : Int)) ht3 (fun d hd t ht => ⟨_, rfl, rfl, ?_⟩) fun rs t4 ht4 hlen hR => ?_
    · refine w_call (w_evcons (w_var rfl (w_evcons (w_var rfl (w_evcons (w_c (w_evnil ?_)))))))
      refine w_draw hl ht (by decide) (by decide) fun r t' r0 r1 ht' => ⟨ht', ?_⟩
      obtain ⟨r, rfl⟩ := nat_of r0
      exact ⟨r, by omega, rfl⟩
    obtain ⟨ws, hws, rfl⟩ : ∃ ws : List Nat, (∀ w ∈ ws, w < 8) ∧ rs = iD ws := by
      have h2 : ∀ r ∈ rs, ∃ w : Nat, w < 8 ∧ r = .int (w : Int) := fun r hr => by
        obtain ⟨i, hi, e⟩ := List.getElem_of_mem hr
        have hd : i < (rng n.toNat).length := by omega
        exact hR i _ r (List.getElem?_eq_getElem hd) (by rw [List.getElem?_eq_getElem hi, e])
      have go : ∀ l : List D, (∀ r ∈ l, ∃ w : Nat, w < 8 ∧ r = .int (w : Int)) → ∃ ws : List Nat, (∀ w ∈ ws, w < 8) ∧ l = iD ws := by
        intro l
        induction l with
        | nil => exact fun _ => ⟨[], (fun _ h => nomatch h), rfl⟩
        | cons r l ih =>
          intro h
          obtain ⟨w, hw, rfl⟩ := h r (List.mem_cons_self ..)
          obtain ⟨ws, h1, rfl⟩ := ih fun r hr => h r (List.mem_cons_of_mem _ hr)
          exact ⟨w :: ws, fun u hu => (List.mem_cons.mp hu).elim (fun e => by rw [e]; exact hw) (h1 u), rfl⟩
      exact go rs h2
    have lws : ws.length ≤ 3 := by
      rw [iD_len] at hlen
      unfold rng at hlen
      rw [List.length_map, List.length_range] at hlen
      omega
    refine nx_nx ?_
    dsimp only [List.set]
    refine w_seq (w_asg (w_un (w_comp (w_itSeq (w_var rfl (sq_l ⟨by rw [iD_len]; omega, ?_⟩))))))
    refine w_cmpM (fun d => match d with | .int a => .tup [.int a, .int (BM.fn f a.toNat : Nat)] | _ => .non) (fun d hd => ?_) ?_
    · obtain ⟨w, hw, rfl⟩ := mem_iD hd
      refine ⟨_, rfl, eq_of_W fun t => ?_⟩
      refine w_tup (w_evcons (w_var rfl (w_evcons (w_bin (w_var rfl (w_var rfl (w_idxT (x_at hfx (hws w hw)) (w_evnil ⟨?_, rfl⟩))))))))
      show _ = D.tup [.int (w : Int), .int ((BM.fn f (Int.toNat (w : Int)) : Nat) : Int)]
      rw [Int.toNat_natCast]
    have e1 : (iD ws).map (fun d => match d with | .int a => D.tup [.int a, .int (BM.fn f a.toNat : Nat)] | _ => .non) = aD (ws.map fun w => (w, BM.fn f w)) := by
      unfold iD aD
      rw [List.map_map, List.map_map]
      refine List.map_congr_left fun w _ => ?_
      show D.tup [.int (w : Int), .int ((BM.fn f (Int.toNat (w : Int)) : Nat) : Int)] = _
      rw [Int.toNat_natCast]; rfl
    rw [e1]
    refine w_tupL (nx_nx ?_)
    dsimp only [List.set]
    have hps : AOk (ws.map fun w => (w, BM.fn f w)) := fun p hp => by
      obtain ⟨w, hw, rfl⟩ := List.mem_map.mp hp
      exact ⟨hws w hw, fx_lt hfx (hws w hw)⟩
    have lps : (ws.map fun w => (w, BM.fn f w)).length ≤ 3 := by rw [List.length_map]; exact lws
    generalize (ws.map fun w => (w, BM.fn f w)) = ps0 at *
    -- perhaps one answer more
    refine w_seq ?_
    have step : ∀ {Q : Fl → Tn → Prop}, (∀ ps t', AOk ps → ps.length ≤ 4 → TOk st t' → Q (.nx [.val (.scr ns), .val .town, .val k, .val (.tup (kd m)), .val (.lst (xT ks)), .val (.tup (iD f)), .val (.lst (iD ws)), .val (.tup (aD ps)), x8, x9, x10, x11, x12, x13, .un, .un, .un, .un]) t') →
        W ((sIf (eBin pEq (eCall f_law_draw [(eVar 0), (eVar 1), (eC (.int 4))]) (eC (.int 0))) (sAsg 7 (eBin pAdd (ePeek 7) (eTup [(eTup [(eCall f_law_draw [(eVar 0), (eVar 1), (eC (.int 8))]), (eCall f_law_draw [(eVar 0), (eVar 1), (eC (.int 8))])])]))) sNil) [.val (.scr ns), .val .town, .val k, .val (.tup (kd m)), .val (.lst (xT ks)), .val (.tup (iD f)), .val (.lst (iD ws)), .val (.tup (aD ps0)), x8, x9, x10, x11, x12, x13, .un, .un, .un, .un] t4) Q := fun {Q} hQ => by
      refine w_if (w_bin (w_call (w_evcons (w_var rfl (w_evcons (w_var rfl (w_evcons (w_c (w_evnil ?_)))))))))
      refine w_draw hl ht4 (by decide) (by decide) fun a t5 a0 a1 ht5 => w_c (w_eqI (bl_i ⟨fun _ => ?_, fun _ => w_nil (hQ ps0 t5 hps (by omega) ht5)⟩))
      refine w_asg (w_bin (w_peekV rfl (w_tup (w_evcons (w_tup (w_evcons (w_call (w_evcons (w_var rfl (w_evcons (w_var rfl (w_evcons (w_c (w_evnil ?_))))))))))))))
      refine w_draw hl ht5 (by decide) (by decide) fun b t6 b0 b1 ht6 => ?_
      refine w_evcons (w_call (w_evcons (w_var rfl (w_evcons (w_var rfl (w_evcons (w_c (w_evnil ?_))))))))
      refine w_draw hl ht6 (by decide) (by decide) fun c t7 c0 c1 ht7 => ?_
      obtain ⟨b, rfl⟩ := nat_of b0
      obtain ⟨c, rfl⟩ := nat_of c0
      have la : (aD ps0).length = ps0.length := List.length_map _
      refine w_evnil (w_evnil (w_addT (by rw [la]; show ps0.length + 1 ≤ _; omega) ?_))
      have e2 : aD ps0 ++ [D.tup [.int (b : Int), .int (c : Int)]] = aD (ps0 ++ [(b, c)]) := by unfold aD; rw [List.map_append]; rfl
      rw [e2]
      exact hQ _ t7 (fun p hp => (List.mem_append.mp hp).elim (hps p) fun hp => by rw [List.mem_singleton] at hp; subst hp; exact ⟨by show b < 8; omega, by show c < 8; omega⟩) (by rw [List.length_append]; show ps0.length + 1 ≤ 4; omega) ht7
    refine step fun ps t5 hps lps ht5 => ?_
    refine nx_nx ?_
    -- due
    have la : (aD ps).length = ps.length := List.length_map _
    have xs : ∀ g ∈ ks, IsX g := fun g hg => ((mem g).mp hg).x
    refine w_seq (w_asg (w_un (w_un (w_comp (w_itSeq (w_var rfl (sq_l ⟨by rw [xT_len]; omega, ?_⟩)))))))
    refine w_cmpP (fun d => match d with | .tup ws => agr ps (match intsD ws with | some ns => ns.map Int.toNat | none => []) | _ => false) id (fun d hd => ?_) ?_
    · obtain ⟨g, hg, rfl⟩ := List.mem_map.mp hd
      have hx := xs g hg
      refine ⟨_, rfl, eq_of_W fun t => ?_, fun _ => eq_of_W fun t => w_var rfl ⟨rfl, rfl⟩⟩
      refine w_bin (w_comp (w_itSeq (w_peekV rfl (sq_t ⟨by rw [la]; omega, ?_⟩))))
      refine w_cmpP (fun d => match d with | .tup [.int a, .int b] => !decide (BM.fn g a.toNat = b.toNat) | _ => false) (fun _ => .int 1) (fun d hd => ?_) ?_
      · obtain ⟨p, hp', rfl⟩ := aD_mem hd
        obtain ⟨p1, p2⟩ := hps p hp'
        refine ⟨_, rfl, eq_of_W fun t => ?_, fun _ => eq_of_W fun t => w_c ⟨rfl, rfl⟩⟩
        refine w_bin (w_bin (w_var rfl (w_var rfl (w_idxT (x_at hx p1) (w_var rfl (w_neI ⟨congrArg D.bl ?_, rfl⟩))))))
        show decide (((BM.fn g p.1 : Nat) : Int) ≠ (p.2 : Int)) = !decide (BM.fn g (Int.toNat (p.1 : Int)) = Int.toNat (p.2 : Int))
        rw [Int.toNat_natCast, Int.toNat_natCast, Bool.eq_iff_iff, decide_eq_true_iff, Bool.not_eq_true', decide_eq_false_iff_not]
        omega
      · refine w_lst (w_evnil (w_eqLN (okA_of fun d hd => ?_) ⟨congrArg D.bl ?_, rfl⟩))
        · obtain ⟨_, _, rfl⟩ := List.mem_map.mp hd; rfl
        · show _ = agr ps (match intsD (iD g) with | some ns => ns.map Int.toNat | none => [])
          rw [intsD_iD]
          show _ = agr ps ((g.map fun (w : Nat) => (w : Int)).map Int.toNat)
          rw [List.map_map, List.map_id'' (f := Int.toNat ∘ fun (w : Nat) => (w : Int)) (fun w => Int.toNat_natCast w) g, List.isEmpty_map]
          have e3 : (aD ps).filter (fun d => match d with | .tup [.int a, .int b] => !decide (BM.fn g a.toNat = b.toNat) | _ => false) = aD (ps.filter fun p => !decide (BM.fn g p.1 = p.2)) := by
            unfold aD
            rw [List.filter_map]
            rfl
          rw [e3]
          unfold aD agr
          rw [List.isEmpty_map, Bool.eq_iff_iff, List.isEmpty_iff, List.filter_eq_nil_iff, List.all_eq_true]
          exact ⟨fun h p hp => by have := h p hp; revert this; cases decide (BM.fn g p.1 = p.2) <;> decide, fun h p hp => by rw [h p hp]; decide⟩
    have e3 : ((xT ks).filter fun d => match d with | .tup ws => agr ps (match intsD ws with | some ns => ns.map Int.toNat | none => []) | _ => false).map id = xT (ks.filter (agr ps)) := by
      rw [List.map_id]
      unfold xT
      rw [List.filter_map]
      congr 1
      refine List.filter_congr fun f _ => ?_
      show agr ps (match intsD (iD f) with | some ns => ns.map Int.toNat | none => []) = agr ps f
      rw [intsD_iD]
      congr 1
      show (f.map fun (w : Nat) => (w : Int)).map Int.toNat = f
      rw [List.map_map]
      exact List.map_id'' (fun w => Int.toNat_natCast w) f
    rw [e3]
    have lf : (ks.filter (agr ps)).length ≤ 1400 := Nat.le_trans (List.length_filter_le _ _) (by omega)
    refine w_srtL (fun f hf => xs f (List.mem_filter.mp hf).1) (by omega) (w_tupL (nx_nx ?_))
    dsimp only [List.set]
    -- candidates
    refine w_seq (w_if (w_bin (w_call (w_evc1 (w_evcons (w_var rfl (w_evc0 (w_evcons (w_var rfl (w_evnil ?_))))))))))
    refine w_candidates hm hps (by omega) fun ks2 more nd2 mem2 => ?_
    rw [sX_filter nd2 nd mem2 mem (agr ps)]
    have sx : ∀ f ∈ sX (ks.filter (agr ps)), IsX f := fun f hf => xs f (List.mem_filter.mp (sX_mem.mp hf)).1
    have sl : (sX (ks.filter (agr ps))).length ≤ 1400 := by rw [sX_len]; exact lf
    generalize hdue : sX (ks.filter (agr ps)) = l at *
    refine w_var rfl (w_ne_no rfl (okX l).1 (noX l) (bl_i ⟨(fun z => nomatch z), fun _ => w_nil (nx_nx ?_)⟩))
    have ht6 : TOk (st ++ more) (t5.1, t5.2 ++ more) := by
      obtain ⟨c, rs, e, h1, h2⟩ := ht5.ex
      subst e
      exact ⟨c, rs, rfl, h1, h2⟩
    generalize (t5.1, t5.2 ++ more) = t6 at *
    -- the best
    refine w_seq (w_own (w_lst (w_evnil (ls_l (nx_nx ?_)))))
    dsimp only [List.set]
    refine w_seq (w_for (w_itR (w_c (in_i ⟨by decide, by decide, ?_⟩))))
    show W (forL (gN 10) _ (iD (List.range 8)) _ _) _
    refine w_forI (fun j S t' => j ≤ 8 ∧ t' = t6 ∧ ∃ y10 y13, S = [.val (.scr ns), .val .town, .val k, .val (.tup (kd m)), .val (.lst (xT ks)), .val (.tup (iD f)), .val (.lst (iD ws)), .val (.tup (aD ps)), .val (.tup (xT l)), .own ((bestD l).take j), y10, x11, x12, y13, .un, .un, .un, .un]) (k := 0) ⟨Nat.zero_le _, rfl, _, _, rfl⟩ (fun i d ed S t' ⟨hj, ht', y10, y13, hS⟩ => ?_) fun S t' ⟨hj, ht', y10, y13, hS⟩ => ?_
    · subst hS ht'
      rw [Nat.zero_add] at hj ⊢
      have hi : i < 8 := by
        have := (List.getElem?_eq_some_iff.mp ed).1
        rw [iD_len, List.length_range] at this
        exact this
      have e4 : d = .int (i : Int) := by
        unfold iD at ed
        rw [List.getElem?_map, List.getElem?_range hi] at ed
        exact (Option.some.inj ed).symm
      subst e4
      refine ⟨_, rfl, ?_⟩
      dsimp only [List.set]
      refine w_seq (w_asg (w_resC sx (by omega) hi (r := .tup (xT l)) (.inr rfl) (by show 15 < 18; decide) (by decide) (by decide) rfl rfl (nx_nx ?_)))
      dsimp only [List.set]
      refine w_app rfl (w_tup (w_evcons (w_maxC (l := l) (w := i) (by show 16 < 18; decide) (by decide) (by with_unfolding_all rfl) rfl (w_evcons (w_var rfl (w_evnil ⟨?_, ?_⟩))))))
      · rw [List.length_take, sizeL]; omega
      · dsimp only [List.set]
        rw [bestD_take l i hi]
        exact nx_nx ⟨by omega, rfl, _, _, rfl⟩
    subst hS ht'
    refine nx_nx ?_
    rw [show (bestD l).take (0 + (iD (List.range 8)).length) = bestD l from rfl]
    -- best_word
    obtain ⟨ks3, more2, nd3, mem3, eb⟩ := best_word_is hm hps (show ps.length ≤ 1000 by omega) (t := t')
    rw [sX_filter nd3 nd mem3 mem (agr ps), hdue] at eb
    have ht7 : TOk (st ++ more ++ more2) (t'.1, t'.2 ++ more2) := by
      obtain ⟨c, rs, e, h1, h2⟩ := ht6.ex
      subst e
      exact ⟨c, rs, rfl, h1, h2⟩
    have hfound : ∀ {Q : D → Tn → Prop}, Q (if l = [] then .tup [.str "answers"] else if l.length = 1 then .tup [.str "returns", .non] else .tup [.str "returns", .int ((bw l : Nat) : Int)]) (t'.1, t'.2 ++ more2) → W (eResM resNm al12 (f_best_word [.tup (kd m), .tup (aD ps)]) t') Q := fun {Q} h => by
      unfold eResM
      rw [eb]
      by_cases h0 : l = []
      · rw [if_pos h0] at h ⊢; exact h
      · rw [if_neg h0] at h ⊢
        by_cases h1 : l.length = 1
        · rw [if_pos h1] at h ⊢; exact h
        · rw [if_neg h1] at h ⊢; exact h
    refine w_seq (w_asg (w_resE (w_evc1 (w_evcons (w_var rfl (w_evc0 (w_evcons (w_var rfl (w_evnil (hfound (nx_nx ?_)))))))))))
    dsimp only [List.set]
    generalize (t'.1, t'.2 ++ more2) = t7 at *
    have lx : (xT l).length = l.length := xT_len l
    have q1 : (eOr (eAnd (eBin pEq (eVar 8) (eTup [])) (eBin pNe (eVar 11) (eTup [(eC (.str "answers"))]))) (eAnd (eBin pEq (eUn bLen (eVar 8)) (eC (.int 1))) (eBin pNe (eVar 11) (eTup [(eC (.str "returns")), (eC .non)])))) [.val (.scr ns), .val .town, .val k, .val (.tup (kd m)), .val (.lst (xT ks)), .val (.tup (iD f)), .val (.lst (iD ws)), .val (.tup (aD ps)), .val (.tup (xT l)), .own (bestD l), y10, .val (if l = [] then .tup [.str "answers"] else if l.length = 1 then .tup [.str "returns", .non] else .tup [.str "returns", .int ((bw l : Nat) : Int)]), x12, y13, .un, .un, .un, .un] = ret (.bl false) := by
      have e0 : ∀ {t : Tn} {Q : D → Tn → Prop}, Q (.bl l.isEmpty) t → W (pEq (.tup (xT l)) (.tup []) t) Q := fun {t Q} h => by
        refine w_eqD (okX l).1 rfl ?_
        cases l with
        | nil => exact h
        | cons f l => exact h
      refine eq_of_W fun t => ?_
      by_cases h0 : l = []
      · subst h0
        with_unfolding_all exact ⟨rfl, rfl⟩
      · rw [if_neg h0]
        have ne : l.isEmpty = false := by cases l with | nil => exact absurd rfl h0 | cons _ _ => rfl
        refine w_or (w_and (w_bin (w_var rfl (w_tup (w_evnil (e0 ?_))))))
        rw [ne]
        refine ⟨(fun z => nomatch z), fun _ => ⟨fun _ => ?_, fun z => nomatch z⟩⟩
        refine w_and (w_bin (w_un (w_var rfl (w_lenT (w_c (w_eqI ?_))))))
        rw [lx]
        refine ⟨fun z => ?_, fun _ => ⟨rfl, rfl⟩⟩
        have z : l.length = 1 := by have := of_decide_eq_true z; omega
        rw [if_pos z]
        refine w_bin (w_var rfl (w_tup (w_evcons (w_c (w_evcons (w_c (w_evnil (w_ne_no (by with_unfolding_all rfl) (by with_unfolding_all rfl) (by with_unfolding_all rfl) ⟨rfl, rfl⟩))))))))
    with_reducible refine w_seq (w_eq (rt_if q1) (nx_nx ?_))
    have q2 : (eAnd (eBin pGt (eUn bLen (eVar 8)) (eC (.int 1))) (eBin pNe (eVar 11) (eTup [(eC (.str "returns")), (eBin pIdx (eUn bMinA (ePeek 9)) (eC (.int 1)))]))) [.val (.scr ns), .val .town, .val k, .val (.tup (kd m)), .val (.lst (xT ks)), .val (.tup (iD f)), .val (.lst (iD ws)), .val (.tup (aD ps)), .val (.tup (xT l)), .own (bestD l), y10, .val (if l = [] then .tup [.str "answers"] else if l.length = 1 then .tup [.str "returns", .non] else .tup [.str "returns", .int ((bw l : Nat) : Int)]), x12, y13, .un, .un, .un, .un] = ret (.bl false) := by
      refine eq_of_W fun t => ?_
      refine w_and (w_bin (w_un (w_var rfl (w_lenT (w_c (BG.w_gtI ?_))))))
      rw [lx]
      refine ⟨fun z => ?_, fun _ => ⟨rfl, rfl⟩⟩
      have z := of_decide_eq_true z
      rw [if_neg (fun h => by rw [h] at z; exact absurd z (by decide)), if_neg (by omega)]
      refine w_bin (w_var rfl (w_tup (w_evcons (w_c (w_evcons (w_bin (w_un (w_peekO rfl (w_minB (w_c (w_idxT rfl (w_evnil (w_ne_no (by with_unfolding_all rfl) (by with_unfolding_all rfl) (by with_unfolding_all rfl) ⟨rfl, rfl⟩))))))))))))) 
    with_reducible refine w_seq (w_eq (rt_if q2) (nx_nx ?_))
    -- odd answers
    refine w_for (w_itSeq ?_)
    have eo : ∀ S : Sl, (eTup [(eC .non), (eLst []), (eTup [(eTup [(eC (.int 0))])]), (eTup [(eTup [(eC (.int 0)), (eC (.int 8))])]), (eTup [(eTup [(eUn pNeg (eC (.int 1))), (eC (.int 0))])]), (eTup [(eTup [(eC (.int 0)), (eC (.bl true))])]), (eTup [(eC (.int 0)), (eC (.int 0))]), (eTup [(eLst [(eC (.int 0)), (eC (.int 0))])])]) S = ret (.tup oddA) := fun _ => rfl
    with_reducible refine w_eq (eo _) (sq_t ?_)
    refine w_forC (fun S t' => ∃ y7 y12, S = [.val (.scr ns), .val .town, .val k, .val (.tup (kd m)), .val (.lst (xT ks)), .val (.tup (iD f)), .val (.lst (iD ws)), y7, .val (.tup (xT l)), .own (bestD l), y10, .val (if l = [] then .tup [.str "answers"] else if l.length = 1 then .tup [.str "returns", .non] else .tup [.str "returns", .int ((bw l : Nat) : Int)]), y12, y13, .un, .un, .un, .un] ∧ t' = t7) ⟨_, _, rfl, rfl⟩ (fun d hd S t' ⟨y7, y12, hS, ht'⟩ => ?_) fun S t' ⟨y7, y12, hS, ht'⟩ => ?_
    · subst hS ht'
      refine ⟨_, rfl, ?_⟩
      dsimp only [List.set]
      have r1 := odd_cand hmK hd
      have r2 := odd_best hmK hd
      repeat (first | (with_reducible refine w_rA r1 ?_) | (with_reducible refine w_rA r2 ?_) | infer_instance | ((with_reducible first | refine and_lt ?_ ?_ | refine and_le ?_ ?_ | refine and_ri ?_ ?_ ?_); (first | decide | omega | (simp only [List.length_cons, List.length_nil, List.length_append, List.length_reverse, List.length_map, BL.cD_len, BL.iD_len, BL.mkx_len, BL.sizeL]; omega)); (try (show _ < (2 : Int) ^ 62); (first | decide | omega | (simp only [List.length_cons, List.length_nil, List.length_append, List.length_reverse, List.length_map, BL.cD_len, BL.iD_len, BL.mkx_len, BL.sizeL]; omega)))) | ((with_reducible refine w_fcons rfl ?_); (try dsimp only [List.set])) | (with_reducible refine w_fnil ?_))
      exact ⟨_, _, rfl, rfl⟩
    · subst hS ht'
      exact ⟨_, _, _, _, _, _, _, _, _, _, _, _, _, rfl, ht7⟩
  · subst hS
    refine nx_nx ?_
    have turn : ∀ (a : Addr) (S7 S17 : SV) {Q : Fl → Tn → Prop} (ha : a = A 0 ∨ a = A 1), (∀ y7, Q (.nx [.val (.scr ns), .val .town, x2, x3, x4, x5, x6, y7, x8, x9, x10, x11, x12, x13, .un, .un, .un, .raw (.ref a)]) t) →
        W ((sSeq (sOwn 7 (eLst [(eRes resNm al12 (eCallR 17 [(A 0, f_candidates), (A 1, f_best_word)] [(eTup [(eC (.str "not")), (eC (.str "if"))]), (eC .non)]))]))
          (sSeq (sApp 7 (eRes resNm al12 (eCallR 17 [(A 0, f_candidates), (A 1, f_best_word)] [(eTup [(eC (.str "both")), (eC (.str "if"))]), (eC .non)])))
          (sIf (eBin pNe (eBin pAdd (ePeek 7) (eLst [(eRes resNm al12 (eCallR 17 [(A 0, f_candidates), (A 1, f_best_word)] [(eTup [(eC (.str "both")), (eC (.str "not"))]), (eTup [])]))])) (eLst [(eTup [(eC (.str "kinds"))]), (eTup [(eC (.str "many"))]), (eTup [(eC (.str "many"))])])) (sRet (eC (.bl false))) sNil))) [.val (.scr ns), .val .town, x2, x3, x4, x5, x6, S7, x8, x9, x10, x11, x12, x13, .un, .un, .un, .raw (.ref a)] t) Q := fun a S7 S17 {Q} ha hQ => by
      obtain ⟨F, hF, ef⟩ : ∃ F, (F = f_candidates ∨ F = f_best_word) ∧ fnAt a [(A 0, f_candidates), (A 1, f_best_word)] = some F := by
        unfold fnAt
        by_cases h0 : A 0 = a
        · exact ⟨_, .inl rfl, by rw [if_pos h0]⟩
        · refine ⟨f_best_word, .inr rfl, ?_⟩
          rw [if_neg h0]
          unfold fnAt
          rw [if_pos ((ha.resolve_left fun z => h0 z.symm).symm)]
      obtain ⟨k1, k2, k3⟩ := deed_no F hF
      refine w_seq (w_own (w_lst (w_evcons (w_callX rfl ef rfl k1 rfl (w_evnil (ls_l (nx_nx ?_)))))))
      dsimp only [List.set]
      refine w_seq (w_app rfl (w_callX rfl ef rfl k2 rfl ⟨by decide, nx_nx ?_⟩))
      dsimp only [List.set]
      refine w_if (w_bin (w_bin (w_peekO rfl (w_lst (w_evcons (w_callX rfl ef rfl k3 rfl (w_evnil (w_addL (by decide) ?_))))))))
      repeat (first | infer_instance)
      exact hQ _
    refine w_seq ?_
    unfold sForF
    refine w_ffcons ?_
    dsimp only [List.set]
    refine turn (A 0) _ .un (.inl rfl) fun y7 => nx_nx ?_
    refine w_ffcons ?_
    dsimp only [List.set]
    refine turn (A 1) _ .un (.inr rfl) fun y7 => nx_nx ?_
    refine w_ret (nx_nx ?_)
    exact rfl
end K20
set_option Elab.async false
set_option linter.all false
set_option maxRecDepth 100000
set_option maxHeartbeats 4000000
namespace K20
open PySem PySem.Spec PyProof.Rows L2 BG BL
theorem all_mk {l : PySem.W.OpenLaw} {w : World} {K : PySem.W.Frag} {h : Heap} {mg : Str → Option Value} {fa : Addr} (X : K.In h) (G : h.Ns mainGlobals mg) (hfa : mg "law" = some (.ref fa))
    {od_is_between an_is_between : Option Addr} {sl_is_between : Array (Option Value)} {oc_is_between kV_is_between dc_is_between pm_is_between ct_is_between : Value} {f_a_is_between : Addr}
    {cd_is_between : Value}
    {od_is_ascending an_is_ascending : Option Addr} {sl_is_ascending : Array (Option Value)} {oc_is_ascending kV_is_ascending dc_is_ascending pm_is_ascending ct_is_ascending : Value} {f_a_is_ascending : Addr}
    {cd_is_ascending : Value}
    {od_listed an_listed : Option Addr} {sl_listed : Array (Option Value)} {oc_listed kV_listed dc_listed pm_listed ct_listed : Value} {f_a_listed : Addr}
    {cd_listed : Value}
    {od_weight_of an_weight_of : Option Addr} {sl_weight_of : Array (Option Value)} {oc_weight_of kV_weight_of dc_weight_of pm_weight_of ct_weight_of : Value} {f_a_weight_of : Addr}
    {cd_weight_of : Value}
    {od_bit an_bit : Option Addr} {sl_bit : Array (Option Value)} {oc_bit kV_bit dc_bit pm_bit ct_bit : Value} {f_a_bit : Addr}
    {cd_bit : Value}
    {od_applied an_applied : Option Addr} {sl_applied : Array (Option Value)} {oc_applied kV_applied dc_applied pm_applied ct_applied : Value} {f_a_applied : Addr}
    {cd_applied : Value}
    {od_made an_made : Option Addr} {sl_made : Array (Option Value)} {oc_made kV_made dc_made pm_made ct_made : Value} {f_a_made : Addr}
    {cd_made : Value}
    {od_then an_then : Option Addr} {sl_then : Array (Option Value)} {oc_then kV_then dc_then pm_then ct_then : Value} {f_a_then : Addr}
    {cd_then : Value}
    {od_check_kinds an_check_kinds : Option Addr} {sl_check_kinds : Array (Option Value)} {oc_check_kinds kV_check_kinds dc_check_kinds pm_check_kinds ct_check_kinds : Value} {f_a_check_kinds : Addr}
    {cd_check_kinds : Value}
    {od_counted an_counted : Option Addr} {sl_counted : Array (Option Value)} {oc_counted kV_counted dc_counted pm_counted ct_counted : Value} {f_a_counted : Addr}
    {cd_counted : Value}
    {od_gates_of an_gates_of : Option Addr} {sl_gates_of : Array (Option Value)} {oc_gates_of kV_gates_of dc_gates_of pm_gates_of ct_gates_of : Value} {f_a_gates_of : Addr}
    {cd_gates_of : Value}
    {od_grown an_grown : Option Addr} {sl_grown : Array (Option Value)} {oc_grown kV_grown dc_grown pm_grown ct_grown : Value} {f_a_grown : Addr}
    {cd_grown : Value}
    {od_is_answer an_is_answer : Option Addr} {sl_is_answer : Array (Option Value)} {oc_is_answer kV_is_answer dc_is_answer pm_is_answer ct_is_answer : Value} {f_a_is_answer : Addr}
    {cd_is_answer : Value}
    {od_agreeing an_agreeing : Option Addr} {sl_agreeing : Array (Option Value)} {oc_agreeing kV_agreeing dc_agreeing pm_agreeing ct_agreeing : Value} {f_a_agreeing : Addr}
    {cd_agreeing : Value}
    {od_candidates an_candidates : Option Addr} {sl_candidates : Array (Option Value)} {oc_candidates kV_candidates dc_candidates pm_candidates ct_candidates : Value} {f_a_candidates : Addr}
    {cd_candidates : Value}
    {od_best_word an_best_word : Option Addr} {sl_best_word : Array (Option Value)} {oc_best_word kV_best_word dc_best_word pm_best_word ct_best_word : Value} {f_a_best_word : Addr}
    {cd_best_word : Value}
    {od_law_draw an_law_draw : Option Addr} {sl_law_draw : Array (Option Value)} {oc_law_draw kV_law_draw dc_law_draw pm_law_draw ct_law_draw : Value} {f_a_law_draw : Addr}
    {cd_law_draw : Value}
    {od_law_begun an_law_begun : Option Addr} {sl_law_begun : Array (Option Value)} {oc_law_begun kV_law_begun dc_law_begun pm_law_begun ct_law_begun : Value} {f_a_law_begun : Addr}
    {cd_law_begun : Value}
    {od_law_gates an_law_gates : Option Addr} {sl_law_gates : Array (Option Value)} {oc_law_gates kV_law_gates dc_law_gates pm_law_gates ct_law_gates : Value} {f_a_law_gates : Addr}
    {cd_law_gates : Value}
    {od_law_apply an_law_apply : Option Addr} {sl_law_apply : Array (Option Value)} {oc_law_apply kV_law_apply dc_law_apply pm_law_apply ct_law_apply : Value} {f_a_law_apply : Addr}
    {cd_law_apply : Value}
    {od_law_made an_law_made : Option Addr} {sl_law_made : Array (Option Value)} {oc_law_made kV_law_made dc_law_made pm_law_made ct_law_made : Value} {f_a_law_made : Addr}
    {cd_law_made : Value}
    {od_law_few an_law_few : Option Addr} {sl_law_few : Array (Option Value)} {oc_law_few kV_law_few dc_law_few pm_law_few ct_law_few : Value} {f_a_law_few : Addr}
    {cd_law_few : Value}
    {od_law_all an_law_all : Option Addr} {sl_law_all : Array (Option Value)} {oc_law_all kV_law_all dc_law_all pm_law_all ct_law_all : Value} {f_a_law_all : Addr}
    {cd_law_all : Value}
    {od_law an_law : Option Addr} {sl_law : Array (Option Value)} {oc_law kV_law dc_law pm_law ct_law : Value} {f_a_law : Addr}
    {ca_law P_law : Addr}
    {oo_law : Value} {ox_law : Option Addr} {vs_law : Array Value} {so_law : Array (Option Value)}
    {od_law_result an_law_result : Option Addr} {sl_law_result : Array (Option Value)} {oc_law_result kV_law_result dc_law_result pm_law_result ct_law_result : Value} {f_a_law_result : Addr}
    {cd_law_result : Value}
    {a_cKINDS : Addr} {n_cKINDS : Nat} {sl_cKINDS : Array (Option Value)} {t0_KINDS t1_KINDS t2_KINDS t3_KINDS t4_KINDS : Tok}
    {a_cSAME : Addr} {n_cSAME : Nat} {sl_cSAME : Array (Option Value)} {t0_SAME t1_SAME t2_SAME t3_SAME t4_SAME t5_SAME t6_SAME t7_SAME : Tok}
    {a_GE : Addr}
    {a_eInvalidGate : Addr}
    {a_eInvalidCircuit : Addr}
    {a_eInvalidWord : Addr}
    {a_eInvalidExchange : Addr}
    {a_eInvalidLines : Addr}
    {a_eInvalidFunction : Addr}
    {a_eInvalidText : Addr}
    {a_eEmpty : Addr}
    {a_eNothingToUndo : Addr}
    {a_eInvalidKinds : Addr}
    {a_eInvalidAnswers : Addr}
    {a_eTooMany : Addr}
    (a_is_between : PySem.W.nsIn K mainGlobals "is_between" = some (some (.ref f_a_is_between)))
    (l_is_between : K.lookup f_a_is_between = some ⟨oc_is_between, od_is_between, .func (PySem.W.fnOf "is_between" "is_between" (defArgs s_is_between) (defBody s_is_between) (defScope s_is_between) .none kV_is_between dc_is_between pm_is_between an_is_between cd_is_between ct_is_between), sl_is_between⟩)
    (c_is_between : PySem.W.codeIn K cd_is_between "is_between" = true)
    (k_is_between : PySem.W.keepIn K (.ref f_a_is_between) = true)
    (a_is_ascending : PySem.W.nsIn K mainGlobals "is_ascending" = some (some (.ref f_a_is_ascending)))
    (l_is_ascending : K.lookup f_a_is_ascending = some ⟨oc_is_ascending, od_is_ascending, .func (PySem.W.fnOf "is_ascending" "is_ascending" (defArgs s_is_ascending) (defBody s_is_ascending) (defScope s_is_ascending) .none kV_is_ascending dc_is_ascending pm_is_ascending an_is_ascending cd_is_ascending ct_is_ascending), sl_is_ascending⟩)
    (c_is_ascending : PySem.W.codeIn K cd_is_ascending "is_ascending" = true)
    (k_is_ascending : PySem.W.keepIn K (.ref f_a_is_ascending) = true)
    (a_listed : PySem.W.nsIn K mainGlobals "listed" = some (some (.ref f_a_listed)))
    (l_listed : K.lookup f_a_listed = some ⟨oc_listed, od_listed, .func (PySem.W.fnOf "listed" "listed" (defArgs s_listed) (defBody s_listed) (defScope s_listed) .none kV_listed dc_listed pm_listed an_listed cd_listed ct_listed), sl_listed⟩)
    (c_listed : PySem.W.codeIn K cd_listed "listed" = true)
    (k_listed : PySem.W.keepIn K (.ref f_a_listed) = true)
    (a_weight_of : PySem.W.nsIn K mainGlobals "weight_of" = some (some (.ref f_a_weight_of)))
    (l_weight_of : K.lookup f_a_weight_of = some ⟨oc_weight_of, od_weight_of, .func (PySem.W.fnOf "weight_of" "weight_of" (defArgs s_weight_of) (defBody s_weight_of) (defScope s_weight_of) .none kV_weight_of dc_weight_of pm_weight_of an_weight_of cd_weight_of ct_weight_of), sl_weight_of⟩)
    (c_weight_of : PySem.W.codeIn K cd_weight_of "weight_of" = true)
    (k_weight_of : PySem.W.keepIn K (.ref f_a_weight_of) = true)
    (a_bit : PySem.W.nsIn K mainGlobals "bit" = some (some (.ref f_a_bit)))
    (l_bit : K.lookup f_a_bit = some ⟨oc_bit, od_bit, .func (PySem.W.fnOf "bit" "bit" (defArgs s_bit) (defBody s_bit) (defScope s_bit) .none kV_bit dc_bit pm_bit an_bit cd_bit ct_bit), sl_bit⟩)
    (c_bit : PySem.W.codeIn K cd_bit "bit" = true)
    (k_bit : PySem.W.keepIn K (.ref f_a_bit) = true)
    (a_applied : PySem.W.nsIn K mainGlobals "applied" = some (some (.ref f_a_applied)))
    (l_applied : K.lookup f_a_applied = some ⟨oc_applied, od_applied, .func (PySem.W.fnOf "applied" "applied" (defArgs s_applied) (defBody s_applied) (defScope s_applied) .none kV_applied dc_applied pm_applied an_applied cd_applied ct_applied), sl_applied⟩)
    (c_applied : PySem.W.codeIn K cd_applied "applied" = true)
    (k_applied : PySem.W.keepIn K (.ref f_a_applied) = true)
    (a_made : PySem.W.nsIn K mainGlobals "made" = some (some (.ref f_a_made)))
    (l_made : K.lookup f_a_made = some ⟨oc_made, od_made, .func (PySem.W.fnOf "made" "made" (defArgs s_made) (defBody s_made) (defScope s_made) .none kV_made dc_made pm_made an_made cd_made ct_made), sl_made⟩)
    (c_made : PySem.W.codeIn K cd_made "made" = true)
    (k_made : PySem.W.keepIn K (.ref f_a_made) = true)
    (a_then : PySem.W.nsIn K mainGlobals "then" = some (some (.ref f_a_then)))
    (l_then : K.lookup f_a_then = some ⟨oc_then, od_then, .func (PySem.W.fnOf "then" "then" (defArgs s_then) (defBody s_then) (defScope s_then) .none kV_then dc_then pm_then an_then cd_then ct_then), sl_then⟩)
    (c_then : PySem.W.codeIn K cd_then "then" = true)
    (k_then : PySem.W.keepIn K (.ref f_a_then) = true)
    (a_check_kinds : PySem.W.nsIn K mainGlobals "check_kinds" = some (some (.ref f_a_check_kinds)))
    (l_check_kinds : K.lookup f_a_check_kinds = some ⟨oc_check_kinds, od_check_kinds, .func (PySem.W.fnOf "check_kinds" "check_kinds" (defArgs s_check_kinds) (defBody s_check_kinds) (defScope s_check_kinds) .none kV_check_kinds dc_check_kinds pm_check_kinds an_check_kinds cd_check_kinds ct_check_kinds), sl_check_kinds⟩)
    (c_check_kinds : PySem.W.codeIn K cd_check_kinds "check_kinds" = true)
    (k_check_kinds : PySem.W.keepIn K (.ref f_a_check_kinds) = true)
    (a_counted : PySem.W.nsIn K mainGlobals "counted" = some (some (.ref f_a_counted)))
    (l_counted : K.lookup f_a_counted = some ⟨oc_counted, od_counted, .func (PySem.W.fnOf "counted" "counted" (defArgs s_counted) (defBody s_counted) (defScope s_counted) .none kV_counted dc_counted pm_counted an_counted cd_counted ct_counted), sl_counted⟩)
    (c_counted : PySem.W.codeIn K cd_counted "counted" = true)
    (k_counted : PySem.W.keepIn K (.ref f_a_counted) = true)
    (a_gates_of : PySem.W.nsIn K mainGlobals "gates_of" = some (some (.ref f_a_gates_of)))
    (l_gates_of : K.lookup f_a_gates_of = some ⟨oc_gates_of, od_gates_of, .func (PySem.W.fnOf "gates_of" "gates_of" (defArgs s_gates_of) (defBody s_gates_of) (defScope s_gates_of) .none kV_gates_of dc_gates_of pm_gates_of an_gates_of cd_gates_of ct_gates_of), sl_gates_of⟩)
    (c_gates_of : PySem.W.codeIn K cd_gates_of "gates_of" = true)
    (k_gates_of : PySem.W.keepIn K (.ref f_a_gates_of) = true)
    (a_grown : PySem.W.nsIn K mainGlobals "grown" = some (some (.ref f_a_grown)))
    (l_grown : K.lookup f_a_grown = some ⟨oc_grown, od_grown, .func (PySem.W.fnOf "grown" "grown" (defArgs s_grown) (defBody s_grown) (defScope s_grown) .none kV_grown dc_grown pm_grown an_grown cd_grown ct_grown), sl_grown⟩)
    (c_grown : PySem.W.codeIn K cd_grown "grown" = true)
    (k_grown : PySem.W.keepIn K (.ref f_a_grown) = true)
    (a_is_answer : PySem.W.nsIn K mainGlobals "is_answer" = some (some (.ref f_a_is_answer)))
    (l_is_answer : K.lookup f_a_is_answer = some ⟨oc_is_answer, od_is_answer, .func (PySem.W.fnOf "is_answer" "is_answer" (defArgs s_is_answer) (defBody s_is_answer) (defScope s_is_answer) .none kV_is_answer dc_is_answer pm_is_answer an_is_answer cd_is_answer ct_is_answer), sl_is_answer⟩)
    (c_is_answer : PySem.W.codeIn K cd_is_answer "is_answer" = true)
    (k_is_answer : PySem.W.keepIn K (.ref f_a_is_answer) = true)
    (a_agreeing : PySem.W.nsIn K mainGlobals "agreeing" = some (some (.ref f_a_agreeing)))
    (l_agreeing : K.lookup f_a_agreeing = some ⟨oc_agreeing, od_agreeing, .func (PySem.W.fnOf "agreeing" "agreeing" (defArgs s_agreeing) (defBody s_agreeing) (defScope s_agreeing) .none kV_agreeing dc_agreeing pm_agreeing an_agreeing cd_agreeing ct_agreeing), sl_agreeing⟩)
    (c_agreeing : PySem.W.codeIn K cd_agreeing "agreeing" = true)
    (k_agreeing : PySem.W.keepIn K (.ref f_a_agreeing) = true)
    (a_candidates : PySem.W.nsIn K mainGlobals "candidates" = some (some (.ref f_a_candidates)))
    (l_candidates : K.lookup f_a_candidates = some ⟨oc_candidates, od_candidates, .func (PySem.W.fnOf "candidates" "candidates" (defArgs s_candidates) (defBody s_candidates) (defScope s_candidates) .none kV_candidates dc_candidates pm_candidates an_candidates cd_candidates ct_candidates), sl_candidates⟩)
    (c_candidates : PySem.W.codeIn K cd_candidates "candidates" = true)
    (k_candidates : PySem.W.keepIn K (.ref f_a_candidates) = true)
    (a_best_word : PySem.W.nsIn K mainGlobals "best_word" = some (some (.ref f_a_best_word)))
    (l_best_word : K.lookup f_a_best_word = some ⟨oc_best_word, od_best_word, .func (PySem.W.fnOf "best_word" "best_word" (defArgs s_best_word) (defBody s_best_word) (defScope s_best_word) .none kV_best_word dc_best_word pm_best_word an_best_word cd_best_word ct_best_word), sl_best_word⟩)
    (c_best_word : PySem.W.codeIn K cd_best_word "best_word" = true)
    (k_best_word : PySem.W.keepIn K (.ref f_a_best_word) = true)
    (a_law_draw : PySem.W.nsIn K mainGlobals "_law_draw" = some (some (.ref f_a_law_draw)))
    (l_law_draw : K.lookup f_a_law_draw = some ⟨oc_law_draw, od_law_draw, .func (PySem.W.fnOf "_law_draw" "_law_draw" (defArgs s_law_draw) (defBody s_law_draw) (defScope s_law_draw) .none kV_law_draw dc_law_draw pm_law_draw an_law_draw cd_law_draw ct_law_draw), sl_law_draw⟩)
    (c_law_draw : PySem.W.codeIn K cd_law_draw "_law_draw" = true)
    (k_law_draw : PySem.W.keepIn K (.ref f_a_law_draw) = true)
    (a_law_begun : PySem.W.nsIn K mainGlobals "_law_begun" = some (some (.ref f_a_law_begun)))
    (l_law_begun : K.lookup f_a_law_begun = some ⟨oc_law_begun, od_law_begun, .func (PySem.W.fnOf "_law_begun" "_law_begun" (defArgs s_law_begun) (defBody s_law_begun) (defScope s_law_begun) .none kV_law_begun dc_law_begun pm_law_begun an_law_begun cd_law_begun ct_law_begun), sl_law_begun⟩)
    (c_law_begun : PySem.W.codeIn K cd_law_begun "_law_begun" = true)
    (k_law_begun : PySem.W.keepIn K (.ref f_a_law_begun) = true)
    (a_law_gates : PySem.W.nsIn K mainGlobals "_law_gates" = some (some (.ref f_a_law_gates)))
    (l_law_gates : K.lookup f_a_law_gates = some ⟨oc_law_gates, od_law_gates, .func (PySem.W.fnOf "_law_gates" "_law_gates" (defArgs s_law_gates) (defBody s_law_gates) (defScope s_law_gates) .none kV_law_gates dc_law_gates pm_law_gates an_law_gates cd_law_gates ct_law_gates), sl_law_gates⟩)
    (c_law_gates : PySem.W.codeIn K cd_law_gates "_law_gates" = true)
    (k_law_gates : PySem.W.keepIn K (.ref f_a_law_gates) = true)
    (a_law_apply : PySem.W.nsIn K mainGlobals "_law_apply" = some (some (.ref f_a_law_apply)))
    (l_law_apply : K.lookup f_a_law_apply = some ⟨oc_law_apply, od_law_apply, .func (PySem.W.fnOf "_law_apply" "_law_apply" (defArgs s_law_apply) (defBody s_law_apply) (defScope s_law_apply) .none kV_law_apply dc_law_apply pm_law_apply an_law_apply cd_law_apply ct_law_apply), sl_law_apply⟩)
    (c_law_apply : PySem.W.codeIn K cd_law_apply "_law_apply" = true)
    (k_law_apply : PySem.W.keepIn K (.ref f_a_law_apply) = true)
    (a_law_made : PySem.W.nsIn K mainGlobals "_law_made" = some (some (.ref f_a_law_made)))
    (l_law_made : K.lookup f_a_law_made = some ⟨oc_law_made, od_law_made, .func (PySem.W.fnOf "_law_made" "_law_made" (defArgs s_law_made) (defBody s_law_made) (defScope s_law_made) .none kV_law_made dc_law_made pm_law_made an_law_made cd_law_made ct_law_made), sl_law_made⟩)
    (c_law_made : PySem.W.codeIn K cd_law_made "_law_made" = true)
    (k_law_made : PySem.W.keepIn K (.ref f_a_law_made) = true)
    (a_law_few : PySem.W.nsIn K mainGlobals "_law_few" = some (some (.ref f_a_law_few)))
    (l_law_few : K.lookup f_a_law_few = some ⟨oc_law_few, od_law_few, .func (PySem.W.fnOf "_law_few" "_law_few" (defArgs s_law_few) (defBody s_law_few) (defScope s_law_few) .none kV_law_few dc_law_few pm_law_few an_law_few cd_law_few ct_law_few), sl_law_few⟩)
    (c_law_few : PySem.W.codeIn K cd_law_few "_law_few" = true)
    (k_law_few : PySem.W.keepIn K (.ref f_a_law_few) = true)
    (a_law_all : PySem.W.nsIn K mainGlobals "_law_all" = some (some (.ref f_a_law_all)))
    (l_law_all : K.lookup f_a_law_all = some ⟨oc_law_all, od_law_all, .func (PySem.W.fnOf "_law_all" "_law_all" (defArgs s_law_all) (defBody s_law_all) (defScope s_law_all) .none kV_law_all dc_law_all pm_law_all an_law_all cd_law_all ct_law_all), sl_law_all⟩)
    (c_law_all : PySem.W.codeIn K cd_law_all "_law_all" = true)
    (k_law_all : PySem.W.keepIn K (.ref f_a_law_all) = true)
    (a_law : PySem.W.nsIn K mainGlobals "law" = some (some (.ref f_a_law)))
    (l_law : K.lookup f_a_law = some ⟨oc_law, od_law, .func (PySem.W.fnOf "law" "law" (defArgs s_law) (defBody s_law) (defScope s_law) .none kV_law dc_law pm_law an_law (.ref ca_law) ct_law), sl_law⟩)
    (c_law : PySem.W.codeIn K (.ref ca_law) "law" = true)
    (k_law : PySem.W.keepIn K (.ref f_a_law) = true)
    (g_law : K.lookup ca_law = some ⟨oo_law, ox_law, .fields vs_law, so_law⟩)
    (v_law : vs_law[11]? = some (.ref P_law))
    (n_law : K.lookup P_law = none)
    (tb_law : PySem.W.tabIn K "law" = some (ca_law, P_law) → PySem.W.CodeHd h ca_law P_law ∧ h.get? P_law = some (PySem.W.tabObj #[]))
    (a_law_result : PySem.W.nsIn K mainGlobals "_law_result" = some (some (.ref f_a_law_result)))
    (l_law_result : K.lookup f_a_law_result = some ⟨oc_law_result, od_law_result, .func (PySem.W.fnOf "_law_result" "_law_result" (defArgs s_law_result) (defBody s_law_result) (defScope s_law_result) .none kV_law_result dc_law_result pm_law_result an_law_result cd_law_result ct_law_result), sl_law_result⟩)
    (c_law_result : PySem.W.codeIn K cd_law_result "_law_result" = true)
    (k_law_result : PySem.W.keepIn K (.ref f_a_law_result) = true)
    (z_len : PySem.W.nsIn K mainGlobals "len" = some none)
    (z_all : PySem.W.nsIn K mainGlobals "all" = some none)
    (z_any : PySem.W.nsIn K mainGlobals "any" = some none)
    (z_sum : PySem.W.nsIn K mainGlobals "sum" = some none)
    (z_sorted : PySem.W.nsIn K mainGlobals "sorted" = some none)
    (z_min : PySem.W.nsIn K mainGlobals "min" = some none)
    (z_max : PySem.W.nsIn K mainGlobals "max" = some none)
    (z_isinstance : PySem.W.nsIn K mainGlobals "isinstance" = some none)
    (z_tuple : PySem.W.nsIn K mainGlobals "tuple" = some none)
    (z_list : PySem.W.nsIn K mainGlobals "list" = some none)
    (z_int : PySem.W.nsIn K mainGlobals "int" = some none)
    (z_bool : PySem.W.nsIn K mainGlobals "bool" = some none)
    (z_str : PySem.W.nsIn K mainGlobals "str" = some none)
    (z_range : PySem.W.nsIn K mainGlobals "range" = some none)
    (z_set : PySem.W.nsIn K mainGlobals "set" = some none)
    (z_enumerate : PySem.W.nsIn K mainGlobals "enumerate" = some none)
    (z_zip : PySem.W.nsIn K mainGlobals "zip" = some none)
    (z_dict : PySem.W.nsIn K mainGlobals "dict" = some none)
    (z_abs : PySem.W.nsIn K mainGlobals "abs" = some none)
    (a_cKINDS_ : PySem.W.nsIn K mainGlobals "KINDS" = some (some (.ref a_cKINDS)))
    (l_cKINDS : K.lookup a_cKINDS = some ⟨.type "tuple", none, .seq #[.str "both" t0_KINDS, .str "if" t1_KINDS, .str "not" t2_KINDS, .str "pick" t3_KINDS, .str "swap" t4_KINDS] n_cKINDS, sl_cKINDS⟩)
    (a_cSAME_ : PySem.W.nsIn K mainGlobals "SAME" = some (some (.ref a_cSAME)))
    (l_cSAME : K.lookup a_cSAME = some ⟨.type "tuple", none, .seq #[.int 0 t0_SAME, .int 1 t1_SAME, .int 2 t2_SAME, .int 3 t3_SAME, .int 4 t4_SAME, .int 5 t5_SAME, .int 6 t6_SAME, .int 7 t7_SAME] n_cSAME, sl_cSAME⟩)
    (a_GE_ : PySem.W.nsIn K mainGlobals "GateError" = some (some (.ref a_GE)))
    (z_ValueError : PySem.W.nsIn K mainGlobals "ValueError" = some none)
    (a_eInvalidGate_ : PySem.W.nsIn K mainGlobals "InvalidGate" = some (some (.ref a_eInvalidGate)))
    (a_eInvalidCircuit_ : PySem.W.nsIn K mainGlobals "InvalidCircuit" = some (some (.ref a_eInvalidCircuit)))
    (a_eInvalidWord_ : PySem.W.nsIn K mainGlobals "InvalidWord" = some (some (.ref a_eInvalidWord)))
    (a_eInvalidExchange_ : PySem.W.nsIn K mainGlobals "InvalidExchange" = some (some (.ref a_eInvalidExchange)))
    (a_eInvalidLines_ : PySem.W.nsIn K mainGlobals "InvalidLines" = some (some (.ref a_eInvalidLines)))
    (a_eInvalidFunction_ : PySem.W.nsIn K mainGlobals "InvalidFunction" = some (some (.ref a_eInvalidFunction)))
    (a_eInvalidText_ : PySem.W.nsIn K mainGlobals "InvalidText" = some (some (.ref a_eInvalidText)))
    (a_eEmpty_ : PySem.W.nsIn K mainGlobals "Empty" = some (some (.ref a_eEmpty)))
    (a_eNothingToUndo_ : PySem.W.nsIn K mainGlobals "NothingToUndo" = some (some (.ref a_eNothingToUndo)))
    (a_eInvalidKinds_ : PySem.W.nsIn K mainGlobals "InvalidKinds" = some (some (.ref a_eInvalidKinds)))
    (x_eInvalidKinds : PySem.W.excIn K a_eInvalidKinds [.type "ValueError", .type "Exception", .type "BaseException", .type "object"] "ValueError.__new__" = true)
    (k_eInvalidKinds : PySem.W.keepIn K (.ref a_eInvalidKinds) = true)
    (b_eInvalidKinds : PySem.W.subIn K (.ref a_eInvalidKinds) (.type "BaseException") = true)
    (t_eInvalidKinds : PySem.W.typeIn K (.ref a_eInvalidKinds) = some (.type "type"))
    (a_eInvalidAnswers_ : PySem.W.nsIn K mainGlobals "InvalidAnswers" = some (some (.ref a_eInvalidAnswers)))
    (x_eInvalidAnswers : PySem.W.excIn K a_eInvalidAnswers [.type "ValueError", .type "Exception", .type "BaseException", .type "object"] "ValueError.__new__" = true)
    (k_eInvalidAnswers : PySem.W.keepIn K (.ref a_eInvalidAnswers) = true)
    (b_eInvalidAnswers : PySem.W.subIn K (.ref a_eInvalidAnswers) (.type "BaseException") = true)
    (t_eInvalidAnswers : PySem.W.typeIn K (.ref a_eInvalidAnswers) = some (.type "type"))
    (a_eTooMany_ : PySem.W.nsIn K mainGlobals "TooMany" = some (some (.ref a_eTooMany)))
    (x_eTooMany : PySem.W.excIn K a_eTooMany [.type "ValueError", .type "Exception", .type "BaseException", .type "object"] "ValueError.__new__" = true)
    (k_eTooMany : PySem.W.keepIn K (.ref a_eTooMany) = true)
    (b_eTooMany : PySem.W.subIn K (.ref a_eTooMany) (.type "BaseException") = true)
    (t_eTooMany : PySem.W.typeIn K (.ref a_eTooMany) = some (.type "type"))
    (exok : excOk K a_GE (fun c => match c with | 0 => a_eInvalidGate | 1 => a_eInvalidCircuit | 2 => a_eInvalidWord | 3 => a_eInvalidExchange | 4 => a_eInvalidLines | 5 => a_eInvalidKinds | 6 => a_eInvalidFunction | 7 => a_eInvalidAnswers | 8 => a_eInvalidText | 9 => a_eTooMany | 10 => a_eEmpty | 11 => a_eNothingToUndo | _ => 0) = true) :
    LamX.LawAtS l w K (L2.CX l.prog w) 10 63 "script" mg fa h := by
  have e := hfa.symm.trans (PySem.W.mg_of X G a_law)
  cases e
  have M : Mg K w mg ⟨[(P_law, "law" ++ ".<locals>." ++ "<lambda>")], (fun c => match c with | 0 => a_eInvalidGate | 1 => a_eInvalidCircuit | 2 => a_eInvalidWord | 3 => a_eInvalidExchange | 4 => a_eInvalidLines | 5 => a_eInvalidKinds | 6 => a_eInvalidFunction | 7 => a_eInvalidAnswers | 8 => a_eInvalidText | 9 => a_eTooMany | 10 => a_eEmpty | 11 => a_eNothingToUndo | _ => 0), K, 0⟩ := ⟨⟨PySem.W.mg_none_of X G z_len, PySem.W.mg_none_of X G z_all, PySem.W.mg_none_of X G z_any, PySem.W.mg_none_of X G z_sum, PySem.W.mg_none_of X G z_sorted, PySem.W.mg_none_of X G z_min, PySem.W.mg_none_of X G z_max, PySem.W.mg_none_of X G z_isinstance, PySem.W.mg_none_of X G z_tuple, PySem.W.mg_none_of X G z_list, PySem.W.mg_none_of X G z_int, PySem.W.mg_none_of X G z_bool, PySem.W.mg_none_of X G z_str, PySem.W.mg_none_of X G z_range, PySem.W.mg_none_of X G z_set, PySem.W.mg_none_of X G z_enumerate, PySem.W.mg_none_of X G z_zip, PySem.W.mg_none_of X G z_dict, PySem.W.mg_none_of X G z_abs⟩, rfl, ⟨_, PySem.W.mg_of X G a_cKINDS_, fun g => .tup (xs := [.str "both", .str "if", .str "not", .str "pick", .str "swap"]) (.inr ⟨_, _, _, l_cKINDS, rfl, rfl, Nat.le_of_ble_eq_true rfl, (.cons ⟨_, rfl⟩ (.cons ⟨_, rfl⟩ (.cons ⟨_, rfl⟩ (.cons ⟨_, rfl⟩ (.cons ⟨_, rfl⟩ .nil))))), rfl⟩) (.cons (.str _) (.cons (.str _) (.cons (.str _) (.cons (.str _) (.cons (.str _) .nil)))))⟩, ⟨_, PySem.W.mg_of X G a_cSAME_, fun g => .tup (xs := [.int 0, .int 1, .int 2, .int 3, .int 4, .int 5, .int 6, .int 7]) (.inr ⟨_, _, _, l_cSAME, rfl, rfl, Nat.le_of_ble_eq_true rfl, (.cons ⟨_, rfl⟩ (.cons ⟨_, rfl⟩ (.cons ⟨_, rfl⟩ (.cons ⟨_, rfl⟩ (.cons ⟨_, rfl⟩ (.cons ⟨_, rfl⟩ (.cons ⟨_, rfl⟩ (.cons ⟨_, rfl⟩ .nil)))))))), rfl⟩) (.cons (.int _) (.cons (.int _) (.cons (.int _) (.cons (.int _) (.cons (.int _) (.cons (.int _) (.cons (.int _) (.cons (.int _) .nil))))))))⟩, ⟨PySem.W.mg_of X G a_eInvalidKinds_, x_eInvalidKinds, k_eInvalidKinds, b_eInvalidKinds, t_eInvalidKinds⟩, ⟨PySem.W.mg_of X G a_eInvalidAnswers_, x_eInvalidAnswers, k_eInvalidAnswers, b_eInvalidAnswers, t_eInvalidAnswers⟩, ⟨PySem.W.mg_of X G a_eTooMany_, x_eTooMany, k_eTooMany, b_eTooMany, t_eTooMany⟩⟩
  have R : ResF K mg ⟨[(P_law, "law" ++ ".<locals>." ++ "<lambda>")], (fun c => match c with | 0 => a_eInvalidGate | 1 => a_eInvalidCircuit | 2 => a_eInvalidWord | 3 => a_eInvalidExchange | 4 => a_eInvalidLines | 5 => a_eInvalidKinds | 6 => a_eInvalidFunction | 7 => a_eInvalidAnswers | 8 => a_eInvalidText | 9 => a_eTooMany | 10 => a_eEmpty | 11 => a_eNothingToUndo | _ => 0), K, 0⟩ := ⟨⟨_, _, _, _, _, _, _, _, _, _, _, PySem.W.mg_of X G a_law_result, k_law_result, l_law_result, c_law_result, PySem.W.mg_of X G a_GE_, exok⟩, PySem.W.mg_of X G a_eInvalidGate_, PySem.W.mg_of X G a_eInvalidCircuit_, PySem.W.mg_of X G a_eInvalidWord_, PySem.W.mg_of X G a_eInvalidExchange_, PySem.W.mg_of X G a_eInvalidLines_, PySem.W.mg_of X G a_eInvalidKinds_, PySem.W.mg_of X G a_eInvalidFunction_, PySem.W.mg_of X G a_eInvalidAnswers_, PySem.W.mg_of X G a_eInvalidText_, PySem.W.mg_of X G a_eTooMany_, PySem.W.mg_of X G a_eEmpty_, PySem.W.mg_of X G a_eNothingToUndo_, PySem.W.mg_none_of X G z_ValueError⟩
  have tb_law := tb_law (tabIn_of a_law l_law rfl g_law v_law)
  refine ⟨PySem.W.fnOf "law" "law" (defArgs s_law) (defBody s_law) (defScope s_law) .none kV_law dc_law pm_law an_law (.ref ca_law) ct_law, [(ca_law, P_law)], spLawT K [(P_law, "law" ++ ".<locals>." ++ "<lambda>")], (List.forall_mem_cons.mpr ⟨tb_law.2, (fun _ z => nomatch z)⟩), (List.forall_mem_cons.mpr ⟨n_law, (fun _ z => nomatch z)⟩), (List.forall_mem_cons.mpr ⟨tb_law.1, (fun _ z => nomatch z)⟩), fun s v => .of_eq rfl, fun H a ns hl _ hT hS => ⟨a, ns, rfl, hS, hl, ?_, fun _ => rfl⟩, fun base _ _ TB => ?_⟩
  · exact (List.forall_mem_cons.mpr ⟨LamX.TabS.nil (hT _ (.head _)), (fun _ z => nomatch z)⟩)
  have Lm_law : LamD base mg ⟨[(P_law, "law" ++ ".<locals>." ++ "<lambda>")], (fun c => match c with | 0 => a_eInvalidGate | 1 => a_eInvalidCircuit | 2 => a_eInvalidWord | 3 => a_eInvalidExchange | 4 => a_eInvalidLines | 5 => a_eInvalidKinds | 6 => a_eInvalidFunction | 7 => a_eInvalidAnswers | 8 => a_eInvalidText | 9 => a_eTooMany | 10 => a_eEmpty | 11 => a_eNothingToUndo | _ => 0), K, 0⟩ "law" ca_law := ⟨P_law, TB _ (.head _), (.head _), fun p hp e => by
    simp only [List.mem_cons, List.not_mem_nil, or_false] at hp
    rcases hp with rfl <;> first | rfl | exact absurd e (by assumption) | exact absurd e.symm (by assumption)⟩
  have F_is_between := fun_mk (st := s_is_between) l_is_between c_is_between k_is_between
  have o_is_between := ok_is_between (P := l.prog) (w := w) (base := base) M F_is_between 
  have fd_is_between := Fd.of o_is_between (PySem.W.mg_of X G a_is_between) F_is_between.kp (F_is_between.binds (ps := ["value", "low", "high"]) fun _ _ _ _ _ _ us hl => match us, hl with | [_, _, _], _ => rfl)
  have F_is_ascending := fun_mk (st := s_is_ascending) l_is_ascending c_is_ascending k_is_ascending
  have o_is_ascending := ok_is_ascending (P := l.prog) (w := w) (base := base) M F_is_ascending 
  have fd_is_ascending := Fd.of o_is_ascending (PySem.W.mg_of X G a_is_ascending) F_is_ascending.kp (F_is_ascending.binds (ps := ["values"]) fun _ _ _ _ _ _ us hl => match us, hl with | [_], _ => rfl)
  have F_listed := fun_mk (st := s_listed) l_listed c_listed k_listed
  have o_listed := ok_listed (P := l.prog) (w := w) (base := base) M F_listed 
  have fd_listed := Fd.of o_listed (PySem.W.mg_of X G a_listed) F_listed.kp (F_listed.binds (ps := []) fun _ _ _ _ _ _ us hl => match us, hl with | [], _ => rfl)
  have F_weight_of := fun_mk (st := s_weight_of) l_weight_of c_weight_of k_weight_of
  have o_weight_of := ok_weight_of (P := l.prog) (w := w) (base := base) M F_weight_of 
  have fd_weight_of := Fd.of o_weight_of (PySem.W.mg_of X G a_weight_of) F_weight_of.kp (F_weight_of.binds (ps := ["line"]) fun _ _ _ _ _ _ us hl => match us, hl with | [_], _ => rfl)
  have F_bit := fun_mk (st := s_bit) l_bit c_bit k_bit
  have o_bit := ok_bit (P := l.prog) (w := w) (base := base) M F_bit fd_weight_of
  have fd_bit := Fd.of o_bit (PySem.W.mg_of X G a_bit) F_bit.kp (F_bit.binds (ps := ["word", "line"]) fun _ _ _ _ _ _ us hl => match us, hl with | [_, _], _ => rfl)
  have F_applied := fun_mk (st := s_applied) l_applied c_applied k_applied
  have o_applied := ok_applied (P := l.prog) (w := w) (base := base) M F_applied fd_bit fd_weight_of
  have fd_applied := Fd.of o_applied (PySem.W.mg_of X G a_applied) F_applied.kp (F_applied.binds (ps := ["gate", "word"]) fun _ _ _ _ _ _ us hl => match us, hl with | [_, _], _ => rfl)
  have F_made := fun_mk (st := s_made) l_made c_made k_made
  have o_made := ok_made (P := l.prog) (w := w) (base := base) M F_made fd_applied
  have fd_made := Fd.of o_made (PySem.W.mg_of X G a_made) F_made.kp (F_made.binds (ps := ["circuit"]) fun _ _ _ _ _ _ us hl => match us, hl with | [_], _ => rfl)
  have F_then := fun_mk (st := s_then) l_then c_then k_then
  have o_then := ok_then (P := l.prog) (w := w) (base := base) M F_then 
  have fd_then := Fd.of o_then (PySem.W.mg_of X G a_then) F_then.kp (F_then.binds (ps := ["one", "other"]) fun _ _ _ _ _ _ us hl => match us, hl with | [_, _], _ => rfl)
  have F_check_kinds := fun_mk (st := s_check_kinds) l_check_kinds c_check_kinds k_check_kinds
  have o_check_kinds := ok_check_kinds (P := l.prog) (w := w) (base := base) M F_check_kinds fd_is_ascending
  have fd_check_kinds := Fd.of o_check_kinds (PySem.W.mg_of X G a_check_kinds) F_check_kinds.kp (F_check_kinds.binds (ps := ["kinds"]) fun _ _ _ _ _ _ us hl => match us, hl with | [_], _ => rfl)
  have F_counted := fun_mk (st := s_counted) l_counted c_counted k_counted
  have o_counted := ok_counted (P := l.prog) (w := w) (base := base) M F_counted 
  have fd_counted := Fd.of o_counted (PySem.W.mg_of X G a_counted) F_counted.kp (F_counted.binds (ps := ["kinds"]) fun _ _ _ _ _ _ us hl => match us, hl with | [_], _ => rfl)
  have F_gates_of := fun_mk (st := s_gates_of) l_gates_of c_gates_of k_gates_of
  have o_gates_of := ok_gates_of (P := l.prog) (w := w) (base := base) M F_gates_of fd_listed fd_made
  have fd_gates_of := Fd.of o_gates_of (PySem.W.mg_of X G a_gates_of) F_gates_of.kp (F_gates_of.binds (ps := ["kinds"]) fun _ _ _ _ _ _ us hl => match us, hl with | [_], _ => rfl)
  have F_grown := fun_mk (st := s_grown) l_grown c_grown k_grown
  have o_grown := ok_grown (P := l.prog) (w := w) (base := base) M F_grown fd_then
  have fd_grown := Fd.of o_grown (PySem.W.mg_of X G a_grown) F_grown.kp (F_grown.binds (ps := ["known", "level", "gates"]) fun _ _ _ _ _ _ us hl => match us, hl with | [_, _, _], _ => rfl)
  have F_is_answer := fun_mk (st := s_is_answer) l_is_answer c_is_answer k_is_answer
  have o_is_answer := ok_is_answer (P := l.prog) (w := w) (base := base) M F_is_answer fd_is_between
  have fd_is_answer := Fd.of o_is_answer (PySem.W.mg_of X G a_is_answer) F_is_answer.kp (F_is_answer.binds (ps := ["value"]) fun _ _ _ _ _ _ us hl => match us, hl with | [_], _ => rfl)
  have F_agreeing := fun_mk (st := s_agreeing) l_agreeing c_agreeing k_agreeing
  have o_agreeing := ok_agreeing (P := l.prog) (w := w) (base := base) M F_agreeing fd_check_kinds fd_counted fd_is_answer fd_gates_of fd_grown
  have fd_agreeing := Fd.of o_agreeing (PySem.W.mg_of X G a_agreeing) F_agreeing.kp (F_agreeing.binds (ps := ["kinds", "answers"]) fun _ _ _ _ _ _ us hl => match us, hl with | [_, _], _ => rfl)
  have F_candidates := fun_mk (st := s_candidates) l_candidates c_candidates k_candidates
  have o_candidates := ok_candidates (P := l.prog) (w := w) (base := base) M F_candidates fd_agreeing
  have fk1_candidates := FdK.of (n := 1) (ks := ["answers"]) o_candidates (PySem.W.mg_of X G a_candidates) F_candidates.kp rfl (F_candidates.kb fun _ _ _ _ _ _ us ws h1 h2 => match us, ws, h1, h2 with | [_], [_], _, _ => rfl)
  have fd_candidates := Fd.of o_candidates (PySem.W.mg_of X G a_candidates) F_candidates.kp (F_candidates.binds (ps := ["kinds", "answers"]) fun _ _ _ _ _ _ us hl => match us, hl with | [_, _], _ => rfl)
  have F_best_word := fun_mk (st := s_best_word) l_best_word c_best_word k_best_word
  have o_best_word := ok_best_word (P := l.prog) (w := w) (base := base) M F_best_word fd_agreeing
  have fk1_best_word := FdK.of (n := 1) (ks := ["answers"]) o_best_word (PySem.W.mg_of X G a_best_word) F_best_word.kp rfl (F_best_word.kb fun _ _ _ _ _ _ us ws h1 h2 => match us, ws, h1, h2 with | [_], [_], _, _ => rfl)
  have fd_best_word := Fd.of o_best_word (PySem.W.mg_of X G a_best_word) F_best_word.kp (F_best_word.binds (ps := ["kinds", "answers"]) fun _ _ _ _ _ _ us hl => match us, hl with | [_, _], _ => rfl)
  have F_law_draw := fun_mk (st := s_law_draw) l_law_draw c_law_draw k_law_draw
  have o_law_draw := ok_law_draw (P := l.prog) (w := w) (base := base) M F_law_draw 
  have fd_law_draw := Fd.of o_law_draw (PySem.W.mg_of X G a_law_draw) F_law_draw.kp (F_law_draw.binds (ps := ["script", "town", "many"]) fun _ _ _ _ _ _ us hl => match us, hl with | [_, _, _], _ => rfl)
  have F_law_begun := fun_mk (st := s_law_begun) l_law_begun c_law_begun k_law_begun
  have o_law_begun := ok_law_begun (P := l.prog) (w := w) (base := base) M F_law_begun 
  have fd_law_begun := Fd.of o_law_begun (PySem.W.mg_of X G a_law_begun) F_law_begun.kp (F_law_begun.binds (ps := []) fun _ _ _ _ _ _ us hl => match us, hl with | [], _ => rfl)
  have F_law_gates := fun_mk (st := s_law_gates) l_law_gates c_law_gates k_law_gates
  have o_law_gates := ok_law_gates (P := l.prog) (w := w) (base := base) M F_law_gates 
  have fd_law_gates := Fd.of o_law_gates (PySem.W.mg_of X G a_law_gates) F_law_gates.kp (F_law_gates.binds (ps := []) fun _ _ _ _ _ _ us hl => match us, hl with | [], _ => rfl)
  have F_law_apply := fun_mk (st := s_law_apply) l_law_apply c_law_apply k_law_apply
  have o_law_apply := ok_law_apply (P := l.prog) (w := w) (base := base) M F_law_apply 
  have fd_law_apply := Fd.of o_law_apply (PySem.W.mg_of X G a_law_apply) F_law_apply.kp (F_law_apply.binds (ps := ["gate", "word"]) fun _ _ _ _ _ _ us hl => match us, hl with | [_, _], _ => rfl)
  have F_law_made := fun_mk (st := s_law_made) l_law_made c_law_made k_law_made
  have o_law_made := ok_law_made (P := l.prog) (w := w) (base := base) M F_law_made fd_law_apply
  have fd_law_made := Fd.of o_law_made (PySem.W.mg_of X G a_law_made) F_law_made.kp (F_law_made.binds (ps := ["circuit"]) fun _ _ _ _ _ _ us hl => match us, hl with | [_], _ => rfl)
  have F_law_few := fun_mk (st := s_law_few) l_law_few c_law_few k_law_few
  have o_law_few := ok_law_few (P := l.prog) (w := w) (base := base) M F_law_few fd_law_draw
  have fd_law_few := Fd.of o_law_few (PySem.W.mg_of X G a_law_few) F_law_few.kp (F_law_few.binds (ps := ["script", "town"]) fun _ _ _ _ _ _ us hl => match us, hl with | [_, _], _ => rfl)
  have F_law_all := fun_mk (st := s_law_all) l_law_all c_law_all k_law_all
  have o_law_all := ok_law_all (P := l.prog) (w := w) (base := base) M F_law_all fd_law_gates fd_law_made
  have fd_law_all := Fd.of o_law_all (PySem.W.mg_of X G a_law_all) F_law_all.kp (F_law_all.binds (ps := ["kinds"]) fun _ _ _ _ _ _ us hl => match us, hl with | [_], _ => rfl)
  have F_law := fun_mk (st := s_law) l_law c_law k_law
  have o_law := ok_law (P := l.prog) (w := w) (base := base) M l_law c_law R Lm_law fd_law_begun fd_law_few fd_law_all fd_law_draw fk1_candidates fk1_best_word fd_candidates fd_best_word (A := fun n => match n with | 0 => f_a_candidates | 1 => f_a_best_word | _ => 0) ⟨⟨7, _, _, by decide, o_candidates, F_candidates.kp, F_candidates.binds (ps := ["kinds", "answers"]) fun _ _ _ _ _ _ us hl => match us, hl with | [_, _], _ => rfl⟩, PySem.W.mg_of X G a_candidates⟩ ⟨⟨7, _, _, by decide, o_best_word, F_best_word.kp, F_best_word.binds (ps := ["kinds", "answers"]) fun _ _ _ _ _ _ us hl => match us, hl with | [_, _], _ => rfl⟩, PySem.W.mg_of X G a_best_word⟩
  exact o_law.imp (law_impT (C := ⟨[(P_law, "law" ++ ".<locals>." ++ "<lambda>")], (fun c => match c with | 0 => a_eInvalidGate | 1 => a_eInvalidCircuit | 2 => a_eInvalidWord | 3 => a_eInvalidExchange | 4 => a_eInvalidLines | 5 => a_eInvalidKinds | 6 => a_eInvalidFunction | 7 => a_eInvalidAnswers | 8 => a_eInvalidText | 9 => a_eTooMany | 10 => a_eEmpty | 11 => a_eNothingToUndo | _ => 0), K, 0⟩) (law_true (fun n => match n with | 0 => f_a_candidates | 1 => f_a_best_word | _ => 0)))
end K20
open PySem PySem.W PyProof.Rows
set_option maxHeartbeats 0 in
theorem PySem.Challenge.cw_backgates_k20_hidden_holds : PySem.Challenge.rw_backgates_k20_hidden.Holds := by
  w_on; o_law; k_head; (case hw => w_witness2)
  k_fill
  refine BG.walk_ofTab (l := PySem.Challenge.rw_backgates_k20_hidden) (n := 63) (k := 10) (x := "script") (CX := fun w => L2.CX PySem.Challenge.rw_backgates_k20_hidden.prog w) rfl (by decide) rfl ⟨rfl, by decide, by decide⟩ (fun w h Y => by first | exact PySem.W.kIn_of Y | exact PySem.W.km_in_of Y) ?F (fun _ _ _ _ _ h => BG.cx_no h)
  case F =>
    intro w mg fa h Y KX G hmg hTab
    refine' K20.all_mk KX G hmg ?a_is_between ?l_is_between ?c_is_between ?k_is_between ?a_is_ascending ?l_is_ascending ?c_is_ascending ?k_is_ascending ?a_listed ?l_listed ?c_listed ?k_listed ?a_weight_of ?l_weight_of ?c_weight_of ?k_weight_of ?a_bit ?l_bit ?c_bit ?k_bit ?a_applied ?l_applied ?c_applied ?k_applied ?a_made ?l_made ?c_made ?k_made ?a_then ?l_then ?c_then ?k_then ?a_check_kinds ?l_check_kinds ?c_check_kinds ?k_check_kinds ?a_counted ?l_counted ?c_counted ?k_counted ?a_gates_of ?l_gates_of ?c_gates_of ?k_gates_of ?a_grown ?l_grown ?c_grown ?k_grown ?a_is_answer ?l_is_answer ?c_is_answer ?k_is_answer ?a_agreeing ?l_agreeing ?c_agreeing ?k_agreeing ?a_candidates ?l_candidates ?c_candidates ?k_candidates ?a_best_word ?l_best_word ?c_best_word ?k_best_word ?a_law_draw ?l_law_draw ?c_law_draw ?k_law_draw ?a_law_begun ?l_law_begun ?c_law_begun ?k_law_begun ?a_law_gates ?l_law_gates ?c_law_gates ?k_law_gates ?a_law_apply ?l_law_apply ?c_law_apply ?k_law_apply ?a_law_made ?l_law_made ?c_law_made ?k_law_made ?a_law_few ?l_law_few ?c_law_few ?k_law_few ?a_law_all ?l_law_all ?c_law_all ?k_law_all ?a_law ?l_law ?c_law ?k_law ?g_law ?v_law ?n_law ?tb_law ?a_law_result ?l_law_result ?c_law_result ?k_law_result ?z_len ?z_all ?z_any ?z_sum ?z_sorted ?z_min ?z_max ?z_isinstance ?z_tuple ?z_list ?z_int ?z_bool ?z_str ?z_range ?z_set ?z_enumerate ?z_zip ?z_dict ?z_abs ?a_cKINDS_ ?l_cKINDS ?a_cSAME_ ?l_cSAME ?a_GE_ ?z_ValueError ?a_eInvalidGate_ ?a_eInvalidCircuit_ ?a_eInvalidWord_ ?a_eInvalidExchange_ ?a_eInvalidLines_ ?a_eInvalidFunction_ ?a_eInvalidText_ ?a_eEmpty_ ?a_eNothingToUndo_ ?a_eInvalidKinds_ ?x_eInvalidKinds ?k_eInvalidKinds ?b_eInvalidKinds ?t_eInvalidKinds ?a_eInvalidAnswers_ ?x_eInvalidAnswers ?k_eInvalidAnswers ?b_eInvalidAnswers ?t_eInvalidAnswers ?a_eTooMany_ ?x_eTooMany ?k_eTooMany ?b_eTooMany ?t_eTooMany ?exok
    (case a_is_between => k_is); (case l_is_between => k_is); (case c_is_between => k_is); (case k_is_between => k_is); (case a_is_ascending => k_is); (case l_is_ascending => k_is); (case c_is_ascending => k_is); (case k_is_ascending => k_is); (case a_listed => k_is); (case l_listed => k_is); (case c_listed => k_is); (case k_listed => k_is); (case a_weight_of => k_is); (case l_weight_of => k_is); (case c_weight_of => k_is); (case k_weight_of => k_is); (case a_bit => k_is); (case l_bit => k_is); (case c_bit => k_is); (case k_bit => k_is); (case a_applied => k_is); (case l_applied => k_is); (case c_applied => k_is); (case k_applied => k_is); (case a_made => k_is); (case l_made => k_is); (case c_made => k_is); (case k_made => k_is); (case a_then => k_is); (case l_then => k_is); (case c_then => k_is); (case k_then => k_is); (case a_check_kinds => k_is); (case l_check_kinds => k_is); (case c_check_kinds => k_is); (case k_check_kinds => k_is); (case a_counted => k_is); (case l_counted => k_is); (case c_counted => k_is); (case k_counted => k_is); (case a_gates_of => k_is); (case l_gates_of => k_is); (case c_gates_of => k_is); (case k_gates_of => k_is); (case a_grown => k_is); (case l_grown => k_is); (case c_grown => k_is); (case k_grown => k_is); (case a_is_answer => k_is); (case l_is_answer => k_is); (case c_is_answer => k_is); (case k_is_answer => k_is); (case a_agreeing => k_is); (case l_agreeing => k_is); (case c_agreeing => k_is); (case k_agreeing => k_is); (case a_candidates => k_is); (case l_candidates => k_is); (case c_candidates => k_is); (case k_candidates => k_is); (case a_best_word => k_is); (case l_best_word => k_is); (case c_best_word => k_is); (case k_best_word => k_is); (case a_law_draw => k_is); (case l_law_draw => k_is); (case c_law_draw => k_is); (case k_law_draw => k_is); (case a_law_begun => k_is); (case l_law_begun => k_is); (case c_law_begun => k_is); (case k_law_begun => k_is); (case a_law_gates => k_is); (case l_law_gates => k_is); (case c_law_gates => k_is); (case k_law_gates => k_is); (case a_law_apply => k_is); (case l_law_apply => k_is); (case c_law_apply => k_is); (case k_law_apply => k_is); (case a_law_made => k_is); (case l_law_made => k_is); (case c_law_made => k_is); (case k_law_made => k_is); (case a_law_few => k_is); (case l_law_few => k_is); (case c_law_few => k_is); (case k_law_few => k_is); (case a_law_all => k_is); (case l_law_all => k_is); (case c_law_all => k_is); (case k_law_all => k_is); (case a_law => k_is); (case l_law => k_is); (case c_law => k_is); (case k_law => k_is); (case g_law => k_is); (case v_law => rfl); (case n_law => kernel_rfl); (case tb_law => exact hTab _ _ _ (by decide +kernel)); (case a_law_result => k_is); (case l_law_result => k_is); (case c_law_result => k_is); (case k_law_result => k_is); (case z_len => k_is); (case z_all => k_is); (case z_any => k_is); (case z_sum => k_is); (case z_sorted => k_is); (case z_min => k_is); (case z_max => k_is); (case z_isinstance => k_is); (case z_tuple => k_is); (case z_list => k_is); (case z_int => k_is); (case z_bool => k_is); (case z_str => k_is); (case z_range => k_is); (case z_set => k_is); (case z_enumerate => k_is); (case z_zip => k_is); (case z_dict => k_is); (case z_abs => k_is); (case a_cKINDS_ => k_is); (case l_cKINDS => k_is); (case a_cSAME_ => k_is); (case l_cSAME => k_is); (case a_GE_ => k_is); (case z_ValueError => k_is); (case a_eInvalidGate_ => k_is); (case a_eInvalidCircuit_ => k_is); (case a_eInvalidWord_ => k_is); (case a_eInvalidExchange_ => k_is); (case a_eInvalidLines_ => k_is); (case a_eInvalidFunction_ => k_is); (case a_eInvalidText_ => k_is); (case a_eEmpty_ => k_is); (case a_eNothingToUndo_ => k_is); (case a_eInvalidKinds_ => k_is); (case x_eInvalidKinds => k_exc); (case k_eInvalidKinds => k_is); (case b_eInvalidKinds => k_is); (case t_eInvalidKinds => k_is); (case a_eInvalidAnswers_ => k_is); (case x_eInvalidAnswers => k_exc); (case k_eInvalidAnswers => k_is); (case b_eInvalidAnswers => k_is); (case t_eInvalidAnswers => k_is); (case a_eTooMany_ => k_is); (case x_eTooMany => k_exc); (case k_eTooMany => k_is); (case b_eTooMany => k_is); (case t_eTooMany => k_is); (case exok => kernel_rfl)
