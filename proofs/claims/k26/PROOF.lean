import PyProof.Rows.All
import Wide.All
import OpenK.AllK
import Wide.FinOn
import HandS.ForMost
import HandS.ForExc
import HandS.IsInst
import HandS.TupAny
import HandS.TupMul
import HandS.Deep
import HandS.Zip
import HandS.Conv
import HandS.SetFor
import HandS.Lambda
import KE.SortData
import HandS.Set
import HandS.Iter
import KE.KExcIs
import HandS.EndTab
import KE.KNest
import KE.GoesMore
import KE.DataFind
import KE.KIndexOf
import HandS.Style
import HandS.Strs
import HandS.More
import HandS.TupSets
import HandS.Sort
import KE.KDictWalk
import KE.KDictKeyed
import KE.KDictDisplayH
import KE.KDictCopyH
import HandS.TupLen
import KE.DataMinMax
import HandS.CallLocal
import HandS.FStr
import HandS.OwnEq
import HandS.MakeKwOnly
import HandS.Codes
import KE.KFmtOwn
import KE.GoesRaise
import PySem.Challenge.RW_backgates_k26_texts
set_option Elab.async false
set_option linter.all false
set_option maxRecDepth 100000
set_option maxHeartbeats 4000000
namespace BG
open PySem PySem.Spec PyProof.Rows L2
/-- a new tuple, its object kept -/
abbrev NewT (H : Hp) (Q : VK) (xs : List V) : Prop := ∀ p ob, H p = none → Obj.dict ob = none → Obj.cls ob = .type "tuple" → Q (.ref p) (upd H p (.frz ob (.tup xs)))
section
variable {X : Cx} {pins : List (Addr × Obj)} {σ : L2.St} {H : Hp} {s : Shared}
theorem newT_laid {xs : List V} {us : List Value} {Q : VK} {h1 : Heap} {tk : Nat} (I1 : Inv X pins σ H { s with heap := h1, toks := tk }) (r : Vals xs us) (z : xs.length ≤ sizeLine) (q : NewT H Q xs) :
    EP X pins σ Q (.ref h1.objs.size) { s with heap := h1.push { cls := .type "tuple", data := .seq us.toArray }, toks := tk } := by
  have gt : (h1.push { cls := .type "tuple", data := .seq us.toArray }).get? h1.objs.size = some { cls := .type "tuple", data := .seq us.toArray } := Heap.get?_push_size _ rfl
  refine ⟨.ref h1.objs.size, upd H h1.objs.size (.frz { cls := .type "tuple", data := .seq us.toArray } (.tup xs)), ?_, rfl, q _ _ (I1.hok.fresh (Nat.le_refl _)) rfl rfl⟩
  exact I1.laid (a := h1.objs.size) (t' := tk) (fun b u e => Heap.get?_push_of_some _ e) (Nat.le_refl _) ⟨gt, z, us, r, ⟨_, gt, rfl, _, rfl⟩⟩
end
section
variable {X : Cx}
def tTupN (t : TA) : TE := fun σ H Q => t σ H fun xs H1 => xs.length ≤ sizeLine ∧ NewT H1 Q xs
theorem pe_tupN {es : List Expr} {t : TA} {x1} {pos : Pos} (h : PA X es t) : PE X (.Tuple es x1 pos) (tTupN t) := ⟨fun pins s σ H Q I hq =>
  wpAny_Tuple_spliced (thn (h.run pos pins s σ H _ I hq) fun us s1 ⟨xs, H1, I1, r, z, q⟩ => ⟨r.length ▸ z, newT_laid (s := s1) (h1 := s1.heap) (tk := s1.toks) I1 r z q⟩)⟩
def rCatN (K : PySem.W.Frag) : R2 := fun x y H Q => ∃ a b xs ys, x = .ref a ∧ y = .ref b ∧ SqT K H a xs ∧ SqT K H b ys ∧ xs.length + ys.length ≤ sizeLine ∧
  (xs = [] → Q (.ref b) H) ∧ (xs ≠ [] → ys = [] → Q (.ref a) H) ∧ (xs ≠ [] → ys ≠ [] → NewT H Q (xs ++ ys))
theorem op_catN : OpR X (binaryOp .Add) (rCatN X.K) := fun pins s σ H x y v u Q I rx ry h => by
  obtain ⟨a, b, xs, ys, rfl, rfl, ha, hb, hz, q0, q1, q2⟩ := h
  cases rx; cases ry
  obtain ⟨us, r1, p1, _⟩ := I.tuple ha
  obtain ⟨ws, r2, p2, _⟩ := I.tuple hb
  by_cases hx : xs = []
  · subst hx
    cases r1
    exact L2.cat_tup0 p1 p2 ⟨.ref b, H, I, rfl, q0 rfl⟩
  · refine HT.cat_tup p1 p2 (fun z => hx (r1.nil_iff.mp z)) (fun z => ⟨.ref a, H, I, rfl, q1 hx (r2.nil_iff.mp z)⟩) (fun z => ?_) (by rw [← r1.length, ← r2.length]; exact hz)
    exact newT_laid (s := s) (h1 := s.heap) (tk := s.toks) I (r1.append r2) (by rw [List.length_append]; exact hz) (q2 hx fun e => z (r2.nil_iff.mpr e))
def rSlN (K : PySem.W.Frag) : V → Option Int → Option Int → Hp → VK → Prop := fun x lo hi H Q => ∃ a xs, x = .ref a ∧ SqT K H a xs ∧
  (HT.sIx xs.length 0 lo = 0 ∧ HT.sIx xs.length xs.length hi = xs.length → Q (.ref a) H) ∧ (¬ (HT.sIx xs.length 0 lo = 0 ∧ HT.sIx xs.length xs.length hi = xs.length) → NewT H Q (cutV xs lo hi))
theorem sl_tupN : SlR X (rSlN X.K) := fun pins s σ H x v vl vu lo hi sl Q I rx hs pl pu h => by
  obtain ⟨a, xs, rfl, hx, q1, q2⟩ := h
  cases rx
  obtain ⟨us, r, ht, hz⟩ := I.tuple hx
  have el : us.toArray.size = xs.length := by rw [List.size_toArray, r.length]
  refine ⟨"tuple", _, PyProof.Rows.slot_tuple_getitem.lookup, ht.typeIs, ?_⟩
  by_cases hw : HT.sIx xs.length 0 lo = 0 ∧ HT.sIx xs.length xs.length hi = xs.length
  · exact L2.getItem_tuple_whole ht hs pl pu (by rw [el]; exact hw) ⟨.ref a, H, I, rfl, q1 hw⟩
  · refine HT.getItem_tuple_cut ht hs pl pu (by rw [el]; exact hw) ?_ (by rw [el]; exact hz)
    rw [el]
    exact newT_laid (s := s) (h1 := s.heap) (tk := s.toks) I ((r.drop (HT.sIx xs.length 0 lo)).take (HT.sIx xs.length xs.length hi - HT.sIx xs.length 0 lo)) (Nat.le_trans (cutV_length xs lo hi) hz) (q2 hw)
theorem call_tupN : CallR X (.type "tuple") (fun xs H Q => ∃ p ys, xs = [.ref p] ∧ ((SqL X.K H p ys ∧ NewT H Q ys) ∨ (SqT X.K H p ys ∧ Q (.ref p) H))) := fun pins s σ H xs us Q I r h => by
  obtain ⟨p, ys, rfl, h⟩ := h
  obtain ⟨u, rfl, ru⟩ := vals1 r
  cases ru
  rcases h with ⟨hq, q⟩ | ⟨hq, q⟩
  · obtain ⟨ws, rw', pl, hz⟩ := I.list hq
    have el := rw'.length
    refine call_tuple_list pl.isList (fun h' kp => ?_) (by simp only [List.size_toArray] <;> omega)
    have I1 : Inv X pins σ H { s with heap := h' } := I.kept (t' := s.toks) kp
    exact newT_laid (s := s) (h1 := h') (tk := s.toks) I1 rw' hz q
  · obtain ⟨ws, _, pt, _⟩ := I.tuple hq
    exact call_tuple_same pt ⟨.ref p, H, I, rfl, q⟩
def rRepN (K : PySem.W.Frag) : R2 := fun x y H Q => ∃ l k xs, x = .ref l ∧ y = .int k ∧ SqT K H l xs ∧ xs ≠ [] ∧ 2 ≤ k ∧ k ≤ 1000 ∧ xs.length ≤ 1000 ∧ NewT H Q (List.replicate k.toNat xs).flatten
theorem op_repN : OpR X (binaryOp .Mult) (rRepN X.K) := fun pins s σ H x y v u Q I rx ry h => by
  obtain ⟨l, k, xs, rfl, rfl, hT, hne, h1, h2, hz, q⟩ := h
  cases rx
  obtain ⟨tok, rfl⟩ := ry
  obtain ⟨us, r, ⟨⟨cl, dd, dt, slt⟩, ho, hcl, m, hdt⟩, hs⟩ := I.tuple hT
  have ecl : cl = .type "tuple" := hcl
  have edt : dt = .seq us.toArray m := hdt
  subst ecl edt
  have el : us.length = xs.length := r.length.symm
  have es : us.toArray.size = xs.length := by rw [List.size_toArray, el]
  have emp : us.toArray.isEmpty = false := by
    cases us with
    | nil => exact absurd (List.eq_nil_of_length_eq_zero el.symm) hne
    | cons _ _ => rfl
  have small : ((us.toArray.size : Nat) : Int) * k ≤ 1000000 := by
    rw [es]
    exact Int.le_trans (Int.mul_le_mul_of_nonneg_right (show ((xs.length : Nat) : Int) ≤ 1000 by omega) (by omega)) (by omega)
  have wide : k.toNat * xs.length ≤ 1000 * 1000 := Nat.mul_le_mul (by omega) hz
  have fl : (List.replicate k.toNat us).flatten.length ≤ sizeLine := by rw [PyProof.Rows.lm_len_rep_flat, el, sizeLine_eq]; omega
  have b0 : (decide (k < -(2 ^ 63)) || decide (k ≥ 2 ^ 63)) = false := by simp; omega
  have b1 : (us.toArray.isEmpty || k == 1) = false := by rw [emp]; simp; omega
  have b2 : (decide (k ≤ 0) || us.toArray.isEmpty) = false := by rw [emp]; simp; omega
  have b4 : Builtin.Tuple.tupleTooMany (((us.toArray.size : Nat) : Int) * k) = false := by unfold Builtin.Tuple.tupleTooMany; rw [sizeLine_eq]; exact decide_eq_false (by omega)
  have fin := newT_laid (s := s) (h1 := s.heap) (tk := s.toks) I (r.rep k.toNat) (by rw [PyProof.Rows.lm_len_rep_flat, sizeLine_eq]; omega) q
  rw [← size_rep] at fin
  exact wpAny_binaryOp_repeat_ref (T := "tuple") (U := "int") (by decide) ⟨_, ho, rfl⟩ (fun s' => typeIs_int s' k tok) noFill_tuple_mul F.fills_int_mul F.slot_int_rmul repeat_tuple F.slot_int_index.lookup
    (call_meets F.slot_int_rmul (typeIs_int s k tok) F.entry_int_rmul (F.args_int_rmul_2 _ _) (int_rmul_tuple k tok l us.toArray m dd slt)
      ⟨ho, rfl, ⟨_, ho, rfl⟩, call_meets F.slot_tuple_mul ⟨_, ho, rfl⟩ F.entry_tuple_mul (F.args_tuple_mul_2 _ _) (tuple_mulW l us.toArray m dd slt k tok b0 b1 b2 (by omega) b4 (by rw [size_rep, List.size_toArray]; exact fl)) ⟨ho, fin⟩⟩)
end
end BG
set_option Elab.async false
set_option linter.all false
set_option maxRecDepth 100000
set_option maxHeartbeats 4000000
namespace BG
open PySem PySem.Spec PyProof.Rows L2
/-- a value as data: nothing of the heap -/
inductive D where
  | non | bl (b : Bool) | int (i : Int) | str (x : Str) | tup (xs : List D) | lst (xs : List D) | town | scr (ns : List Int) | dct (ks : List Key) (ds : List D) | dTT (ks : List (List Int)) (ds : List D) | hnd (n : Nat)
/-- what may be changed, by its number: a dict with tuples as keys, a list, an instance of the own class -/
inductive Ob where
  | td (ks : List (List Int × D)) | li (ds : List D) | ins (fs : List (Str × D))
/-- the objects, each with the number of its changes -/
abbrev Sto := List (Ob × Nat)
/-- the state: the draws' count and rests (none: not begun); the objects that may be changed -/
abbrev Tn := Option (Int × List (Int × Int)) × Sto
inductive Out (α : Type) where
  | ok (a : α) (t : Tn)
  | exc (c : Nat) (t : Tn)
abbrev M (α : Type) := Tn → Option (Out α)
section
variable {α β : Type}
def ret (a : α) : M α := fun t => some (.ok a t)
def bnd (m : M α) (f : α → M β) : M β := fun t => match m t with
  | some (.ok a t') => f a t'
  | some (.exc c t') => some (.exc c t')
  | none => none
def raise (c : Nat) : M α := fun t => some (.exc c t)
def stuck : M α := fun _ => none
/-- what raises is stuck -/
def calm (m : M α) : M α := fun t => match m t with
  | some (.ok a t') => some (.ok a t')
  | _ => none
theorem bnd_ok {m : M α} {f : α → M β} {t t' : Tn} {a : α} (h : m t = some (.ok a t')) : bnd m f t = f a t' := by
  unfold bnd; rw [h]
theorem bnd_exc {m : M α} {f : α → M β} {t t' : Tn} {c : Nat} (h : m t = some (.exc c t')) : bnd m f t = some (.exc c t') := by
  unfold bnd; rw [h]
theorem ret_bnd (a : α) (f : α → M β) : bnd (ret a) f = f a := rfl
end
/-- a slot: nothing, a value, a list of its own that may be changed -/
inductive SV where
  | un | val (d : D) | own (ds : List D) | dic (ks : List (Key × D)) | raw (v : V) | exn (c : Addr) | dcT (ks : List (List Int × D))
/-- an exception's object of the class cls -/
def ExK (cls : Value) (a : Addr) : HO := .ext fun h => ∃ (oe : Obj) (vs : Array Value), h.get? a = some oe ∧ oe.cls = cls ∧ oe.dict = none ∧ oe.data = .fields vs
/-- an object of one's own -/
def isOw : SV → Bool
  | .own _ => true
  | .dic _ => true
  | .dcT _ => true
  | _ => false
abbrev Sl := List SV
/-- what is frozen; the addresses of the draws' dicts -/
structure G where
  Fz : Hp
  tw : Option (Addr × Addr)
  ad : List Addr
  lg : Nat → Nat → Option HO
def G.isTw (g : G) (b : Addr) : Prop := (∃ p, g.tw = some p ∧ (b = p.1 ∨ b = p.2)) ∨ b ∈ g.ad
/-- the draws' dicts and the objects stay where they are -/
structure TwLe (g g' : G) : Prop where
  t : ∀ p, g.tw = some p → g'.tw = some p
  a : ∀ (n : Nat) (b : Addr), g.ad[n]? = some b → g'.ad[n]? = some b
  l : ∀ (n v : Nat) (o : HO), g.lg n v = some o → g'.lg n v = some o
theorem TwLe.refl (g : G) : TwLe g g := ⟨fun _ h => h, fun _ _ h => h, fun _ _ _ h => h⟩
theorem TwLe.trans {g g1 g2 : G} (x : TwLe g g1) (y : TwLe g1 g2) : TwLe g g2 := ⟨fun p h => y.t p (x.t p h), fun n b h => y.a n b (x.a n b h), fun n v o h => y.l n v o (x.l n v o h)⟩
theorem TwLe.of {g : G} {F : Hp} : TwLe g ⟨F, g.tw, g.ad, g.lg⟩ := ⟨fun _ h => h, fun _ _ h => h, fun _ _ _ h => h⟩
/-- a tuple whose object holds no dict -/
def SqN (K : PySem.W.Frag) (H : Hp) (a : Addr) (xs : List V) : Prop :=
  (∃ o, H a = some (.frz o (.tup xs)) ∧ o.dict = none ∧ o.cls = .type "tuple") ∨
    ∃ (o : Obj) (its : Array Value) (n : Nat), K.lookup a = some o ∧ o.cls = .type "tuple" ∧ o.data = .seq its n ∧ its.size ≤ sizeLine ∧ Vals xs its.toList ∧ o.dict = none
theorem SqN.t {K : PySem.W.Frag} {H : Hp} {a : Addr} {xs : List V} (h : SqN K H a xs) : SqT K H a xs := by
  rcases h with ⟨o, h, _⟩ | ⟨o, its, n, h1, h2, h3, h4, h5, _⟩
  · exact .inl (.inr ⟨o, h⟩)
  · exact .inr ⟨o, its, n, h1, h2, h3, h4, h5⟩
theorem SqN.mono {K : PySem.W.Frag} {H H' : Hp} {a : Addr} {xs : List V} (e : Same H H') (h : SqN K H a xs) : SqN K H' a xs := by
  rcases h with ⟨o, h, q⟩ | h
  · exact .inl ⟨o, e _ _ h, q⟩
  · exact .inr h
/-- a dict whose keys are tuples of ints, by its raw entries: key, the key's address, value -/
def thI (k : List Int) : Int := reduceHash (Builtin.Tuple.tupleHashOf (k.map hashInt))
/-- the epoch, and the entries -/
abbrev DL := Nat × List (List Int × Addr × V)
def DkP (p : Addr) (L : DL) (h : Heap) : Prop := ∃ o es us, h.get? p = some o ∧ o.ExactDict ∧ o.data = .dict es L.1 ∧ Vals (L.2.map (·.2.2)) us ∧ es.toList = (L.2.zip us).map (fun q => (⟨thI q.1.1, .ref q.1.2.1, q.2⟩ : DictEntry)) ∧ (p == sysModules) = false
def DkO (p : Addr) (L : DL) : HO := .ext (DkP p L)
mutual
inductive Rp (K : PySem.W.Frag) (g : G) : V → D → Prop
  | non : Rp K g .non .non
  | bl (b : Bool) : Rp K g (.bl b) (.bl b)
  | int (i : Int) : Rp K g (.int i) (.int i)
  | str (x : Str) : Rp K g (.str x) (.str x)
  | tup {a : Addr} {xs : List V} {ds : List D} : SqN K g.Fz a xs → RpA K g xs ds → Rp K g (.ref a) (.tup ds)
  | lst {a : Addr} {xs : List V} {ds : List D} : g.Fz a = some (.lst xs) → RpA K g xs ds → Rp K g (.ref a) (.lst ds)
  | town {a b : Addr} : g.tw = some (a, b) → Rp K g (.ref a) .town
  | scr {a : Addr} {ns : List Int} : SqL K g.Fz a (ns.map V.int) → Rp K g (.ref a) (.scr ns)
  | dct {a : Addr} {o : Obj} {ks : List Key} {vs : List V} {ds : List D} : g.Fz a = some (.frz o (.dK (ks.zip vs))) → ks.length = vs.length → RpA K g vs ds → Rp K g (.ref a) (.dct ks ds)
  | dTT {a : Addr} {L : DL} {ks : List (List Int)} {ds : List D} : g.Fz a = some (DkO a L) → L.2.map (·.1) = ks → ks.Nodup → (∀ x ∈ L.2, SqN K g.Fz x.2.1 (x.1.map V.int)) → RpA K g (L.2.map (·.2.2)) ds → Rp K g (.ref a) (.dTT ks ds)
  | hnd {a : Addr} {n : Nat} : g.ad[n]? = some a → Rp K g (.ref a) (.hnd n)
inductive RpA (K : PySem.W.Frag) (g : G) : List V → List D → Prop
  | nil : RpA K g [] []
  | cons {v : V} {vs : List V} {d : D} {ds : List D} : Rp K g v d → RpA K g vs ds → RpA K g (v :: vs) (d :: ds)
end
theorem Same.tseq {K : PySem.W.Frag} {H H' : Hp} {a : Addr} {xs : List V} (e : Same H H') (h : SqT K H a xs) : SqT K H' a xs := by
  rcases h with (h | ⟨o, h⟩) | h
  · exact .inl (.inl (e _ _ h))
  · exact .inl (.inr ⟨o, e _ _ h⟩)
  · exact .inr h
section
variable {K : PySem.W.Frag} {g g' : G}
mutual
theorem Rp.mono (f : Same g.Fz g'.Fz) (tw : TwLe g g') : ∀ {d : D} {v : V}, Rp K g v d → Rp K g' v d
  | .non, _, h => by cases h; exact .non
  | .bl b, _, h => by cases h; exact .bl b
  | .int i, _, h => by cases h; exact .int i
  | .str x, _, h => by cases h; exact .str x
  | .tup ds, _, h => by cases h with | tup s a => exact .tup (s.mono f) (RpA.mono f tw a)
  | .lst ds, _, h => by cases h with | lst s a => exact .lst (f _ _ s) (RpA.mono f tw a)
  | .town, _, h => by cases h with | town e => exact .town (tw.t _ e)
  | .scr ns, _, h => by cases h with | scr e => exact .scr (f.seq e)
  | .dct ks ds, _, h => by cases h with | dct e l a => exact .dct (f _ _ e) l (RpA.mono f tw a)
  | .dTT ks ds, _, h => by cases h with | dTT e l n k a => exact .dTT (f _ _ e) l n (fun x hx => (k x hx).mono f) (RpA.mono f tw a)
  | .hnd n, _, h => by cases h with | hnd e => exact .hnd (tw.a _ _ e)
theorem RpA.mono (f : Same g.Fz g'.Fz) (tw : TwLe g g') : ∀ {ds : List D} {vs : List V}, RpA K g vs ds → RpA K g' vs ds
  | [], _, h => by cases h; exact .nil
  | d :: ds, _, h => by cases h with | cons a b => exact .cons (Rp.mono f tw a) (RpA.mono f tw b)
end
theorem RpA.length : ∀ {ds : List D} {vs : List V}, RpA K g vs ds → vs.length = ds.length
  | [], _, h => by cases h; rfl
  | d :: ds, _, h => by cases h with | cons a b => rw [List.length_cons, List.length_cons, RpA.length b]
theorem RpA.get : ∀ {ds : List D} {vs : List V} {i : Nat} {d : D}, RpA K g vs ds → ds[i]? = some d → ∃ v, vs[i]? = some v ∧ Rp K g v d
  | [], _, _, _, h, e => by simp at e
  | d :: ds, _, 0, _, h, e => by
    cases h with
    | cons a b =>
      have e' : d = _ := Option.some.inj e
      subst e'
      exact ⟨_, rfl, a⟩
  | d :: ds, _, i + 1, _, h, e => by
    cases h with
    | cons a b =>
      obtain ⟨v, h1, h2⟩ := RpA.get (i := i) b e
      exact ⟨v, h1, h2⟩
theorem RpA.app : ∀ {ds es : List D} {vs ws : List V}, RpA K g vs ds → RpA K g ws es → RpA K g (vs ++ ws) (ds ++ es)
  | [], _, _, _, h, q => by cases h; exact q
  | d :: ds, _, _, _, h, q => by cases h with | cons a b => exact .cons a (RpA.app b q)
theorem RpA.one {v : V} {d : D} (h : Rp K g v d) : RpA K g [v] [d] := .cons h .nil
theorem RpA.take : ∀ {ds : List D} {vs : List V} (n : Nat), RpA K g vs ds → RpA K g (vs.take n) (ds.take n)
  | _, _, 0, _ => .nil
  | [], _, n + 1, h => by cases h; exact .nil
  | d :: ds, _, n + 1, h => by cases h with | cons a b => exact .cons a (RpA.take n b)
theorem RpA.drop : ∀ {ds : List D} {vs : List V} (n : Nat), RpA K g vs ds → RpA K g (vs.drop n) (ds.drop n)
  | _, _, 0, h => h
  | [], _, n + 1, h => by cases h; exact .nil
  | d :: ds, _, n + 1, h => by cases h with | cons a b => exact RpA.drop n b
theorem RpA.set {v : V} {d : D} (r : Rp K g v d) : ∀ {ds : List D} {vs : List V} (n : Nat), RpA K g vs ds → RpA K g (vs.set n v) (ds.set n d)
  | [], _, _, h => by cases h; exact .nil
  | _ :: ds, _, 0, h => by cases h with | cons a b => exact .cons r b
  | _ :: ds, _, n + 1, h => by cases h with | cons a b => exact .cons a (RpA.set r n b)
theorem RpA.rep {ds : List D} {vs : List V} (h : RpA K g vs ds) : ∀ k : Nat, RpA K g (List.replicate k vs).flatten (List.replicate k ds).flatten
  | 0 => .nil
  | k + 1 => by
    rw [List.replicate_succ, List.replicate_succ, List.flatten_cons, List.flatten_cons]
    exact h.app (RpA.rep h k)
theorem RpA.dropLast {ds : List D} {vs : List V} (h : RpA K g vs ds) : RpA K g vs.dropLast ds.dropLast := by
  rw [List.dropLast_eq_take, List.dropLast_eq_take, h.length]
  exact h.take _
end
/-- something is tracked there, and it is no table -/
def Nt (H : Hp) (b : Addr) : Prop := ∃ o, H b = some o ∧ ∀ ps, o ≠ .tbl ps
theorem Nt.no {H : Hp} {b : Addr} (h : H b = none) : ¬ Nt H b := fun ⟨o, e, _⟩ => by rw [h] at e; cases e
/-- a step: what was frozen stays, what stood stays (but the draws' dicts, the objects and the tables) -/
structure Stp (g : G) (H : Hp) (g' : G) (H' : Hp) : Prop where
  fz : Same g.Fz g'.Fz
  tw : TwLe g g'
  twn : (g.tw = none → ∀ a b, g'.tw = some (a, b) → ¬ Nt H a ∧ ¬ Nt H b) ∧ ∀ a ∈ g'.ad, a ∈ g.ad ∨ ¬ Nt H a
  frm : ∀ b o, H b = some o → ¬ g.isTw b → (∀ ps, o ≠ .tbl ps) → H' b = some o
  thr : ∀ b, Nt H b → Nt H' b
  new : ∀ b, Nt H b → g'.Fz b = g.Fz b
theorem Twn.refl (g : G) (H : Hp) : (g.tw = none → ∀ a b, g.tw = some (a, b) → ¬ Nt H a ∧ ¬ Nt H b) ∧ ∀ a ∈ g.ad, a ∈ g.ad ∨ ¬ Nt H a := ⟨fun h a b e => (by rw [h] at e; cases e), fun _ h => .inl h⟩
theorem Stp.refl (g : G) (H : Hp) : Stp g H g H := ⟨fun _ _ h => h, .refl g, Twn.refl g H, fun _ _ h _ _ => h, fun _ h => h, fun _ _ => rfl⟩
theorem isTw_back {g g1 : G} {H : Hp} {c : Addr} (tw : TwLe g g1) (twn : (g.tw = none → ∀ a b, g1.tw = some (a, b) → ¬ Nt H a ∧ ¬ Nt H b) ∧ ∀ a ∈ g1.ad, a ∈ g.ad ∨ ¬ Nt H a) (h : Nt H c) (n : ¬ g.isTw c) : ¬ g1.isTw c := fun z => by
  rcases z with ⟨p, hp, q⟩ | z
  · cases h1 : g.tw with
    | some p' =>
      have := tw.t p' h1
      rw [hp] at this
      cases this
      exact n (.inl ⟨p, h1, q⟩)
    | none =>
      obtain ⟨z1, z2⟩ := twn.1 h1 p.1 p.2 hp
      rcases q with q | q
      · exact z1 (by rw [← q]; exact h)
      · exact z2 (by rw [← q]; exact h)
  · exact (twn.2 c z).elim (fun k => n (.inr k)) fun k => k h
theorem Stp.trans {g g1 g2 : G} {H H1 H2 : Hp} (a : Stp g H g1 H1) (b : Stp g1 H1 g2 H2) : Stp g H g2 H2 where
  fz := a.fz.trans b.fz
  tw := a.tw.trans b.tw
  twn := ⟨fun h x y e => by
    cases h1 : g1.tw with
    | none =>
      obtain ⟨p, q⟩ := b.twn.1 h1 x y e
      exact ⟨fun z => p (a.thr x z), fun z => q (a.thr y z)⟩
    | some p =>
      have e2 := b.tw.t p h1
      rw [e] at e2
      cases e2
      exact a.twn.1 h x y h1, fun x hx => (b.twn.2 x hx).elim (a.twn.2 x) fun k => .inr fun z => k (a.thr x z)⟩
  frm := fun c o h n t => b.frm c o (a.frm c o h n t) (isTw_back a.tw a.twn ⟨o, h, t⟩ n) t
  thr := fun c h => b.thr c (a.thr c h)
  new := fun c h => (b.new c (a.thr c h)).trans (a.new c h)
theorem Rp.stp {K : PySem.W.Frag} {g g' : G} {H H' : Hp} {v : V} {d : D} (s : Stp g H g' H') (h : Rp K g v d) : Rp K g' v d := h.mono s.fz s.tw
theorem RpA.stp {K : PySem.W.Frag} {g g' : G} {H H' : Hp} {v : List V} {d : List D} (s : Stp g H g' H') (h : RpA K g v d) : RpA K g' v d := h.mono s.fz s.tw
def TownOk (g : G) (H : Hp) : Option (Int × List (Int × Int)) → Prop
  | none => g.tw = none
  | some (c, rs) => ∃ a b, g.tw = some (a, b) ∧ a ≠ b ∧ H a = some (.dK [(.inr "count", .int c), (.inr "rests", .ref b)]) ∧ H b = some (.dK (rs.map fun p => (Sum.inl p.1, V.int p.2)))
/-- constants of a row: the tables of code objects; the addresses of the exceptions' classes; the written part; the addresses of own classes -/
structure Cn where
  T : List (Addr × Str)
  ex : Nat → Addr
  K : PySem.W.Frag
  cl : Addr
structure RpD (K : PySem.W.Frag) (g : G) (L : DL) (ks : List (List Int × D)) : Prop where
  keys : L.2.map (·.1) = ks.map (·.1)
  nd : (L.2.map (·.1)).Nodup
  kt : ∀ x ∈ L.2, Rp K g (.ref x.2.1) (.tup (x.1.map D.int))
  vs : RpA K g (L.2.map (·.2.2)) (ks.map (·.2))
theorem RpD.mono {K : PySem.W.Frag} {g g' : G} {L : DL} {ks : List (List Int × D)} (f : Same g.Fz g'.Fz) (tw : TwLe g g') (r : RpD K g L ks) : RpD K g' L ks := ⟨r.keys, r.nd, fun x hx => (r.kt x hx).mono f tw, r.vs.mono f tw⟩
/-- attributes -/
def RpI (K : PySem.W.Frag) (g : G) : List (Str × V) → List (Str × D) → Prop
  | [], [] => True
  | (x, v) :: r, (y, d) :: q => x = y ∧ Rp K g v d ∧ RpI K g r q
  | _, _ => False
theorem RpI.mono {K : PySem.W.Frag} {g g' : G} (f : Same g.Fz g'.Fz) (tw : TwLe g g') : ∀ {fv : List (Str × V)} {fs : List (Str × D)}, RpI K g fv fs → RpI K g' fv fs
  | [], [], _ => trivial
  | (x, v) :: r, (y, d) :: q, ⟨h1, h2, h3⟩ => ⟨h1, h2.mono f tw, RpI.mono f tw h3⟩
/-- an object stands at its address -/
def ObOk (C : Cn) (g : G) (H : Hp) (a : Addr) : Ob → Prop
  | .td ks => ∃ L, H a = some (DkO a L) ∧ RpD C.K g L ks
  | .li ds => ∃ vs, H a = some (.lst vs) ∧ RpA C.K g vs ds
  | .ins fs => ∃ dx fv, H a = some (.ins C.cl dx fv) ∧ RpI C.K g fv fs
structure StOk (C : Cn) (g : G) (H : Hp) (st : Sto) : Prop where
  len : g.ad.length = st.length
  nd : g.ad.Nodup
  ok : ∀ (n : Nat) (a : Addr) (o : Ob × Nat), g.ad[n]? = some a → st[n]? = some o → ObOk C g H a o.1
  lg : ∀ (n : Nat) (a : Addr) (o : Ob × Nat), g.ad[n]? = some a → st[n]? = some o → H a = g.lg n o.2
  nw : ∀ (n : Nat) (o : Ob × Nat), st[n]? = some o → ∀ v, o.2 < v → g.lg n v = none
  no : ∀ n v, st.length ≤ n → g.lg n v = none
theorem DkO_tbl {p : Addr} {L : DL} : ∀ ps, DkO p L ≠ .tbl ps := fun _ z => by unfold DkO at z; cases z
theorem ObOk.at {C : Cn} {g : G} {H : Hp} {a : Addr} {o : Ob} (h : ObOk C g H a o) : ∃ ho, H a = some ho ∧ (∀ ps, ho ≠ .tbl ps) ∧ (∀ kvs, ho ≠ .dK kvs) ∧ (∀ ob u, ho ≠ .frz ob u) := by
  cases o with
  | td ks => obtain ⟨L, h, _⟩ := h; exact ⟨_, h, DkO_tbl, (fun _ z => by unfold DkO at z; cases z), (fun _ _ z => by unfold DkO at z; cases z)⟩
  | li ds => obtain ⟨L, h, _⟩ := h; exact ⟨_, h, (fun _ z => nomatch z), (fun _ z => nomatch z), (fun _ _ z => nomatch z)⟩
  | ins fs => obtain ⟨dx, vs, h, _⟩ := h; exact ⟨_, h, (fun _ z => nomatch z), (fun _ z => nomatch z), (fun _ _ z => nomatch z)⟩
theorem ObOk.keep {C : Cn} {g g' : G} {H H' : Hp} {a : Addr} {o : Ob} (h : ObOk C g H a o) (f : Same g.Fz g'.Fz) (tw : TwLe g g') (e : ∀ ho, H a = some ho → H' a = some ho) : ObOk C g' H' a o := by
  cases o with
  | td ks => obtain ⟨L, h, r⟩ := h; exact ⟨L, e _ h, r.mono f tw⟩
  | li ds => obtain ⟨L, h, r⟩ := h; exact ⟨L, e _ h, r.mono f tw⟩
  | ins fs => obtain ⟨dx, vs, h, r⟩ := h; exact ⟨dx, vs, e _ h, r.mono f tw⟩
theorem StOk.get {C : Cn} {g : G} {H : Hp} {st : Sto} (s : StOk C g H st) {a : Addr} (h : a ∈ g.ad) : ∃ (n : Nat) (o : Ob × Nat), g.ad[n]? = some a ∧ st[n]? = some o ∧ ObOk C g H a o.1 := by
  obtain ⟨n, hn, e⟩ := List.getElem_of_mem h
  have h2 : n < st.length := by rw [← s.len]; exact hn
  have e1 : g.ad[n]? = some a := by rw [List.getElem?_eq_getElem hn, e]
  exact ⟨n, st[n], e1, List.getElem?_eq_getElem h2, s.ok n a _ e1 (List.getElem?_eq_getElem h2)⟩
theorem StOk.keep {C : Cn} {g g' : G} {H H' : Hp} {st : Sto} (s : StOk C g H st) (f : Same g.Fz g'.Fz) (tw : TwLe g g') (ea : g'.ad = g.ad ∧ g'.lg = g.lg) (e : ∀ a ∈ g.ad, ∀ ho, H a = some ho → H' a = some ho) : StOk C g' H' st where
  len := by rw [ea.1]; exact s.len
  nd := by rw [ea.1]; exact s.nd
  ok := fun n a o h1 h2 => by
    rw [ea.1] at h1
    exact (s.ok n a o h1 h2).keep f tw (e a (List.mem_of_getElem? h1))
  lg := fun n a o h1 h2 => by
    rw [ea.1] at h1
    obtain ⟨ho, h3, _⟩ := (s.ok n a o h1 h2).at
    rw [ea.2, ← s.lg n a o h1 h2, h3]
    exact e a (List.mem_of_getElem? h1) ho h3
  nw := by rw [ea.2]; exact s.nw
  no := by rw [ea.2]; exact s.no
theorem StOk.frz {C : Cn} {g : G} {H : Hp} {st : Sto} {F : Hp} (s : StOk C g H st) (f : Same g.Fz F) : StOk C ⟨F, g.tw, g.ad, g.lg⟩ H st := s.keep f .of ⟨rfl, rfl⟩ fun _ _ _ h => h
structure Wf (C : Cn) (g : G) (H : Hp) (t : Tn) : Prop where
  fz : Same g.Fz H
  tw : TownOk g H t.1 ∧ StOk C g H t.2
  ntw : ∀ b, g.isTw b → g.Fz b = none
  tab : LamX.Tabs C.T H
  nft : ∀ b ps, g.Fz b ≠ some (.tbl ps)
theorem nft_upd {F : Hp} {p : Addr} {o : HO} (h : ∀ b ps, F b ≠ some (.tbl ps)) (ho : ∀ ps, o ≠ .tbl ps) : ∀ b ps, upd F p o b ≠ some (.tbl ps) := fun b ps e => by
  by_cases hb : b = p
  · rw [hb, upd_same] at e; exact ho ps (Option.some.inj e)
  · rw [upd_ne hb] at e; exact h b ps e
/-- something stands there -/
theorem Wf.twd {C : Cn} {g : G} {H : Hp} {t : Tn} (w : Wf C g H t) {b : Addr} (h : g.isTw b) : ∃ o, H b = some o ∧ (∀ ps, o ≠ .tbl ps) ∧ (∀ ob u, o ≠ .frz ob u) := by
  rcases h with ⟨p, hp, q⟩ | h
  · obtain ⟨t, st⟩ := t
    cases t with
    | none => rw [show g.tw = none from w.tw.1] at hp; cases hp
    | some cr =>
      obtain ⟨a, c, e, _, h1, h2⟩ := w.tw.1
      rw [hp] at e
      cases e
      rcases q with q | q
      · exact ⟨HO.dK _, by rw [q]; exact h1, (fun _ z => nomatch z), (fun _ _ z => nomatch z)⟩
      · exact ⟨HO.dK _, by rw [q]; exact h2, (fun _ z => nomatch z), (fun _ _ z => nomatch z)⟩
  · obtain ⟨n, o, _, _, ok⟩ := w.tw.2.get h
    obtain ⟨ho, h1, h2, _, h3⟩ := ok.at
    exact ⟨ho, h1, h2, h3⟩
theorem Wf.ntN {C : Cn} {g : G} {H : Hp} {t : Tn} (w : Wf C g H t) {b : Addr} (h : H b = none) : ¬ g.isTw b := fun z => by
  obtain ⟨kvs, e, _⟩ := w.twd z
  rw [h] at e; cases e
theorem Wf.fzN {C : Cn} {g : G} {H : Hp} {t : Tn} (w : Wf C g H t) {b : Addr} (h : H b = none) : g.Fz b = none := by
  cases z : g.Fz b with
  | none => rfl
  | some o => rw [w.fz b o z] at h; cases h
/-- a dict's pairs -/
def RpK (K : PySem.W.Frag) (g : G) (vs : List (Key × V)) (ks : List (Key × D)) : Prop := vs.map (·.1) = ks.map (·.1) ∧ RpA K g (vs.map (·.2)) (ks.map (·.2))
theorem heap_size : ∀ n : Nat, ∃ h : Heap, h.objs.size = n
  | 0 => ⟨{ objs := #[] }, rfl⟩
  | n + 1 => by
    obtain ⟨h, e⟩ := heap_size n
    exact ⟨h.push { cls := .none, data := .fields #[] }, by rw [Heap.size_push, e]⟩
/-- an exception's object is no dict -/
theorem exk_ne {cls : Value} {p : Addr} {L : DL} (e : ExK cls p = DkO p L) : False := by
  obtain ⟨h, e1⟩ := heap_size p
  have at_ : (h.push { cls := cls, data := .fields #[] }).get? p = some { cls := cls, data := .fields #[] } := by
    have := Heap.get?_push_size h (o := { cls := cls, data := .fields #[] }) rfl
    rw [e1] at this; exact this
  unfold ExK DkO at e
  injection e with e
  have k : (fun h : Heap => ∃ (oe : Obj) (vs : Array Value), h.get? p = some oe ∧ oe.cls = cls ∧ oe.dict = none ∧ oe.data = .fields vs) (h.push { cls := cls, data := .fields #[] }) := ⟨_, _, at_, rfl, rfl, rfl⟩
  rw [e] at k
  obtain ⟨o, es, us, ho, _, hd, _⟩ := k
  rw [at_] at ho
  cases ho
  cases hd
/-- what a slot tells -/
def SVok (K : PySem.W.Frag) (g : G) (H : Hp) : SV → Option (Option V) → Prop
  | .un, _ => True
  | .val d, o => ∃ v, o = some (some v) ∧ Rp K g v d
  | .own ds, o => ∃ p vs, o = some (some (.ref p)) ∧ H p = some (.lst vs) ∧ RpA K g vs ds ∧ g.Fz p = none ∧ ¬ g.isTw p
  | .dic ks, o => ∃ p vs, o = some (some (.ref p)) ∧ H p = some (.dK vs) ∧ RpK K g vs ks ∧ g.Fz p = none ∧ ¬ g.isTw p
  | .raw v, o => o = some (some v)
  | .exn c, o => ∃ p, o = some (some (.ref p)) ∧ H p = some (ExK (.ref c) p)
  | .dcT ks, o => ∃ p L, o = some (some (.ref p)) ∧ H p = some (DkO p L) ∧ RpD K g L ks ∧ g.Fz p = none ∧ ¬ g.isTw p
/-- the slots -/
structure SL (K : PySem.W.Frag) (g : G) (H : Hp) (σ : L2.St) (S : Sl) : Prop where
  len : σ.length = S.length
  ok : ∀ (i : Nat) x, S[i]? = some x → SVok K g H x σ[i]?
  dis : ∀ (i j : Nat) p x y, S[i]? = some x → S[j]? = some y → isOw x = true → isOw y = true → σ[i]? = some (some (.ref p)) → σ[j]? = some (some (.ref p)) → i = j
section
variable {K : PySem.W.Frag} {g : G} {H : Hp} {σ : L2.St} {S : Sl}
theorem SL.val (s : SL K g H σ S) (i : Nat) (d : D) (e : S[i]? = some (.val d)) : ∃ v, σ[i]? = some (some v) ∧ Rp K g v d := s.ok i _ e
theorem SL.own (s : SL K g H σ S) (i : Nat) (ds : List D) (e : S[i]? = some (.own ds)) : ∃ p vs, σ[i]? = some (some (.ref p)) ∧ H p = some (.lst vs) ∧ RpA K g vs ds ∧ g.Fz p = none ∧ ¬ g.isTw p := s.ok i _ e
theorem SL.dic (s : SL K g H σ S) (i : Nat) (ks : List (Key × D)) (e : S[i]? = some (.dic ks)) : ∃ p vs, σ[i]? = some (some (.ref p)) ∧ H p = some (.dK vs) ∧ RpK K g vs ks ∧ g.Fz p = none ∧ ¬ g.isTw p := s.ok i _ e
theorem SL.dcT (s : SL K g H σ S) (i : Nat) (ks : List (List Int × D)) (e : S[i]? = some (.dcT ks)) : ∃ p L, σ[i]? = some (some (.ref p)) ∧ H p = some (DkO p L) ∧ RpD K g L ks ∧ g.Fz p = none ∧ ¬ g.isTw p := s.ok i _ e
theorem SL.raw (s : SL K g H σ S) (i : Nat) (v : V) (e : S[i]? = some (.raw v)) : σ[i]? = some (some v) := s.ok i _ e
/-- the address of an object of one's own, and that it is there -/
theorem SL.ow (s : SL K g H σ S) {i : Nat} {x : SV} (e : S[i]? = some x) (h : isOw x = true) : ∃ p o, σ[i]? = some (some (.ref p)) ∧ H p = some o ∧ g.Fz p = none ∧ ∀ ps, o ≠ .tbl ps := by
  cases x with
  | own ds => obtain ⟨p, vs, h1, h2, h3, h4, _⟩ := s.own i ds e; exact ⟨p, _, h1, h2, h4, fun _ z => nomatch z⟩
  | dic ks => obtain ⟨p, vs, h1, h2, h3, h4, h5⟩ := s.dic i ks e; exact ⟨p, _, h1, h2, h4, fun _ z => nomatch z⟩
  | dcT ks => obtain ⟨p, L, h1, h2, h3, h4, _⟩ := s.dcT i ks e; exact ⟨p, _, h1, h2, h4, DkO_tbl⟩
  | _ => cases h
/-- a slot is set -/
theorem SL.put (s : SL K g H σ S) {i : Nat} {x : SV} {o : Option V} (hx : SVok K g H x (some o)) (hd : isOw x = true → ∀ p, o = some (.ref p) → ∀ (j : Nat) y, S[j]? = some y → isOw y = true → σ[j]? = some (some (.ref p)) → j = i) : SL K g H (σ.set i o) (S.set i x) where
  len := by rw [List.length_set, List.length_set]; exact s.len
  ok := fun j y e => by
    by_cases h : i = j
    · subst h
      by_cases hl : i < S.length
      · rw [List.getElem?_set_self hl] at e
        cases e
        rw [List.getElem?_set_self (by rw [s.len]; exact hl)]
        exact hx
      · rw [List.getElem?_eq_none (by rw [List.length_set]; omega)] at e; cases e
    · rw [List.getElem?_set_ne h] at e ⊢
      exact s.ok j y e
  dis := fun j k q y z e1 e2 o1 o2 e3 e4 => by
    have lt : ∀ {m} {y : SV}, (S.set i x)[m]? = some y → m < S.length := fun {m y} e => by
      obtain ⟨h, _⟩ := List.getElem?_eq_some_iff.mp e
      rw [List.length_set] at h
      exact h
    by_cases h1 : i = j
    · by_cases h2 : i = k
      · exact h1.symm.trans h2
      · subst h1
        have l1 := lt e1
        rw [List.getElem?_set_self l1] at e1
        rw [List.getElem?_set_self (by rw [s.len]; exact l1)] at e3
        cases e1
        rw [List.getElem?_set_ne h2] at e2 e4
        cases e3
        exact (hd o1 q rfl k z e2 o2 e4).symm
    · by_cases h2 : i = k
      · subst h2
        have l2 := lt e2
        rw [List.getElem?_set_self l2] at e2
        rw [List.getElem?_set_self (by rw [s.len]; exact l2)] at e4
        cases e2
        rw [List.getElem?_set_ne h1] at e1 e3
        cases e4
        exact hd o2 q rfl j y e1 o1 e3
      · rw [List.getElem?_set_ne h1] at e1 e3
        rw [List.getElem?_set_ne h2] at e2 e4
        exact s.dis j k q y z e1 e2 o1 o2 e3 e4
end
theorem RpK.stp {K : PySem.W.Frag} {g g' : G} {H H' : Hp} {vs : List (Key × V)} {ks : List (Key × D)} (r : RpK K g vs ks) (p : Stp g H g' H') : RpK K g' vs ks := ⟨r.1, r.2.stp p⟩
theorem Stp.ntw {g g' : G} {H H' : Hp} {b : Addr} {o : HO} (p : Stp g H g' H') (h : H b = some o) (n : ¬ g.isTw b) (nt : ∀ ps, o ≠ .tbl ps) : ¬ g'.isTw b := isTw_back p.tw p.twn ⟨o, h, nt⟩ n
theorem RpD.stp {K : PySem.W.Frag} {g g' : G} {H H' : Hp} {L : DL} {ks : List (List Int × D)} (r : RpD K g L ks) (p : Stp g H g' H') : RpD K g' L ks := r.mono p.fz p.tw
/-- an exception's object is none that may be changed -/
theorem Wf.ntX {C : Cn} {g : G} {H : Hp} {t : Tn} (w : Wf C g H t) {b : Addr} {c : Value} (h : H b = some (ExK c b)) : ¬ g.isTw b := fun z => by
  rcases z with ⟨p, hp, q⟩ | z
  · obtain ⟨t, st⟩ := t
    cases t with
    | none => rw [show g.tw = none from w.tw.1] at hp; cases hp
    | some cr =>
      obtain ⟨a, c, e, _, h1, h2⟩ := w.tw.1
      rw [hp] at e
      cases e
      rcases q with q | q
      · rw [q, h1] at h; unfold ExK at h; cases h
      · rw [q, h2] at h; unfold ExK at h; cases h
  · obtain ⟨n, ⟨o, vn⟩, _, _, ok⟩ := w.tw.2.get z
    cases o with
    | td ks => obtain ⟨L, h1, _⟩ := ok; rw [h] at h1; exact exk_ne (Option.some.inj h1)
    | li ds => obtain ⟨L, h1, _⟩ := ok; rw [h] at h1; unfold ExK at h1; cases h1
    | ins fs => obtain ⟨dx, vs, h1, _⟩ := ok; rw [h] at h1; unfold ExK at h1; cases h1
theorem SL.stp {K : PySem.W.Frag} {C : Cn} {g g' : G} {H H' : Hp} {t : Tn} {σ : L2.St} {S : Sl} (s : SL K g H σ S) (w : Wf C g H t) (p : Stp g H g' H') : SL K g' H' σ S where
  len := s.len
  ok := fun i x e => by
    have h := s.ok i x e
    cases x with
    | un => trivial
    | val d => obtain ⟨v, h1, h2⟩ := h; exact ⟨v, h1, h2.stp p⟩
    | own ds =>
      obtain ⟨a, vs, h1, h2, h3, h4, h5⟩ := h
      exact ⟨a, vs, h1, p.frm _ _ h2 h5 (fun _ z => nomatch z), h3.stp p, by rw [p.new a ⟨_, h2, fun _ z => nomatch z⟩]; exact h4, p.ntw h2 h5 (fun _ z => nomatch z)⟩
    | dic ks =>
      obtain ⟨a, vs, h1, h2, h3, h4, h5⟩ := h
      exact ⟨a, vs, h1, p.frm _ _ h2 h5 (fun _ z => nomatch z), h3.stp p, by rw [p.new a ⟨_, h2, fun _ z => nomatch z⟩]; exact h4, p.ntw h2 h5 (fun _ z => nomatch z)⟩
    | dcT ks =>
      obtain ⟨a, L, h1, h2, h3, h4, h5⟩ := h
      exact ⟨a, L, h1, p.frm _ _ h2 h5 DkO_tbl, h3.stp p, by rw [p.new a ⟨_, h2, DkO_tbl⟩]; exact h4, p.ntw h2 h5 DkO_tbl⟩
    | raw v => exact h
    | exn c =>
      obtain ⟨p0, h1, h2⟩ := h
      exact ⟨p0, h1, p.frm _ _ h2 (w.ntX h2) (fun _ z => by unfold ExK at z; cases z)⟩
  dis := s.dis
/-- what is wanted behind -/
def Post {α : Type} (C : Cn) (E : XK) (g : G) (H : Hp) (Rok : α → Tn → G → Hp → Prop) : Option (Out α) → Prop
  | none => False
  | some (.ok a t') => ∀ g' H', Stp g H g' H' → Wf C g' H' t' → Rok a t' g' H'
  | some (.exc c t') => ∀ g' H', Stp g H g' H' → Wf C g' H' t' → E (.ref (C.ex c)) none H'
section
variable {α β : Type} {C : Cn} {E : XK} {g g1 : G} {H H1 : Hp} {Rok : α → Tn → G → Hp → Prop}
theorem Post.stp {r : Option (Out α)} (h : Post C E g H Rok r) (s : Stp g H g1 H1) : Post C E g1 H1 Rok r := by
  cases r with
  | none => exact h
  | some o =>
    cases o with
    | ok a t' => exact fun g' H' s' w => h g' H' (s.trans s') w
    | exc c t' => exact fun g' H' s' w => h g' H' (s.trans s') w
theorem Post.imp {r : Option (Out α)} {Rok' : α → Tn → G → Hp → Prop} (h : Post C E g H Rok r) (f : ∀ a t' g' H', Stp g H g' H' → Wf C g' H' t' → Rok a t' g' H' → Rok' a t' g' H') : Post C E g H Rok' r := by
  cases r with
  | none => exact h
  | some o =>
    cases o with
    | ok a t' => exact fun g' H' s' w => f a t' g' H' s' w (h g' H' s' w)
    | exc c t' => exact h
theorem Post.bnd {Rok : β → Tn → G → Hp → Prop} {m : M α} {k : α → M β} {t : Tn} (h : Post C E g H Rok (bnd m k t)) : Post C E g H (fun a t1 g1 H1 => Post C E g1 H1 Rok (k a t1)) (m t) := by
  unfold BG.bnd at h
  cases e : m t with
  | none => rw [e] at h; exact h
  | some o =>
    rw [e] at h
    cases o with
    | ok a t' => exact fun g' H' s' w => Post.stp h s'
    | exc c t' => exact h
theorem postRet {a : α} {t : Tn} (h : Post C E g H Rok (ret a t)) (w : Wf C g H t) : Rok a t g H := h g H (.refl g H) w
theorem Post.calm {m : M α} {t : Tn} (h : Post C E g H Rok (calm m t)) (E' : XK) : Post C E' g H Rok (m t) := by
  unfold BG.calm at h
  cases e : m t with
  | none => rw [e] at h; exact h.elim
  | some o =>
    rw [e] at h
    cases o with
    | ok a t' => exact h
    | exc c t' => exact h.elim
end
/-- the weak relation: data, or a list of one's own -/
def RpW (K : PySem.W.Frag) (g : G) (H : Hp) (v : V) (d : D) : Prop := Rp K g v d ∨ ∃ p vs ds, d = .lst ds ∧ v = .ref p ∧ H p = some (.lst vs) ∧ RpA K g vs ds ∧ ¬ g.isTw p
theorem RpW.stp {K : PySem.W.Frag} {C : Cn} {g g' : G} {H H' : Hp} {t : Tn} {v : V} {d : D} (w : Wf C g H t) (s : Stp g H g' H') (h : RpW K g H v d) : RpW K g' H' v d := by
  rcases h with h | ⟨p, vs, ds, e1, e2, e3, e4, e5⟩
  · exact .inl (h.stp s)
  · exact .inr ⟨p, vs, ds, e1, e2, s.frm _ _ e3 e5 (fun _ z => nomatch z), e4.stp s, s.ntw e3 e5 (fun _ z => nomatch z)⟩
/-- a list that was just made -/
def RpF (K : PySem.W.Frag) (H0 : Hp) (g : G) (H : Hp) (v : V) (d : D) : Prop := ∃ p vs ds, d = .lst ds ∧ v = .ref p ∧ ¬ Nt H0 p ∧ H p = some (.lst vs) ∧ RpA K g vs ds ∧ g.Fz p = none ∧ ¬ g.isTw p
abbrev Ex := Sl → M D
def tE (K : PySem.W.Frag) (C : Cn) (E : XK) (f : Ex) : TE := fun σ H Q => ∃ g S t, Wf C g H t ∧ SL K g H σ S ∧ Post C E g H (fun d _ g' H' => ∀ v, Rp K g' v d → Q v H') (f S t)
def tW (K : PySem.W.Frag) (C : Cn) (E : XK) (f : Ex) : TE := fun σ H Q => ∃ g S t, Wf C g H t ∧ SL K g H σ S ∧ Post C E g H (fun d _ g' H' => ∀ v, RpW K g' H' v d → Q v H') (f S t)
def tF (K : PySem.W.Frag) (C : Cn) (E : XK) (f : Ex) : TE := fun σ H Q => ∃ g S t, Wf C g H t ∧ SL K g H σ S ∧ Post C E g H (fun d _ g' H' => ∀ v, RpF K H g' H' v d → Q v H') (f S t)
def tT (K : PySem.W.Frag) (C : Cn) (E : XK) (f : Ex) : TT := fun σ H Q => ∃ g S t, Wf C g H t ∧ SL K g H σ S ∧ Post C E g H (fun d _ g' H' => ∃ b, d = .bl b ∧ Q b H') (f S t)
def tAs (K : PySem.W.Frag) (C : Cn) (E : XK) (f : Sl → M (List D)) : TA := fun σ H Q => ∃ g S t, Wf C g H t ∧ SL K g H σ S ∧ Post C E g H (fun ds _ g' H' => ∀ vs, RpA K g' vs ds → Q vs H') (f S t)
abbrev CE (X : Cx) (C : Cn) (E : XK) (e : Expr) (f : Ex) : Prop := PE X e (tE X.K C E f)
abbrev CW (X : Cx) (C : Cn) (E : XK) (e : Expr) (f : Ex) : Prop := PE X e (tW X.K C E f)
abbrev CF (X : Cx) (C : Cn) (E : XK) (e : Expr) (f : Ex) : Prop := PE X e (tF X.K C E f)
abbrev CT (X : Cx) (C : Cn) (E : XK) (e : Expr) (f : Ex) : Prop := PT X e (tT X.K C E f)
abbrev CA (X : Cx) (C : Cn) (E : XK) (es : List Expr) (f : Sl → M (List D)) : Prop := PA X es (tAs X.K C E f)
theorem PE.imp {X : Cx} {e : Expr} {t t' : TE} (h : PE X e t) (f : ∀ σ H Q, t' σ H Q → t σ H Q) : PE X e t' := ⟨fun pins s σ H Q I q => h.run pins s σ H Q I (f σ H Q q)⟩
theorem PT.imp {X : Cx} {e : Expr} {t t' : TT} (h : PT X e t) (f : ∀ σ H Q, t' σ H Q → t σ H Q) : PT X e t' := ⟨fun pins s σ H Q I q => h.run pins s σ H Q I (f σ H Q q)⟩
theorem PA.imp {X : Cx} {e : List Expr} {t t' : TA} (h : PA X e t) (f : ∀ σ H Q, t' σ H Q → t σ H Q) : PA X e t' := ⟨fun pos pins s σ H Q I q => h.run pos pins s σ H Q I (f σ H Q q)⟩
theorem PS.imp {X : Cx} {e : Stmt} {t t' : TS} (h : PS X e t) (f : ∀ D σ H, t' D σ H → t D σ H) : PS X e t' := ⟨fun pins s σ H D I q => h.run pins s σ H D I (f D σ H q)⟩
theorem PSs.imp {X : Cx} {e : List Stmt} {t t' : TS} (h : PSs X e t) (f : ∀ D σ H, t' D σ H → t D σ H) : PSs X e t' := ⟨fun pins s σ H D I q => h.run pins s σ H D I (f D σ H q)⟩
section
variable {X : Cx} {C : Cn} {E : XK} {e : Expr} {f : Ex}
theorem e2w (h : CE X C E e f) : CW X C E e f := PE.imp h fun σ H Q ⟨g, S, t, w, s, p⟩ => ⟨g, S, t, w, s, p.imp fun d t' g' H' _ _ q v r => q v (.inl r)⟩
/-- the list that was just made is frozen -/
theorem Rp.frz {K : PySem.W.Frag} {g0 g : G} {H0 H : Hp} {t : Tn} {v : V} {d : D} (r : RpF K H0 g H v d) (s : Stp g0 H0 g H) (w : Wf C g H t) : ∃ g', Stp g0 H0 g' H ∧ Wf C g' H t ∧ Rp K g' v d := by
  obtain ⟨p, vs, ds, rfl, rfl, e0, e1, ra, e2, e3⟩ := r
  have sm : Same g.Fz (upd g.Fz p (.lst vs)) := fun b o h => by
    rw [upd_ne (ne_of_none h e2)]; exact h
  refine ⟨⟨upd g.Fz p (.lst vs), g.tw, g.ad, g.lg⟩, ⟨s.fz.trans sm, s.tw.trans .of, s.twn, s.frm, s.thr, fun b h => ?_⟩, ⟨fun b o h => ?_, ⟨w.tw.1, w.tw.2.frz sm⟩, fun b h => ?_, w.tab, nft_upd w.nft fun _ z => by cases z⟩, ?_⟩
  · have nb : b ≠ p := fun z => e0 (by rw [← z]; exact h)
    show upd g.Fz p (.lst vs) b = _
    rw [upd_ne nb]
    exact s.new b h
  · have h : upd g.Fz p (.lst vs) b = some o := h
    by_cases hb : b = p
    · rw [hb, upd_same] at h
      cases h
      rw [hb]; exact e1
    · rw [upd_ne hb] at h
      exact w.fz b o h
  · have nb : b ≠ p := fun z => e3 (by rw [← z]; exact h)
    show upd g.Fz p (.lst vs) b = _
    rw [upd_ne nb]
    exact w.ntw b h
  · exact .lst upd_same (RpA.mono (g' := ⟨upd g.Fz p (.lst vs), g.tw, g.ad, g.lg⟩) sm .of ra)
theorem f2e (h : CF X C E e f) : CE X C E e f := PE.imp h fun σ H Q ⟨g, S, t, w, s, p⟩ => by
  refine ⟨g, S, t, w, s, ?_⟩
  cases r : f S t with
  | none => rw [r] at p; exact p
  | some o =>
    rw [r] at p
    cases o with
    | exc c t' => exact p
    | ok d t' =>
      intro g' H' s' w' v rf
      obtain ⟨g2, s2, w2, r2⟩ := Rp.frz rf s' w'
      exact p g2 H' s2 w2 v r2
theorem f2w (h : CF X C E e f) : CW X C E e f := e2w (f2e h)
end
theorem RpW.lst {K : PySem.W.Frag} {C : Cn} {g : G} {H : Hp} {t : Tn} {v : V} {ds : List D} (w : Wf C g H t) (h : RpW K g H v (.lst ds)) : ∃ p vs, v = .ref p ∧ H p = some (.lst vs) ∧ RpA K g vs ds := by
  rcases h with h | ⟨p, vs, ds', e1, e2, e3, e4, _⟩
  · cases h with
    | lst a b => exact ⟨_, _, rfl, w.fz _ _ a, b⟩
  · cases e1
    exact ⟨p, vs, e2, e3, e4⟩
theorem RpW.tup {K : PySem.W.Frag} {C : Cn} {g : G} {H : Hp} {t : Tn} {v : V} {ds : List D} (w : Wf C g H t) (h : RpW K g H v (.tup ds)) : ∃ p vs, v = .ref p ∧ SqT K H p vs ∧ RpA K g vs ds := by
  rcases h with h | ⟨p, vs, ds', e1, e2, e3, e4⟩
  · cases h with
    | tup a b => exact ⟨_, _, rfl, Same.tseq w.fz a.t, b⟩
  · cases e1
theorem RpW.int {K : PySem.W.Frag} {g : G} {H : Hp} {v : V} {i : Int} (h : RpW K g H v (.int i)) : v = .int i := by
  rcases h with h | ⟨p, vs, ds', e1, e2, e3, e4⟩
  · cases h; rfl
  · cases e1
theorem RpW.str {K : PySem.W.Frag} {g : G} {H : Hp} {v : V} {i : Str} (h : RpW K g H v (.str i)) : v = .str i := by
  rcases h with h | ⟨p, vs, ds', e1, e2, e3, e4⟩
  · cases h; rfl
  · cases e1
theorem RpW.bl {K : PySem.W.Frag} {g : G} {H : Hp} {v : V} {i : Bool} (h : RpW K g H v (.bl i)) : v = .bl i := by
  rcases h with h | ⟨p, vs, ds', e1, e2, e3, e4⟩
  · cases h; rfl
  · cases e1
theorem RpW.non {K : PySem.W.Frag} {g : G} {H : Hp} {v : V} (h : RpW K g H v .non) : v = .non := by
  rcases h with h | ⟨p, vs, ds', e1, e2, e3, e4⟩
  · cases h; rfl
  · cases e1
/-- an operand, then what follows -/
theorem tE.seq {K : PySem.W.Frag} {C : Cn} {E : XK} {fa : Ex} {k : Sl → D → M D} {σ : L2.St} {H : Hp} {Q Q1 : VK} (h : tE K C E (fun S => bnd (fa S) (k S)) σ H Q)
    (f : ∀ g S t x d H1, Wf C g H1 t → SL K g H1 σ S → Rp K g x d → Post C E g H1 (fun d _ g' H' => ∀ v, Rp K g' v d → Q v H') (k S d t) → Q1 x H1) : tE K C E fa σ H Q1 := by
  obtain ⟨g, S, t, w, s, p⟩ := h
  exact ⟨g, S, t, w, s, p.bnd.imp fun d t' g' H' st w' q v r => f g' S t' v d H' w' (s.stp w st) r q⟩
theorem tW.seq {K : PySem.W.Frag} {C : Cn} {E : XK} {fa : Ex} {k : Sl → D → M D} {σ : L2.St} {H : Hp} {Q Q1 : VK} (h : tE K C E (fun S => bnd (fa S) (k S)) σ H Q)
    (f : ∀ g S t x d H1, Wf C g H1 t → SL K g H1 σ S → RpW K g H1 x d → Post C E g H1 (fun d _ g' H' => ∀ v, Rp K g' v d → Q v H') (k S d t) → Q1 x H1) : tW K C E fa σ H Q1 := by
  obtain ⟨g, S, t, w, s, p⟩ := h
  exact ⟨g, S, t, w, s, p.bnd.imp fun d t' g' H' st w' q v r => f g' S t' v d H' w' (s.stp w st) r q⟩
/-- a new object laid, tracked, not frozen -/
theorem Stp.lay {C : Cn} {g : G} {H : Hp} {t : Tn} {p : Addr} {o : HO} (w : Wf C g H t) (hp : H p = none) : Stp g H g (upd H p o) :=
  ⟨fun _ _ h => h, .refl g, Twn.refl g H, fun b o' h _ _ => (by rw [upd_ne (ne_of_none h hp)]; exact h), fun b ⟨o', h, n⟩ => ⟨o', by rw [upd_ne (ne_of_none h hp)]; exact h, n⟩, fun _ _ => rfl⟩
theorem TownOk.ext {g : G} {H H' : Hp} {t : Option (Int × List (Int × Int))} (h : TownOk g H t) (e : ∀ b kvs, H b = some (.dK kvs) → (∃ p, g.tw = some p ∧ (b = p.1 ∨ b = p.2)) → H' b = some (.dK kvs)) : TownOk g H' t := by
  cases t with
  | none => exact h
  | some cr =>
    obtain ⟨a, b, e1, e2, e3, e4⟩ := h
    exact ⟨a, b, e1, e2, e _ _ e3 ⟨_, e1, .inl rfl⟩, e _ _ e4 ⟨_, e1, .inr rfl⟩⟩
theorem Wf.lay {C : Cn} {g : G} {H : Hp} {t : Tn} {p : Addr} {o : HO} (w : Wf C g H t) (hp : H p = none) : Wf C g (upd H p o) t where
  fz := fun b o' h => by rw [upd_ne (ne_of_none (w.fz b o' h) hp)]; exact w.fz b o' h
  tw := ⟨w.tw.1.ext fun b kvs h _ => by rw [upd_ne (ne_of_none h hp)]; exact h, w.tw.2.keep (fun _ _ h => h) (.refl g) ⟨rfl, rfl⟩ fun a _ ho h => by rw [upd_ne (ne_of_none h hp)]; exact h⟩
  ntw := w.ntw
  tab := w.tab.ext fun b o' h => by rw [upd_ne (ne_of_none h hp)]; exact h
  nft := w.nft
/-- .. frozen: a tuple -/
theorem layT {K : PySem.W.Frag} {C : Cn} {g : G} {H : Hp} {t : Tn} {p : Addr} {vs : List V} {ds : List D} {ob : Obj} (w : Wf C g H t) (hp : H p = none) (hd : ob.dict = none) (hc : ob.cls = .type "tuple") (r : RpA K g vs ds) :
    ∃ g', Stp g H g' (upd H p (.frz ob (.tup vs))) ∧ Wf C g' (upd H p (.frz ob (.tup vs))) t ∧ Rp K g' (.ref p) (.tup ds) := by
  have f0 : g.Fz p = none := w.fzN hp
  have sm : Same g.Fz (upd g.Fz p (.frz ob (.tup vs))) := fun b o h => by
    rw [upd_ne (ne_of_none h f0)]; exact h
  have s1 := Stp.lay (o := HO.frz ob (.tup vs)) w hp
  have w1 := Wf.lay (o := HO.frz ob (.tup vs)) w hp
  refine ⟨⟨upd g.Fz p (.frz ob (.tup vs)), g.tw, g.ad, g.lg⟩, ⟨sm, .of, s1.twn, s1.frm, s1.thr, fun b h => ?_⟩, ⟨fun b o h => ?_, ⟨w1.tw.1, w1.tw.2.frz sm⟩, fun b h => ?_, w1.tab, nft_upd w1.nft fun _ z => by cases z⟩, ?_⟩
  · have nb : b ≠ p := fun z => Nt.no hp (by rw [← z]; exact h)
    show upd g.Fz p (.frz ob (.tup vs)) b = _
    rw [upd_ne nb]
  · have h : upd g.Fz p (.frz ob (.tup vs)) b = some o := h
    by_cases hb : b = p
    · rw [hb, upd_same] at h
      cases h
      rw [hb]; exact upd_same
    · rw [upd_ne hb] at h
      exact w1.fz b o h
  · have nb : b ≠ p := fun z => w.ntN hp (by rw [← z]; exact h)
    show upd g.Fz p (.frz ob (.tup vs)) b = _
    rw [upd_ne nb]
    exact w.ntw b h
  · exact .tup (.inl ⟨ob, upd_same, hd, hc⟩) (RpA.mono (g' := ⟨upd g.Fz p (.frz ob (.tup vs)), g.tw, g.ad, g.lg⟩) sm .of r)
/-- a new list, not frozen yet -/
theorem layL {K : PySem.W.Frag} {C : Cn} {g : G} {H : Hp} {t : Tn} {p : Addr} {vs : List V} {ds : List D} (w : Wf C g H t) (hp : H p = none) (r : RpA K g vs ds) : RpF K H g (upd H p (.lst vs)) (.ref p) (.lst ds) :=
  ⟨p, vs, ds, rfl, rfl, Nt.no hp, upd_same, r, w.fzN hp, w.ntN hp⟩
/-- neither frozen nor one of the objects -/
def Fre (g : G) (p : Addr) : Prop := g.Fz p = none ∧ ¬ g.isTw p
theorem Fre.stp {g g' : G} {H H' : Hp} {p : Addr} {o : HO} (f : Fre g p) (s : Stp g H g' H') (h : H p = some o) (n : ∀ ps, o ≠ .tbl ps) : Fre g' p := ⟨by rw [s.new p ⟨o, h, n⟩]; exact f.1, s.ntw h f.2 n⟩
theorem Wf.fre {C : Cn} {g : G} {H : Hp} {t : Tn} (w : Wf C g H t) {p : Addr} (h : H p = none) : Fre g p := ⟨w.fzN h, w.ntN h⟩
end BG
set_option Elab.async false
set_option linter.all false
set_option maxRecDepth 100000
set_option maxHeartbeats 4000000
namespace BG
open PySem PySem.Spec PyProof.Rows L2
def eVar (i : Nat) : Ex := fun S => match S[i]? with
  | some (.val d) => ret d
  | _ => stuck
def ePeek (i : Nat) : Ex := fun S => match S[i]? with
  | some (.val d) => ret d
  | some (.own ds) => ret (.lst ds)
  | _ => stuck
def eC (d : D) : Ex := fun _ => ret d
def eBin (op : D → D → M D) (a b : Ex) : Ex := fun S => bnd (a S) fun x => bnd (b S) fun y => op x y
def eUn (op : D → M D) (a : Ex) : Ex := fun S => bnd (a S) fun x => op x
def evs : List Ex → Sl → M (List D)
  | [], _ => ret []
  | f :: fs, S => bnd (f S) fun d => bnd (evs fs S) fun ds => ret (d :: ds)
def eTup (fs : List Ex) : Ex := fun S => bnd (evs fs S) fun ds => ret (.tup ds)
def eLst (fs : List Ex) : Ex := fun S => bnd (evs fs S) fun ds => ret (.lst ds)
def eAnd (a b : Ex) : Ex := fun S => bnd (a S) fun x => match x with
  | .bl true => b S
  | .bl false => ret (.bl false)
  | _ => stuck
def eOr (a b : Ex) : Ex := fun S => bnd (a S) fun x => match x with
  | .bl true => ret (.bl true)
  | .bl false => b S
  | _ => stuck
def oNot (x : D) : M D := match x with
  | .bl b => ret (.bl (!b))
  | _ => stuck
def eIf (c a b : Ex) : Ex := fun S => bnd (c S) fun x => match x with
  | .bl true => a S
  | .bl false => b S
  | _ => stuck
theorem evs_length : ∀ {fs : List Ex} {S : Sl} {t t' : Tn} {ds : List D}, evs fs S t = some (.ok ds t') → ds.length = fs.length
  | [], _, _, _, ds, h => by
    have h : some (Out.ok ([] : List D) _) = some (Out.ok ds _) := h
    cases h; rfl
  | f :: fs, S, t, t', ds, h => by
    unfold evs bnd at h
    cases e : f S t with
    | none => rw [e] at h; cases h
    | some o =>
      rw [e] at h
      cases o with
      | exc c t1 => cases h
      | ok d t1 =>
        cases e2 : evs fs S t1 with
        | none => simp only [e2] at h; cases h
        | some o2 =>
          simp only [e2] at h
          cases o2 with
          | exc c t2 => cases h
          | ok ds2 t2 =>
            have h : some (Out.ok (d :: ds2) t2) = some (Out.ok ds t') := h
            cases h
            rw [List.length_cons, List.length_cons, evs_length e2]
section
variable {α : Type} {C : Cn} {E : XK} {g : G} {H : Hp} {Rok Rok' : α → Tn → G → Hp → Prop}
theorem Post.impE {r : Option (Out α)} (h : Post C E g H Rok r) (f : ∀ a t', r = some (.ok a t') → ∀ g' H', Stp g H g' H' → Wf C g' H' t' → Rok a t' g' H' → Rok' a t' g' H') : Post C E g H Rok' r := by
  cases r with
  | none => exact h
  | some o =>
    cases o with
    | ok a t' => exact fun g' H' s' w => f a t' rfl g' H' s' w (h g' H' s' w)
    | exc c t' => exact h
end
section
variable {X : Cx} {C : Cn} {E : XK}
theorem ce_var (i : Nat) {x : Str} {pos : Pos} (hN : X.N[i]? = some x := by rfl) (hv : Vis X.env.scope x := by first | exact Or.inl rfl | exact Or.inr (Or.inl rfl) | exact Or.inr (Or.inr rfl)) (hd : (x == ("__debug__" : Str)) = false := by decide)
    (hcd : (x == ("__classdict__" : Str)) = false := by decide) : CE X C E (.Name x pos) (eVar i) := by
  refine PE.imp (pe_var hN hv hd hcd) fun σ H Q ⟨g, S, t, w, s, p⟩ => ?_
  unfold eVar at p
  cases e : S[i]? with
  | none => rw [e] at p; exact p.elim
  | some sv =>
    rw [e] at p
    cases sv with
    | un => exact p.elim
    | own ds => exact p.elim
    | dic ks => exact p.elim
    | dcT ks => exact p.elim
    | raw v => exact p.elim
    | exn v => exact p.elim
    | val d =>
      obtain ⟨v, h1, h2⟩ := s.val i d e
      exact ⟨v, h1, postRet p w v h2⟩
theorem cw_peek (i : Nat) {x : Str} {pos : Pos} (hN : X.N[i]? = some x := by rfl) (hv : Vis X.env.scope x := by first | exact Or.inl rfl | exact Or.inr (Or.inl rfl) | exact Or.inr (Or.inr rfl)) (hd : (x == ("__debug__" : Str)) = false := by decide)
    (hcd : (x == ("__classdict__" : Str)) = false := by decide) : CW X C E (.Name x pos) (ePeek i) := by
  refine PE.imp (pe_var hN hv hd hcd) fun σ H Q ⟨g, S, t, w, s, p⟩ => ?_
  unfold ePeek at p
  cases e : S[i]? with
  | none => rw [e] at p; exact p.elim
  | some sv =>
    rw [e] at p
    cases sv with
    | un => exact p.elim
    | dic ks => exact p.elim
    | dcT ks => exact p.elim
    | raw v => exact p.elim
    | exn v => exact p.elim
    | own ds =>
      obtain ⟨a, vs, h1, h2, h3, h4⟩ := s.own i ds e
      exact ⟨_, h1, postRet p w _ (.inr ⟨a, vs, ds, rfl, rfl, h2, h3, h4.2⟩)⟩
    | val d =>
      obtain ⟨v, h1, h2⟩ := s.val i d e
      exact ⟨v, h1, postRet p w v (.inl h2)⟩
theorem ce_int {i j pos} : CE X C E (.Constant (.int i) j pos) (eC (.int i)) := PE.imp pe_int fun σ H Q ⟨g, S, t, w, s, p⟩ => postRet p w _ (.int i)
theorem ce_bl {i j pos} : CE X C E (.Constant (.bool i) j pos) (eC (.bl i)) := PE.imp pe_bl fun σ H Q ⟨g, S, t, w, s, p⟩ => postRet p w _ (.bl i)
theorem ce_non {j pos} : CE X C E (.Constant .none j pos) (eC .non) := PE.imp pe_non fun σ H Q ⟨g, S, t, w, s, p⟩ => postRet p w _ .non
theorem ce_str {x j pos} : CE X C E (.Constant (.str x) j pos) (eC (.str x)) := PE.imp pe_str fun σ H Q ⟨g, S, t, w, s, p⟩ => postRet p w _ (.str x)
/-- a module's constant: its value in the written part -/
theorem ce_glob {x : Str} {v : V} {u : Value} {d : D} {pos : Pos} (hm : X.mg x = some u) (hr : RelV v u) (r : ∀ g, Rp X.K g v d) (hg : Gl X x := by rfl) (hd : (x == ("__debug__" : Str)) = false := by decide) : CE X C E (.Name x pos) (eC d) :=
  PE.imp (pe_glob hg hm hr hd) fun σ H Q ⟨g, S, t, w, s, p⟩ => postRet p w _ (r g)
/-- two operands by values: a law of an operation -/
def rD (K : PySem.W.Frag) (C : Cn) (E : XK) (prim : D → D → M D) : R2 := fun x y H Q => ∃ g t p q, Wf C g H t ∧ RpW K g H x p ∧ RpW K g H y q ∧ Post C E g H (fun d _ g' H' => ∀ v, Rp K g' v d → Q v H') (prim p q t)
abbrev BinOk (X : Cx) (C : Cn) (E : XK) (f : Value → Value → Sem Value) (prim : D → D → M D) : Prop := OpR X f (rD X.K C E prim)
theorem OpR.imp {f : Value → Value → Sem Value} {r r' : R2} (h : OpR X f r) (i : ∀ x y H Q, r' x y H Q → r x y H Q) : OpR X f r' := fun pins s σ H x y v u Q I rx ry q => h pins s σ H x y v u Q I rx ry (i x y H Q q)
theorem tW.two {prim : D → D → M D} {fa fb : Ex} {σ : L2.St} {H : Hp} {Q : VK} (h : tE X.K C E (eBin prim fa fb) σ H Q) : tOp (rD X.K C E prim) (tW X.K C E fa) (tW X.K C E fb) σ H Q := by
  refine tW.seq h fun g S t x d H1 w s rx p1 => ?_
  exact ⟨g, S, t, w, s, p1.bnd.imp fun d2 t2 g2 H2 st w2 q v r2 => ⟨g2, t2, d, d2, w2, rx.stp w st, r2, q⟩⟩
theorem ce_bin {op : Operator} {prim : D → D → M D} {a b : Expr} {fa fb : Ex} {pos : Pos} (ho : BinOk X C E (binaryOp op) prim) (ha : CW X C E a fa) (hb : CW X C E b fb) : CE X C E (.BinOp a op b pos) (eBin prim fa fb) :=
  PE.imp (pe_op ho ha hb) fun σ H Q h => tW.two h
theorem ce_cmp {op : CmpOp} {prim : D → D → M D} {a b : Expr} {fa fb : Ex} {pos : Pos} (ho : BinOk X C E (compareOp op) prim) (ha : CW X C E a fa) (hb : CW X C E b fb) (hm : behindInMarks op b = false := by rfl) :
    CE X C E (.Compare a [op] [b] pos) (eBin prim fa fb) := PE.imp (pe_cmpR ho ha hb hm) fun σ H Q h => tW.two h
theorem tT.tE {f : Ex} {σ : L2.St} {H : Hp} {Q : Bool → Hp → Prop} (h : tT X.K C E f σ H Q) : tE X.K C E f σ H (fun x H' => ∃ k, x = .bl k ∧ Q k H') := by
  obtain ⟨g, S, t, w, s, p⟩ := h
  exact ⟨g, S, t, w, s, p.imp fun d t' g' H' _ _ ⟨b, e, q⟩ v r => by
    subst e
    cases r
    exact ⟨b, rfl, q⟩⟩
theorem ct_cmp {op : CmpOp} {prim : D → D → M D} {a b : Expr} {fa fb : Ex} {pos : Pos} (ho : BinOk X C E (compareOp op) prim) (ha : CW X C E a fa) (hb : CW X C E b fb) (hm : behindInMarks op b = false := by rfl) :
    CT X C E (.Compare a [op] [b] pos) (eBin prim fa fb) := PT.imp (pt_cmpR ho ha hb hm) fun σ H Q h => tW.two (tT.tE h)
/-- any expression that gives a bool, as a test -/
theorem ct_val {e : Expr} {f : Ex} (h : CE X C E e f) (he : ∀ whole, isTrue e X.env whole = (do let v ← whole; standAt e.pos; holding [v] (truthy v)) := by intro _; rfl) : CT X C E e f :=
  PT.imp (pt_val h he) fun σ H Q h => tT.tE h
theorem tE.and {fa fb : Ex} {σ : L2.St} {H : Hp} {Q : VK} (h : tE X.K C E (eAnd fa fb) σ H Q) : tAndV (tE X.K C E fa) (tE X.K C E fb) σ H Q := by
  refine tE.seq h fun g S t x d H1 w s rx p1 => ?_
  cases d with
  | bl b =>
    cases rx
    refine ⟨b, rfl, ?_⟩
    cases b with
    | true => exact iteT ⟨g, S, t, w, s, p1⟩
    | false => exact iteF (postRet p1 w _ (.bl false))
  | _ => exact p1.elim
theorem tE.or {fa fb : Ex} {σ : L2.St} {H : Hp} {Q : VK} (h : tE X.K C E (eOr fa fb) σ H Q) : tOrV (tE X.K C E fa) (tE X.K C E fb) σ H Q := by
  refine tE.seq h fun g S t x d H1 w s rx p1 => ?_
  cases d with
  | bl b =>
    cases rx
    refine ⟨b, rfl, ?_⟩
    cases b with
    | false => exact iteF ⟨g, S, t, w, s, p1⟩
    | true => exact iteT (postRet p1 w _ (.bl true))
  | _ => exact p1.elim
theorem ce_one {op} {a : Expr} {f : Ex} {pos : Pos} (h : CE X C E a f) : CE X C E (.BoolOp op [a] pos) f := pe_one h
theorem ce_and {a b : Expr} {rest : List Expr} {fa fb : Ex} {pos : Pos} (ha : CE X C E a fa) (hb : CE X C E (.BoolOp .And (b :: rest) pos) fb) : CE X C E (.BoolOp .And (a :: b :: rest) pos) (eAnd fa fb) := PE.imp (pe_and ha hb) fun σ H Q h => tE.and h
theorem ce_or {a b : Expr} {rest : List Expr} {fa fb : Ex} {pos : Pos} (ha : CE X C E a fa) (hb : CE X C E (.BoolOp .Or (b :: rest) pos) fb) : CE X C E (.BoolOp .Or (a :: b :: rest) pos) (eOr fa fb) := PE.imp (pe_or ha hb) fun σ H Q h => tE.or h
theorem ce_not {a : Expr} {fa : Ex} {pos : Pos} (ha : CE X C E a fa) : CE X C E (.UnaryOp .Not a pos) (eUn oNot fa) := PE.imp (pe_not ha) fun σ H Q h => by
  refine tE.seq h fun g S t x d H1 w s rx p1 => ?_
  cases d with
  | bl b =>
    cases rx
    exact ⟨b, rfl, postRet p1 w _ (.bl _)⟩
  | _ => exact p1.elim
/-- a test, then what follows -/
theorem tT.seq {fa : Ex} {k : D → M D} {σ : L2.St} {H : Hp} {Rr : D → Tn → G → Hp → Prop} {Q1 : Bool → Hp → Prop} {g : G} {S : Sl} {t : Tn} (w : Wf C g H t) (s : SL X.K g H σ S) (p : Post C E g H Rr (bnd (fa S) k t)) (nb : ∀ d t, (∀ b, d ≠ .bl b) → k d t = none)
    (f : ∀ g t b H1, Wf C g H1 t → SL X.K g H1 σ S → Post C E g H1 Rr (k (.bl b) t) → Q1 b H1) : tT X.K C E fa σ H Q1 := by
  refine ⟨g, S, t, w, s, p.bnd.imp fun d t' g' H' st w' q => ?_⟩
  by_cases h : ∃ b, d = .bl b
  · obtain ⟨b, rfl⟩ := h
    exact ⟨b, rfl, f g' t' b H' w' (s.stp w st) q⟩
  · have q : Post C E g' H' Rr (k d t') := q
    rw [nb d t' (fun b z => h ⟨b, z⟩)] at q
    exact q.elim
theorem cw_and {a b : Expr} {rest : List Expr} {fa fb : Ex} {pos : Pos} (ha : CT X C E a fa) (hb : PW X (.BoolOp .And (b :: rest) pos) (tT X.K C E fb)) : PW X (.BoolOp .And (a :: b :: rest) pos) (tT X.K C E (eAnd fa fb)) := by
  refine ⟨fun wh pins s σ H Q I h => (pw_and ha hb).run wh pins s σ H Q I ?_⟩
  obtain ⟨g, S, t, w, sl, p⟩ := h
  refine tT.seq (k := fun x => match x with | .bl true => fb S | .bl false => ret (.bl false) | _ => stuck) w sl p (fun d t h => ?_) fun g t b H1 w s p => ?_
  · cases d <;> first | rfl | exact absurd rfl (h _)
  · cases b with
    | true => exact iteT ⟨g, S, t, w, s, p⟩
    | false =>
      obtain ⟨b, e, q⟩ := postRet p w
      cases e
      exact iteF q
theorem cw_or {a b : Expr} {rest : List Expr} {fa fb : Ex} {pos : Pos} (ha : CT X C E a fa) (hb : PW X (.BoolOp .Or (b :: rest) pos) (tT X.K C E fb)) : PW X (.BoolOp .Or (a :: b :: rest) pos) (tT X.K C E (eOr fa fb)) := by
  refine ⟨fun wh pins s σ H Q I h => (pw_or ha hb).run wh pins s σ H Q I ?_⟩
  obtain ⟨g, S, t, w, sl, p⟩ := h
  refine tT.seq (k := fun x => match x with | .bl true => ret (.bl true) | .bl false => fb S | _ => stuck) w sl p (fun d t h => ?_) fun g t b H1 w s p => ?_
  · cases d <;> first | rfl | exact absurd rfl (h _)
  · cases b with
    | false => exact iteF ⟨g, S, t, w, s, p⟩
    | true =>
      obtain ⟨b, e, q⟩ := postRet p w
      cases e
      exact iteT q
theorem ct_w {e : Expr} {f : Ex} (h : PW X e (tT X.K C E f)) : CT X C E e f := h.pt
theorem ct_not {a : Expr} {fa : Ex} {pos : Pos} (ha : CT X C E a fa) : CT X C E (.UnaryOp .Not a pos) (eUn oNot fa) := PT.imp (pt_not ha) fun σ H Q h => by
  obtain ⟨g, S, t, w, sl, p⟩ := h
  refine tT.seq (k := oNot) w sl p (fun d t h => ?_) fun g t b H1 w s p => ?_
  · cases d <;> first | rfl | exact absurd rfl (h _)
  · obtain ⟨b, e, q⟩ := postRet p w
    cases e
    exact q
theorem ce_if {c a b : Expr} {fc fa fb : Ex} {pos : Pos} (hc : CT X C E c fc) (ha : CE X C E a fa) (hb : CE X C E b fb) : CE X C E (.IfExp c a b pos) (eIf fc fa fb) := PE.imp (pe_ifExp hc ha hb) fun σ H Q h => by
  obtain ⟨g, S, t, w, sl, p⟩ := h
  refine tT.seq (k := fun x => match x with | .bl true => fa S | .bl false => fb S | _ => stuck) w sl p (fun d t h => ?_) fun g t b H1 w s p => ?_
  · cases d <;> first | rfl | exact absurd rfl (h _)
  · cases b with
    | true => exact iteT ⟨g, S, t, w, s, p⟩
    | false => exact iteF ⟨g, S, t, w, s, p⟩
theorem ca_nil : CA X C E [] (evs []) := PA.imp pa_nil fun σ H Q ⟨g, S, t, w, s, p⟩ => postRet p w _ .nil
theorem ca_cons {e : Expr} {es : List Expr} {f : Ex} {fs : List Ex} (ha : CE X C E e f) (hr : CA X C E es (evs fs)) (hs : starEach (e :: es) X.env = (false, eval e X.env) :: starEach es X.env := by rfl) : CA X C E (e :: es) (evs (f :: fs)) :=
  PA.imp (pa_cons ha hr hs) fun σ H Q ⟨g, S, t, w, s, p⟩ => ⟨g, S, t, w, s, p.bnd.imp fun d t1 g1 H1 st1 w1 q v r => ⟨g1, S, t1, w1, s.stp w st1, q.bnd.imp fun ds t2 g2 H2 st2 w2 q2 vs rs => postRet q2 w2 _ (.cons (r.stp st2) rs)⟩⟩
theorem Post.evs {fs : List Ex} {S : Sl} {t : Tn} {g : G} {H : Hp} {Rok : List D → Tn → G → Hp → Prop} (p : Post C E g H Rok (evs fs S t)) : Post C E g H (fun ds t' g' H' => ds.length = fs.length ∧ Rok ds t' g' H') (evs fs S t) :=
  p.impE fun a t' e g' H' _ _ r => ⟨evs_length e, r⟩
theorem ce_tup {es : List Expr} {fs : List Ex} {x1} {pos : Pos} (h : CA X C E es (evs fs)) (hl : fs.length ≤ sizeLine := by decide) : CE X C E (.Tuple es x1 pos) (eTup fs) := PE.imp (pe_tupN h) fun σ H Q ⟨g, S, t, w, s, p⟩ =>
  ⟨g, S, t, w, s, (Post.evs p.bnd).imp fun ds t1 g1 H1 st1 w1 ⟨el, q⟩ vs rs => ⟨by rw [rs.length, el]; exact hl, fun a ob ha hd hcl => by
    obtain ⟨g2, s2, w2, r2⟩ := layT w1 ha hd hcl rs
    exact q g2 _ s2 w2 _ r2⟩⟩
theorem cf_lst {es : List Expr} {fs : List Ex} {pos : Pos} (h : CA X C E es (evs fs)) (hl : fs.length ≤ sizeLine := by decide) : CF X C E (.List es pos) (eLst fs) := PE.imp (pe_lst h) fun σ H Q ⟨g, S, t, w, s, p⟩ =>
  ⟨g, S, t, w, s, (Post.evs p.bnd).imp fun ds t1 g1 H1 st1 w1 ⟨el, q⟩ vs rs => ⟨by rw [rs.length, el]; exact hl, fun a ha => by
    obtain ⟨p', vs', ds', e1, e2, e3, e4, e5, e6⟩ := layL (H := H1) w1 ha rs
    have h0 : ¬ Nt H a := fun z => Nt.no ha (st1.thr a z)
    exact q g1 _ (Stp.lay w1 ha) (Wf.lay w1 ha) _ ⟨a, vs, ds, rfl, rfl, h0, upd_same, rs, w1.fzN ha, w1.ntN ha⟩⟩⟩
end
end BG
set_option Elab.async false
set_option linter.all false
set_option maxRecDepth 100000
set_option maxHeartbeats 4000000
namespace BG
open PySem PySem.Spec PyProof.Rows L2
mutual
def D.py : D → PyData
  | .non => .none
  | .bl b => .bool b
  | .int i => .int i
  | .str x => .str x
  | .tup xs => .tuple (pyA xs)
  | .lst xs => .list (pyA xs)
  | .town => .none
  | .scr _ => .none
  | .dct _ _ => .none
  | .dTT _ _ => .none
  | .hnd _ => .none
def pyA : List D → List PyData
  | [] => []
  | d :: ds => d.py :: pyA ds
end
mutual
def okD : D → Nat → Bool
  | .non, _ => true
  | .bl _, _ => true
  | .int _, _ => true
  | .str x, _ => PyData.strOk x
  | .tup xs, n => match n with
    | 0 => false
    | m + 1 => okA xs m
  | .lst xs, n => match n with
    | 0 => false
    | m + 1 => okA xs m
  | .town, _ => false
  | .scr _, _ => false
  | .dct _ _, _ => false
  | .dTT _ _, _ => false
  | .hnd _, _ => false
def okA : List D → Nat → Bool
  | [], _ => true
  | d :: ds, n => okD d n && okA ds n
end
theorem pyA_map : ∀ ds : List D, pyA ds = ds.map D.py
  | [] => rfl
  | d :: ds => by rw [pyA, List.map_cons, pyA_map ds]
theorem okA_all : ∀ (ds : List D) (n : Nat), okA ds n = ds.all fun d => okD d n
  | [], _ => rfl
  | d :: ds, n => by rw [okA, List.all_cons, okA_all ds n]
mutual
theorem okD_lay : ∀ (d : D) (n : Nat), okD d n = true → d.py.canLay0 = true ∧ d.py.depth ≤ n
  | .non, _, _ => by rw [D.py]; exact ⟨rfl, Nat.zero_le _⟩
  | .bl _, _, _ => by rw [D.py]; exact ⟨rfl, Nat.zero_le _⟩
  | .int _, _, _ => by rw [D.py]; exact ⟨rfl, Nat.zero_le _⟩
  | .str x, _, h => by rw [D.py]; exact ⟨h, Nat.zero_le _⟩
  | .tup xs, 0, h => by cases h
  | .tup xs, n + 1, h => by
    obtain ⟨a, b⟩ := okA_lay xs n h
    rw [D.py]
    exact ⟨a, Nat.succ_le_succ b⟩
  | .lst xs, 0, h => by cases h
  | .lst xs, n + 1, h => by
    obtain ⟨a, b⟩ := okA_lay xs n h
    rw [D.py]
    exact ⟨a, Nat.succ_le_succ b⟩
  | .town, _, h => by cases h
  | .scr _, _, h => by cases h
  | .dct _ _, _, h => by cases h
  | .dTT _ _, _, h => by cases h
  | .hnd _, _, h => by cases h
theorem okA_lay : ∀ (ds : List D) (n : Nat), okA ds n = true → PyData.canLayAll0 (pyA ds) = true ∧ PyData.depthAll (pyA ds) ≤ n
  | [], _, _ => ⟨rfl, Nat.zero_le _⟩
  | d :: ds, n, h => by
    have h : (okD d n && okA ds n) = true := h
    rw [Bool.and_eq_true] at h
    obtain ⟨a1, a2⟩ := okD_lay d n h.1
    obtain ⟨b1, b2⟩ := okA_lay ds n h.2
    refine ⟨?_, ?_⟩
    · show (d.py.canLay0 && PyData.canLayAll0 (pyA ds)) = true
      rw [a1, b1]; rfl
    · show max d.py.depth (PyData.depthAll (pyA ds)) ≤ n
      exact Nat.max_le.mpr ⟨a2, b2⟩
end
theorem shaped_of {d : D} {n : Nat} (h : okD d n = true) (hn : n ≤ 64) : SeqAt.shaped d.py = true := by
  obtain ⟨a, b⟩ := okD_lay d n h
  unfold SeqAt.shaped
  rw [a, decide_eq_true (Nat.le_trans b hn)]; rfl
section
variable {K : PySem.W.Frag} {C : Cn} {g : G} {H : Hp} {t : Tn}
mutual
theorem Rp.dp (w : Wf C g H t) : ∀ {d : D} {v : V} {n : Nat}, Rp K g v d → okD d n = true → Dp K H v d.py
  | .non, _, _, h, _ => by cases h; rw [D.py]; exact .non
  | .bl b, _, _, h, _ => by cases h; rw [D.py]; exact .bl b
  | .int i, _, _, h, _ => by cases h; rw [D.py]; exact .int i
  | .str x, _, _, h, _ => by cases h; rw [D.py]; exact .str x
  | .tup ds, _, 0, h, o => by cases o
  | .tup ds, _, n + 1, h, o => by
    cases h with
    | tup s a => rw [D.py]; exact .tup (Same.tseq w.fz s.t) (RpA.dp w a o)
  | .lst ds, _, 0, h, o => by cases o
  | .lst ds, _, n + 1, h, o => by
    cases h with
    | lst s a => rw [D.py]; exact .lst (.inl (.inl (w.fz _ _ s))) (RpA.dp w a o)
  | .town, _, _, h, o => by cases o
  | .scr _, _, _, h, o => by cases o
  | .dct _ _, _, _, h, o => by cases o
  | .dTT _ _, _, _, h, o => by cases o
  | .hnd _, _, _, h, o => by cases o
theorem RpA.dp (w : Wf C g H t) : ∀ {ds : List D} {vs : List V} {n : Nat}, RpA K g vs ds → okA ds n = true → DpAll K H vs (pyA ds)
  | [], _, _, h, _ => by cases h; exact .nil
  | d :: ds, _, n, h, o => by
    have o : (okD d n && okA ds n) = true := o
    rw [Bool.and_eq_true] at o
    cases h with
    | cons a b => exact .cons (Rp.dp w a o.1) (RpA.dp w b o.2)
end
theorem RpW.dp (w : Wf C g H t) {d : D} {v : V} {n : Nat} (h : RpW K g H v d) (o : okD d n = true) : Dp K H v d.py := by
  rcases h with h | ⟨p, vs, ds, rfl, rfl, e3, e4, _⟩
  · exact h.dp w o
  · cases n with
    | zero => cases o
    | succ n => rw [D.py]; exact .lst (.inl (.inl e3)) (e4.dp w o)
end
section
variable {K : PySem.W.Frag} {C : Cn} {E : XK} {g : G} {H : Hp} {t : Tn} {Q : VK}
abbrev PostQ (K : PySem.W.Frag) (C : Cn) (E : XK) (g : G) (H : Hp) (Q : VK) (r : Option (Out D)) : Prop := Post C E g H (fun d _ g' H' => ∀ v, Rp K g' v d → Q v H') r
theorem pRetV {d : D} {v : V} (p : PostQ K C E g H Q (ret d t)) (w : Wf C g H t) (r : Rp K g v d) : Q v H := postRet p w v r
theorem pRetT {ds : List D} {vs : List V} (p : PostQ K C E g H Q (ret (.tup ds) t)) (w : Wf C g H t) (r : RpA K g vs ds) : NewT H Q vs := fun a ob ha hd hcl => by
  obtain ⟨g2, s2, w2, r2⟩ := layT w ha hd hcl r
  exact p g2 _ s2 w2 _ r2
theorem pRetL {ds : List D} {vs : List V} (p : PostQ K C E g H Q (ret (.lst ds) t)) (w : Wf C g H t) (r : RpA K g vs ds) (a : Addr) (ha : H a = none) : Q (.ref a) (upd H a (.lst vs)) := by
  obtain ⟨g2, s2, w2, r2⟩ := Rp.frz (layL w ha r) (Stp.lay w ha) (Wf.lay w ha)
  exact p g2 _ s2 w2 _ r2
end
def pAdd : D → D → M D
  | .int i, .int j => ret (.int (i + j))
  | .str x, .str y => if x.length + y.length ≤ sizeLine then ret (.str (x ++ y)) else stuck
  | .tup xs, .tup ys => if xs.length + ys.length ≤ sizeLine then ret (.tup (xs ++ ys)) else stuck
  | .lst xs, .lst ys => if xs.length + ys.length ≤ sizeLine then ret (.lst (xs ++ ys)) else stuck
  | _, _ => stuck
def pSub : D → D → M D
  | .int i, .int j => ret (.int (i - j))
  | _, _ => stuck
def pMul : D → D → M D
  | .int i, .int j => if -(2 ^ 64) < i ∧ i < 2 ^ 64 then ret (.int (i * j)) else stuck
  | .tup xs, .int k => if xs ≠ [] ∧ 2 ≤ k ∧ k ≤ 1000 ∧ xs.length ≤ 1000 then ret (.tup (List.replicate k.toNat xs).flatten) else stuck
  | .lst xs, .int k => if 0 ≤ k ∧ k ≤ 1000 ∧ xs.length ≤ 1000 then ret (.lst (List.replicate k.toNat xs).flatten) else stuck
  | _, _ => stuck
def pMod : D → D → M D
  | .int i, .int j => if 0 < j then ret (.int (i % j)) else stuck
  | _, _ => stuck
def pDiv : D → D → M D
  | .int i, .int j => if 0 < j ∧ j < 1073741824 then ret (.int (i / j)) else stuck
  | _, _ => stuck
def pXor : D → D → M D
  | .int i, .int j => ret (.int (Builtin.bitXor i j))
  | _, _ => stuck
def pEq (p q : D) : M D := if okD p 60 = true ∧ okD q 60 = true then ret (.bl (PyData.eqv p.py q.py)) else stuck
def pNe (p q : D) : M D := if okD p 60 = true ∧ okD q 60 = true then ret (.bl (!PyData.eqv p.py q.py)) else stuck
def pLt : D → D → M D
  | .int i, .int j => ret (.bl (decide (i < j)))
  | .str i, .str j => ret (.bl (decide (i.cps.toList < j.cps.toList)))
  | _, _ => stuck
def pLe : D → D → M D
  | .int i, .int j => ret (.bl (decide (i ≤ j)))
  | _, _ => stuck
def pGt : D → D → M D
  | .int i, .int j => ret (.bl (decide (j < i)))
  | _, _ => stuck
def pGe : D → D → M D
  | .int i, .int j => ret (.bl (decide (j ≤ i)))
  | _, _ => stuck
def inD (p : D) (ds : List D) : Bool := ds.any fun d => PyData.eqv d.py p.py
def pIn : D → D → M D
  | p, .tup ds => if okD p 60 = true ∧ okA ds 60 = true then ret (.bl (inD p ds)) else stuck
  | p, .lst ds => if okD p 60 = true ∧ okA ds 60 = true then ret (.bl (inD p ds)) else stuck
  | _, _ => stuck
def pNotIn : D → D → M D
  | p, .tup ds => if okD p 60 = true ∧ okA ds 60 = true then ret (.bl (!inD p ds)) else stuck
  | p, .lst ds => if okD p 60 = true ∧ okA ds 60 = true then ret (.bl (!inD p ds)) else stuck
  | _, _ => stuck
def isN : D → Bool
  | .non => true
  | _ => false
def pIs : D → D → M D
  | p, .non => ret (.bl (isN p))
  | _, _ => stuck
def pIsNot : D → D → M D
  | p, .non => ret (.bl (!isN p))
  | _, _ => stuck
section
variable {X : Cx} {C : Cn} {E : XK}
theorem bin_add : BinOk X C E (binaryOp .Add) pAdd := OpR.imp (op_add.or (op_add_str.or (op_catN.or op_cat))) fun x y H Q ⟨g, t, p, q, w, rx, ry, h⟩ => by
  cases p with
  | int i =>
    cases q with
    | int j => exact .inl ⟨i, j, rx.int, ry.int, pRetV h w (.int _)⟩
    | _ => exact h.elim
  | str i =>
    cases q with
    | str j =>
      have h : PostQ X.K C E g H Q ((if i.length + j.length ≤ sizeLine then ret (.str (i ++ j)) else stuck) t) := h
      split at h
      · exact .inr (.inl ⟨i, j, rx.str, ry.str, by assumption, pRetV h w (.str _)⟩)
      · exact h.elim
    | _ => exact h.elim
  | tup xs =>
    cases q with
    | tup ys =>
      have h : PostQ X.K C E g H Q ((if xs.length + ys.length ≤ sizeLine then ret (.tup (xs ++ ys)) else stuck) t) := h
      split at h
      · obtain ⟨a, vs, rfl, e1, r1⟩ := rx.tup w
        obtain ⟨b, us, rfl, e2, r2⟩ := ry.tup w
        refine .inr (.inr (.inl ⟨a, b, vs, us, rfl, rfl, e1, e2, by rw [r1.length, r2.length]; assumption, fun z => ?_, fun z z2 => ?_, fun _ _ => pRetT h w (r1.app r2)⟩))
        · subst z
          have e0 : xs = [] := List.eq_nil_of_length_eq_zero r1.length.symm
          subst e0
          rcases ry with ry | ⟨_, _, _, z, _⟩
          · exact pRetV h w ry
          · cases z
        · subst z2
          have e0 : ys = [] := List.eq_nil_of_length_eq_zero r2.length.symm
          subst e0
          rw [List.append_nil] at h
          rcases rx with rx | ⟨_, _, _, z, _⟩
          · exact pRetV h w rx
          · cases z
      · exact h.elim
    | _ => exact h.elim
  | lst xs =>
    cases q with
    | lst ys =>
      have h : PostQ X.K C E g H Q ((if xs.length + ys.length ≤ sizeLine then ret (.lst (xs ++ ys)) else stuck) t) := h
      split at h
      · obtain ⟨a, vs, rfl, e1, r1⟩ := rx.lst w
        obtain ⟨b, us, rfl, e2, r2⟩ := ry.lst w
        exact .inr (.inr (.inr ⟨a, b, vs, us, rfl, rfl, e1, e2, by rw [r1.length, r2.length]; assumption, fun p hp => pRetL h w (r1.app r2) p hp⟩))
      · exact h.elim
    | _ => exact h.elim
  | _ => cases q <;> exact h.elim
theorem bin_mod : BinOk X C E (binaryOp .Mod) pMod := OpR.imp op_mod fun x y H Q ⟨g, t, p, q, w, rx, ry, h⟩ => by
  cases p <;> cases q <;> first | exact h.elim | skip
  rename_i i j
  have h : PostQ X.K C E g H Q ((if 0 < j then ret (.int (i % j)) else stuck) t) := h
  split at h
  · exact ⟨_, _, rx.int, ry.int, by assumption, pRetV h w (.int _)⟩
  · exact h.elim
theorem bin_div : BinOk X C E (binaryOp .FloorDiv) pDiv := OpR.imp op_fdiv fun x y H Q ⟨g, t, p, q, w, rx, ry, h⟩ => by
  cases p <;> cases q <;> first | exact h.elim | skip
  rename_i i j
  have h : PostQ X.K C E g H Q ((if 0 < j ∧ j < 1073741824 then ret (.int (i / j)) else stuck) t) := h
  split at h
  · exact ⟨_, _, rx.int, ry.int, by assumption, pRetV h w (.int _)⟩
  · exact h.elim
theorem bin_mul : BinOk X C E (binaryOp .Mult) pMul := OpR.imp (op_mul.or (op_repN.or op_rep)) fun x y H Q ⟨g, t, p, q, w, rx, ry, h⟩ => by
  cases p with
  | int i =>
    cases q with
    | int j =>
      have h : PostQ X.K C E g H Q ((if -(2 ^ 64) < i ∧ i < 2 ^ 64 then ret (.int (i * j)) else stuck) t) := h
      split at h
      · exact .inl ⟨i, j, rx.int, ry.int, .inl (by assumption), pRetV h w (.int _)⟩
      · exact h.elim
    | _ => exact h.elim
  | tup xs =>
    cases q with
    | int k =>
      have h : PostQ X.K C E g H Q ((if xs ≠ [] ∧ 2 ≤ k ∧ k ≤ 1000 ∧ xs.length ≤ 1000 then ret (.tup (List.replicate k.toNat xs).flatten) else stuck) t) := h
      split at h
      · rename_i hc
        obtain ⟨a, vs, rfl, e1, r1⟩ := rx.tup w
        refine .inr (.inl ⟨a, k, vs, rfl, ry.int, e1, fun z => hc.1 ?_, hc.2.1, hc.2.2.1, by rw [r1.length]; exact hc.2.2.2, pRetT h w (r1.rep _)⟩)
        subst z
        exact List.eq_nil_of_length_eq_zero r1.length.symm
      · exact h.elim
    | _ => exact h.elim
  | lst xs =>
    cases q with
    | int k =>
      have h : PostQ X.K C E g H Q ((if 0 ≤ k ∧ k ≤ 1000 ∧ xs.length ≤ 1000 then ret (.lst (List.replicate k.toNat xs).flatten) else stuck) t) := h
      split at h
      · rename_i hc
        obtain ⟨a, vs, rfl, e1, r1⟩ := rx.lst w
        refine .inr (.inr ⟨a, k, vs, rfl, ry.int, e1, by omega, by omega, ?_, fun p hp => pRetL h w (r1.rep _) p hp⟩)
        rw [r1.length, sizeLine_eq]
        have a1 : xs.length * k.toNat ≤ 1000 * 1000 := Nat.mul_le_mul hc.2.2 (by omega)
        omega
      · exact h.elim
    | _ => exact h.elim
  | _ => cases q <;> exact h.elim
theorem bin_eq (hu : X.A.units + 64 < cLine) : BinOk X C E (compareOp .Eq) pEq := OpR.imp (op_eqD hu) fun x y H Q ⟨g, t, p, q, w, rx, ry, h⟩ => by
  unfold pEq at h
  split at h
  · rename_i hc
    exact ⟨p.py, q.py, rx.dp w hc.1, ry.dp w hc.2, shaped_of hc.1 (by decide), shaped_of hc.2 (by decide), pRetV h w (.bl _)⟩
  · exact h.elim
theorem bin_ne (hu : X.A.units + 64 < cLine) : BinOk X C E (compareOp .NotEq) pNe := OpR.imp (op_neD hu) fun x y H Q ⟨g, t, p, q, w, rx, ry, h⟩ => by
  unfold pNe at h
  split at h
  · rename_i hc
    exact ⟨p.py, q.py, rx.dp w hc.1, ry.dp w hc.2, shaped_of hc.1 (by decide), shaped_of hc.2 (by decide), pRetV h w (.bl _)⟩
  · exact h.elim
theorem bin_lt : BinOk X C E (compareOp .Lt) pLt := OpR.imp (op_lt.or op_lt_str) fun x y H Q ⟨g, t, p, q, w, rx, ry, h⟩ => by
  cases p <;> cases q <;> first | exact h.elim | exact .inl ⟨_, _, rx.int, ry.int, pRetV h w (.bl _)⟩ | exact .inr ⟨_, _, rx.str, ry.str, pRetV h w (.bl _)⟩
theorem bin_le : BinOk X C E (compareOp .LtE) pLe := OpR.imp op_le fun x y H Q ⟨g, t, p, q, w, rx, ry, h⟩ => by
  cases p <;> cases q <;> first | exact h.elim | exact ⟨_, _, rx.int, ry.int, pRetV h w (.bl _)⟩
theorem bin_ge : BinOk X C E (compareOp .GtE) pGe := OpR.imp op_ge fun x y H Q ⟨g, t, p, q, w, rx, ry, h⟩ => by
  cases p <;> cases q <;> first | exact h.elim | exact ⟨_, _, rx.int, ry.int, pRetV h w (.bl _)⟩
/-- in, of data at any depth -/
def rInA (K : PySem.W.Frag) (neg : Bool) : R2 := fun x y H Q => ∃ d ds, Dp K H x d ∧ (Dp K H y (.list ds) ∨ Dp K H y (.tuple ds)) ∧ SeqAt.shaped d = true ∧ PyData.canLayAll0 ds = true ∧ Q (.bl (if neg then !(ds.any fun z => PyData.eqv z d) else (ds.any fun z => PyData.eqv z d))) H
theorem op_inA (hu : X.A.units + 65 < cLine) : OpR X (compareOp .In) (rInA X.K false) := by
  intro pins s σ H x y v u Q I rx ry h
  obtain ⟨d, ds, hd, he, sd, se, q⟩ := h
  obtain ⟨as, r1⟩ := Dp.reads I d x v hd rx
  rcases he with he | he
  · obtain ⟨bs, r2⟩ := Dp.reads I (.list ds) y u he ry
    exact SeqAt.in_list_reads r2 r1 se (SeqAt.canLay_of_shaped sd) (PyProof.Rows.room_in_shaped sd hu) ⟨.bl _, H, I, rfl, q⟩
  · obtain ⟨bs, r2⟩ := Dp.reads I (.tuple ds) y u he ry
    exact SeqAt.in_tuple_reads r2 r1 se (SeqAt.canLay_of_shaped sd) (PyProof.Rows.room_in_shaped sd hu) ⟨.bl _, H, I, rfl, q⟩
theorem op_notInA (hu : X.A.units + 65 < cLine) : OpR X (compareOp .NotIn) (rInA X.K true) := by
  intro pins s σ H x y v u Q I rx ry h
  obtain ⟨d, ds, hd, he, sd, se, q⟩ := h
  obtain ⟨as, r1⟩ := Dp.reads I d x v hd rx
  rcases he with he | he
  · obtain ⟨bs, r2⟩ := Dp.reads I (.list ds) y u he ry
    exact SeqAt.notIn_list_reads r2 r1 se (SeqAt.canLay_of_shaped sd) (PyProof.Rows.room_in_shaped sd hu) ⟨.bl _, H, I, rfl, q⟩
  · obtain ⟨bs, r2⟩ := Dp.reads I (.tuple ds) y u he ry
    exact SeqAt.notIn_tuple_reads r2 r1 se (SeqAt.canLay_of_shaped sd) (PyProof.Rows.room_in_shaped sd hu) ⟨.bl _, H, I, rfl, q⟩
theorem any_py (p : D) (ds : List D) : ((pyA ds).any fun z => PyData.eqv z p.py) = inD p ds := by
  rw [pyA_map, List.any_map]; rfl
theorem okA_up : ∀ {ds : List D} {n : Nat}, okA ds n = true → okD (.tup ds) (n + 1) = true ∧ okD (.lst ds) (n + 1) = true := fun h => ⟨h, h⟩
theorem bin_in (hu : X.A.units + 65 < cLine) : BinOk X C E (compareOp .In) pIn := OpR.imp (op_inA hu) fun x y H Q ⟨g, t, p, q, w, rx, ry, h⟩ => by
  cases q with
  | tup ds =>
    have h : PostQ X.K C E g H Q ((if okD p 60 = true ∧ okA ds 60 = true then ret (.bl (inD p ds)) else stuck) t) := h
    split at h
    · rename_i hc
      exact ⟨p.py, pyA ds, rx.dp w hc.1, .inr (by have := ry.dp w (okA_up hc.2).1; rw [D.py] at this; exact this), shaped_of hc.1 (by decide), (okA_lay ds 60 hc.2).1, by rw [any_py]; exact pRetV h w (.bl _)⟩
    · exact h.elim
  | lst ds =>
    have h : PostQ X.K C E g H Q ((if okD p 60 = true ∧ okA ds 60 = true then ret (.bl (inD p ds)) else stuck) t) := h
    split at h
    · rename_i hc
      exact ⟨p.py, pyA ds, rx.dp w hc.1, .inl (by have := ry.dp w (okA_up hc.2).2; rw [D.py] at this; exact this), shaped_of hc.1 (by decide), (okA_lay ds 60 hc.2).1, by rw [any_py]; exact pRetV h w (.bl _)⟩
    · exact h.elim
  | _ => cases p <;> exact h.elim
theorem bin_notIn (hu : X.A.units + 65 < cLine) : BinOk X C E (compareOp .NotIn) pNotIn := OpR.imp (op_notInA hu) fun x y H Q ⟨g, t, p, q, w, rx, ry, h⟩ => by
  cases q with
  | tup ds =>
    have h : PostQ X.K C E g H Q ((if okD p 60 = true ∧ okA ds 60 = true then ret (.bl (!inD p ds)) else stuck) t) := h
    split at h
    · rename_i hc
      exact ⟨p.py, pyA ds, rx.dp w hc.1, .inr (by have := ry.dp w (okA_up hc.2).1; rw [D.py] at this; exact this), shaped_of hc.1 (by decide), (okA_lay ds 60 hc.2).1, by rw [any_py]; exact pRetV h w (.bl _)⟩
    · exact h.elim
  | lst ds =>
    have h : PostQ X.K C E g H Q ((if okD p 60 = true ∧ okA ds 60 = true then ret (.bl (!inD p ds)) else stuck) t) := h
    split at h
    · rename_i hc
      exact ⟨p.py, pyA ds, rx.dp w hc.1, .inl (by have := ry.dp w (okA_up hc.2).2; rw [D.py] at this; exact this), shaped_of hc.1 (by decide), (okA_lay ds 60 hc.2).1, by rw [any_py]; exact pRetV h w (.bl _)⟩
    · exact h.elim
  | _ => cases p <;> exact h.elim
end
end BG
set_option Elab.async false
set_option linter.all false
set_option maxRecDepth 100000
set_option maxHeartbeats 4000000
namespace BG
open PySem PySem.Spec PyProof.Rows L2
def pIdx : D → D → M D
  | .tup ds, .int i => match atI ds i with
    | some d => ret d
    | none => stuck
  | .lst ds, .int i => match atI ds i with
    | some d => ret d
    | none => stuck
  | .scr ns, .int i => match atI ns i with
    | some n => ret (.int n)
    | none => stuck
  | _, _ => stuck
theorem RpW.scr {K : PySem.W.Frag} {C : Cn} {g : G} {H : Hp} {t : Tn} {v : V} {ns : List Int} (w : Wf C g H t) (h : RpW K g H v (.scr ns)) : ∃ p, v = .ref p ∧ SqL K H p (ns.map V.int) := by
  rcases h with h | ⟨p, vs, ds', e1, e2, e3, e4⟩
  · cases h with
    | scr a => exact ⟨_, rfl, Same.seq w.fz a⟩
  · cases e1
theorem RpA.atI {K : PySem.W.Frag} {g : G} {vs : List V} {ds : List D} {i : Int} {d : D} (r : RpA K g vs ds) (h : atI ds i = some d) : ∃ v, L2.atI vs i = some v ∧ Rp K g v d := by
  unfold L2.atI at h ⊢
  rw [r.length]
  cases e : ixN ds.length i with
  | none => rw [e] at h; cases h
  | some j =>
    rw [e] at h
    exact r.get h
section
variable {X : Cx} {C : Cn} {E : XK}
theorem IxR.imp {r r' : R2} (h : IxR X r) (i : ∀ x y H Q, r' x y H Q → r x y H Q) : IxR X r' := fun value slice pins s σ H x y v u Q I rx ry q => h value slice pins s σ H x y v u Q I rx ry (i x y H Q q)
theorem ix_D : IxR X (rD X.K C E pIdx) := IxR.imp (ix_list.or ix_tup) fun x y H Q ⟨g, t, p, q, w, rx, ry, h⟩ => by
  cases p with
  | tup ds =>
    cases q with
    | int i =>
      have h : PostQ X.K C E g H Q ((match L2.atI ds i with | some d => ret d | none => stuck) t) := h
      obtain ⟨a, vs, rfl, e1, r1⟩ := rx.tup w
      cases e : L2.atI ds i with
      | none => rw [e] at h; exact h.elim
      | some d =>
        rw [e] at h
        obtain ⟨v, e2, r2⟩ := r1.atI e
        exact .inr ⟨a, vs, i, v, rfl, ry.int, e1, e2, pRetV h w r2⟩
    | _ => exact h.elim
  | lst ds =>
    cases q with
    | int i =>
      have h : PostQ X.K C E g H Q ((match L2.atI ds i with | some d => ret d | none => stuck) t) := h
      obtain ⟨a, vs, rfl, e1, r1⟩ := rx.lst w
      cases e : L2.atI ds i with
      | none => rw [e] at h; exact h.elim
      | some d =>
        rw [e] at h
        obtain ⟨v, e2, r2⟩ := r1.atI e
        exact .inl ⟨a, vs, i, v, rfl, ry.int, .of e1, e2, pRetV h w r2⟩
    | _ => exact h.elim
  | scr ns =>
    cases q with
    | int i =>
      have h : PostQ X.K C E g H Q ((match L2.atI ns i with | some n => ret (D.int n) | none => stuck) t) := h
      obtain ⟨a, rfl, e1⟩ := rx.scr w
      cases e : L2.atI ns i with
      | none => rw [e] at h; exact h.elim
      | some n =>
        rw [e] at h
        refine .inl ⟨a, _, i, .int n, rfl, ry.int, e1, ?_, pRetV h w (Rp.int n)⟩
        unfold L2.atI at e ⊢
        rw [List.length_map]
        cases z : ixN ns.length i with
        | none => rw [z] at e; cases e
        | some j =>
          rw [z] at e
          have e : ns[j]? = some n := e
          show (ns.map V.int)[j]? = some (.int n)
          rw [List.getElem?_map, e]; rfl
    | _ => exact h.elim
  | _ => cases q <;> exact h.elim
theorem ce_ix {a b : Expr} {fa fb : Ex} {pos : Pos} (ha : CW X C E a fa) (hb : CW X C E b fb) (hs : PlainIx b := by exact fun _ _ => rfl) : CE X C E (.Subscript a b pos) (eBin pIdx fa fb) := PE.imp (pe_ix ix_D ha hb hs) fun σ H Q h => tW.two h
def oEx (o : Option Ex) (S : Sl) : M (Option Int) := match o with
  | none => ret none
  | some f => bnd (f S) fun d => match d with
    | .int i => ret (some i)
    | _ => stuck
def cutD (ds : List D) (lo hi : Option Int) : List D := (ds.drop (HT.sIx ds.length 0 lo)).take (HT.sIx ds.length ds.length hi - HT.sIx ds.length 0 lo)
def pSlice (x : D) (lo hi : Option Int) : M D := match x with
  | .tup ds => ret (.tup (cutD ds lo hi))
  | .lst ds => ret (.lst (cutD ds lo hi))
  | _ => stuck
def eSlice (a : Ex) (lo hi : Option Ex) : Ex := fun S => bnd (a S) fun x => bnd (oEx lo S) fun l => bnd (oEx hi S) fun h => pSlice x l h
def tOp1 (K : PySem.W.Frag) (C : Cn) (E : XK) (o : Option Ex) : TO := fun σ H Q => ∃ g S t, Wf C g H t ∧ SL K g H σ S ∧ Post C E g H (fun d _ g' H' => Q d H') (oEx o S t)
theorem PO.imp {e : Option Expr} {t t' : TO} (h : PO X e t) (f : ∀ σ H Q, t' σ H Q → t σ H Q) : PO X e t' := ⟨fun pins s σ H Q I q => h.run pins s σ H Q I (f σ H Q q)⟩
theorem co_none : PO X none (tOp1 X.K C E none) := PO.imp po_none fun σ H Q ⟨g, S, t, w, s, p⟩ => postRet p w
theorem co_some {e : Expr} {f : Ex} (h : CE X C E e f) : PO X (some e) (tOp1 X.K C E (some f)) := PO.imp (po_some h) fun σ H Q ⟨g, S, t, w, s, p⟩ => ⟨g, S, t, w, s, p.bnd.imp fun d t1 g1 H1 st1 w1 q v r => by
  cases d with
  | int i => cases r; exact ⟨i, rfl, postRet q w1⟩
  | _ => exact q.elim⟩
theorem RpA.cut {K : PySem.W.Frag} {g : G} {vs : List V} {ds : List D} (r : RpA K g vs ds) (lo hi : Option Int) : RpA K g (cutV vs lo hi) (cutD ds lo hi) := by
  unfold cutV cutD
  rw [r.length]
  exact (r.drop _).take _
theorem ce_slice {a : Expr} {lo hi : Option Expr} {fa : Ex} {fl fh : Option Ex} {p2 pos : Pos} (ha : CW X C E a fa) (hl : PO X lo (tOp1 X.K C E fl)) (hh : PO X hi (tOp1 X.K C E fh)) : CE X C E (.Subscript a (.Slice lo hi none p2) pos) (eSlice fa fl fh) := by
  refine PE.imp (pe_slice (sl_tupN.or sl_list) ha hl hh) fun σ H Q h => ?_
  refine tW.seq h fun g S t x d H1 w s rx p1 => ?_
  refine ⟨g, S, t, w, s, p1.bnd.imp fun l t2 g2 H2 st2 w2 q2 => ?_⟩
  refine ⟨g2, S, t2, w2, s.stp w st2, q2.bnd.imp fun hh t3 g3 H3 st3 w3 q3 => ?_⟩
  have rx3 := (rx.stp w st2).stp w2 st3
  cases d with
  | tup ds =>
    obtain ⟨b, vs, rfl, e1, r1⟩ := rx3.tup w3
    refine .inl ⟨b, vs, rfl, e1, fun hw => ?_, fun _ => pRetT q3 w3 (r1.cut l hh)⟩
    have e : cutD ds l hh = ds := by
      unfold cutD
      rw [r1.length] at hw
      rw [hw.1, hw.2, List.drop_zero, Nat.sub_zero, List.take_length]
    have q3 : PostQ X.K C E g3 H3 Q (ret (.tup (cutD ds l hh)) t3) := q3
    rw [e] at q3
    rcases rx3 with rx3 | ⟨_, _, _, z, _⟩
    · exact pRetV q3 w3 rx3
    · cases z
  | lst ds =>
    obtain ⟨b, vs, rfl, e1, r1⟩ := rx3.lst w3
    exact .inr ⟨b, vs, rfl, .of e1, fun p hp => pRetL q3 w3 (r1.cut l hh) p hp⟩
  | _ => exact q3.elim
end
def c1D (K : PySem.W.Frag) (C : Cn) (E : XK) (prim : D → M D) : List V → Hp → VK → Prop := fun xs H Q => ∃ x g t d, xs = [x] ∧ Wf C g H t ∧ RpW K g H x d ∧ PostQ K C E g H Q (prim d t)
section
variable {X : Cx} {C : Cn} {E : XK}
theorem CallR.imp {f : Value} {r r' : List V → Hp → VK → Prop} (h : CallR X f r) (i : ∀ xs H Q, r' xs H Q → r xs H Q) : CallR X f r' := fun pins s σ H xs us Q I rs q => h pins s σ H xs us Q I rs (i xs H Q q)
theorem tW.call1 {prim : D → M D} {f : Ex} {σ : L2.St} {H : Hp} {Q : VK} (h : tE X.K C E (eUn prim f) σ H Q) : tCB (c1D X.K C E prim) (tCons (tW X.K C E f) tNil) σ H Q :=
  tW.seq h fun g S t x d H1 w s rx p1 => ⟨x, g, t, d, rfl, w, rx, p1⟩
theorem ce_callB1 {prim : D → M D} {id : String} {x : Str} {e : Expr} {f : Ex} {p pos : Pos} (hc : CallR X (.builtin id) (c1D X.K C E prim)) (hm : X.mg x = none) (hv : bootBuiltins x = some (.builtin id)) (ha : CW X C E e f) (hg : Gl X x := by rfl)
    (hn : x ≠ "__name__" := by decide) (hdb : (x == ("__debug__" : Str)) = false := by decide) (hs : starEach [e] X.env = (false, eval e X.env) :: starEach [] X.env := by rfl) (hp : (backTo pos (starEach [] X.env)).any (·.1) = false := by rfl) :
    CE X C E (.Call (.Name x p) [e] [] pos) (eUn prim f) := PE.imp (pe_callB hc hg hm hv (pa_cons ha pa_nil hs) hn hdb hs hp) fun σ H Q h => tW.call1 h
theorem ce_callTy1 {prim : D → M D} {T : String} {x : Str} {e : Expr} {f : Ex} {p pos : Pos} (hc : CallR X (.type T) (c1D X.K C E prim)) (hm : X.mg x = none) (hv : bootBuiltins x = some (.type T)) (ha : CW X C E e f) (hg : Gl X x := by rfl)
    (hn : x ≠ "__name__" := by decide) (hdb : (x == ("__debug__" : Str)) = false := by decide) (hs : starEach [e] X.env = (false, eval e X.env) :: starEach [] X.env := by rfl) (hp : (backTo pos (starEach [] X.env)).any (·.1) = false := by rfl) :
    CE X C E (.Call (.Name x p) [e] [] pos) (eUn prim f) := PE.imp (pe_callTy hc hg hm hv (pa_cons ha pa_nil hs) hn hdb hs hp) fun σ H Q h => tW.call1 h
def bLen : D → M D
  | .tup ds => ret (.int ds.length)
  | .lst ds => ret (.int ds.length)
  | .str z => if z.length ≤ sizeLine then ret (.int z.length) else stuck
  | .scr ns => ret (.int ns.length)
  | _ => stuck
def bools : List D → Option (List Bool)
  | [] => some []
  | .bl b :: ds => (bools ds).map (b :: ·)
  | _ => none
def intsD : List D → Option (List Int)
  | [] => some []
  | .int b :: ds => (intsD ds).map (b :: ·)
  | _ => none
def bAll : D → M D
  | .lst ds => match bools ds with
    | some bs => ret (.bl (bs.all id))
    | none => stuck
  | _ => stuck
def bTuple : D → M D
  | .lst ds => ret (.tup ds)
  | .tup ds => ret (.tup ds)
  | _ => stuck
def bList : D → M D
  | .lst ds => ret (.lst ds)
  | .tup ds => ret (.lst ds)
  | _ => stuck
theorem RpA.bools {K : PySem.W.Frag} {g : G} : ∀ {ds : List D} {vs : List V} {bs : List Bool}, RpA K g vs ds → bools ds = some bs → vs = bs.map V.bl
  | [], _, bs, h, e => by cases h; cases e; rfl
  | .bl b :: ds, _, bs, h, e => by
    cases h with
    | cons a r =>
      cases a
      have e : (BG.bools ds).map (b :: ·) = some bs := e
      cases z : BG.bools ds with
      | none => rw [z] at e; cases e
      | some cs =>
        rw [z] at e
        cases e
        rw [RpA.bools r z]; rfl
  | .non :: _, _, _, _, e => by cases e
  | .int _ :: _, _, _, _, e => by cases e
  | .str _ :: _, _, _, _, e => by cases e
  | .tup _ :: _, _, _, _, e => by cases e
  | .lst _ :: _, _, _, _, e => by cases e
  | .town :: _, _, _, _, e => by cases e
  | .scr _ :: _, _, _, _, e => by cases e
  | .dct _ _ :: _, _, _, _, e => by cases e
  | .dTT _ _ :: _, _, _, _, e => by cases e
  | .hnd _ :: _, _, _, _, e => by cases e
theorem RpA.intsD {K : PySem.W.Frag} {g : G} : ∀ {ds : List D} {vs : List V} {bs : List Int}, RpA K g vs ds → intsD ds = some bs → vs = bs.map V.int
  | [], _, bs, h, e => by cases h; cases e; rfl
  | .int b :: ds, _, bs, h, e => by
    cases h with
    | cons a r =>
      cases a
      have e : (BG.intsD ds).map (b :: ·) = some bs := e
      cases z : BG.intsD ds with
      | none => rw [z] at e; cases e
      | some cs =>
        rw [z] at e
        cases e
        rw [RpA.intsD r z]; rfl
  | .non :: _, _, _, _, e => by cases e
  | .bl _ :: _, _, _, _, e => by cases e
  | .str _ :: _, _, _, _, e => by cases e
  | .tup _ :: _, _, _, _, e => by cases e
  | .lst _ :: _, _, _, _, e => by cases e
  | .town :: _, _, _, _, e => by cases e
  | .scr _ :: _, _, _, _, e => by cases e
  | .dct _ _ :: _, _, _, _, e => by cases e
  | .dTT _ _ :: _, _, _, _, e => by cases e
  | .hnd _ :: _, _, _, _, e => by cases e
theorem cr_len : CallR X (.builtin "len") (c1D X.K C E bLen) := CallR.imp (call_len_seq.or call_len_str) fun xs H Q ⟨x, g, t, d, ex, w, a, h⟩ => by
  subst ex
  cases d with
  | tup ds =>
    obtain ⟨p, vs, rfl, e1, r1⟩ := a.tup w
    exact .inl ⟨p, vs, rfl, .inr e1, by rw [r1.length]; exact pRetV h w (.int _)⟩
  | lst ds =>
    obtain ⟨p, vs, rfl, e1, r1⟩ := a.lst w
    exact .inl ⟨p, vs, rfl, .inl (.of e1), by rw [r1.length]; exact pRetV h w (.int _)⟩
  | str z =>
    have h : PostQ X.K C E g H Q ((if z.length ≤ sizeLine then ret (.int z.length) else stuck) t) := h
    split at h
    · exact .inr ⟨z, by rw [a.str], by assumption, pRetV h w (.int _)⟩
    · exact h.elim
  | scr ns =>
    obtain ⟨p, rfl, e1⟩ := a.scr w
    exact .inl ⟨p, _, rfl, .inl e1, by rw [List.length_map]; exact pRetV h w (.int _)⟩
  | _ => exact h.elim
theorem cr_allD (hc : X.calm = true) : CallR X (.builtin "all") (c1D X.K C E bAll) := CallR.imp (cr_all hc) fun xs H Q ⟨x, g, t, d, ex, w, a, h⟩ => by
  subst ex
  cases d with
  | lst ds =>
    obtain ⟨p, vs, rfl, e1, r1⟩ := a.lst w
    have h : PostQ X.K C E g H Q ((match bools ds with | some bs => ret (D.bl (bs.all id)) | none => stuck) t) := h
    cases z : bools ds with
    | none => rw [z] at h; exact h.elim
    | some bs =>
      rw [z] at h
      exact ⟨p, bs, rfl, .of (by rw [e1, r1.bools z]), pRetV h w (Rp.bl _)⟩
  | _ => exact h.elim
theorem cr_tuple : CallR X (.type "tuple") (c1D X.K C E bTuple) := CallR.imp call_tupN fun xs H Q ⟨x, g, t, d, ex, w, a, h⟩ => by
  subst ex
  cases d with
  | lst ds =>
    obtain ⟨p, vs, rfl, e1, r1⟩ := a.lst w
    exact ⟨p, vs, rfl, .inl ⟨.of e1, pRetT h w r1⟩⟩
  | tup ds =>
    obtain ⟨p, vs, rfl, e1, r1⟩ := a.tup w
    rcases a with a | ⟨_, _, _, z, _⟩
    · exact ⟨p, vs, rfl, .inr ⟨e1, pRetV h w a⟩⟩
    · cases z
  | _ => exact h.elim
theorem Stp.back {g g1 : G} {H H1 : Hp} (s : Stp g H g1 H1) {l : Addr} (h : H1 l = none) : ¬ Nt H l := fun z => Nt.no h (s.thr l z)
theorem Stp.backN {g g1 : G} {H H1 : Hp} (s : Stp g H g1 H1) {l : Addr} (h : ¬ Nt H1 l) : ¬ Nt H l := fun z => h (s.thr l z)
end
inductive Ty where
  | tuple | int | bool | str
def Ty.name : Ty → String
  | .tuple => "tuple" | .int => "int" | .bool => "bool" | .str => "str"
def isTy : Ty → D → Option Bool
  | _, .town => none
  | _, .scr _ => none
  | _, .dct _ _ => none
  | _, .dTT _ _ => none
  | _, .hnd _ => none
  | .tuple, .tup _ => some true
  | .int, .int _ => some true
  | .int, .bl _ => some true
  | .bool, .bl _ => some true
  | .str, .str _ => some true
  | _, _ => some false
def pIsi (T : Ty) (d : D) : M D := match isTy T d with
  | some b => ret (.bl b)
  | none => stuck
def tyN : D → Option String
  | .non => some "NoneType" | .bl _ => some "bool" | .int _ => some "int" | .str _ => some "str" | .tup _ => some "tuple" | .lst _ => some "list" | _ => none
theorem tyX_of {K : PySem.W.Frag} {C : Cn} {g : G} {H : Hp} {t : Tn} (w : Wf C g H t) {v : V} {d : D} {n : String} (r : RpW K g H v d) (h : tyN d = some n) : TyX K H v (.type n) := by
  cases d with
  | non => cases h; rw [r.non]; exact .base .non
  | bl b => cases h; rw [r.bl]; exact .base (.bl b)
  | int i => cases h; rw [r.int]; exact .base (.int i)
  | str x => cases h; rw [r.str]; exact .base (.str x)
  | tup ds =>
    cases h
    obtain ⟨p, vs, rfl, e1, r1⟩ := r.tup w
    rcases e1 with (e1 | ⟨o, e1⟩) | ⟨o, its, n, e1, c, _⟩
    · exact .base (.tup e1)
    · exact .fTuple e1
    · exact .kTuple e1 c
  | lst ds =>
    cases h
    obtain ⟨p, vs, rfl, e1, r1⟩ := r.lst w
    exact .base (.lst e1)
  | town => cases h
  | scr _ => cases h
  | dct _ _ => cases h
  | dTT _ _ => cases h
  | hnd _ => cases h
theorem kit_isi {K : PySem.W.Frag} {T : Ty} {d : D} {b : Bool} (h : isTy T d = some b) : ∃ n, tyN d = some n ∧ PySem.W.kitOne K (.type n) (.type T.name) = some b := by
  cases T <;> cases d <;> first | cases h; done | (cases h; exact ⟨_, rfl, kit_ty (by decide +kernel)⟩)
section
variable {X : Cx} {C : Cn} {E : XK}
theorem ce_isi (T : Ty) {a : Expr} {fa : Ex} {x : Str} {p q pos : Pos} (hm : X.mg "isinstance" = none) (hmT : X.mg x = none) (hv : bootBuiltins x = some (.type T.name)) (ha : CW X C E a fa) (hg : Gl X "isinstance" := by rfl) (hgT : Gl X x := by rfl)
    (hvi : bootBuiltins "isinstance" = some (.builtin "isinstance") := by decide +kernel) (hn : x ≠ "__name__" := by decide) (hdb : (x == ("__debug__" : Str)) = false := by decide)
    (hs : starEach [a, .Name x q] X.env = (false, eval a X.env) :: starEach [.Name x q] X.env := by rfl) (hs2 : starEach [.Name x q] X.env = (false, eval (.Name x q) X.env) :: starEach [] X.env := by rfl) (hp : (backTo pos (starEach [.Name x q] X.env)).any (·.1) = false := by rfl) :
    CE X C E (.Call (.Name "isinstance" p) [a, .Name x q] [] pos) (eUn (pIsi T) fa) := by
  refine PE.imp (pe_callB call_isi hg hm hvi (pa_cons ha (pa_cons (pe_bltn (v := .ty T.name) hgT hmT hv rfl hn hdb) pa_nil hs2) hs) (by decide) (by decide) hs hp) fun σ H Q h => ?_
  refine tW.seq h fun g S t x d H1 w s rx p1 => ?_
  have p1 : PostQ X.K C E g H1 Q ((match isTy T d with | some b => ret (D.bl b) | none => stuck) t) := p1
  cases e : isTy T d with
  | none => rw [e] at p1; exact p1.elim
  | some b =>
    rw [e] at p1
    obtain ⟨n, e1, e2⟩ := kit_isi (K := X.K) e
    exact ⟨x, .ty T.name, .type n, .type T.name, b, rfl, .ty _, tyX_of w rx e1, e2, pRetV p1 w (Rp.bl b)⟩
/-- -n, a written number -/
def pNeg : D → M D
  | .int i => ret (.int (-i))
  | _ => stuck
theorem ce_neg {a : Expr} {fa : Ex} {pos : Pos} (ha : CE X C E a fa) : CE X C E (.UnaryOp .USub a pos) (eUn pNeg fa) := PE.imp (pe_un un_neg ha) fun σ H Q h => by
  refine tE.seq h fun g S t x d H1 w s rx p1 => ?_
  cases d with
  | int i => cases rx; exact ⟨i, rfl, pRetV p1 w (.int _)⟩
  | _ => exact p1.elim
/-- a < b < c -/
def eChain (o1 o2 : D → D → M D) (a b c : Ex) : Ex := fun S => bnd (a S) fun x => bnd (b S) fun y => bnd (o1 x y) fun z => match z with
  | .bl true => bnd (c S) fun u => o2 y u
  | .bl false => ret (.bl false)
  | _ => stuck
theorem ce_chain {op op' : CmpOp} {o1 o2 : D → D → M D} {a b c : Expr} {fa fb fc : Ex} {pos : Pos} (ho : BinOk X C E (compareOp op) o1) (ho' : BinOk X C E (compareOp op') o2) (ha : CW X C E a fa) (hb : CW X C E b fb) (hc : CW X C E c fc)
    (hm : lastMarks [op, op'] [b, c] = false := by rfl) : CE X C E (.Compare a [op, op'] [b, c] pos) (eChain o1 o2 fa fb fc) := by
  refine PE.imp (pe_chain ho ho' ha hb hc hm) fun σ H Q h => ?_
  refine tW.seq h fun g S t x d H1 w s rx p1 => ?_
  refine ⟨g, S, t, w, s, p1.bnd.imp fun d2 t2 g2 H2 st2 w2 q2 v r2 => ?_⟩
  have rx2 := rx.stp w st2
  have s2 := s.stp w st2
  refine ⟨g2, t2, d, d2, w2, rx2, r2, q2.bnd.imp fun z t3 g3 H3 st3 w3 q3 u ru => ?_⟩
  have r3 := r2.stp w2 st3
  have s3 := s2.stp w2 st3
  cases z with
  | bl k =>
    cases ru
    refine ⟨k, rfl, ?_⟩
    cases k with
    | true => exact iteT ⟨g3, S, t3, w3, s3, q3.bnd.imp fun d4 t4 g4 H4 st4 w4 q4 v4 r4 => ⟨g4, t4, d2, d4, w4, r3.stp w3 st4, r4, q4⟩⟩
    | false => exact iteF (pRetV q3 w3 (.bl false))
  | _ => exact q3.elim
end
abbrev Fn := List D → M D
/-- the promise of a def that is read as F -/
def spF (K : PySem.W.Frag) (C : Cn) (n : Nat) (F : Fn) : Sp := fun vs H Q E => ∃ g ds t, RpA K g vs ds ∧ Wf C g H t ∧ vs.length = n ∧ PostQ K C E g H Q (F ds t)
def eCall (F : Fn) (fs : List Ex) : Ex := fun S => bnd (evs fs S) fun ds => F ds
/-- a def as it stands in the module -/
structure Fd (P : Program) (w : World) (K : PySem.W.Frag) (mg : Str → Option Value) (base : Heap) (C : Cn) (k : Nat) (x : Str) (n : Nat) (F : Fn) : Prop where
  ex : ∃ f fd ps, FnOk P w K mg base (L2.CX P w) k f fd ps (spF K C n F) ∧ mg x = some (.ref f) ∧ PySem.W.keepIn K (.ref f) = true ∧ Binds K fd ps []
section
variable {X : Cx} {C : Cn} {E : XK}
theorem ce_call {k j : Nat} {x : Str} {F : Fn} {e : Expr} {es : List Expr} {fs : List Ex} {p pos : Pos} (hf : Fd X.prog X.w X.K X.mg X.base C k x fs.length F) (hr : Room j X.A) (hk : k ≤ j) (hx : Passes (L2.CX X.prog X.w) X E) (ha : CA X C E (e :: es) (evs fs)) (hg : Gl X x := by rfl)
    (hn : (x == ("__debug__" : Str)) = false := by decide) (hs : starEach (e :: es) X.env = (false, eval e X.env) :: starEach es X.env := by rfl) (hp : (backTo pos (starEach es X.env)).any (·.1) = false := by rfl) : CE X C E (.Call (.Name x p) (e :: es) [] pos) (eCall F fs) := by
  obtain ⟨f, fd, ps, F', hm, hkp, hb⟩ := hf.ex
  refine PE.imp (pe_call F' (hr.mono hk) hg hm hkp hb .nil hx ha hn hs hp) fun σ H Q ⟨g, S, t, w, s, p⟩ => ?_
  exact ⟨g, S, t, w, s, (Post.evs p.bnd).imp fun ds t1 g1 H1 st1 w1 ⟨el, q⟩ vs rs => ⟨g1, ds, t1, by rw [List.append_nil]; exact rs, w1, by rw [List.append_nil, rs.length, el], q⟩⟩
theorem ce_call0 {k j : Nat} {x : Str} {F : Fn} {p pos : Pos} (hf : Fd X.prog X.w X.K X.mg X.base C k x 0 F) (hr : Room j X.A) (hk : k ≤ j) (hx : Passes (L2.CX X.prog X.w) X E) (hg : Gl X x := by rfl) (hn : (x == ("__debug__" : Str)) = false := by decide) : CE X C E (.Call (.Name x p) [] [] pos) (eCall F []) := by
  obtain ⟨f, fd, ps, F', hm, hkp, hb⟩ := hf.ex
  refine PE.imp (pe_call0 F' (hr.mono hk) hg hm hkp hb .nil hx hn) fun σ H Q ⟨g, S, t, w, s, p⟩ => ?_
  exact ⟨g, [], t, .nil, w, rfl, p⟩
end
end BG
set_option Elab.async false
set_option linter.all false
set_option maxRecDepth 100000
set_option maxHeartbeats 4000000
namespace BG
open PySem PySem.Spec PyProof.Rows L2
theorem bnd_assoc {α β γ : Type} (m : M α) (f : α → M β) (k : β → M γ) : bnd (bnd m f) k = bnd m fun a => bnd (f a) k := by
  funext t
  unfold bnd
  cases m t with
  | none => rfl
  | some o => cases o <;> rfl
/-- as Post.bnd, the start kept -/
theorem Post.bnd0 {α β : Type} {C : Cn} {E : XK} {g : G} {H : Hp} {Rok : β → Tn → G → Hp → Prop} {m : M α} {k : α → M β} {t : Tn} (h : Post C E g H Rok (BG.bnd m k t)) : Post C E g H (fun a t1 _ _ => Post C E g H Rok (k a t1)) (m t) := by
  unfold BG.bnd at h
  cases e : m t with
  | none => rw [e] at h; exact h
  | some o =>
    rw [e] at h
    cases o with
    | ok a t' => exact fun g' H' s' w => h
    | exc c t' => exact h
theorem SL.set {K : PySem.W.Frag} {g : G} {H : Hp} {σ : L2.St} {S : Sl} {i : Nat} {v : V} {d : D} (s : SL K g H σ S) (r : Rp K g v d) : SL K g H (σ.set i (some v)) (S.set i (.val d)) := s.put ⟨v, rfl, r⟩ (fun h => nomatch h)
def wipeS (S : Sl) : List Nat → Sl
  | [] => S
  | v :: vs => (wipeS S vs).set v .un
theorem SL.un {K : PySem.W.Frag} {g : G} {H : Hp} {σ : L2.St} {S : Sl} {i : Nat} (s : SL K g H σ S) (o : Option V) : SL K g H (σ.set i o) (S.set i .un) := s.put trivial (fun h => nomatch h)
theorem SL.wipe {K : PySem.W.Frag} {g : G} {H : Hp} {σ : L2.St} {S : Sl} (s : SL K g H σ S) : ∀ vs : List Nat, SL K g H (wipe σ vs) (wipeS S vs)
  | [] => s
  | v :: vs => (SL.wipe s vs).un none
theorem wipe_in {σ : L2.St} {j : Nat} : ∀ {vs : List Nat}, j ∈ vs → j < σ.length → (wipe σ vs)[j]? = some none
  | [], h, _ => by cases h
  | v :: vs, h, hl => by
    unfold wipe
    by_cases e : v = j
    · subst e
      rw [List.getElem?_set_self (by rw [wipe_length]; exact hl)]
    · rw [List.getElem?_set_ne e]
      exact wipe_in ((List.mem_cons.mp h).resolve_left fun z => e z.symm) hl
/-- what differs at wiped places alone is wiped to the same -/
theorem wipe_eq {σ σ2 : L2.St} {vs : List Nat} (hl : σ2.length = σ.length) (h : ∀ j : Nat, j ∉ vs → σ2[j]? = (L2.wipe σ vs)[j]?) : L2.wipe σ2 vs = L2.wipe σ vs := by
  apply List.ext_getElem?
  intro j
  by_cases hj : j ∈ vs
  · by_cases hlt : j < σ.length
    · rw [wipe_in hj hlt, wipe_in hj (by omega)]
    · rw [List.getElem?_eq_none (by rw [wipe_length]; omega), List.getElem?_eq_none (by rw [wipe_length]; omega)]
  · rw [wipe_out hj, h j hj]
theorem set_ow {S : Sl} {i m : Nat} {d : D} {x : SV} (e : (S.set i (.val d))[m]? = some x) (h : isOw x = true) : i ≠ m := fun z => by
  subst z
  by_cases hl : i < S.length
  · rw [List.getElem?_set_self hl] at e; cases e; cases h
  · rw [List.getElem?_eq_none (by rw [List.length_set]; omega)] at e; cases e
abbrev Tg := D → Sl → Option Sl
def gN (i : Nat) : Tg := fun d S => some (S.set i (.val d))
def gP (i j : Nat) : Tg := fun d S => match d with
  | .tup [a, b] => some ((S.set i (.val a)).set j (.val b))
  | _ => none
def tG (K : PySem.W.Frag) (C : Cn) (is : List Nat) (f : Tg) : TG := fun v σ H Q => ∃ g S t d S', Wf C g H t ∧ SL K g H σ S ∧ Rp K g v d ∧ f d S = some S' ∧ ∀ σ', SL K g H σ' S' → σ'.length = σ.length → (∀ j : Nat, j ∉ is → σ'[j]? = σ[j]?) → (∀ (j : Nat) x, S'[j]? = some x → isOw x = true → S[j]? = some x ∧ σ'[j]? = σ[j]?) → Q σ' H
abbrev CG (X : Cx) (C : Cn) (is : List Nat) (tg : Expr) (f : Tg) : Prop := PG X tg (tG X.K C is f)
theorem PG.imp {X : Cx} {e : Expr} {t t' : TG} (h : PG X e t) (f : ∀ v σ H Q, t' v σ H Q → t v σ H Q) : PG X e t' := ⟨fun pins s σ H v u Q I r q => h.run pins s σ H v u Q I r (f v σ H Q q)⟩
section
variable {X : Cx} {C : Cn} {E : XK}
theorem cg_name (i : Nat) {x : Str} {pos : Pos} (hN : X.N.Nodup) (hi : X.N[i]? = some x := by rfl) (hx : Loc X.env.scope x := by first | exact .inl rfl | exact .inr rfl) (hf : X.fn x = true ∨ X.env.scope.names.lookup x = some .local := by first | exact .inl rfl | exact .inr rfl | assumption) : CG X C [i] (.Name x pos) (gN i) :=
  PG.imp (pg_name hN hi hx hf) fun v σ H Q ⟨g, S, t, d, S', w, s, r, e, q⟩ => by
    cases e
    refine q _ (s.set r) (by rw [List.length_set]) (fun j hj => ?_) fun j ds e ho => ?_
    · rw [List.getElem?_set_ne fun z => hj (by rw [z]; exact List.mem_singleton.mpr rfl)]
    · have n := set_ow e ho
      rw [List.getElem?_set_ne n] at e
      exact ⟨e, by rw [List.getElem?_set_ne n]⟩
end
def Yl (K : PySem.W.Frag) (g : G) (H : Hp) (x : V) (H' : Hp) (d : D) : Prop := (H' = H ∧ Rp K g x d) ∨ ∃ T vs ds, x = .ref T ∧ H T = none ∧ (∃ ob, H' = upd H T (.frz ob (.tup vs)) ∧ ob.dict = none ∧ ob.cls = .type "tuple") ∧ d = .tup ds ∧ RpA K g vs ds
def WalkD (K : PySem.W.Frag) (B : Hp) (J : It) (ds : List D) (g : G) : Prop := ∀ i H, Same B H → (∀ d, ds[i]? = some d → J.go i H ∧ ∀ x H', J.yld i H x H' → Yl K g H x H' d) ∧ (ds.length ≤ i → J.stop i H)
def Kp (C : Cn) (g : G) (H : Hp) (B : Hp) : Prop := ∀ g2 H2 t2, Stp g H g2 H2 → Wf C g2 H2 t2 → Same B H2
/-- strict: what is walked is frozen -/
def tI (K : PySem.W.Frag) (C : Cn) (E : XK) (f : Sl → M (List D)) : TI := fun σ H R => ∃ g S t, Wf C g H t ∧ SL K g H σ S ∧ Post C E g H (fun ds _ g' H' => ∀ J, WalkD K g'.Fz J ds g' → R J H') (f S t)
def tIW (K : PySem.W.Frag) (C : Cn) (E : XK) (f : Sl → M (List D)) : TI := fun σ H R => ∃ g S t, Wf C g H t ∧ SL K g H σ S ∧ Post C E g H (fun ds _ g' H' => ∀ J B, Kp C g' H' B → WalkD K B J ds g' → R J H') (f S t)
abbrev CI (X : Cx) (C : Cn) (E : XK) (tg it : Expr) (f : Sl → M (List D)) : Prop := PI X tg it (tI X.K C E f)
abbrev CIW (X : Cx) (C : Cn) (E : XK) (tg it : Expr) (f : Sl → M (List D)) : Prop := PI X tg it (tIW X.K C E f)
theorem PI.imp {X : Cx} {tg e : Expr} {t t' : TI} (h : PI X tg e t) (f : ∀ σ H Q, t' σ H Q → t σ H Q) : PI X tg e t' := ⟨fun pins s σ H Q I q => h.run pins s σ H Q I (f σ H Q q)⟩
/-- the items of a list or tuple -/
def itSeq (f : Ex) : Sl → M (List D) := fun S => bnd (f S) fun d => match d with
  | .tup ds => ret ds
  | .lst ds => ret ds
  | _ => stuck
def itRange1 (f : Ex) : Sl → M (List D) := fun S => bnd (f S) fun d => match d with
  | .int j => if -(2 ^ 62) ≤ j ∧ j < 2 ^ 62 then ret ((List.range j.toNat).map fun (i : Nat) => .int ((0 : Int) + (i : Int))) else stuck
  | _ => stuck
theorem walkL {K : PySem.W.Frag} {g : G} {B : Hp} {a : Addr} {vs : List V} {ds : List D} (h : B a = some (.lst vs)) (r : RpA K g vs ds) : WalkD K B (Itl K a) ds g := fun i H sm => by
  have sq : SqL K H a vs := .of (sm _ _ h)
  refine ⟨fun d e => ?_, fun hl => ⟨vs, sq, by rw [r.length]; exact hl⟩⟩
  obtain ⟨v, e1, r1⟩ := r.get e
  refine ⟨⟨vs, v, sq, e1⟩, fun x H' ⟨e2, e3⟩ => .inl ⟨e2, ?_⟩⟩
  have := e3 vs sq
  rw [e1] at this
  cases this
  exact r1
theorem walkT {K : PySem.W.Frag} {g : G} {B : Hp} {a : Addr} {vs : List V} {ds : List D} (h : SqT K B a vs) (r : RpA K g vs ds) : WalkD K B (Itt K a) ds g := fun i H sm => by
  have sq : SqT K H a vs := Same.tseq sm h
  refine ⟨fun d e => ?_, fun hl => ⟨vs, sq, by rw [r.length]; exact hl⟩⟩
  obtain ⟨v, e1, r1⟩ := r.get e
  refine ⟨⟨vs, v, sq, e1⟩, fun x H' ⟨e2, e3⟩ => .inl ⟨e2, ?_⟩⟩
  have := e3 vs sq
  rw [e1] at this
  cases this
  exact r1
theorem walkR {K : PySem.W.Frag} {g : G} {B : Hp} {a : Int} {n : Nat} : WalkD K B (Itr a n) ((List.range n).map fun (i : Nat) => D.int (a + (i : Int))) g := fun i H sm => by
  refine ⟨fun d e => ?_, fun hl => by rw [List.length_map, List.length_range] at hl; exact hl⟩
  rw [List.getElem?_map] at e
  cases z : (List.range n)[i]? with
  | none => rw [z] at e; cases e
  | some m =>
    rw [z] at e
    cases e
    obtain ⟨h1, h2⟩ := List.getElem?_eq_some_iff.mp z
    rw [List.getElem_range] at h2
    subst h2
    rw [List.length_range] at h1
    refine ⟨h1, fun x H' ⟨e2, e3⟩ => .inl ⟨e2, ?_⟩⟩
    subst e3
    exact .int _
section
variable {X : Cx} {C : Cn} {E : XK} {tg : Expr}
/-- a list or a tuple that is walked -/
theorem pi_seq {l : Expr} {tl : TE} (hl : PE X l tl) : PI X tg l (fun σ H R => tl σ H fun x H1 => ∃ a, x = .ref a ∧ ((∃ xs, SqL X.K H1 a xs ∧ R (Itl X.K a) H1) ∨ (∃ xs, SqT X.K H1 a xs ∧ R (Itt X.K a) H1))) := by
  refine ⟨fun pins s σ H R I h => ?_⟩
  refine thn (hl.run pins s σ H _ I h) fun v s1 ⟨x, H1, I1, r1, q1⟩ => ?_
  obtain ⟨a, e, h2⟩ := q1
  subst e
  cases r1
  rcases h2 with ⟨xs, hq, q⟩ | ⟨xs, hq, q⟩
  · obtain ⟨its, rv, p, hz⟩ := I1.list hq
    refine wpAny_pyIter_list p.isList ?_
    refine ⟨s1.heap.objs.size, [s1.heap.objs.size], _, _, H1, rfl, I1.kept (t' := s1.toks) fun b o e => Heap.get?_push_of_some _ e, turn_list a _, ⟨_, Heap.get?_push_size _ rfl, rfl, rfl⟩, fun b hb => ?_, q⟩
    have e : b = s1.heap.objs.size := by simpa using hb
    subst e
    exact I1.fpOk (Nat.le_refl _) (I1.hok.fresh (Nat.le_refl _))
  · obtain ⟨its, rv, p, hz⟩ := I1.tuple hq
    refine wpAny_pyIter_tuple (show s1.heap.IsTuple a its.toArray from p) ?_
    refine ⟨s1.heap.objs.size, [s1.heap.objs.size], _, _, H1, rfl, I1.kept (t' := s1.toks) fun b o e => Heap.get?_push_of_some _ e, turn_tuple a _, ⟨_, Heap.get?_push_size _ rfl, rfl, rfl⟩, fun b hb => ?_, q⟩
    have e : b = s1.heap.objs.size := by simpa using hb
    subst e
    exact I1.fpOk (Nat.le_refl _) (I1.hok.fresh (Nat.le_refl _))
theorem ci_seq {l : Expr} {f : Ex} (h : CE X C E l f) : CI X C E tg l (itSeq f) := PI.imp (pi_seq h) fun σ H R ⟨g, S, t, w, s, p⟩ => ⟨g, S, t, w, s, p.bnd.imp fun d t1 g1 H1 st1 w1 q v r => by
  cases d with
  | tup ds =>
    cases r with
    | tup sq ra => exact ⟨_, rfl, .inr ⟨_, Same.tseq w1.fz sq.t, postRet q w1 _ (walkT sq.t ra)⟩⟩
  | lst ds =>
    cases r with
    | lst sq ra => exact ⟨_, rfl, .inl ⟨_, .of (w1.fz _ _ sq), postRet q w1 _ (walkL sq ra)⟩⟩
  | _ => exact q.elim⟩
theorem ciw_seq {l : Expr} {f : Ex} (h : CW X C E l f) : CIW X C E tg l (itSeq f) := PI.imp (pi_seq h) fun σ H R ⟨g, S, t, w, s, p⟩ => ⟨g, S, t, w, s, p.bnd.imp fun d t1 g1 H1 st1 w1 q v r => by
  cases d with
  | tup ds =>
    rcases r with r | ⟨_, _, _, z, _⟩
    · cases r with
      | tup sq ra => exact ⟨_, rfl, .inr ⟨_, Same.tseq w1.fz sq.t, postRet q w1 _ g1.Fz (fun g2 H2 t2 s2 w2 => s2.fz.trans w2.fz) (walkT sq.t ra)⟩⟩
    · cases z
  | lst ds =>
    obtain ⟨a, vs, rfl, e1, r1, kept⟩ : ∃ a vs, v = .ref a ∧ H1 a = some (.lst vs) ∧ RpA X.K g1 vs ds ∧ ∀ g2 H2 t2, Stp g1 H1 g2 H2 → Wf C g2 H2 t2 → H2 a = some (.lst vs) := by
      rcases r with r | ⟨p, vs, ds', z1, z2, z3, z4, z5⟩
      · cases r with
        | lst a b => exact ⟨_, _, rfl, w1.fz _ _ a, b, fun g2 H2 t2 s2 w2 => w2.fz _ _ (s2.fz _ _ a)⟩
      · cases z1
        exact ⟨p, vs, z2, z3, z4, fun g2 H2 t2 s2 w2 => s2.frm _ _ z3 z5 (fun _ z => nomatch z)⟩
    refine ⟨_, rfl, .inl ⟨_, .of e1, postRet q w1 _ (fun b => if b = a then some (.lst vs) else none) (fun g2 H2 t2 s2 w2 b o e => ?_) (walkL (vs := vs) (by rw [if_pos rfl]) r1)⟩⟩
    have e : (if b = a then some (HO.lst vs) else none) = some o := e
    by_cases hb : b = a
    · rw [if_pos hb] at e
      cases e
      rw [hb]
      exact kept g2 H2 t2 s2 w2
    · rw [if_neg hb] at e; cases e
  | _ => exact q.elim⟩
theorem ci_w {l : Expr} {f : Sl → M (List D)} (h : CI X C E tg l f) : CIW X C E tg l f := PI.imp h fun σ H R ⟨g, S, t, w, s, p⟩ => ⟨g, S, t, w, s, p.imp fun ds t1 g1 H1 st1 w1 q J wk => q J g1.Fz (fun g2 H2 t2 s2 w2 => s2.fz.trans w2.fz) wk⟩
theorem ci_range1 {a : Expr} {f : Ex} {p pos : Pos} (hm : X.mg "range" = none) (ha : CE X C E a f) (hg : Gl X "range" := by rfl) (hs : starEach [a] X.env = (false, eval a X.env) :: starEach [] X.env := by rfl) : CI X C E tg (.Call (.Name "range" p) [a] [] pos) (itRange1 f) :=
  PI.imp (pi_range1 hg hm (pa_cons ha pa_nil hs) hs) fun σ H R ⟨g, S, t, w, s, p⟩ => ⟨g, S, t, w, s, p.bnd.imp fun d t1 g1 H1 st1 w1 q v r => by
    cases d with
    | int j =>
      cases r
      have q : Post C E g1 H1 (fun ds _ g' H' => ∀ J, WalkD X.K g'.Fz J ds g' → R J H') ((if -(2 ^ 62) ≤ j ∧ j < 2 ^ 62 then ret ((List.range j.toNat).map fun (i : Nat) => D.int ((0 : Int) + (i : Int))) else stuck) t1) := q
      split at q
      · rename_i hc
        exact ⟨j, rfl, hc.1, hc.2, postRet q w1 _ walkR⟩
      · exact q.elim
    | _ => exact q.elim⟩
end
/-- an object of one's own is changed -/
theorem SL.updX {K : PySem.W.Frag} {g : G} {H : Hp} {σ : L2.St} {S : Sl} {i : Nat} {a : Addr} {x y : SV} {o : HO} (s : SL K g H σ S) (e : S[i]? = some x) (ox : isOw x = true) (h1 : σ[i]? = some (some (.ref a))) (oy : isOw y = true) (hy : SVok K g (upd H a o) y (some (some (.ref a)))) : SL K g (upd H a o) σ (S.set i y) where
  len := by rw [List.length_set]; exact s.len
  ok := fun j z e2 => by
    by_cases hj : i = j
    · subst hj
      obtain ⟨hl, _⟩ := List.getElem?_eq_some_iff.mp e
      rw [List.getElem?_set_self hl] at e2
      cases e2
      rw [h1]; exact hy
    · rw [List.getElem?_set_ne hj] at e2
      have h := s.ok j z e2
      cases z with
      | own ds =>
        obtain ⟨b, us, k1, k2, k3, k4⟩ := h
        have nb : b ≠ a := fun z => hj (s.dis i j a x _ e e2 ox rfl h1 (by rw [← z]; exact k1))
        exact ⟨b, us, k1, by rw [upd_ne nb]; exact k2, k3, k4⟩
      | dic ks =>
        obtain ⟨b, us, k1, k2, k3⟩ := h
        have nb : b ≠ a := fun z => hj (s.dis i j a x _ e e2 ox rfl h1 (by rw [← z]; exact k1))
        exact ⟨b, us, k1, by rw [upd_ne nb]; exact k2, k3⟩
      | dcT ks =>
        obtain ⟨b, us, k1, k2, k3⟩ := h
        have nb : b ≠ a := fun z => hj (s.dis i j a x _ e e2 ox rfl h1 (by rw [← z]; exact k1))
        exact ⟨b, us, k1, by rw [upd_ne nb]; exact k2, k3⟩
      | un => exact h
      | val d => exact h
      | raw v => exact h
      | exn c =>
        obtain ⟨b, k1, k2⟩ := h
        refine ⟨b, k1, ?_⟩
        obtain ⟨p0, o0, q1, q2, _⟩ := s.ow e ox
        rw [h1] at q1
        cases q1
        have nb : b ≠ a := fun z => by
          cases x with
          | own ds => obtain ⟨p1, vs1, r1, r2, _⟩ := s.own i ds e; rw [h1] at r1; cases r1; rw [← z, k2] at r2; unfold ExK at r2; cases r2
          | dic ks => obtain ⟨p1, vs1, r1, r2, _⟩ := s.dic i ks e; rw [h1] at r1; cases r1; rw [← z, k2] at r2; unfold ExK at r2; cases r2
          | dcT ks => obtain ⟨p1, L1, r1, r2, _⟩ := s.dcT i ks e; rw [h1] at r1; cases r1; rw [← z, k2] at r2; exact exk_ne (Option.some.inj r2)
          | _ => cases ox
        rw [upd_ne nb]; exact k2
  dis := fun j k p z1 z2 e1 e2 o1 o2 e3 e4 => by
    have at_ : ∀ {m : Nat} {z : SV}, (S.set i y)[m]? = some z → isOw z = true → ∃ z', S[m]? = some z' ∧ isOw z' = true := fun {m z} e2 oz => by
      by_cases hj : i = m
      · subst hj; exact ⟨x, e, ox⟩
      · rw [List.getElem?_set_ne hj] at e2
        exact ⟨z, e2, oz⟩
    obtain ⟨d1, e1, o1⟩ := at_ e1 o1
    obtain ⟨d2, e2, o2⟩ := at_ e2 o2
    exact s.dis j k p d1 d2 e1 e2 o1 o2 e3 e4
/-- a list that is not frozen is changed -/
theorem Wf.updL {C : Cn} {g : G} {H : Hp} {t : Tn} {p : Addr} {xs ys : List V} (w : Wf C g H t) (hp : H p = some (.lst xs)) (fp : Fre g p) : Wf C g (upd H p (.lst ys)) t where
  fz := fun b o' h => by
    rw [upd_ne (ne_of_none h fp.1)]
    exact w.fz b o' h
  tw := ⟨w.tw.1.ext fun b kvs h _ => by rw [upd_ne (ne_of h hp (fun z => nomatch z))]; exact h, w.tw.2.keep (fun _ _ h => h) (.refl g) ⟨rfl, rfl⟩ fun a ha ho h => by rw [upd_ne fun z => fp.2 (.inr (by rw [← z]; exact ha))]; exact h⟩
  ntw := w.ntw
  nft := w.nft
  tab := fun q hq => by
    obtain ⟨ps, h1, h2, h3⟩ := w.tab q hq
    refine ⟨ps, by rw [upd_ne (ne_of h1 hp (fun z => nomatch z))]; exact h1, h2, fun pos cv e => ?_⟩
    obtain ⟨c, e1, e2⟩ := h3 pos cv e
    exact ⟨c, e1, by rw [upd_ne (ne_of e2 hp (fun z => by unfold LamX.CodeO at z; cases z))]; exact e2⟩
def cmpL (tg : Tg) (cond elt : Ex) (S : Sl) : List D → M (List D)
  | [] => ret []
  | d :: ds => match tg d S with
    | none => stuck
    | some S' => bnd (calm (cond S')) fun b => match b with
      | .bl true => bnd (calm (elt S')) fun r => bnd (cmpL tg cond elt S ds) fun rs => ret (r :: rs)
      | .bl false => cmpL tg cond elt S ds
      | _ => stuck
def eComp (vs : List Nat) (it : Sl → M (List D)) (tg : Tg) (cond elt : Ex) : Ex := fun S => bnd (it S) fun ds => if ds.length ≤ sizeLine then bnd (cmpL tg cond elt (wipeS S vs) ds) fun rs => ret (.lst rs) else stuck
abbrev CTs (X : Cx) (C : Cn) (E : XK) (ifs : List Expr) (f : Ex) : Prop := PTs X ifs (tT X.K C E f)
theorem PTs.imp {X : Cx} {e : List Expr} {t t' : TT} (h : PTs X e t) (f : ∀ σ H Q, t' σ H Q → t σ H Q) : PTs X e t' := ⟨fun pins s σ H Q I q => h.run pins s σ H Q I (f σ H Q q)⟩
section
variable {X : Cx} {C : Cn} {E : XK}
theorem cts_nil : CTs X C E [] (eC (.bl true)) := PTs.imp pts_nil fun σ H Q ⟨g, S, t, w, s, p⟩ => by
  obtain ⟨b, e, q⟩ := postRet p w
  cases e
  exact q
theorem cts_one {c : Expr} {f : Ex} (h : CT X C E c f) : CTs X C E [c] f := pts_one h
/-- a list that is built at D: a step leaves it -/
theorem Yl.stp {K : PySem.W.Frag} {g g1 : G} {H H' : Hp} {t : Tn} {x : V} {d : D} (h : Yl K g1 H x H' d) (f : Same g1.Fz g.Fz) (tw : TwLe g1 g) (w : Wf C g H t) : ∃ g', Stp g H g' H' ∧ Wf C g' H' t ∧ Rp K g' x d ∧ ∀ b, H b ≠ none → H' b = H b := by
  rcases h with ⟨rfl, r⟩ | ⟨T, vs, ds, rfl, hT, ⟨ob, rfl, od, oc⟩, rfl, ra⟩
  · exact ⟨g, .refl _ _, w, r.mono f tw, fun _ _ => rfl⟩
  · obtain ⟨g2, s2, w2, r2⟩ := layT w hT od oc (ra.mono f tw)
    refine ⟨g2, s2, w2, r2, fun b hb => ?_⟩
    rw [upd_ne fun z => hb (by rw [z]; exact hT)]
theorem tF.lc {own : List (Str × Nat)} {is : List Nat} {fi : Sl → M (List D)} {ft : Tg} {fc fe : Ex} {σ : L2.St} {H : Hp} {Q : VK} (hv : ∀ i ∈ is, i ∈ own.map (·.2)) (h : tF X.K C E (eComp (own.map (·.2)) fi ft fc fe) σ H Q) :
    tLc (tIW X.K C E fi) (tG X.K C is ft) (tT X.K C E0 fc) (tE X.K C E0 fe) (own.map (·.2)) σ H Q := by
  obtain ⟨g, S, t, w, s, p⟩ := h
  refine ⟨g, S, t, w, s, p.bnd.imp fun ds t1 g1 H1 st1 w1 q J B kp wk => ?_⟩
  have q : Post C E g1 H1 (fun d _ g' H' => ∀ v, RpF X.K H g' H' v d → Q v H') ((if ds.length ≤ sizeLine then bnd (cmpL ft fc fe (wipeS S (own.map (·.2))) ds) fun rs => ret (BG.D.lst rs) else stuck) t1) := q
  split at q
  case isFalse => exact q.elim
  rename_i hsz
  intro La hD
  have s1 := s.stp w st1
  refine ⟨fun i m Hk => m = ds.length - i ∧ i ≤ ds.length ∧ ∃ gk tk av ad, Stp g1 H1 gk Hk ∧ Wf C gk Hk tk ∧ Hk La = some (.lst av) ∧ Fre gk La ∧ RpA X.K gk av ad ∧ ad.length ≤ i ∧
    Post C E g1 H1 (fun d _ g' H' => ∀ v, RpF X.K H g' H' v d → Q v H') (bnd (cmpL ft fc fe (wipeS S (own.map (·.2))) (ds.drop i)) (fun rs => ret (BG.D.lst (ad ++ rs))) tk), ⟨ds.length, by simp, Nat.zero_le _, g1, t1, [], [], Stp.lay w1 hD, Wf.lay w1 hD, upd_same, w1.fre hD, .nil, Nat.zero_le _, ?_⟩, ?_⟩
  · rw [List.drop_zero]
    exact q
  rintro i m Hk ⟨rfl, hi', gk, tk, av, ad, stk, wk', eD, fD, ra, hal, pk⟩
  obtain ⟨wgo, wstop⟩ := wk i Hk (kp gk Hk tk stk wk')
  by_cases hlt : i < ds.length
  · have ed : ds[i]? = some ds[i] := List.getElem?_eq_getElem hlt
    obtain ⟨go, yl⟩ := wgo _ ed
    have edr : ds.drop i = ds[i] :: ds.drop (i + 1) := List.drop_eq_getElem_cons hlt
    rw [edr] at pk
    refine .inr ⟨go, fun Hn => ∃ gn tn bv bd, Stp g1 H1 gn Hn ∧ Wf C gn Hn tn ∧ Hn La = some (.lst bv) ∧ Fre gn La ∧ RpA X.K gn bv bd ∧ bd.length ≤ i + 1 ∧
      Post C E g1 H1 (fun d _ g' H' => ∀ v, RpF X.K H g' H' v d → Q v H') (bnd (cmpL ft fc fe (wipeS S (own.map (·.2))) (ds.drop (i + 1))) (fun rs => ret (BG.D.lst (bd ++ rs))) tn), fun H' hn => ⟨_, Nat.sub_lt_sub_left hlt (Nat.lt_succ_self i), rfl, hlt, hn⟩, fun x H' hy => ?_⟩
    obtain ⟨g3, st3, w3, r3, kp3⟩ := (yl x H' hy).stp stk.fz stk.tw wk'
    have st13 : Stp g1 H1 g3 H' := stk.trans st3
    have eD3 : H' La = some (.lst av) := by rw [kp3 La (by rw [eD]; exact fun z => nomatch z)]; exact eD
    have fD3 : Fre g3 La := fD.stp st3 eD (fun _ z => nomatch z)
    have ra3 := ra.stp st3
    have sl3 : SL X.K g3 H' (L2.wipe σ (own.map (·.2))) (wipeS S (own.map (·.2))) := (s1.stp w1 st13).wipe _
    have pk : Post C E g1 H1 (fun d _ g' H' => ∀ v, RpF X.K H g' H' v d → Q v H') (bnd (match ft ds[i] (wipeS S (own.map (·.2))) with
      | none => stuck
      | some S' => bnd (calm (fc S')) fun b => match b with
        | .bl true => bnd (calm (fe S')) fun r => bnd (cmpL ft fc fe (wipeS S (own.map (·.2))) (ds.drop (i + 1))) fun rs => ret (r :: rs)
        | .bl false => cmpL ft fc fe (wipeS S (own.map (·.2))) (ds.drop (i + 1))
        | _ => stuck) (fun rs => ret (BG.D.lst (ad ++ rs))) tk) := pk
    cases eft : ft ds[i] (wipeS S (own.map (·.2))) with
    | none => rw [eft] at pk; exact pk.elim
    | some S' =>
      rw [eft] at pk
      refine ⟨g3, _, tk, _, S', w3, sl3, r3, eft, fun σ2 sl2 hl2 hout _ => ⟨wipe_eq (by rw [hl2, wipe_length]) fun j hj => hout j fun z => hj (hv j z), ?_⟩⟩
      have pk : Post C E g1 H1 (fun d _ g' H' => ∀ v, RpF X.K H g' H' v d → Q v H') (bnd (bnd (calm (fc S')) fun b => match b with
        | .bl true => bnd (calm (fe S')) fun r => bnd (cmpL ft fc fe (wipeS S (own.map (·.2))) (ds.drop (i + 1))) fun rs => ret (r :: rs)
        | .bl false => cmpL ft fc fe (wipeS S (own.map (·.2))) (ds.drop (i + 1))
        | _ => stuck) (fun rs => ret (BG.D.lst (ad ++ rs))) tk) := pk
      rw [bnd_assoc] at pk
      have pc := (Post.calm pk.bnd0 E0).stp st13
      refine ⟨g3, S', tk, w3, sl2, pc.imp fun b tb gb Hb stb wb qb => ?_⟩
      have st1b := st13.trans stb
      have eDb : Hb La = some (.lst av) := stb.frm _ _ eD3 fD3.2 (fun _ z => nomatch z)
      have fDb : Fre gb La := fD3.stp stb eD3 (fun _ z => nomatch z)
      have rab := ra3.stp stb
      cases b with
      | bl b =>
        refine ⟨b, rfl, ?_⟩
        cases b with
        | false => exact iteF ⟨gb, tb, av, ad, st1b, wb, eDb, fDb, rab, Nat.le_succ_of_le hal, qb⟩
        | true =>
          refine iteT ?_
          have qb : Post C E g1 H1 (fun d _ g' H' => ∀ v, RpF X.K H g' H' v d → Q v H') (bnd (bnd (calm (fe S')) fun r => bnd (cmpL ft fc fe (wipeS S (own.map (·.2))) (ds.drop (i + 1))) fun rs => ret (r :: rs)) (fun rs => ret (BG.D.lst (ad ++ rs))) tb) := qb
          rw [bnd_assoc] at qb
          have pe := (Post.calm qb.bnd0 E0).stp st1b
          refine ⟨gb, S', tb, wb, sl2.stp w3 stb, pe.imp fun r tr gr Hr str wr qr y ry => ?_⟩
          have eDr : Hr La = some (.lst av) := str.frm _ _ eDb fDb.2 (fun _ z => nomatch z)
          have fDr : Fre gr La := fDb.stp str eDb (fun _ z => nomatch z)
          have rar := rab.stp str
          have st1r := st1b.trans str
          have hH1D : H1 La = none := hD
          refine ⟨av, eDr, ?_, gr, tr, av ++ [y], ad ++ [r], ⟨st1r.fz, st1r.tw, st1r.twn, fun b o e1 e2 e3 => ?_, fun b e1 => ?_, st1r.new⟩, ?_, upd_same, fDr, rar.app (.one ry), by rw [List.length_append]; exact Nat.succ_le_succ hal, ?_⟩
          · rw [rar.length]
            exact Nat.lt_of_lt_of_le (Nat.lt_of_le_of_lt hal hlt) hsz
          · rw [upd_ne (ne_of_none e1 hH1D)]
            exact st1r.frm b o e1 e2 e3
          · by_cases hb : b = La
            · exact ⟨_, by rw [hb]; exact upd_same, fun _ z => by cases z⟩
            · obtain ⟨o', e', n'⟩ := st1r.thr b e1
              exact ⟨o', by rw [upd_ne hb]; exact e', n'⟩
          · exact wr.updL eDr fDr
          · rw [bnd_assoc] at qr
            have er : (fun rs => ret (BG.D.lst (ad ++ [r] ++ rs))) = (fun rs => bnd (ret (r :: rs)) fun rs => ret (BG.D.lst (ad ++ rs))) := by
              funext rs
              rw [ret_bnd, List.append_assoc]; rfl
            rw [er]
            exact qr
      | _ => exact qb.elim
  · have e : i = ds.length := by omega
    subst e
    refine .inl ⟨wstop (Nat.le_refl _), ?_⟩
    rw [List.drop_length] at pk
    have pk : Post C E g1 H1 (fun d _ g' H' => ∀ v, RpF X.K H g' H' v d → Q v H') (ret (BG.D.lst (ad ++ [])) tk) := pk
    rw [List.append_nil] at pk
    exact pk gk Hk stk wk' _ ⟨La, av, ad, rfl, rfl, st1.back hD, eD, ra, fD⟩
theorem cf_comp {elt tg iter : Expr} {ifs : List Expr} {scope : Scope} {own : List (Str × Nat)} {pos : Pos} {is : List Nat} {fi : Sl → M (List D)} {ft : Tg} {fc fe : Ex} (hc : X.calm = true) (hN : X.N.Nodup) (hi : CIW X C E tg iter fi) (ok : BlkOk X.N X.env.scope scope own) (hv : ∀ i ∈ is, i ∈ own.map (·.2))
    (hg : ∀ (s : Shared) (H : Hp) (Ca : Addr) (cl : List (Str × Addr)) (fp : List Addr), CG (X.blk s H scope (compEnvC scope cl Ca X.env) fp) C is tg ft) (ht : ∀ (s : Shared) (H : Hp) (Ca : Addr) (cl : List (Str × Addr)) (fp : List Addr), CTs (X.blk s H scope (compEnvC scope cl Ca X.env) fp) C E0 ifs fc)
    (he : ∀ (s : Shared) (H : Hp) (Ca : Addr) (cl : List (Str × Addr)) (fp : List Addr), CE (X.blk s H scope (compEnvC scope cl Ca X.env) fp) C E0 elt fe) (hs : ∀ x, foldedSetIterable iter X.env x = pure x := by intro _; rfl) :
    CF X C E (.ListComp elt [⟨tg, iter, ifs, 0⟩] scope pos) (eComp (own.map (·.2)) fi ft fc fe) := by
  exact PE.imp (pe_lc (te := tE X.K C E0 fe) (g := tG X.K C is ft) (tt := tT X.K C E0 fc) hc hN hi ok hg ht he hs) fun σ H Q h => tF.lc hv h
end
end BG
set_option Elab.async false
set_option linter.all false
set_option maxRecDepth 100000
set_option maxHeartbeats 4000000
namespace BG
open PySem PySem.Spec PyProof.Rows L2
inductive Fl where
  | nx (S : Sl)
  | ret (d : D)
abbrev Stm := Sl → M Fl
def OwnF (H0 : Hp) (σ : L2.St) (S : Sl) : Prop := ∀ (j : Nat) x p, S[j]? = some x → isOw x = true → σ[j]? = some (some (.ref p)) → ¬ Nt H0 p
/-- what is frozen stays frozen -/
structure Gw (g g' : G) : Prop where
  fz : Same g.Fz g'.Fz
  tw : TwLe g g'
theorem Gw.refl (g : G) : Gw g g := ⟨fun _ _ h => h, .refl g⟩
theorem Gw.trans {g g1 g2 : G} (a : Gw g g1) (b : Gw g1 g2) : Gw g g2 := ⟨a.fz.trans b.fz, a.tw.trans b.tw⟩
theorem Stp.gw {g g' : G} {H H' : Hp} (s : Stp g H g' H') : Gw g g' := ⟨s.fz, s.tw⟩
/-- what follows a statement -/
def Rs (K : PySem.W.Frag) (H0 : Hp) (gs : G) (De : Ends) : Fl → Tn → G → Hp → Prop
  | .nx S', _, g', H' => ∀ σ', Gw gs g' → SL K g' H' σ' S' → OwnF H0 σ' S' → De.nx σ' H'
  | .ret d, _, g', H' => ∀ v, Gw gs g' → Rp K g' v d → De.rt v H'
def tS (K : PySem.W.Frag) (C : Cn) (E : XK) (f : Stm) : TS := fun De σ H => ∃ g0 H0 gs g S t, Stp g0 H0 g H ∧ Gw gs g ∧ Wf C g H t ∧ SL K g H σ S ∧ OwnF H0 σ S ∧ Post C E g0 H0 (Rs K H0 gs De) (f S t)
abbrev CS (X : Cx) (C : Cn) (E : XK) (st : Stmt) (f : Stm) : Prop := PS X st (tS X.K C E f)
abbrev CSs (X : Cx) (C : Cn) (E : XK) (st : List Stmt) (f : Stm) : Prop := PSs X st (tS X.K C E f)
def sNil : Stm := fun S => ret (.nx S)
def sSeq (a b : Stm) : Stm := fun S => bnd (a S) fun fl => match fl with
  | .nx S' => b S'
  | .ret d => ret (.ret d)
def sAsg (i : Nat) (e : Ex) : Stm := fun S => bnd (e S) fun d => ret (.nx (S.set i (.val d)))
def sOwn (i : Nat) (e : Ex) : Stm := fun S => bnd (e S) fun d => match d with
  | .lst ds => ret (.nx (S.set i (.own ds)))
  | _ => stuck
def sAsgG (tg : Tg) (e : Ex) : Stm := fun S => bnd (e S) fun d => match tg d S with
  | some S' => ret (.nx S')
  | none => stuck
def sPar (i j : Nat) (a b : Ex) : Stm := fun S => bnd (a S) fun x => bnd (b S) fun y => ret (.nx ((S.set i (.val x)).set j (.val y)))
def sParO (i j : Nat) (a b : Ex) : Stm := fun S => bnd (a S) fun x => bnd (b S) fun y => match y with
  | .lst ds => ret (.nx ((S.set i (.val x)).set j (.own ds)))
  | _ => stuck
def sApp (i : Nat) (e : Ex) : Stm := fun S => match S[i]? with
  | some (.own _) => bnd (e S) fun d => match S[i]? with
    | some (.own ds) => if ds.length < sizeLine then ret (.nx (S.set i (.own (ds ++ [d])))) else stuck
    | _ => stuck
  | _ => stuck
def sExt (i : Nat) (e : Ex) : Stm := fun S => match S[i]? with
  | some (.own _) => bnd (e S) fun d => match S[i]?, d with
    | some (.own ds), .lst es => if ds.length + es.length ≤ sizeLine then ret (.nx (S.set i (.own (ds ++ es)))) else stuck
    | _, _ => stuck
  | _ => stuck
def sExpr (e : Ex) : Stm := fun S => bnd (e S) fun _ => ret (.nx S)
def sIf (c : Ex) (a b : Stm) : Stm := fun S => bnd (c S) fun d => match d with
  | .bl true => a S
  | .bl false => b S
  | _ => stuck
def sRet (e : Ex) : Stm := fun S => bnd (e S) fun d => ret (.ret d)
def sFrz (i : Nat) (a : Stm) : Stm := fun S => match S[i]? with
  | some (.own ds) => a (S.set i (.val (.lst ds)))
  | _ => a S
def sRaise (c : Nat) : Stm := fun _ => raise c
def forL (tg : Tg) (body : Stm) : List D → Stm
  | [], S => ret (.nx S)
  | d :: ds, S => match tg d S with
    | none => stuck
    | some S' => bnd (calm (body S')) fun fl => match fl with
      | .nx S'' => forL tg body ds S''
      | .ret v => ret (.ret v)
def sFor (it : Sl → M (List D)) (tg : Tg) (body : Stm) : Stm := fun S => bnd (calm (it S)) fun ds => forL tg body ds S
section
variable {K : PySem.W.Frag} {C : Cn} {E : XK}
theorem OwnF.set {H0 : Hp} {σ : L2.St} {S : Sl} {i : Nat} {v : V} {d : D} (h : OwnF H0 σ S) : OwnF H0 (σ.set i (some v)) (S.set i (.val d)) := fun j ds p e1 ox e2 => by
  have n := set_ow e1 ox
  rw [List.getElem?_set_ne n] at e1 e2
  exact h j ds p e1 ox e2
theorem OwnF.keep {H0 : Hp} {σ σ' : L2.St} {S S' : Sl} (h : OwnF H0 σ S) (k : ∀ (j : Nat) x, S'[j]? = some x → isOw x = true → S[j]? = some x ∧ σ'[j]? = σ[j]?) : OwnF H0 σ' S' := fun j ds p e1 ox e2 => by
  obtain ⟨a, b⟩ := k j ds e1 ox
  rw [b] at e2
  exact h j ds p a ox e2
/-- an expression within a statement -/
theorem tS.ex {f : Ex} {k : D → M Fl} {σ : L2.St} {H : Hp} {De : Ends} {g0 gs g : G} {H0 : Hp} {S : Sl} {t : Tn} {Q : VK} (st : Stp g0 H0 g H) (gr : Gw gs g) (w : Wf C g H t) (s : SL K g H σ S) (p : Post C E g0 H0 (Rs K H0 gs De) (bnd (f S) k t))
    (h : ∀ d t1 g1 H1 v, Stp g H g1 H1 → Stp g0 H0 g1 H1 → Gw gs g1 → Wf C g1 H1 t1 → SL K g1 H1 σ S → Rp K g1 v d → Post C E g0 H0 (Rs K H0 gs De) (k d t1) → Q v H1) : tE K C E f σ H Q :=
  ⟨g, S, t, w, s, (p.bnd0.stp st).imp fun d t1 g1 H1 st1 w1 q v r => h d t1 g1 H1 v st1 (st.trans st1) (gr.trans st1.gw) w1 (s.stp w st1) r q⟩
theorem tS.exW {f : Ex} {k : D → M Fl} {σ : L2.St} {H : Hp} {De : Ends} {g0 gs g : G} {H0 : Hp} {S : Sl} {t : Tn} {Q : VK} (st : Stp g0 H0 g H) (gr : Gw gs g) (w : Wf C g H t) (s : SL K g H σ S) (p : Post C E g0 H0 (Rs K H0 gs De) (bnd (f S) k t))
    (h : ∀ d t1 g1 H1 v, Stp g H g1 H1 → Stp g0 H0 g1 H1 → Gw gs g1 → Wf C g1 H1 t1 → SL K g1 H1 σ S → RpW K g1 H1 v d → Post C E g0 H0 (Rs K H0 gs De) (k d t1) → Q v H1) : tW K C E f σ H Q :=
  ⟨g, S, t, w, s, (p.bnd0.stp st).imp fun d t1 g1 H1 st1 w1 q v r => h d t1 g1 H1 v st1 (st.trans st1) (gr.trans st1.gw) w1 (s.stp w st1) r q⟩
theorem tS.exF {f : Ex} {k : D → M Fl} {σ : L2.St} {H : Hp} {De : Ends} {g0 gs g : G} {H0 : Hp} {S : Sl} {t : Tn} {Q : VK} (st : Stp g0 H0 g H) (gr : Gw gs g) (w : Wf C g H t) (s : SL K g H σ S) (p : Post C E g0 H0 (Rs K H0 gs De) (bnd (f S) k t))
    (h : ∀ d t1 g1 H1 v, Stp g H g1 H1 → Stp g0 H0 g1 H1 → Gw gs g1 → Wf C g1 H1 t1 → SL K g1 H1 σ S → RpF K H g1 H1 v d → Post C E g0 H0 (Rs K H0 gs De) (k d t1) → Q v H1) : tF K C E f σ H Q :=
  ⟨g, S, t, w, s, (p.bnd0.stp st).imp fun d t1 g1 H1 st1 w1 q v r => h d t1 g1 H1 v st1 (st.trans st1) (gr.trans st1.gw) w1 (s.stp w st1) r q⟩
theorem tS.tst {f : Ex} {k : D → M Fl} {σ : L2.St} {H : Hp} {De : Ends} {g0 gs g : G} {H0 : Hp} {S : Sl} {t : Tn} {Q : Bool → Hp → Prop} (st : Stp g0 H0 g H) (gr : Gw gs g) (w : Wf C g H t) (s : SL K g H σ S) (p : Post C E g0 H0 (Rs K H0 gs De) (bnd (f S) k t))
    (nb : ∀ d t, (∀ b, d ≠ .bl b) → k d t = none) (h : ∀ b t1 g1 H1, Stp g H g1 H1 → Stp g0 H0 g1 H1 → Gw gs g1 → Wf C g1 H1 t1 → SL K g1 H1 σ S → Post C E g0 H0 (Rs K H0 gs De) (k (.bl b) t1) → Q b H1) : tT K C E f σ H Q :=
  ⟨g, S, t, w, s, (p.bnd0.stp st).imp fun d t1 g1 H1 st1 w1 q => by
    by_cases hb : ∃ b, d = .bl b
    · obtain ⟨b, rfl⟩ := hb
      exact ⟨b, rfl, h b t1 g1 H1 st1 (st.trans st1) (gr.trans st1.gw) w1 (s.stp w st1) q⟩
    · rw [nb d t1 fun b z => hb ⟨b, z⟩] at q
      exact q.elim⟩
/-- the slot gets a list of its own -/
theorem SL.setO {g : G} {H : Hp} {σ : L2.St} {S : Sl} {i : Nat} {p : Addr} {vs : List V} {ds : List D} (s : SL K g H σ S) (hp : H p = some (.lst vs)) (r : RpA K g vs ds) (fp : Fre g p) (hn : ∀ (j : Nat) x, S[j]? = some x → isOw x = true → σ[j]? = some (some (.ref p)) → j = i) :
    SL K g H (σ.set i (some (.ref p))) (S.set i (.own ds)) := s.put ⟨p, vs, rfl, hp, r, fp⟩ fun _ q e => by cases e; exact hn
theorem SL.setD {g : G} {H : Hp} {σ : L2.St} {S : Sl} {i : Nat} {p : Addr} {vs : List (Key × V)} {ks : List (Key × D)} (s : SL K g H σ S) (hp : H p = some (.dK vs)) (r : RpK K g vs ks) (fp : g.Fz p = none) (nt : ¬ g.isTw p) (hn : ∀ (j : Nat) x, S[j]? = some x → isOw x = true → σ[j]? = some (some (.ref p)) → j = i) :
    SL K g H (σ.set i (some (.ref p))) (S.set i (.dic ks)) := s.put ⟨p, vs, rfl, hp, r, fp, nt⟩ fun _ q e => by cases e; exact hn
theorem OwnF.put {H0 : Hp} {σ : L2.St} {S : Sl} {i : Nat} {p : Addr} {x : SV} (h : OwnF H0 σ S) (hp : ¬ Nt H0 p) : OwnF H0 (σ.set i (some (.ref p))) (S.set i x) := fun j dj q e1 ox e2 => by
  by_cases hj : i = j
  · subst hj
    obtain ⟨hl, _⟩ := List.getElem?_eq_some_iff.mp e2
    rw [List.length_set] at hl
    rw [List.getElem?_set_self hl] at e2
    cases e2
    exact hp
  · rw [List.getElem?_set_ne hj] at e1 e2
    exact h j dj q e1 ox e2
theorem OwnF.setO {H0 : Hp} {σ : L2.St} {S : Sl} {i : Nat} {p : Addr} {ds : List D} (h : OwnF H0 σ S) (hp : ¬ Nt H0 p) : OwnF H0 (σ.set i (some (.ref p))) (S.set i (.own ds)) := h.put hp
/-- an object that was just made is nobody's -/
theorem SL.noOne {g : G} {H : Hp} {σ : L2.St} {S : Sl} {p : Addr} (s : SL K g H σ S) (hp : ¬ Nt H p) (i : Nat) : ∀ (j : Nat) x, S[j]? = some x → isOw x = true → σ[j]? = some (some (.ref p)) → j = i := fun j x e1 ox e2 => by
  obtain ⟨a, o, h1, h2, _, h4⟩ := s.ow e1 ox
  rw [e2] at h1
  cases h1
  exact absurd ⟨o, h2, h4⟩ hp
end
section
variable {X : Cx} {C : Cn} {E : XK}
theorem css_nil : CSs X C E [] sNil := PSs.imp pss_nil fun De σ H ⟨g0, H0, gs, g, S, t, st, gr, w, s, o, p⟩ => p g H st w σ gr s o
theorem css_cons {st : Stmt} {rest : List Stmt} {a b : Stm} (h1 : CS X C E st a) (h2 : CSs X C E rest b) : CSs X C E (st :: rest) (sSeq a b) := PSs.imp (pss_cons h1 h2) fun De σ H ⟨g0, H0, gs, g, S, t, st, gr, w, s, o, p⟩ =>
  ⟨g0, H0, gs, g, S, t, st, gr, w, s, o, p.bnd0.imp fun fl t1 g1 H1 st1 w1 q => by
    cases fl with
    | nx S' => exact fun σ' gr' s' o' => ⟨g0, H0, gs, g1, S', t1, st1, gr', w1, s', o', q⟩
    | ret d => exact q g1 H1 st1 w1⟩
theorem css_one {st : Stmt} {a : Stm} (h1 : CS X C E st a) : CSs X C E [st] a := PSs.imp (pss_one h1) fun De σ H h => h
theorem cs_asg (i : Nat) {x : Str} {e : Expr} {f : Ex} {pos pos' : Pos} (hN : X.N.Nodup) (he : CE X C E e f) (hi : X.N[i]? = some x := by rfl) (hx : Loc X.env.scope x := by first | exact .inl rfl | exact .inr rfl) (hs : swapsWith e (some (.Name x pos')) pos.line X.env = pure false := by rfl)
    (hf : X.fn x = true ∨ X.env.scope.names.lookup x = some .local := by first | exact .inl rfl | exact .inr rfl | assumption) : CS X C E (.Assign [.Name x pos'] e pos) (sAsg i f) :=
  PS.imp (ps_set hN hi hx he hs hf) fun De σ H ⟨g0, H0, gs, g, S, t, st, gr, w, s, o, p⟩ => tS.ex st gr w s p fun d t1 g1 H1 v st1 st01 gr1 w1 s1 r q => q g1 H1 st01 w1 _ gr1 (s1.set r) o.set
theorem cs_own (i : Nat) {x : Str} {e : Expr} {f : Ex} {pos pos' : Pos} (hN : X.N.Nodup) (he : CF X C E e f) (hi : X.N[i]? = some x := by rfl) (hx : Loc X.env.scope x := by first | exact .inl rfl | exact .inr rfl) (hs : swapsWith e (some (.Name x pos')) pos.line X.env = pure false := by rfl)
    (hf : X.fn x = true ∨ X.env.scope.names.lookup x = some .local := by first | exact .inl rfl | exact .inr rfl | assumption) : CS X C E (.Assign [.Name x pos'] e pos) (sOwn i f) :=
  PS.imp (ps_set hN hi hx he hs hf) fun De σ H ⟨g0, H0, gs, g, S, t, st, gr, w, s, o, p⟩ => tS.exF st gr w s p fun d t1 g1 H1 v st1 st01 gr1 w1 s1 r q => by
    obtain ⟨a, vs, ds, rfl, rfl, e0, e1, ra, e2⟩ := r
    refine q g1 H1 st01 w1 _ gr1 (s1.setO e1 ra e2 fun j dj h1 hx h2 => s.noOne e0 i j dj h1 hx h2) (o.setO (st.backN e0))
theorem cs_par (i j : Nat) {x y : Str} {a b : Expr} {fa fb : Ex} {px py pt : Pos} {kt k2 pt2} {pos : Pos} (hN : X.N.Nodup) (ha : CE X C E a fa) (hb : CE X C E b fb) (hc : X.calm = true := by rfl) (hi : X.N[i]? = some x := by rfl) (hj : X.N[j]? = some y := by rfl) (hij : i ≠ j := by decide)
    (hx : X.env.scope.names.lookup x = some .local := by rfl) (hy : X.env.scope.names.lookup y = some .local := by rfl)
    (hw : swappedStores [.Tuple [.Name x px, .Name y py] kt pt] (.Tuple [a, b] k2 pt2) X.env = pure (some [x, y]) := by rfl) (hs : swapsWithSole [.Tuple [.Name x px, .Name y py] kt pt] (.Tuple [a, b] k2 pt2) pos.line X.env = pure false := by rfl)
    (s1 : starEach [a, b] X.env = (false, eval a X.env) :: starEach [b] X.env := by rfl) (s2 : starEach [b] X.env = (false, eval b X.env) :: starEach [] X.env := by rfl) :
    CS X C E (.Assign [.Tuple [.Name x px, .Name y py] kt pt] (.Tuple [a, b] k2 pt2) pos) (sPar i j fa fb) :=
  PS.imp (ps_par hc hN hi hj hij hx hy (pa_cons ha (pa_cons hb pa_nil s2) s1) hw hs) fun De σ H ⟨g0, H0, gs, g, S, t, st, gr, w, s, o, p⟩ => tS.ex st gr w s p fun d t1 g1 H1 v st1 st01 gr1 w1 s1 r q =>
    tS.ex st01 gr1 w1 s1 q fun d2 t2 g2 H2 v2 st2 st02 gr2 w2 s2 r2 q2 => ⟨v, v2, rfl, q2 g2 H2 st02 w2 _ gr2 ((s2.set (r.stp st2)).set r2) o.set.set⟩
theorem cs_parO (i j : Nat) {x y : Str} {a b : Expr} {fa fb : Ex} {px py pt : Pos} {kt k2 pt2} {pos : Pos} (hN : X.N.Nodup) (ha : CE X C E a fa) (hb : CF X C E b fb) (hc : X.calm = true := by rfl) (hi : X.N[i]? = some x := by rfl) (hj : X.N[j]? = some y := by rfl) (hij : i ≠ j := by decide)
    (hx : X.env.scope.names.lookup x = some .local := by rfl) (hy : X.env.scope.names.lookup y = some .local := by rfl)
    (hw : swappedStores [.Tuple [.Name x px, .Name y py] kt pt] (.Tuple [a, b] k2 pt2) X.env = pure (some [x, y]) := by rfl) (hs : swapsWithSole [.Tuple [.Name x px, .Name y py] kt pt] (.Tuple [a, b] k2 pt2) pos.line X.env = pure false := by rfl)
    (s1 : starEach [a, b] X.env = (false, eval a X.env) :: starEach [b] X.env := by rfl) (s2 : starEach [b] X.env = (false, eval b X.env) :: starEach [] X.env := by rfl) :
    CS X C E (.Assign [.Tuple [.Name x px, .Name y py] kt pt] (.Tuple [a, b] k2 pt2) pos) (sParO i j fa fb) :=
  PS.imp (ps_par hc hN hi hj hij hx hy (pa_cons ha (pa_cons hb pa_nil s2) s1) hw hs) fun De σ H ⟨g0, H0, gs, g, S, t, st, gr, w, s, o, p⟩ => tS.ex st gr w s p fun d t1 g1 H1 v st1 st01 gr1 w1 s1 r q =>
    tS.exF st01 gr1 w1 s1 q fun d2 t2 g2 H2 v2 st2 st02 gr2 w2 s2 r2 q2 => by
      obtain ⟨a, vs, ds, rfl, rfl, e0, e1, ra, e2⟩ := r2
      refine ⟨v, .ref a, rfl, q2 g2 H2 st02 w2 _ gr2 ((s2.set (r.stp st2)).setO e1 ra e2 fun m dm h1 hx h2 => ?_) (o.set.setO (st01.backN e0))⟩
      have n := set_ow h1 hx
      rw [List.getElem?_set_ne n] at h1 h2
      exact s1.noOne e0 j m dm h1 hx h2
theorem cs_expr {e : Expr} {f : Ex} {pos : Pos} (he : CE X C E e f) (hs : swapsWith e none pos.line X.env = pure false := by rfl) : CS X C E (.Expr e pos) (sExpr f) :=
  PS.imp (ps_expr he hs) fun De σ H ⟨g0, H0, gs, g, S, t, st, gr, w, s, o, p⟩ => tS.ex st gr w s p fun d t1 g1 H1 v st1 st01 gr1 w1 s1 r q => q g1 H1 st01 w1 _ gr1 s1 o
theorem cs_ret {e : Expr} {f : Ex} {pos : Pos} (he : CE X C E e f) : CS X C E (.Return (some e) pos) (sRet f) :=
  PS.imp (ps_ret he) fun De σ H ⟨g0, H0, gs, g, S, t, st, gr, w, s, o, p⟩ => tS.ex st gr w s p fun d t1 g1 H1 v st1 st01 gr1 w1 s1 r q => q g1 H1 st01 w1 v gr1 r
theorem cs_if {c : Expr} {a b : List Stmt} {fc : Ex} {fa fb : Stm} {pos : Pos} (hc : CT X C E c fc) (ha : CSs X C E a fa) (hb : CSs X C E b fb) : CS X C E (.If c a b pos) (sIf fc fa fb) :=
  PS.imp (ps_if hc ha hb) fun De σ H ⟨g0, H0, gs, g, S, t, st, gr, w, s, o, p⟩ => tS.tst (k := fun d => match d with | .bl true => fa S | .bl false => fb S | _ => stuck) st gr w s p (fun d t h => by cases d <;> first | rfl | exact absurd rfl (h _)) fun b t1 g1 H1 st1 st01 gr1 w1 s1 q => by
    cases b with
    | true => exact iteT ⟨g0, H0, gs, g1, S, t1, st01, gr1, w1, s1, o, q⟩
    | false => exact iteF ⟨g0, H0, gs, g1, S, t1, st01, gr1, w1, s1, o, q⟩
/-- a list of one's own is changed -/
theorem SL.updO {K : PySem.W.Frag} {g : G} {H : Hp} {σ : L2.St} {S : Sl} {i : Nat} {a : Addr} {vs : List V} {ds0 ds : List D} (s : SL K g H σ S) (e : S[i]? = some (.own ds0)) (h1 : σ[i]? = some (some (.ref a))) (ra : RpA K g vs ds) : SL K g (upd H a (.lst vs)) σ (S.set i (.own ds)) := by
  obtain ⟨b, us, k1, k2, k3, k4⟩ := s.own i ds0 e
  rw [h1] at k1
  cases k1
  exact s.updX e rfl h1 rfl ⟨a, vs, rfl, upd_same, ra, k4⟩
theorem OwnF.updX {H0 : Hp} {σ : L2.St} {S : Sl} {i : Nat} {x y : SV} (o : OwnF H0 σ S) (e : S[i]? = some x) (ox : isOw x = true) : OwnF H0 σ (S.set i y) := fun j dj p e1 oy e2 => by
  by_cases hj : i = j
  · subst hj; exact o i x p e ox e2
  · rw [List.getElem?_set_ne hj] at e1
    exact o j dj p e1 oy e2
theorem OwnF.updO {H0 : Hp} {σ : L2.St} {S : Sl} {i : Nat} {ds0 ds : List D} (o : OwnF H0 σ S) (e : S[i]? = some (.own ds0)) : OwnF H0 σ (S.set i (.own ds)) := o.updX e rfl
theorem Stp.updO {g0 g : G} {H0 H : Hp} {a : Addr} {ob : HO} (st : Stp g0 H0 g H) (h0 : ¬ Nt H0 a) : Stp g0 H0 g (upd H a ob) := ⟨st.fz, st.tw, st.twn, fun b o e1 e2 e3 => by rw [upd_ne (fun z => h0 ⟨o, by rw [← z]; exact e1, e3⟩)]; exact st.frm b o e1 e2 e3, fun b e1 => by
  obtain ⟨o', e', n'⟩ := st.thr b e1
  exact ⟨o', by rw [upd_ne (fun z => h0 (by rw [← z]; exact e1))]; exact e', n'⟩, st.new⟩
theorem cs_app (i : Nat) {x : Str} {e : Expr} {f : Ex} {p1 apos cpos pos : Pos} (he : CE X C E e f) (hN : X.N[i]? = some x := by rfl) (hv : Vis X.env.scope x := by first | exact Or.inl rfl | exact Or.inr (Or.inl rfl) | exact Or.inr (Or.inr rfl)) (hd : (x == ("__debug__" : Str)) = false := by decide)
    (hcd : (x == ("__classdict__" : Str)) = false := by decide) (hbase : attributeBase (.Name x p1) "append" X.env (eval (.Name x p1) X.env) = eval (.Name x p1) X.env := by rfl)
    (hfew : ((backTo cpos (starEach [e] X.env)).all (fun x => !x.1) && (backToKw cpos (keywordEach [] X.env)).all (fun x => x.1.isSome) && decide ([e].length + ([] : List Keyword).length + (if ([] : List Keyword).isEmpty then 0 else 1) < 30)) = true := by rfl)
    (hline : (apos.endLine == cpos.line) = true := by rfl) (hs : starEach [e] X.env = (false, eval e X.env) :: starEach [] X.env := by rfl) (hplain : (backTo cpos (starEach [] X.env)).any (·.1) = false := by rfl) (hsw : swapsWith (.Call (.Attribute (.Name x p1) "append" apos) [e] [] cpos) none pos.line X.env = pure false := by rfl) :
    CS X C E (.Expr (.Call (.Attribute (.Name x p1) "append" apos) [e] [] cpos) pos) (sApp i f) :=
  PS.imp (ps_expr (pe_bm PySem.F.plainAttrs_list PySem.F.slot_list_append PySem.F.type_list_append mt_append (pe_var hN hv hd hcd) (pa_cons he pa_nil hs) hbase hfew hline hs hplain) hsw) fun De σ H ⟨g0, H0, gs, g, S, t, st, gr, w, s, o, p⟩ => by
    unfold sApp at p
    cases e : S[i]? with
    | none => rw [e] at p; exact p.elim
    | some sv =>
      rw [e] at p
      cases sv with
      | un => exact p.elim
      | val d => exact p.elim
      | dic d => exact p.elim
      | dcT d => exact p.elim
      | raw d => exact p.elim
      | exn d => exact p.elim
      | own ds =>
        obtain ⟨a, vs, h1, h2, h3, h4⟩ := s.own i ds e
        refine ⟨_, h1, .inl ⟨rfl, vs, .of h2⟩, tS.ex st gr w s p fun d t1 g1 H1 v st1 st01 gr1 w1 s1 r q => ?_⟩
        have q : Post C E g0 H0 (Rs X.K H0 gs De) ((if ds.length < sizeLine then ret (Fl.nx (S.set i (.own (ds ++ [d])))) else stuck) t1) := q
        split at q
        · rename_i hz
          obtain ⟨a', vs', k1, k2, k3, k4⟩ := s1.own i ds e
          rw [h1] at k1
          cases k1
          refine ⟨a, vs', v, rfl, rfl, k2, by rw [k3.length]; exact hz, ?_⟩
          exact q g1 _ (st01.updO (o i _ a e rfl h1)) (w1.updL k2 k4) _ gr1 (s1.updO e h1 (k3.app (.one r))) (o.updO e)
        · exact q.elim
theorem cs_ext (i : Nat) {x : Str} {e : Expr} {f : Ex} {p1 apos cpos pos : Pos} (he : CW X C E e f) (hN : X.N[i]? = some x := by rfl) (hv : Vis X.env.scope x := by first | exact Or.inl rfl | exact Or.inr (Or.inl rfl) | exact Or.inr (Or.inr rfl)) (hd : (x == ("__debug__" : Str)) = false := by decide)
    (hcd : (x == ("__classdict__" : Str)) = false := by decide) (hbase : attributeBase (.Name x p1) "extend" X.env (eval (.Name x p1) X.env) = eval (.Name x p1) X.env := by rfl)
    (hfew : ((backTo cpos (starEach [e] X.env)).all (fun x => !x.1) && (backToKw cpos (keywordEach [] X.env)).all (fun x => x.1.isSome) && decide ([e].length + ([] : List Keyword).length + (if ([] : List Keyword).isEmpty then 0 else 1) < 30)) = true := by rfl)
    (hline : (apos.endLine == cpos.line) = true := by rfl) (hs : starEach [e] X.env = (false, eval e X.env) :: starEach [] X.env := by rfl) (hplain : (backTo cpos (starEach [] X.env)).any (·.1) = false := by rfl) (hsw : swapsWith (.Call (.Attribute (.Name x p1) "extend" apos) [e] [] cpos) none pos.line X.env = pure false := by rfl) :
    CS X C E (.Expr (.Call (.Attribute (.Name x p1) "extend" apos) [e] [] cpos) pos) (sExt i f) :=
  PS.imp (ps_expr (pe_bm PySem.F.plainAttrs_list PySem.F.slot_list_extend PySem.F.type_list_extend mt_extend (pe_var hN hv hd hcd) (pa_cons he pa_nil hs) hbase hfew hline hs hplain) hsw) fun De σ H ⟨g0, H0, gs, g, S, t, st, gr, w, s, o, p⟩ => by
    unfold sExt at p
    cases e : S[i]? with
    | none => rw [e] at p; exact p.elim
    | some sv =>
      rw [e] at p
      cases sv with
      | un => exact p.elim
      | val d => exact p.elim
      | dic d => exact p.elim
      | dcT d => exact p.elim
      | raw d => exact p.elim
      | exn d => exact p.elim
      | own ds =>
        obtain ⟨a, vs, h1, h2, h3, h4⟩ := s.own i ds e
        refine ⟨_, h1, .inl ⟨rfl, vs, .of h2⟩, tS.exW st gr w s p fun d t1 g1 H1 v st1 st01 gr1 w1 s1 r q => ?_⟩
        cases d with
        | lst es =>
          have q : Post C E g0 H0 (Rs X.K H0 gs De) ((if ds.length + es.length ≤ sizeLine then ret (Fl.nx (S.set i (.own (ds ++ es)))) else stuck) t1) := q
          split at q
          · rename_i hz
            obtain ⟨a', vs', k1, k2, k3, k4⟩ := s1.own i ds e
            rw [h1] at k1
            cases k1
            obtain ⟨b, us, rfl, m1, m2⟩ := r.lst w1
            refine ⟨a, b, vs', us, rfl, rfl, k2, m1, by rw [k3.length, m2.length]; exact hz, ?_⟩
            exact q g1 _ (st01.updO (o i _ a e rfl h1)) (w1.updL k2 k4) _ gr1 (s1.updO e h1 (k3.app m2)) (o.updO e)
          · exact q.elim
        | _ => exact q.elim
theorem PS.nox {st : Stmt} {t : TS} (h : PS X.nox st t) : PS X st t := ⟨fun pins s σ H D I hw =>
  wpAny_mono (h.run pins s σ H D (I.wish _) hw) (fun _ _ q => q.unwish) fun _ _ z => False.elim z⟩
theorem cs_for {tg iter : Expr} {body : List Stmt} {fi : Sl → M (List D)} {is : List Nat} {ft : Tg} {fb : Stm} {pos : Pos} (hc : X.calm = true) (hi : CI X.nox C E0 tg iter fi) (hg : CG X.nox C is tg ft) (hb : CSs X.nox C E0 body fb)
    (hs : ∀ x, foldedSetIterable iter X.env x = pure x := by intro _; rfl) : CS X C E (.For tg iter body [] pos) (sFor fi ft fb) := by
  refine PS.imp (PS.nox (ps_for (X := X.nox) PassesOwn.never hc hi hg hb hs)) fun De σ H ⟨g0, H0, gs, g, S, t, st, gr, w, s, o, p⟩ => ?_
  refine ⟨g, S, t, w, s, (Post.calm p.bnd0 E0 |>.stp st).imp fun ds t1 g1 H1 st1 w1 q J wk => ?_⟩
  have gr1 := gr.trans st1.gw
  refine ⟨fun i m σk Hk => m = ds.length - i ∧ i ≤ ds.length ∧ ∃ gk Sk tk, Stp g0 H0 gk Hk ∧ Gw g1 gk ∧ Wf C gk Hk tk ∧ SL X.K gk Hk σk Sk ∧ OwnF H0 σk Sk ∧ Post C E g0 H0 (Rs X.K H0 gs De) (forL ft fb (ds.drop i) Sk tk),
    ⟨ds.length, by simp, Nat.zero_le _, g1, S, t1, st.trans st1, .refl _, w1, s.stp w st1, o, by rw [List.drop_zero]; exact q⟩, ?_⟩
  rintro i m σk Hk ⟨rfl, hi', gk, Sk, tk, stk, gwk, wk', sk, ok, pk⟩
  obtain ⟨wgo, wstop⟩ := wk i Hk (gwk.fz.trans wk'.fz)
  by_cases hlt : i < ds.length
  · have ed : ds[i]? = some ds[i] := List.getElem?_eq_getElem hlt
    obtain ⟨go, yl⟩ := wgo _ ed
    have edr : ds.drop i = ds[i] :: ds.drop (i + 1) := List.drop_eq_getElem_cons hlt
    rw [edr] at pk
    refine .inr ⟨go, fun σn Hn => ∃ gn Sn tn, Stp g0 H0 gn Hn ∧ Gw g1 gn ∧ Wf C gn Hn tn ∧ SL X.K gn Hn σn Sn ∧ OwnF H0 σn Sn ∧ Post C E g0 H0 (Rs X.K H0 gs De) (forL ft fb (ds.drop (i + 1)) Sn tn), fun σ' H' hn => ⟨_, Nat.sub_lt_sub_left hlt (Nat.lt_succ_self i), rfl, hlt, hn⟩, fun x H' hy => ?_⟩
    obtain ⟨g3, st3, w3, r3, kp3⟩ := (yl x H' hy).stp gwk.fz gwk.tw wk'
    have sl3 := sk.stp wk' st3
    have pk : Post C E g0 H0 (Rs X.K H0 gs De) ((match ft ds[i] Sk with
      | none => stuck
      | some S' => bnd (calm (fb S')) fun fl => match fl with
        | .nx S'' => forL ft fb (ds.drop (i + 1)) S''
        | .ret v => ret (.ret v)) tk) := pk
    cases eft : ft ds[i] Sk with
    | none => rw [eft] at pk; exact pk.elim
    | some S' =>
      rw [eft] at pk
      refine ⟨g3, Sk, tk, _, S', w3, sl3, r3, eft, fun σ2 sl2 _ _ k2 => ?_⟩
      have pb := Post.calm pk.bnd0 E0
      refine ⟨g0, H0, g1, g3, S', tk, stk.trans st3, gwk.trans st3.gw, w3, sl2, ok.keep k2, pb.imp fun fl t4 g4 H4 st4 w4 q4 => ?_⟩
      cases fl with
      | nx S'' => exact fun σ' gw' s' o' => ⟨g4, S'', t4, st4, gw', w4, s', o', q4⟩
      | ret d => exact fun v gw' r => q4 g4 H4 st4 w4 v (gr1.trans gw') r
  · have e : i = ds.length := by omega
    subst e
    rw [List.drop_length] at pk
    exact .inl ⟨wstop (Nat.le_refl _), pk gk Hk stk wk' σk (gr1.trans gwk) sk ok⟩
theorem cs_asgLc (i : Nat) {y : Str} {py : Pos} {elt tg iter : Expr} {ifs : List Expr} {scope : Scope} {own : List (Str × Nat)} {pos spos : Pos} {is : List Nat} {fi : Sl → M (List D)} {ft : Tg} {fc fe : Ex} (hc : X.calm = true) (hN : X.N.Nodup) (hyl : X.env.scope.names.lookup y = some .local)
    (hsw : swapsWith (.ListComp elt [⟨tg, iter, ifs, 0⟩] scope pos) (some (.Name y py)) spos.line X.env = pure true) (hi : CIW X C E tg iter fi) (ok : BlkOk X.N X.env.scope scope own) (hv : ∀ i ∈ is, i ∈ own.map (·.2))
    (hg : ∀ (s : Shared) (H : Hp) (Ca : Addr) (cl : List (Str × Addr)) (fp : List Addr), CG (X.blk s H scope (compEnvC scope cl Ca X.env) fp) C is tg ft) (ht : ∀ (s : Shared) (H : Hp) (Ca : Addr) (cl : List (Str × Addr)) (fp : List Addr), CTs (X.blk s H scope (compEnvC scope cl Ca X.env) fp) C E0 ifs fc)
    (he : ∀ (s : Shared) (H : Hp) (Ca : Addr) (cl : List (Str × Addr)) (fp : List Addr), CE (X.blk s H scope (compEnvC scope cl Ca X.env) fp) C E0 elt fe) (hy : X.N[i]? = some y := by rfl) (hs : ∀ x, foldedSetIterable iter X.env x = pure x := by intro _; rfl) :
    CS X C E (.Assign [.Name y py] (.ListComp elt [⟨tg, iter, ifs, 0⟩] scope pos) spos) (sAsg i (eComp (own.map (·.2)) fi ft fc fe)) :=
  PS.imp (ps_setLc (te := tE X.K C E0 fe) (g := tG X.K C is ft) (tt := tT X.K C E0 fc) hc hN hy hyl hsw hi ok hg ht he hs) fun De σ H ⟨g0, H0, gs, g, S, t, st, gr, w, s, o, p⟩ => tF.lc hv (tS.exF st gr w s p fun d t1 g1 H1 v st1 st01 gr1 w1 s1 r q => by
    obtain ⟨g2, st2, w2, r2⟩ := Rp.frz r st1 w1
    exact q g2 H1 (st.trans st2) w2 _ (gr.trans st2.gw) ((s.stp w st2).set r2) o.set)
end
def slots0 (n : Nat) (ds : List D) : Sl := ds.map SV.val ++ List.replicate (n - ds.length) .un
def fnOf (n : Nat) (body : Stm) : Fn := fun ds => bnd (body (slots0 n ds)) fun fl => match fl with
  | .nx _ => ret .non
  | .ret d => ret d
theorem SL.start {K : PySem.W.Frag} {g : G} {H : Hp} {N : List Str} {vs : List V} {ds : List D} (r : RpA K g vs ds) : SL K g H (L2.start N vs) (slots0 N.length ds) := by
  have hl := r.length
  have un : ∀ {i : Nat} {x : SV}, (slots0 N.length ds)[i]? = some x → x ≠ .un → i < ds.length ∧ ∃ d, ds[i]? = some d ∧ x = .val d := fun {i x} e hx => by
    unfold slots0 at e
    by_cases h : i < ds.length
    · rw [List.getElem?_append_left (by rw [List.length_map]; exact h), List.getElem?_map] at e
      cases z : ds[i]? with
      | none => rw [z] at e; cases e
      | some d =>
        rw [z] at e
        cases e
        exact ⟨h, d, rfl, rfl⟩
    · rw [List.getElem?_append_right (by rw [List.length_map]; omega), List.getElem?_replicate] at e
      split at e
      · cases e; exact absurd rfl hx
      · cases e
  refine ⟨by unfold L2.start slots0; rw [List.length_append, List.length_append, List.length_map, List.length_map, List.length_replicate, List.length_replicate, hl], fun i x e => ?_, fun i j p x y e1 _ ox => ?_⟩
  · by_cases hx : x = .un
    · subst hx; trivial
    · obtain ⟨h, d', e1, e2⟩ := un e hx
      subst e2
      obtain ⟨v, e3, r3⟩ := r.get e1
      refine ⟨v, ?_, r3⟩
      unfold L2.start
      rw [List.getElem?_append_left (by rw [List.length_map]; omega), List.getElem?_map, e3]; rfl
  · obtain ⟨h, d', _, e2⟩ := un e1 (fun z => by subst z; cases ox)
    subst e2
    cases ox
theorem OwnF.start {H0 : Hp} {σ : L2.St} {n : Nat} {ds : List D} : OwnF H0 σ (slots0 n ds) := fun j x p e ox _ => by
  unfold slots0 at e
  by_cases h : j < ds.length
  · rw [List.getElem?_append_left (by rw [List.length_map]; exact h), List.getElem?_map] at e
    cases z : ds[j]? with
    | none => rw [z] at e; cases e
    | some d => rw [z] at e; cases e; cases ox
  · rw [List.getElem?_append_right (by rw [List.length_map]; omega), List.getElem?_replicate] at e
    split at e
    · cases e; cases ox
    · cases e
/-- THE RULE: a def of the text, its body as read -/
theorem fn_ok {P : Program} {w : World} {K : PySem.W.Frag} {mg : Str → Option Value} {base : Heap} {C : Cn} {x qual : Str} {st : Stmt} {f : Addr} {fd : FuncData} {N ps : List Str} {k : Nat} {body : Stm} (F : Fun K x qual st f fd) (S : FnScope N ps (defScope st))
    (hb : ∀ (cdv : Value) (A : Around) (outer : List Env) (s : Shared) (H : Hp) (E : XK), Room k (A.deeper (envOfC qual (defScope st) s.heap.objs.size f cdv)) →
      CSs (cxOf (L2.CX P w) P w K mg base N qual (defScope st) f cdv A outer s H E) C E (defBody st) body) : FnOk P w K mg base (L2.CX P w) (k + 1) f fd ps (spF K C ps.length (fnOf N.length body)) := by
  refine F.okX S (fun vs H Q E ⟨g, ds, t, r, w, hl, p⟩ => hl) fun cdv A outer s H vs Q E hr ⟨g, ds, t, r, w, hl, p⟩ => ⟨_, hb cdv A outer s H E hr, ?_⟩
  refine ⟨g, H, g, g, _, t, .refl _ _, .refl _, w, SL.start r, OwnF.start, p.bnd0.imp fun fl t1 g1 H1 st1 w1 q => ?_⟩
  cases fl with
  | nx S' => exact fun _ _ _ _ => q g1 H1 st1 w1 _ .non
  | ret d => exact fun v _ r => q g1 H1 st1 w1 v r
end BG
set_option Elab.async false
set_option linter.all false
set_option maxRecDepth 100000
set_option maxHeartbeats 4000000
namespace BG
open PySem PySem.Spec PyProof.Rows L2
def pPow : D → D → M D
  | .int i, .int j => if 0 ≤ j ∧ j ≤ 1000000 ∧ i.natAbs < 2 ^ 64 then ret (.int (i ^ j.toNat)) else stuck
  | _, _ => stuck
section
variable {X : Cx} {C : Cn} {E : XK}
theorem bin_pow : BinOk X C E (binaryOp .Pow) pPow := OpR.imp op_pow fun x y H Q ⟨g, t, p, q, w, rx, ry, h⟩ => by
  cases p <;> cases q <;> first | exact h.elim | skip
  rename_i i j
  have h : PostQ X.K C E g H Q ((if 0 ≤ j ∧ j ≤ 1000000 ∧ i.natAbs < 2 ^ 64 then ret (.int (i ^ j.toNat)) else stuck) t) := h
  split at h
  · exact ⟨_, _, rx.int, ry.int, by assumption, pRetV h w (.int _)⟩
  · exact h.elim
def isTown (S : Sl) (i : Nat) : Bool := match S[i]? with
  | some (.val .town) => true
  | _ => false
theorem isTown_eq {S : Sl} {i : Nat} (h : isTown S i = true) : S[i]? = some (.val .town) := by
  unfold isTown at h
  cases e : S[i]? with
  | none => rw [e] at h; cases h
  | some sv =>
    rw [e] at h
    cases sv with
    | val d => cases d <;> first | rfl | cases h
    | un => cases h
    | dic ds => cases h
    | dcT ds => cases h
    | raw ds => cases h
    | exn ds => cases h
    | own ds => cases h
def scrAt (S : Sl) (i : Nat) : Option (List Int) := match S[i]? with
  | some (.val (.scr ns)) => some ns
  | _ => none
theorem scrAt_eq {S : Sl} {i : Nat} {ns : List Int} (h : scrAt S i = some ns) : S[i]? = some (.val (.scr ns)) := by
  unfold scrAt at h
  cases e : S[i]? with
  | none => rw [e] at h; cases h
  | some sv =>
    rw [e] at h
    cases sv with
    | val d => cases d <;> first | (cases h; rfl) | cases h
    | un => cases h
    | dic ds => cases h
    | dcT ds => cases h
    | raw ds => cases h
    | exn ds => cases h
    | own ds => cases h
def oTC : M D := fun t => match t with
  | (some (c, rs), st) => some (.ok (.int c) (some (c, rs), st))
  | (none, _) => none
def eTC (i : Nat) : Ex := fun S => if isTown S i = true then oTC else stuck
theorem val_count {a b : V} : valV [((.inr "count" : Key), a), (.inr "rests", b)] (.inr "count") = some a := valV_pos rfl
theorem val_rests {a b : V} : valV [((.inr "count" : Key), a), (.inr "rests", b)] (.inr "rests") = some b := by
  rw [valV_neg (show ¬ ((Sum.inr "count" : Key) = .inr "rests") by decide +kernel)]
  exact valV_pos rfl
theorem town_at {K : PySem.W.Frag} {g : G} {H : Hp} {σ : L2.St} {S : Sl} {i : Nat} {c : Int} {rs : List (Int × Int)} {ob : Sto} (w : Wf C g H (some (c, rs), ob)) (s : SL K g H σ S) (e : S[i]? = some (.val .town)) :
    ∃ a b, g.tw = some (a, b) ∧ a ≠ b ∧ σ[i]? = some (some (.ref a)) ∧ H a = some (.dK [(.inr "count", .int c), (.inr "rests", .ref b)]) ∧ H b = some (.dK (rs.map fun p => (Sum.inl p.1, V.int p.2))) := by
  obtain ⟨a, b, e1, e2, e3, e4⟩ := w.tw.1
  obtain ⟨v, h1, h2⟩ := s.val i _ e
  cases h2 with
  | town e5 =>
    rw [e1] at e5
    cases e5
    exact ⟨a, b, e1, e2, h1, e3, e4⟩
theorem ce_tc (i : Nat) {x : Str} {j : Nat} {p1 p2 pos : Pos} (hu : X.A.units + 1 < cLine) (hN : X.N[i]? = some x := by rfl) (hv : Vis X.env.scope x := by first | exact Or.inl rfl | exact Or.inr (Or.inl rfl) | exact Or.inr (Or.inr rfl)) (hd : (x == ("__debug__" : Str)) = false := by decide)
    (hcd : (x == ("__classdict__" : Str)) = false := by decide) (hs : NoSl (.Constant (.str "count") j p2) := by exact fun _ _ => rfl) : CE X C E (.Subscript (.Name x p1) (.Constant (.str "count") j p2) pos) (eTC i) :=
  PE.imp (pe_dget hu (pe_var hN hv hd hcd) pe_str hs) fun σ H Q ⟨g, S, t, w, s, p⟩ => by
    unfold eTC at p
    by_cases hT : isTown S i = true
    · rw [if_pos hT] at p
      have e := isTown_eq hT
      obtain ⟨t, ob⟩ := t
      cases t with
      | none => exact p.elim
      | some cr =>
        obtain ⟨c, rs⟩ := cr
        have p : PostQ X.K C E g H Q (some (.ok (.int c) (some (c, rs), ob))) := p
        obtain ⟨a, b, e1, e2, e3, e4, e5⟩ := town_at w s e
        refine ⟨_, e3, a, .int c, rfl, ?_, p g H (.refl _ _) w _ (.int c)⟩
        have := DGet.k (k := .inr "count") e4
        rw [val_count] at this
        exact this
    · rw [if_neg hT] at p; exact p.elim
/-- a step that changes a draws' dict -/
theorem Stp.tww {g0 g : G} {H0 H : Hp} {a : Addr} {o : HO} (st : Stp g0 H0 g H) (h : g.isTw a) (ho : ∀ ps, o ≠ .tbl ps := by intro _ z; cases z) : Stp g0 H0 g (upd H a o) := ⟨st.fz, st.tw, st.twn, fun b o' e1 e2 e3 => by
  have nb : b ≠ a := fun z => by
    subst z
    exact st.ntw e1 e2 e3 h
  rw [upd_ne nb]
  exact st.frm b o' e1 e2 e3, fun b e1 => by
  by_cases hb : b = a
  · exact ⟨o, by rw [hb]; exact upd_same, ho⟩
  · obtain ⟨o', e', n'⟩ := st.thr b e1
    exact ⟨o', by rw [upd_ne hb]; exact e', n'⟩, st.new⟩
theorem SL.tww {K : PySem.W.Frag} {g : G} {H : Hp} {t : Tn} {σ : L2.St} {S : Sl} {a : Addr} {o : HO} (s : SL K g H σ S) (w : Wf C g H t) (ht : g.isTw a) : SL K g (upd H a o) σ S := ⟨s.len, fun i x e => by
  have q := s.ok i x e
  cases x with
  | un => trivial
  | raw v => exact q
  | exn c =>
    obtain ⟨p, h1, h2⟩ := q
    exact ⟨p, h1, by rw [upd_ne (fun z => w.ntX h2 (by rw [z]; exact ht))]; exact h2⟩
  | val d => exact q
  | own ds =>
    obtain ⟨p, vs, h1, h2, h3, h4⟩ := q
    exact ⟨p, vs, h1, by rw [upd_ne (fun z => h4.2 (by rw [z]; exact ht))]; exact h2, h3, h4⟩
  | dcT ks =>
    obtain ⟨p, L, h1, h2, h3, h4⟩ := q
    exact ⟨p, L, h1, by rw [upd_ne (fun z => h4.2 (by rw [z]; exact ht))]; exact h2, h3, h4⟩
  | dic ks =>
    obtain ⟨p, vs, h1, h2, h3, h4, h5⟩ := q
    exact ⟨p, vs, h1, by rw [upd_ne (fun z => h5 (by rw [z]; exact ht))]; exact h2, h3, h4, h5⟩, s.dis⟩
/-- what is no object of the store -/
theorem StOk.ndK {g : G} {H : Hp} {st : Sto} (s : StOk C g H st) {a : Addr} {kvs : List (Key × V)} (h : H a = some (.dK kvs)) : a ∉ g.ad := fun z => by
  obtain ⟨n, o, _, _, ok⟩ := s.get z
  obtain ⟨ho, h1, _, h2, _⟩ := ok.at
  rw [h] at h1
  exact h2 kvs (Option.some.inj h1).symm
theorem Wf.tww {g : G} {H : Hp} {t t' : Tn} {a : Addr} {kvs kvs' : List (Key × V)} (w : Wf C g H t) (h : H a = some (.dK kvs)) (ht : g.isTw a) (n : TownOk g (upd H a (.dK kvs')) t'.1) (es : t'.2 = t.2) : Wf C g (upd H a (.dK kvs')) t' := ⟨fun b o e => by
  have nb : b ≠ a := fun z => by rw [z, w.ntw a ht] at e; cases e
  rw [upd_ne nb]; exact w.fz b o e, ⟨n, by rw [es]; exact w.tw.2.keep (fun _ _ h => h) (.refl g) ⟨rfl, rfl⟩ fun b hb ho e => by rw [upd_ne fun z => w.tw.2.ndK h (by rw [← z]; exact hb)]; exact e⟩, w.ntw, fun q hq => by
  obtain ⟨ps, h1, h2, h3⟩ := w.tab q hq
  refine ⟨ps, by rw [upd_ne (ne_of h1 h (fun z => nomatch z))]; exact h1, h2, fun pos cv e => ?_⟩
  obtain ⟨c, e1, e2⟩ := h3 pos cv e
  exact ⟨c, e1, by rw [upd_ne (ne_of e2 h (fun z => by unfold LamX.CodeO at z; cases z))]; exact e2⟩, w.nft⟩
def sTC (i : Nat) (e : Ex) : Stm := fun S => if isTown S i = true then bnd (e S) fun d t => match d, t with
    | .int n, (some (_, rs), st) => some (.ok (.nx S) (some (n, rs), st))
    | _, _ => none
  else stuck
theorem put_count {a b v : V} : putK [((.inr "count" : Key), a), (.inr "rests", b)] (.inr "count") v = [(.inr "count", v), (.inr "rests", b)] := by
  have h : ([((.inr "count" : Key), a), (.inr "rests", b)].any fun kv => decide (kv.1 = .inr "count")) = true := by
    show (decide ((Sum.inr "count" : Key) = .inr "count") || (decide ((Sum.inr "rests" : Key) = .inr "count") || false)) = true
    decide +kernel
  unfold putK
  rw [if_pos h]
  show [if (Sum.inr "count" : Key) = .inr "count" then ((.inr "count" : Key), v) else (.inr "count", a), if (Sum.inr "rests" : Key) = .inr "count" then (.inr "rests", v) else (.inr "rests", b)] = _
  rw [if_pos rfl, if_neg (by decide +kernel)]
theorem cs_tc (i : Nat) {x : Str} {j : Nat} {e : Expr} {f : Ex} {p1 p2 pos' pos : Pos} (hu : X.A.units + 1 < cLine) (he : CE X C E e f) (hN : X.N[i]? = some x := by rfl) (hv : Vis X.env.scope x := by first | exact Or.inl rfl | exact Or.inr (Or.inl rfl) | exact Or.inr (Or.inr rfl)) (hd : (x == ("__debug__" : Str)) = false := by decide)
    (hcd : (x == ("__classdict__" : Str)) = false := by decide) (hs : swapsWith e (some (.Subscript (.Name x p1) (.Constant (.str "count") j p2) pos')) pos.line X.env = pure false := by rfl) : CS X C E (.Assign [.Subscript (.Name x p1) (.Constant (.str "count") j p2) pos'] e pos) (sTC i f) :=
  PS.imp (ps_dput hu (pe_var hN hv hd hcd) pe_str he hs) fun De σ H ⟨g0, H0, gs, g, S, t, st, gr, w, s, o, p⟩ => by
    unfold sTC at p
    by_cases hT : isTown S i = true
    case neg => rw [if_neg hT] at p; exact p.elim
    · rw [if_pos hT] at p
      have e := isTown_eq hT
      refine tS.ex st gr w s p fun d t1 g1 H1 v st1 st01 gr1 w1 s1 r q => ?_
      cases d with
      | int n =>
        obtain ⟨t1, ob⟩ := t1
        cases t1 with
        | none => exact q.elim
        | some cr =>
          obtain ⟨c, rs⟩ := cr
          cases r
          obtain ⟨a, b, e1, e2, e3, e4, e5⟩ := town_at w1 s1 e
          have q : Post C E g0 H0 (Rs X.K H0 gs De) (some (.ok (.nx S) (some (n, rs), ob))) := q
          have ht : g1.isTw a := .inl ⟨_, e1, .inl rfl⟩
          refine ⟨_, e3, a, _, rfl, DPut.k (k := .inr "count") e4 (show 2 < sizeLine by decide), ?_⟩
          rw [put_count]
          exact q g1 _ (st01.tww ht) (w1.tww e4 ht ⟨a, b, e1, e2, upd_same, by rw [upd_ne (Ne.symm e2)]; exact e5⟩ rfl) _ gr1 (s1.tww w1 ht) o
      | _ => exact q.elim
def rLook (rs : List (Int × Int)) (k : Int) : Option Int := (rs.find? fun p => decide (p.1 = k)).map (·.2)
def rPut (rs : List (Int × Int)) (k v : Int) : List (Int × Int) := if (rs.any fun p => decide (p.1 = k)) = true then rs.map fun p => if p.1 = k then (p.1, v) else p else rs ++ [(k, v)]
theorem rLook_val (k : Int) : ∀ rs : List (Int × Int), valV (rs.map fun p => ((Sum.inl p.1 : Key), V.int p.2)) (.inl k) = (rLook rs k).map V.int
  | [] => rfl
  | (a, b) :: r => by
    have ih := rLook_val k r
    by_cases h : a = k
    · subst h
      show valV (((Sum.inl a : Key), V.int b) :: _) (.inl a) = _
      rw [valV_pos rfl]
      unfold rLook
      rw [List.find?_cons]
      simp
    · show valV (((Sum.inl a : Key), V.int b) :: _) (.inl k) = _
      rw [valV_neg (fun z => h (Sum.inl.inj z)), ih]
      unfold rLook
      rw [List.find?_cons]
      simp [h]
theorem rPut_put (rs : List (Int × Int)) (k v : Int) : putK (rs.map fun p => ((Sum.inl p.1 : Key), V.int p.2)) (.inl k) (.int v) = (rPut rs k v).map fun p => ((Sum.inl p.1 : Key), V.int p.2) := by
  unfold putK rPut
  have e : ((rs.map fun p => ((Sum.inl p.1 : Key), V.int p.2)).any fun kv => decide (kv.1 = .inl k)) = rs.any fun p => decide (p.1 = k) := by
    rw [List.any_map]
    congr 1
    funext p
    show decide ((Sum.inl p.1 : Key) = .inl k) = decide (p.1 = k)
    exact decide_eq_decide.mpr ⟨fun z => Sum.inl.inj z, fun z => by rw [z]⟩
  rw [e]
  split
  · rw [List.map_map, List.map_map]
    congr 1
    funext p
    show (if (Sum.inl p.1 : Key) = .inl k then _ else _) = _
    by_cases h : p.1 = k
    · rw [if_pos (by rw [h]), Function.comp, if_pos h]
    · rw [if_neg (fun z => h (Sum.inl.inj z)), Function.comp, if_neg h]
  · rw [List.map_append]; rfl
/-- town['rests'].get(k, d) -/
def eTR (i : Nat) (k d : Ex) : Ex := fun S => if isTown S i = true then bnd (k S) fun a => bnd (d S) fun b t => match a, t with
    | .int n, (some (c, rs), st) => some (.ok (match rLook rs n with | some v => .int v | none => b) (some (c, rs), st))
    | _, _ => none
  else stuck
theorem ce_tr (i : Nat) {x : Str} {j : Nat} {k d : Expr} {fk fd : Ex} {p1 p2 p3 apos cpos : Pos} (hu : X.A.units + 1 < cLine) (hk : CE X C E k fk) (hdf : CE X C E d fd) (hN : X.N[i]? = some x := by rfl) (hv : Vis X.env.scope x := by first | exact Or.inl rfl | exact Or.inr (Or.inl rfl) | exact Or.inr (Or.inr rfl)) (hd : (x == ("__debug__" : Str)) = false := by decide)
    (hcd : (x == ("__classdict__" : Str)) = false := by decide) (hs : NoSl (.Constant (.str "rests") j p2) := by exact fun _ _ => rfl) (m : M2 X (.Subscript (.Name x p1) (.Constant (.str "rests") j p2) p3) "get" apos k d cpos := by exact ⟨rfl, rfl, rfl, rfl⟩) :
    CE X C E (.Call (.Attribute (.Subscript (.Name x p1) (.Constant (.str "rests") j p2) p3) "get" apos) [k, d] [] cpos) (eTR i fk fd) :=
  PE.imp (pe_dget2 hu (pe_dget hu (pe_var hN hv hd hcd) pe_str hs) hk hdf m) fun σ H Q ⟨g, S, t, w, s, p⟩ => by
    unfold eTR at p
    by_cases hT : isTown S i = true
    case neg => rw [if_neg hT] at p; exact p.elim
    · rw [if_pos hT] at p
      have e := isTown_eq hT
      obtain ⟨t, ob0⟩ := t
      cases t with
      | none =>
        obtain ⟨v, h1, h2⟩ := s.val i _ e
        cases h2 with
        | town e5 => rw [show g.tw = none from w.tw.1] at e5; cases e5
      | some cr =>
        obtain ⟨c, rs⟩ := cr
        obtain ⟨a, b, e1, e2, e3, e4, e5⟩ := town_at w s e
        refine ⟨_, e3, a, .ref b, rfl, ?_, b, rfl, .inl ⟨_, .inl e5⟩, ?_⟩
        · have := DGet.k (k := .inr "rests") e4
          rw [val_rests] at this
          exact this
        · refine ⟨g, S, _, w, s, p.bnd.imp fun n t1 g1 H1 st1 w1 q v r => ?_⟩
          refine ⟨g1, S, t1, w1, s.stp w st1, q.bnd.imp fun d2 t2 g2 H2 st2 w2 q2 v2 r2 => ?_⟩
          cases n with
          | int n =>
            cases r
            obtain ⟨t2, ob⟩ := t2
            cases t2 with
            | none => exact q2.elim
            | some cr2 =>
              obtain ⟨c2, rs2⟩ := cr2
              obtain ⟨a', b', f1, f2, f3, f4, f5⟩ := town_at w2 ((s.stp w st1).stp w1 st2) e
              have ea := st2.tw.t _ (st1.tw.t _ e1)
              rw [f1] at ea
              cases ea
              have q2 : PostQ X.K C E g2 H2 Q (some (.ok (match rLook rs2 n with | some v => .int v | none => d2) (some (c2, rs2), ob))) := q2
              refine ⟨_, DGet.k (k := .inl n) f5, ?_⟩
              rw [rLook_val]
              cases z : rLook rs2 n with
              | none => rw [z] at q2; exact q2 g2 H2 (.refl _ _) w2 _ r2
              | some m => rw [z] at q2; exact q2 g2 H2 (.refl _ _) w2 _ (Rp.int m)
          | _ => exact q2.elim
/-- town['rests'][k] = e -/
def sTR (i : Nat) (k e : Ex) : Stm := fun S => if isTown S i = true then bnd (e S) fun d => bnd (k S) fun a t => match d, a, t with
    | .int v, .int n, (some (c, rs), st) => if rs.length < 1000000 then some (.ok (.nx S) (some (c, rPut rs n v), st)) else none
    | _, _, _ => none
  else stuck
theorem cs_tr (i : Nat) {x : Str} {j : Nat} {k e : Expr} {fk f : Ex} {p1 p2 p3 pos' pos : Pos} (hu : X.A.units + 1 < cLine) (he : CE X C E e f) (hk : CE X C E k fk) (hN : X.N[i]? = some x := by rfl) (hv : Vis X.env.scope x := by first | exact Or.inl rfl | exact Or.inr (Or.inl rfl) | exact Or.inr (Or.inr rfl)) (hd : (x == ("__debug__" : Str)) = false := by decide)
    (hcd : (x == ("__classdict__" : Str)) = false := by decide) (hns : NoSl (.Constant (.str "rests") j p2) := by exact fun _ _ => rfl) (hs : swapsWith e (some (.Subscript (.Subscript (.Name x p1) (.Constant (.str "rests") j p2) p3) k pos')) pos.line X.env = pure false := by rfl) :
    CS X C E (.Assign [.Subscript (.Subscript (.Name x p1) (.Constant (.str "rests") j p2) p3) k pos'] e pos) (sTR i fk f) :=
  PS.imp (ps_dput hu (pe_dget hu (pe_var hN hv hd hcd) pe_str hns) hk he hs) fun De σ H ⟨g0, H0, gs, g, S, t, st, gr, w, s, o, p⟩ => by
    unfold sTR at p
    by_cases hT : isTown S i = true
    case neg => rw [if_neg hT] at p; exact p.elim
    · rw [if_pos hT] at p
      have e := isTown_eq hT
      refine tS.ex st gr w s p fun d t1 g1 H1 v st1 st01 gr1 w1 s1 r q => ?_
      obtain ⟨t1, ob1⟩ := t1
      cases t1 with
      | none =>
        obtain ⟨v, h1, h2⟩ := s1.val i _ e
        cases h2 with
        | town e5 => rw [show g1.tw = none from w1.tw.1] at e5; cases e5
      | some cr =>
        obtain ⟨c, rs⟩ := cr
        obtain ⟨a, b, e1, e2, e3, e4, e5⟩ := town_at w1 s1 e
        refine ⟨_, e3, a, .ref b, rfl, ?_, tS.ex st01 gr1 w1 s1 q fun n t2 g2 H2 v2 st2 st02 gr2 w2 s2 r2 q2 => ?_⟩
        · have := DGet.k (k := .inr "rests") e4
          rw [val_rests] at this
          exact this
        · cases d with
          | int vv =>
            cases n with
            | int n =>
              obtain ⟨t2, ob⟩ := t2
              cases t2 with
              | none => exact q2.elim
              | some cr2 =>
                obtain ⟨c2, rs2⟩ := cr2
                have q2 : Post C E g0 H0 (Rs X.K H0 gs De) (if rs2.length < 1000000 then some (.ok (.nx S) (some (c2, rPut rs2 n vv), ob)) else none) := q2
                split at q2
                · rename_i hz
                  cases r
                  cases r2
                  obtain ⟨a', b', f1, f2, f3, f4, f5⟩ := town_at w2 s2 e
                  have ea := st2.tw.t _ e1
                  rw [f1] at ea
                  cases ea
                  have ht : g2.isTw b := .inl ⟨_, f1, .inr rfl⟩
                  refine ⟨b, _, rfl, DPut.k (k := .inl n) f5 (by rw [List.length_map, sizeLine_eq]; omega), ?_⟩
                  rw [rPut_put]
                  exact q2 g2 _ (st02.tww ht) (w2.tww f5 ht ⟨a, b, f1, e2, by rw [upd_ne e2]; exact f4, upd_same⟩ rfl) _ gr2 (s2.tww w2 ht) o
                · exact q2.elim
            | _ => exact q2.elim
          | _ => cases n <;> exact q2.elim
/-- the script's truth -/
def eScr (i : Nat) : Ex := fun S => match scrAt S i with
  | some ns => ret (.bl (!ns.isEmpty))
  | none => stuck
theorem ct_scr (i : Nat) {x : Str} {pos : Pos} (hN : X.N[i]? = some x := by rfl) (hv : Vis X.env.scope x := by first | exact Or.inl rfl | exact Or.inr (Or.inl rfl) | exact Or.inr (Or.inr rfl)) (hd : (x == ("__debug__" : Str)) = false := by decide)
    (hcd : (x == ("__classdict__" : Str)) = false := by decide) : CT X C E (.Name x pos) (eScr i) := PT.imp (pt_truth (pe_var hN hv hd hcd) (by intro _; rfl)) fun σ H Q ⟨g, S, t, w, s, p⟩ => by
  unfold eScr at p
  cases e : scrAt S i with
  | none => rw [e] at p; exact p.elim
  | some ns =>
    rw [e] at p
    obtain ⟨v, h1, h2⟩ := s.val i _ (scrAt_eq e)
    cases h2 with
    | scr sq =>
      obtain ⟨b, eb, q⟩ := postRet p w
      cases eb
      exact ⟨_, h1, _, .inl ⟨_, Same.seq w.fz sq, by cases ns <;> rfl⟩, q⟩
/-- {'count': 0, 'rests': {}} -/
def eBegun : Ex := fun _ t => match t with
  | (none, st) => some (.ok .town (some (0, []), st))
  | (some _, _) => none
theorem ce_begun {j1 j2 j3 : Nat} {p1 p2 p3 p4 pos : Pos} : CE X C E (.Dict [some (.Constant (.str "count") j1 p1), some (.Constant (.str "rests") j2 p2)] [.Constant (.int 0) j3 p3, .Dict [] [] p4] pos) eBegun :=
  PE.imp (pe_disp (pps_cons pe_str pe_int (pps_cons pe_str pe_dnewK pps_nil)) rfl rfl (fun z => by cases z) (show 2 ≤ 15 by decide)) fun σ H Q ⟨g, S, t, w, s, p⟩ => by
    obtain ⟨t, ob⟩ := t
    cases t with
    | some cr => exact p.elim
    | none =>
      have p : PostQ X.K C E g H Q (some (.ok .town (some (0, []), ob))) := p
      intro a ha b hb
      have nba : b ≠ a := fun z => by rw [z, upd_same] at hb; cases hb
      have hb0 : H b = none := by rw [upd_ne nba] at hb; exact hb
      have g0 : g.tw = none := w.tw.1
      refine ⟨by rw [upd_ne (Ne.symm nba), upd_same], [(.inr "count", .int 0), (.inr "rests", .ref b)], rfl, (show 2 ≤ 15 by decide), ?_⟩
      have em : mergeK [] [((.inr "count" : Key), V.int 0), (.inr "rests", .ref b)] = [((.inr "count" : Key), V.int 0), (.inr "rests", .ref b)] := by
        show putK (putK [] (Sum.inr "count" : Key) (V.int 0)) (Sum.inr "rests") (V.ref b) = _
        have e1 : putK ([] : List (Key × V)) (.inr "count") (.int 0) = [((.inr "count" : Key), V.int 0)] := rfl
        rw [e1]
        have h : ¬ ([((.inr "count" : Key), V.int 0)].any fun kv => decide (kv.1 = .inr "rests")) = true := by
          show ¬ (decide ((Sum.inr "count" : Key) = .inr "rests") || false) = true
          decide +kernel
        unfold putK
        rw [if_neg h]; rfl
      rw [em]
      have at_ : ∀ c, c ≠ a → c ≠ b → upd (upd (upd H a (.dK [])) b (.dK [])) a (.dK [(.inr "count", .int 0), (.inr "rests", .ref b)]) c = H c := fun c h1 h2 => by rw [upd_ne h1, upd_ne h2, upd_ne h1]
      have sm : ∀ c o, H c = some o → upd (upd (upd H a (.dK [])) b (.dK [])) a (.dK [(.inr "count", .int 0), (.inr "rests", .ref b)]) c = some o := fun c o e => by
        rw [at_ c (ne_of_none e ha) (ne_of_none e hb0)]; exact e
      refine p ⟨g.Fz, some (a, b), g.ad, g.lg⟩ _ ⟨fun _ _ h => h, ⟨fun p e => (by rw [g0] at e; cases e), fun _ _ h => h, fun _ _ _ h => h⟩, ⟨fun _ x y e => (by cases e; exact ⟨Nt.no ha, Nt.no hb0⟩), fun _ h => .inl h⟩, fun c o e _ _ => sm c o e, fun c e => ?_, fun _ _ => rfl⟩ ⟨fun c o e => sm c o (w.fz c o e), ⟨⟨a, b, rfl, Ne.symm nba, upd_same, by rw [upd_ne nba, upd_same]; rfl⟩, w.tw.2.keep (fun _ _ h => h) ⟨fun p e => (by rw [g0] at e; cases e), fun _ _ h => h, fun _ _ _ h => h⟩ ⟨rfl, rfl⟩ fun c _ o e => sm c o e⟩, fun c z => ?_, w.tab.ext sm, w.nft⟩ _ (.town rfl)
      · obtain ⟨o', e', n'⟩ := e
        exact ⟨o', sm c o' e', n'⟩
      · rcases z with ⟨p, hp, q⟩ | z
        · cases hp
          rcases q with q | q
          · rw [q]; exact w.fzN ha
          · rw [q]; exact w.fzN hb0
        · exact w.ntw c (.inr z)
structure FdK (P : Program) (w : World) (K : PySem.W.Frag) (mg : Str → Option Value) (base : Heap) (C : Cn) (k : Nat) (x : Str) (n : Nat) (ks : List Str) (F : Fn) : Prop where
  ex : ∃ f fd ps, FnOk P w K mg base (L2.CX P w) k f fd ps (spF K C (n + ks.length) F) ∧ mg x = some (.ref f) ∧ PySem.W.keepIn K (.ref f) = true ∧
    ∀ (s : Shared) (us ws : List Value), K.In s.heap → us.length = n → ws.length = ks.length → BindsTo s fd ⟨us, ks.zip ws⟩ (ps.zip (us ++ ws))
abbrev CK (X : Cx) (C : Cn) (E : XK) (kws : List Keyword) (f : Sl → M (List D)) : Prop := PK X kws (tAs X.K C E f)
theorem PK.imp {e : List Keyword} {t t' : TA} (h : PK X e t) (f : ∀ σ H Q, t' σ H Q → t σ H Q) : PK X e t' := ⟨fun pos pins s σ H Q I q => h.run pos pins s σ H Q I (f σ H Q q)⟩
theorem ck_nil : CK X C E [] (evs []) := PK.imp pk_nil fun σ H Q ⟨g, S, t, w, s, p⟩ => postRet p w _ .nil
theorem ck_cons {e : Expr} {nm : Option Str} {kpos : Pos} {kws : List Keyword} {f : Ex} {fs : List Ex} (ha : CE X C E e f) (hr : CK X C E kws (evs fs)) : CK X C E (⟨nm, e, kpos⟩ :: kws) (evs (f :: fs)) :=
  PK.imp (pk_cons ha hr) fun σ H Q ⟨g, S, t, w, s, p⟩ => ⟨g, S, t, w, s, p.bnd.imp fun d t1 g1 H1 st1 w1 q v r => ⟨g1, S, t1, w1, s.stp w st1, q.bnd.imp fun ds t2 g2 H2 st2 w2 q2 vs rs => postRet q2 w2 _ (.cons (r.stp st2) rs)⟩⟩
/-- f(k = v, ..) -/
theorem pe_callK0 {CXT' : CXT} {k : Nat} {f : Addr} {fd : FuncData} {ps ks : List Str} {sp : Sp} {x : Str} {p pos : Pos} {kws : List Keyword} {tk : TA} {g : List Value → List Value → List Value} {gV : List V → List V → List V}
    (F : FnOk X.prog X.w X.K X.mg X.base CXT' k f fd ps sp) (hr : Room k X.A) (hg : Gl X x) (hm : X.mg x = some (.ref f)) (hk : PySem.W.keepIn X.K (.ref f) = true) (hb : KBinds X.K fd ps ks g gV) (hx : Passes CXT' X E)
    (hkw : PK X kws tk) (hall : (backToKw pos (keywordEach kws X.env)).all (·.1.isSome) = true := by rfl) (hks : (backToKw pos (keywordEach kws X.env)).filterMap (·.1) = ks := by rfl)
    (hdb : (x == ("__debug__" : Str)) = false := by decide) (hpl : ((backTo pos (starEach [] X.env)).any (·.1) || (backToKw pos (keywordEach kws X.env)).any (·.1.isNone)) = false := by rfl) :
    PE X (.Call (.Name x p) [] kws pos) (tCallK sp gV E tNil tk) := by
  refine ⟨fun pins s σ H Q I h => ?_⟩
  refine wpAny_Call_Name_kw (ld_glob I hg hm ?_ hdb)
  refine PySem.W.callWith_KW0 (h₀ := X.base) I.ok.mod.kin hk hall ?_ hpl
  refine thn (hkw.run pos pins s σ H _ I h) fun ws s2 ⟨zs, H2, I2, rz, q2⟩ => ⟨I2.kIn, ?_⟩
  rw [hks]
  exact run_fnk F hr hb hx I2 .nil rz q2
/-- the values in their order -/
theorem kbinds_of {fd : FuncData} {ps ks : List Str} {n : Nat} (hb : ∀ (s : Shared) (us ws : List Value), X.K.In s.heap → us.length = n → ws.length = ks.length → BindsTo s fd ⟨us, ks.zip ws⟩ (ps.zip (us ++ ws))) :
    KBinds X.K fd ps ks (fun us ws => if us.length = n ∧ ws.length = ks.length then us ++ ws else List.replicate (ps.length + 1) .none) (fun vs zs => if vs.length = n ∧ zs.length = ks.length then vs ++ zs else List.replicate (ps.length + 1) .non) where
  to := fun s us ws h1 h2 => by
    split at h2
    · rename_i hc
      rw [if_pos hc]
      exact hb s us ws h1 hc.1 hc.2
    · rw [List.length_replicate] at h2; omega
  rel := fun {vs us zs ws} r1 r2 => by
    have e1 := r1.length
    have e2 := r2.length
    rw [← e1, ← e2]
    split
    · exact r1.append r2
    · have : ∀ m : Nat, Vals (List.replicate m V.non) (List.replicate m Value.none) := fun m => by
        induction m with
        | zero => exact .nil
        | succ m ih => exact .cons rfl ih
      exact this _
theorem ce_callK0 {k jj : Nat} {x : Str} {F : Fn} {ks : List Str} {fs : List Ex} {kws : List Keyword} {p pos : Pos} (hf : FdK X.prog X.w X.K X.mg X.base C k x 0 ks F) (hr : Room jj X.A) (hkj : k ≤ jj) (hx : Passes (L2.CX X.prog X.w) X E) (hkw : CK X C E kws (evs fs)) (hl : fs.length = ks.length := by rfl) (hg : Gl X x := by rfl)
    (hall : (backToKw pos (keywordEach kws X.env)).all (·.1.isSome) = true := by rfl) (hks : (backToKw pos (keywordEach kws X.env)).filterMap (·.1) = ks := by rfl)
    (hdb : (x == ("__debug__" : Str)) = false := by decide) (hpl : ((backTo pos (starEach [] X.env)).any (·.1) || (backToKw pos (keywordEach kws X.env)).any (·.1.isNone)) = false := by rfl) : CE X C E (.Call (.Name x p) [] kws pos) (eCall F fs) := by
  obtain ⟨f, fd, ps, F', hm, hk, hb⟩ := hf.ex
  refine PE.imp (pe_callK0 F' (hr.mono hkj) hg hm hk (kbinds_of hb) hx hkw hall hks hdb hpl) fun σ H Q ⟨g, S, t, w, s, p⟩ => ?_
  refine ⟨g, S, t, w, s, (Post.evs p.bnd).imp fun ds t1 g1 H1 st1 w1 ⟨el, q⟩ vs rs => ?_⟩
  have e : ([] : List V).length = 0 ∧ vs.length = ks.length := ⟨rfl, by rw [rs.length, el, hl]⟩
  dsimp only
  rw [if_pos e]
  exact ⟨g1, ds, t1, rs, w1, by rw [List.nil_append, Nat.zero_add]; exact e.2, q⟩
/-- raise x('..') of the class number c -/
theorem cs_raise (c : Nat) {x m : Str} {j : Nat} {p p2 pos pos' : Pos} {B newId initId bmB} {W : WX} (F : ExcBaseFacts B newId initId bmB) (q : PySem.W.excIn X.K (C.ex c) bmB newId = true) (gC : X.mg x = some (.ref (C.ex c))) (kC : PySem.W.keepIn X.K (.ref (C.ex c)) = true) (r : Raises X (.ref (C.ex c)))
    (tk : Takes X (fun cls d _ H => E cls d H)) (hc : X.calm = true := by rfl) (hg : Gl X x := by rfl) (hdb : (x == ("__debug__" : Str)) = false := by decide) : CS X C E (.Raise (some (.Call (.Name x p) [.Constant (.str m) j p2] [] pos)) none pos') (sRaise c) :=
  PS.imp (ps_raise hc tk (pmk_own F q gC kC r hg hdb)) fun De σ H ⟨g0, H0, gs, g, S, t, st, gr, w, s, o, p⟩ => p g H st w
def pRng : D → M D
  | .int j => if 0 ≤ j ∧ j ≤ 1000000 then ret (.lst ((List.range j.toNat).map fun (i : Nat) => .int (i : Int))) else stuck
  | _ => stuck
theorem rg_RpA {K : PySem.W.Frag} {g : G} (n : Nat) : RpA K g (rgV 0 (n : Int)) ((List.range n).map fun (i : Nat) => D.int (i : Int)) := by
  unfold rgV
  rw [show ((n : Int) - 0).toNat = n by omega]
  have : ∀ l : List Nat, RpA K g (l.map fun (i : Nat) => V.int (0 + (i : Int))) (l.map fun (i : Nat) => D.int (i : Int)) := fun l => by
    induction l with
    | nil => exact .nil
    | cons a r ih =>
      refine .cons ?_ ih
      show Rp K g (V.int (0 + (a : Int))) (D.int (a : Int))
      rw [Int.zero_add]
      exact .int _
  exact this _
theorem ce_listRg {a : Expr} {f : Ex} {p1 p2 pos pos2 : Pos} (hc : X.calm = true) (hm : X.mg "list" = none) (hm2 : X.mg "range" = none) (ha : CE X C E a f) (hg : Gl X "list" := by rfl) (hg2 : Gl X "range" := by rfl) (na : starEach [a] X.env = (false, eval a X.env) :: starEach [] X.env := by rfl)
    (nb : starEach [.Call (.Name "range" p2) [a] [] pos2] X.env = (false, eval (.Call (.Name "range" p2) [a] [] pos2) X.env) :: starEach [] X.env := by rfl) : CE X C E (.Call (.Name "list" p1) [.Call (.Name "range" p2) [a] [] pos2] [] pos) (eUn pRng f) :=
  PE.imp (pe_listRg hc hg hm (prg_1 hg2 hm2 ha na) nb) fun σ H Q h => by
    refine tE.seq h fun g S t x d H1 w s rx p1 => ?_
    cases d with
    | int j =>
      cases rx
      have p1 : PostQ X.K C E g H1 Q ((if 0 ≤ j ∧ j ≤ 1000000 then ret (.lst ((List.range j.toNat).map fun (i : Nat) => D.int (i : Int))) else stuck) t) := p1
      split at p1
      · rename_i hc
        refine ⟨j, rfl, .of_le (by omega) (by omega) (by omega) hc.1, fun q hq => ?_⟩
        obtain ⟨n, rfl⟩ : ∃ n : Nat, j = (n : Int) := ⟨j.toNat, by omega⟩
        exact pRetL p1 w (by rw [Int.toNat_natCast]; exact rg_RpA n) q hq
      · exact p1.elim
    | _ => exact p1.elim
end
end BG
set_option Elab.async false
set_option linter.all false
set_option maxRecDepth 100000
set_option maxHeartbeats 4000000
namespace BG
open PySem PySem.Spec PyProof.Rows L2
def leD (a b : D) : Bool := PySem.W.dataLe false D.py a b
section
variable {α : Type} (le : α → α → Bool)
def insr (x : α) : List α → List α
  | [] => [x]
  | y :: r => if le x y = true then x :: y :: r else y :: insr x r
def isrt : List α → List α
  | [] => []
  | x :: r => insr le x (isrt r)
theorem insr_mem {x z : α} : ∀ {l : List α}, z ∈ insr le x l ↔ z = x ∨ z ∈ l
  | [] => by simp [insr]
  | y :: r => by
    unfold insr
    split
    · simp
    · rw [List.mem_cons, insr_mem, List.mem_cons]
      constructor
      · rintro (h | h | h)
        · exact .inr (.inl h)
        · exact .inl h
        · exact .inr (.inr h)
      · rintro (h | h | h)
        · exact .inr (.inl h)
        · exact .inl h
        · exact .inr (.inr h)
theorem insr_pair (h : PySem.W.TotalLe le) {x : α} : ∀ {l : List α}, l.Pairwise (fun a b => le a b = true) → (insr le x l).Pairwise (fun a b => le a b = true)
  | [], _ => by simp [insr]
  | y :: r, hp => by
    obtain ⟨h1, h2⟩ := List.pairwise_cons.mp hp
    unfold insr
    split
    · rename_i hxy
      refine List.pairwise_cons.mpr ⟨fun z hz => ?_, hp⟩
      rcases List.mem_cons.mp hz with rfl | hz
      · exact hxy
      · exact h.trans _ _ _ hxy (h1 z hz)
    · rename_i hxy
      refine List.pairwise_cons.mpr ⟨fun z hz => ?_, insr_pair h h2⟩
      rcases (insr_mem le).mp hz with rfl | hz
      · exact (h.total z y).resolve_left hxy
      · exact h1 z hz
theorem insr_filter (h : PySem.W.TotalLe le) {x c : α} : ∀ {l : List α}, l.Pairwise (fun a b => le a b = true) → (insr le x l).filter (PySem.W.sameRank le c) = (x :: l).filter (PySem.W.sameRank le c)
  | [], _ => rfl
  | y :: r, hp => by
    obtain ⟨h1, h2⟩ := List.pairwise_cons.mp hp
    unfold insr
    split
    · rfl
    · rename_i hxy
      have ih := insr_filter h (x := x) (c := c) h2
      rw [List.filter_cons, ih, List.filter_cons, List.filter_cons, List.filter_cons]
      by_cases a : PySem.W.sameRank le c x = true
      · by_cases b : PySem.W.sameRank le c y = true
        · exfalso
          unfold PySem.W.sameRank at a b
          rw [Bool.and_eq_true] at a b
          exact hxy (h.trans _ _ _ a.2 b.1)
        · rw [if_neg b, if_pos a, if_pos a, if_neg b]
      · rw [if_neg a, if_neg a]
theorem isrt_pair (h : PySem.W.TotalLe le) : ∀ l : List α, (isrt le l).Pairwise (fun a b => le a b = true)
  | [] => List.Pairwise.nil
  | x :: r => insr_pair le h (isrt_pair h r)
theorem isrt_filter (h : PySem.W.TotalLe le) (c : α) : ∀ l : List α, (isrt le l).filter (PySem.W.sameRank le c) = l.filter (PySem.W.sameRank le c)
  | [] => rfl
  | x :: r => by
    show (insr le x (isrt le r)).filter _ = _
    rw [insr_filter le h (isrt_pair le h r), List.filter_cons, List.filter_cons, isrt_filter h c r]
theorem isrt_merge (h : PySem.W.TotalLe le) (l : List α) : isrt le l = l.mergeSort le := PySem.W.sort_unique h (isrt_pair le h l) fun c => isrt_filter le h c l
theorem isrt_length : ∀ l : List α, (isrt le l).length = l.length
  | [] => rfl
  | x :: r => by
    have hi : ∀ m : List α, (insr le x m).length = m.length + 1 := fun m => by
      induction m with
      | nil => rfl
      | cons y m ih =>
        unfold insr
        split
        · rfl
        · rw [List.length_cons, ih, List.length_cons]
    show (insr le x (isrt le r)).length = _
    rw [hi, isrt_length r]; rfl
end
/-- may be sorted: data of one make -/
def isTupC : D → Bool
  | .tup (_ :: _) => true
  | _ => false
def isFlatC : D → Bool
  | .tup _ => false
  | .non => false
  | .town => false
  | .scr _ => false
  | .dct _ _ => false
  | .dTT _ _ => false
  | .hnd _ => false
  | _ => true
def srtOk (ds : List D) : Bool := okA ds 60 && (ds.all fun a => ds.all fun b => PySem.W.alike a.py b.py) && (ds.all isTupC || ds.all isFlatC)
theorem leD_total : PySem.W.TotalLe leD := PySem.W.sortLe_total (listOrd itemOrd) false fun b => PySem.W.keyToks (D.py b)
theorem eachIs_of {K : PySem.W.Frag} {g : G} : ∀ {ds : List D} {vs : List V} {us : List Value}, RpA K g vs ds → Vals vs us → PySem.W.EachIs (fun u d => ∃ v, RelV v u ∧ Rp K g v d) us ds
  | [], _, _, h, r => by cases h; cases r; exact .nil
  | d :: ds, _, _, h, r => by
    cases h with
    | cons a b =>
      cases r with
      | cons r1 r2 => exact .cons ⟨_, r1, a⟩ (eachIs_of b r2)
theorem of_eachIs {K : PySem.W.Frag} {g : G} : ∀ {ds : List D} {us : List Value}, PySem.W.EachIs (fun u d => ∃ v, RelV v u ∧ Rp K g v d) us ds → ∃ vs, RpA K g vs ds ∧ Vals vs us
  | [], _, h => by cases h; exact ⟨[], .nil, .nil⟩
  | d :: ds, _, h => by
    cases h with
    | cons a b =>
      obtain ⟨v, r1, r2⟩ := a
      obtain ⟨vs, q1, q2⟩ := of_eachIs b
      exact ⟨v :: vs, .cons r2 q1, .cons r1 q2⟩
section
variable {X : Cx} {C : Cn} {E : XK}
/-- sorted(xs), xs a list of data -/
def rSrt (K : PySem.W.Frag) (C : Cn) : List V → Hp → VK → Prop := fun xs H Q => ∃ p g t vs ds, xs = [.ref p] ∧ Wf C g H t ∧ H p = some (.lst vs) ∧ RpA K g vs ds ∧ srtOk ds = true ∧ ds.length ≤ 1000000 ∧ ∀ ws, RpA K g ws (isrt leD ds) → ∀ l, H l = none → Q (.ref l) (upd H l (.lst ws))
theorem cr_sorted0 (hu : X.A.units + 64 < cLine) : CallR X (.builtin "sorted") (rSrt X.K C) := by
  intro pins s σ H xs us Q I r h
  obtain ⟨p, g, t, vs, ds, rfl, w, hp, ra, ok, hz, q⟩ := h
  obtain ⟨u, rfl, ru⟩ := vals1 r
  cases ru
  obtain ⟨its, rv, pl, hzz⟩ := I.list (.of hp)
  unfold srtOk at ok
  rw [Bool.and_eq_true, Bool.and_eq_true] at ok
  obtain ⟨⟨ok1, ok2⟩, ok3⟩ := ok
  have e := eachIs_of ra rv
  have er : PySem.W.EachIs (fun u d => ∃ as, Reads s.heap u (D.py d) as) its ds := by
    have all : ∀ {ds : List D} {vs : List V} {us : List Value}, RpA X.K g vs ds → Vals vs us → okA ds 60 = true → PySem.W.EachIs (fun u d => ∃ as, Reads s.heap u (D.py d) as) us ds := by
      intro ds
      induction ds with
      | nil => intro vs us h r _; cases h; cases r; exact .nil
      | cons d ds ih =>
        intro vs us h r o
        have o : (okD d 60 && okA ds 60) = true := o
        rw [Bool.and_eq_true] at o
        cases h with
        | cons a b =>
          cases r with
          | cons r1 r2 => exact .cons (Dp.reads I _ _ _ (Rp.dp w a o.1) r1) (ih b r2 o.2)
    exact all ra rv ok1
  refine PySem.W.sorted_data (enc := D.py) pl.isList e er (fun d hd d' hd' => ?_) ?_ (by rw [sizeLine_eq]; omega) (fun d hd => ?_) fun out hlen eo => ?_
  · obtain ⟨a, ha, rfl⟩ := List.mem_map.mp hd
    obtain ⟨b, hb, rfl⟩ := List.mem_map.mp hd'
    exact List.all_eq_true.mp (List.all_eq_true.mp ok2 a ha) b hb
  · rw [Bool.or_eq_true] at ok3
    rcases ok3 with ok3 | ok3
    · refine .inl fun d hd => ?_
      obtain ⟨a, ha, rfl⟩ := List.mem_map.mp hd
      have := List.all_eq_true.mp ok3 a ha
      cases a with
      | tup xs =>
        cases xs with
        | nil => cases this
        | cons x r => exact ⟨x.py, pyA r, by rw [D.py, pyA]⟩
      | _ => cases this
    · refine .inr fun d hd => ?_
      obtain ⟨a, ha, rfl⟩ := List.mem_map.mp hd
      have := List.all_eq_true.mp ok3 a ha
      cases a <;> first | (cases this; done) | (rw [D.py]; exact ⟨(fun z => by cases z), (fun _ z => by cases z)⟩)
  · have hd2 : okD d 60 = true := by
      rw [okA_all] at ok1
      exact List.all_eq_true.mp ok1 d hd
    have := (okD_lay d 60 hd2).2
    omega
  · obtain ⟨c, hc⟩ := sortedAll_at s.heap its out.toArray
    have em : ds.mergeSort (PySem.W.dataLe false D.py) = isrt leD ds := (isrt_merge leD leD_total ds).symm
    rw [em] at eo
    obtain ⟨ws, q1, q2⟩ := of_eachIs eo
    refine ⟨.ref (s.heap.objs.size + 1), _, I.laid (t' := s.toks) (fun b o e => sortedAll_old e) (Nat.le_succ _) (show ObjOk X.prog X.w _ _ _ (.lst ws) from ⟨?_, out, c, q2, hc⟩), rfl, q ws q1 _ (I.hok.fresh (Nat.le_succ _))⟩
    rw [q1.length, isrt_length, sizeLine_eq]
    omega
def ddp : List Int → List Int
  | [] => []
  | x :: r => if r.contains x = true then ddp r else x :: ddp r
theorem ddp_mem {z : Int} : ∀ {l : List Int}, z ∈ ddp l ↔ z ∈ l
  | [] => Iff.rfl
  | x :: r => by
    unfold ddp
    split
    · rename_i h
      have hx : x ∈ r := List.contains_iff_mem.mp h
      rw [ddp_mem, List.mem_cons]
      exact ⟨.inr, fun h => h.elim (fun e => by rw [e]; exact hx) id⟩
    · rw [List.mem_cons, ddp_mem, List.mem_cons]
theorem ddp_nodup : ∀ l : List Int, (ddp l).Nodup
  | [] => List.nodup_nil
  | x :: r => by
    unfold ddp
    split
    · exact ddp_nodup r
    · rename_i h
      exact List.nodup_cons.mpr ⟨fun z => h (List.contains_iff_mem.mpr (ddp_mem.mp z)), ddp_nodup r⟩
theorem nd_le : ∀ {a b : List Int}, a.Nodup → (∀ x ∈ a, x ∈ b) → a.length ≤ b.length
  | [], _, _, _ => Nat.zero_le _
  | x :: r, b, h, hs => by
    obtain ⟨h1, h2⟩ := List.nodup_cons.mp h
    have hx : x ∈ b := hs x (List.mem_cons_self ..)
    have := nd_le (a := r) (b := b.erase x) h2 fun y hy => by
      have hne : y ≠ x := fun e => h1 (by rw [← e]; exact hy)
      exact (List.mem_erase_of_ne hne).mpr (hs y (List.mem_cons_of_mem _ hy))
    rw [List.length_erase_of_mem hx] at this
    have hp : 0 < b.length := List.length_pos_of_mem hx
    rw [List.length_cons]
    omega
def pLenSet : D → M D
  | .tup ds => match intsD ds with
    | some ns => if ns.length < 1000 then ret (.int (ddp ns).length) else stuck
    | none => stuck
  | _ => stuck
theorem ce_lenSet {a : Expr} {fa : Ex} {p p2 q pos : Pos} (hc : X.calm = true) (hm : X.mg "len" = none) (hm2 : X.mg "set" = none) (ha : CW X C E a fa) (hg : Gl X "len" := by rfl) (hg2 : Gl X "set" := by rfl) (na : starEach [a] X.env = (false, eval a X.env) :: starEach [] X.env := by rfl) :
    CE X C E (.Call (.Name "len" p) [.Call (.Name "set" p2) [a] [] q] [] pos) (eUn pLenSet fa) := by
  refine ⟨fun pins s σ H Q I h => ?_⟩
  have h := tW.seq (Q1 := fun x H1 => ∃ g t d, Wf C g H1 t ∧ RpW X.K g H1 x d ∧ PostQ X.K C E g H1 Q (pLenSet d t)) h fun g S t x d H1 w s rx p1 => ⟨g, t, d, w, rx, p1⟩
  refine Call_ (ld_blt I hg hm boot_len ?_)
  refine PyProof.Rows.callWith_builtin1 (PyProof.Rows.args_cons ?_ rfl) rfl rfl
  refine Call_ (ld_blt I hg2 hm2 boot_set ?_)
  refine PyProof.Rows.callWith_type1 (PyProof.Rows.args_cons (thn (ha.run pins s σ H _ I h) fun v s1 ⟨x, H1, I1, r1, q1⟩ => PyProof.Rows.args_nil ?_) na) na rfl
  obtain ⟨g, t, d, w, rx, q1⟩ := q1
  cases d with
  | tup ds =>
    have q1 : PostQ X.K C E g H1 Q ((match intsD ds with | some ns => if ns.length < 1000 then ret (D.int (ddp ns).length) else stuck | none => stuck) t) := q1
    cases z : intsD ds with
    | none => rw [z] at q1; exact q1.elim
    | some ns =>
      rw [z] at q1
      dsimp only at q1
      split at q1
      case isFalse => exact q1.elim
      rename_i hz
      obtain ⟨l, vs, rfl, e1, ra⟩ := rx.tup w
      have ev := ra.intsD z
      subst ev
      cases r1
      obtain ⟨its, r, pl, hzz⟩ := I1.tuple e1
      refine call_set_tupI ns (I1.ok.hd hc) (show s1.heap.IsTuple l its.toArray from pl) (by simpa using intsAre_of r) (by unfold scanBound; omega) fun h' tk c hS hcl hk => ?_
      refine PyProof.Rows.args_nil ?_
      obtain ⟨o, es, ep, t', ho, hex, hd, hgood, hnd, hmem, hsb, hf, hn, _, _⟩ := hS
      have I2 : Inv X pins σ H1 { s1 with heap := h', toks := tk } := I1.kept fun b o e => hk b o e
      have ec : es.size = (ddp ns).length := by
        have h1 : (es.toList.map keyOf).length ≤ (ddp ns).length := nd_le hnd fun x hx => ddp_mem.mpr (of_decide_eq_true ((hmem x).mpr hx))
        have h2 : (ddp ns).length ≤ (es.toList.map keyOf).length := nd_le (ddp_nodup ns) fun x hx => (hmem x).mp (decide_eq_true (ddp_mem.mp hx))
        have e3 : (es.toList.map keyOf).length = es.size := by rw [List.length_map, Array.length_toList]
        omega
      exact call_len_set ho hex hd hf (by unfold scanBound at hsb; omega) ⟨.int (ddp ns).length, H1, I2.tok _, ⟨_, by rw [ec]⟩, pRetV q1 w (Rp.int _)⟩
  | _ => exact q1.elim
end
end BG
set_option Elab.async false
set_option linter.all false
set_option maxRecDepth 100000
set_option maxHeartbeats 4000000
namespace BG
open PySem PySem.Spec PyProof.Rows L2
theorem bt_len : bootBuiltins "len" = some (.builtin "len") := by decide +kernel
theorem bt_all : bootBuiltins "all" = some (.builtin "all") := by decide +kernel
theorem bt_sorted : bootBuiltins "sorted" = some (.builtin "sorted") := by decide +kernel
theorem bt_tuple : bootBuiltins "tuple" = some (.type "tuple") := by decide +kernel
theorem bt_list : bootBuiltins "list" = some (.type "list") := by decide +kernel
theorem bt_int : bootBuiltins "int" = some (.type "int") := by decide +kernel
theorem bt_bool : bootBuiltins "bool" = some (.type "bool") := by decide +kernel
theorem bt_str : bootBuiltins "str" = some (.type "str") := by decide +kernel
/-- the built-in names are not shadowed -/
structure Bt (mg : Str → Option Value) : Prop where
  len : mg "len" = none
  all : mg "all" = none
  any : mg "any" = none
  sum : mg "sum" = none
  sorted : mg "sorted" = none
  min : mg "min" = none
  max : mg "max" = none
  isinstance : mg "isinstance" = none
  tuple : mg "tuple" = none
  list : mg "list" = none
  int : mg "int" = none
  bool : mg "bool" = none
  str : mg "str" = none
  range : mg "range" = none
  set : mg "set" = none
  enumerate : mg "enumerate" = none
  zip : mg "zip" = none
  dict : mg "dict" = none
  abs : mg "abs" = none
theorem _root_.L2.Room.u65 {k : Nat} {A : Around} (r : Room k A) : A.units + 65 < cLine := by have := r.un; omega
theorem _root_.L2.Room.u1 {k : Nat} {A : Around} (r : Room k A) : A.units + 1 < cLine := by have := r.un; omega
theorem passC {P : Program} {w : World} {K : PySem.W.Frag} {mg : Str → Option Value} {base : Heap} {N : List Str} {qual : Str} {scope : Scope} {f : Addr} {cd : Value} {A : Around} {outer : List Env} {s : Shared} {H : Hp} {E : XK} :
    Passes (L2.CX P w) (cxOf (L2.CX P w) P w K mg base N qual scope f cd A outer s H E) E := passes_call (W := fun cls d _ H => E cls d H) (takes_of rfl rfl rfl rfl) fun _ _ _ _ h => h
theorem Fd.of {P : Program} {w : World} {K : PySem.W.Frag} {mg : Str → Option Value} {base : Heap} {C : Cn} {k : Nat} {x : Str} {F : Fn} {f : Addr} {fd : FuncData} {ps : List Str} (h : FnOk P w K mg base (L2.CX P w) k f fd ps (spF K C ps.length F)) (hm : mg x = some (.ref f)) (hk : PySem.W.keepIn K (.ref f) = true) (hb : Binds K fd ps []) :
    Fd P w K mg base C k x ps.length F := ⟨f, fd, ps, h, hm, hk, hb⟩
theorem _root_.L2.Fun.kb {K : PySem.W.Frag} {x qual : Str} {st : Stmt} {f : Addr} {fd : FuncData} {ps ks : List Str} {n : Nat} (F : Fun K x qual st f fd)
    (h : ∀ (kV doc pm : Value) (an : Option Addr) (cdv ct : Value) (us ws : List Value), us.length = n → ws.length = ks.length → bindArgs (PySem.W.fnOf x qual (defArgs st) (defBody st) (defScope st) .none kV doc pm an cdv ct) ⟨us, ks.zip ws⟩ = pure (ps.zip (us ++ ws))) :
    ∀ (s : Shared) (us ws : List Value), K.In s.heap → us.length = n → ws.length = ks.length → BindsTo s fd ⟨us, ks.zip ws⟩ (ps.zip (us ++ ws)) := by
  obtain ⟨oc, od, kV, doc, pm, an, cdv, ct, osl, rfl, lk, hcd⟩ := F.ex
  exact fun s us ws _ h1 h2 => .of_eq (h kV doc pm an cdv ct us ws h1 h2)
theorem FdK.of {P : Program} {w : World} {K : PySem.W.Frag} {mg : Str → Option Value} {base : Heap} {C : Cn} {k n : Nat} {x : Str} {F : Fn} {f : Addr} {fd : FuncData} {ps ks : List Str} (h : FnOk P w K mg base (L2.CX P w) k f fd ps (spF K C ps.length F)) (hm : mg x = some (.ref f)) (hk : PySem.W.keepIn K (.ref f) = true) (hl : ps.length = n + ks.length)
    (hb : ∀ (s : Shared) (us ws : List Value), K.In s.heap → us.length = n → ws.length = ks.length → BindsTo s fd ⟨us, ks.zip ws⟩ (ps.zip (us ++ ws))) : FdK P w K mg base C k x n ks F := ⟨f, fd, ps, by rw [← hl]; exact h, hm, hk, hb⟩
/-- the heap without the tables of code objects -/
def untb (H : Hp) : Hp := fun b => match H b with
  | some (.tbl _) => none
  | o => o
theorem untb_same (H : Hp) : Same (untb H) H := fun b o e => by
  unfold untb at e
  split at e
  · cases e
  · exact e
theorem untb_of {H : Hp} {b : Addr} {o : HO} (e : H b = some o) (n : ∀ ps, o ≠ .tbl ps) : untb H b = some o := by
  unfold untb
  split
  · rename_i ps h; rw [e] at h; exact absurd (Option.some.inj h) (n ps)
  · exact e
theorem untb_nft (H : Hp) : ∀ b ps, untb H b ≠ some (.tbl ps) := fun b ps e => by
  unfold untb at e
  split at e
  · cases e
  · rename_i h; exact h ps e
theorem untb_seq {K : PySem.W.Frag} {H : Hp} {a : Addr} {xs : List V} (h : SqL K H a xs) : SqL K (untb H) a xs := by
  rcases h with (h | ⟨o, h⟩) | h
  · exact .inl (.inl (untb_of h (fun _ z => by cases z)))
  · exact .inl (.inr ⟨o, untb_of h (fun _ z => by cases z)⟩)
  · exact .inr h
theorem law_start {K : PySem.W.Frag} {C : Cn} {F : Fn} {a : Addr} {ns : List Int} {H : Hp} {Q : VK} {E : XK} (hT : LamX.Tabs C.T H) (sq : SqL K H a (ns.map V.int)) (h : ∃ t', F [.scr ns] (none, []) = some (.ok (.bl true) t')) (q : ∀ H', Q (.bl true) H') : spF K C 1 F [.ref a] H Q E := by
  obtain ⟨t', e⟩ := h
  refine ⟨⟨untb H, none, [], fun _ _ => none⟩, [.scr ns], (none, []), .cons (.scr (untb_seq sq)) .nil, ⟨untb_same H, ⟨rfl, rfl, .nil, fun n a o h => (by simp at h), fun n a o h => (by simp at h), fun n o h => (by simp at h), fun _ _ _ => rfl⟩, fun b z => (by rcases z with ⟨p, hp, _⟩ | z <;> first | cases hp | cases z), hT, untb_nft H⟩, rfl, ?_⟩
  rw [e]
  intro g' H' _ _ v r
  cases r
  exact q H'
theorem cx_no {P : Program} {w : World} {l : List Env} {H : Hp} {s : Shared} {e : Value} {s' : Shared} (h : L2.CX P w l H s (fun _ _ _ => False) e s') : False := by
  obtain ⟨_, _, _, _, _, _, _, _, _, _, _, _, z⟩ := h
  exact z
end BG
set_option Elab.async false
set_option linter.all false
set_option maxRecDepth 100000
set_option maxHeartbeats 4000000
namespace BG
open PySem PySem.Spec PyProof.Rows L2
end BG
set_option Elab.async false
set_option linter.all false
set_option maxRecDepth 100000
set_option maxHeartbeats 4000000
namespace BG
open PySem PySem.Spec PyProof.Rows L2
section
variable {X : Cx} {C : Cn} {E : XK}
/-- what the data promise to the sort -/
theorem reads_all {g : G} {t : Tn} {H : Hp} {s : Shared} {pins : List (Addr × Obj)} {σ : L2.St} (I : L2.Inv X pins σ H s) (w : Wf C g H t) : ∀ {ds : List D} {vs : List V} {us : List Value}, RpA X.K g vs ds → Vals vs us → okA ds 60 = true → PySem.W.EachIs (fun u d => ∃ as, Reads s.heap u (D.py d) as) us ds
  | [], _, _, h, r, _ => by cases h; cases r; exact .nil
  | d :: ds, _, _, h, r, o => by
    have o : (okD d 60 && okA ds 60) = true := o
    rw [Bool.and_eq_true] at o
    cases h with
    | cons a b =>
      cases r with
      | cons r1 r2 => exact .cons (Dp.reads I _ _ _ (Rp.dp w a o.1) r1) (reads_all I w b r2 o.2)
theorem srt_alike {ds : List D} (ok : srtOk ds = true) : PySem.W.AllAlike (ds.map D.py) ∧ PySem.W.Sortable (ds.map D.py) ∧ okA ds 60 = true := by
  unfold srtOk at ok
  rw [Bool.and_eq_true, Bool.and_eq_true] at ok
  obtain ⟨⟨ok1, ok2⟩, ok3⟩ := ok
  refine ⟨fun d hd d' hd' => ?_, ?_, ok1⟩
  · obtain ⟨a, ha, rfl⟩ := List.mem_map.mp hd
    obtain ⟨b, hb, rfl⟩ := List.mem_map.mp hd'
    exact List.all_eq_true.mp (List.all_eq_true.mp ok2 a ha) b hb
  · rw [Bool.or_eq_true] at ok3
    rcases ok3 with ok3 | ok3
    · refine .inl fun d hd => ?_
      obtain ⟨a, ha, rfl⟩ := List.mem_map.mp hd
      have := List.all_eq_true.mp ok3 a ha
      cases a with
      | tup xs =>
        cases xs with
        | nil => cases this
        | cons x r => exact ⟨x.py, pyA r, by rw [D.py, pyA]⟩
      | _ => cases this
    · refine .inr fun d hd => ?_
      obtain ⟨a, ha, rfl⟩ := List.mem_map.mp hd
      have := List.all_eq_true.mp ok3 a ha
      cases a <;> first | (cases this; done) | (rw [D.py]; exact ⟨(fun z => by cases z), (fun _ z => by cases z)⟩)
def rSrtT (K : PySem.W.Frag) (C : Cn) : List V → Hp → VK → Prop := fun xs H Q => ∃ p g t vs ds, xs = [.ref p] ∧ Wf C g H t ∧ SqT K H p vs ∧ RpA K g vs ds ∧ srtOk ds = true ∧ ds.length ≤ 1000000 ∧ ∀ ws, RpA K g ws (isrt leD ds) → ∀ l, H l = none → Q (.ref l) (upd H l (.lst ws))
theorem cr_sortedT (hu : X.A.units + 64 < cLine) : CallR X (.builtin "sorted") (rSrtT X.K C) := by
  intro pins s σ H xs us Q I r h
  obtain ⟨p, g, t, vs, ds, rfl, w, hp, ra, ok, hz, q⟩ := h
  obtain ⟨u, rfl, ru⟩ := vals1 r
  cases ru
  obtain ⟨its, rv, pl, hzz⟩ := I.tuple hp
  have hlen : its.length = ds.length := by rw [← rv.length, ra.length]
  obtain ⟨hal, hso, ok1⟩ := srt_alike ok
  have e := eachIs_of ra rv
  obtain ⟨o1, g1, c1, n1, d1⟩ := pl
  refine Calls.call_function_entry PyProof.Rows.kind_sorted PyProof.Rows.plain_sorted PyProof.Rows.entry_sorted (PyProof.Rows.args_sorted1 _) ?_
  unfold Builtin.«sorted»
  refine wpAny_bind (m := checkCount "sorted" 1 1 _) (wpAny_pure ?_)
  refine wpAny_bind (wpAny_collect_seq p (.inr rfl) g1 c1 d1 (fun h' hk => ?_) (by rw [List.size_toArray, hlen, sizeLine_eq]; omega))
  have I1 : L2.Inv X pins σ H { s with heap := h' } := I.kept (t' := s.toks) hk
  rw [List.toList_toArray]
  refine wpAny_bind (wpAny_newList ?_ (by rw [hlen, sizeLine_eq]; omega))
  have hoL : (h'.push (seqObj "list" its.toArray 0)).get? h'.objs.size = some (seqObj "list" its.toArray 0) := Heap.get?_push_size _ rfl
  show wpAny _ _ _ _ _ { s with heap := h'.push (seqObj "list" its.toArray 0) }
  have er : PySem.W.EachIs (fun u d => ∃ as, Reads (PySem.W.sortingHeap (h'.push (seqObj "list" its.toArray 0)) h'.objs.size its) u (D.py d) as) its ds := (reads_all I w ra rv ok1).mono fun _ _ ⟨as, r⟩ => ⟨as, PyProof.Rows.Reads.keeps (fun b o q => PySem.W.sortingHeap_old (Nat.ne_of_lt (Heap.lt_size (hk b o q))) (Heap.get?_push_of_some _ (hk b o q))) r⟩
  have hdep : ∀ d, d ∈ ds.map D.py → X.A.in1.in1.units + d.depth < cLine := fun d hd => by
    obtain ⟨d', hd', rfl⟩ := List.mem_map.mp hd
    have h2 : okD d' 60 = true := by
      rw [okA_all] at ok1
      exact List.all_eq_true.mp ok1 d' hd'
    have h3 := (okD_lay d' 60 h2).2
    show X.A.units + 1 + 1 + _ < _
    omega
  have em : ds.mergeSort (PySem.W.dataLe false D.py) = isrt leD ds := (isrt_merge leD leD_total ds).symm
  have eo := PySem.W.sortVals_data (h' := PySem.W.sortingHeap (h'.push (seqObj "list" its.toArray 0)) h'.objs.size its) (enc := D.py) false e er hal
  rw [em] at eo
  have lo : (PySem.W.sortVals (PySem.W.dataKind (PySem.W.sortingHeap (h'.push (seqObj "list" its.toArray 0)) h'.objs.size its) (ds.map D.py)) false its its).length = its.length := PySem.W.sortVals_length false rfl
  generalize hO : PySem.W.sortVals (PySem.W.dataKind (PySem.W.sortingHeap (h'.push (seqObj "list" its.toArray 0)) h'.objs.size its) (ds.map D.py)) false its its = out at eo lo
  refine wpAny_bind (wpAny_holding (wpAny_call_entry PyProof.Rows.slot_list_sort ⟨_, hoL, rfl⟩ PyProof.Rows.entry_list_sort ?_ (PyProof.Rows.args_list_sort _)))
  refine PySem.W.list_sort_vals (s := { s with heap := h'.push (seqObj "list" its.toArray 0) }) hoL (PySem.W.SortsAt.data (s := { s with heap := PySem.W.sortingHeap (h'.push (seqObj "list" its.toArray 0)) h'.objs.size its }) (PySem.W.each_map (R := fun v d => ∃ as, Reads (PySem.W.sortingHeap (h'.push (seqObj "list" its.toArray 0)) h'.objs.size its) v d as) D.py er) hal hso hdep) (by rw [hlen, sizeLine_eq]; omega) ⟨_, rfl, ?_⟩
  rw [hO]
  obtain ⟨e', he'⟩ := PyProof.Rows.sortedHeap_at (vs := its) (out := out.toArray) hoL
  obtain ⟨ws, q1, q2⟩ := of_eachIs eo
  refine wpAny_pure ⟨_, rfl, .ref h'.objs.size, upd H h'.objs.size (.lst ws), I1.laid (t' := s.toks) (fun b u e => ?_) (Nat.le_refl _) (show ObjOk X.prog X.w _ _ _ (.lst ws) from ⟨by rw [q1.length, isrt_length, sizeLine_eq]; omega, out, e', q2, he'⟩), rfl, q ws q1 _ (I1.hok.fresh (Nat.le_refl _))⟩
  have hb : b < h'.objs.size := Heap.lt_size e
  rw [PyProof.Rows.sortedHeap_old (Nat.ne_of_lt hb) (by rw [size_push']; exact Nat.lt_succ_of_lt hb)]
  exact Heap.get?_push_of_some _ e
/-- sorted of a list or of a tuple -/
def bSortedA : D → M D
  | .lst ds => if srtOk ds = true ∧ ds.length ≤ 1000000 then ret (.lst (isrt leD ds)) else stuck
  | .tup ds => if srtOk ds = true ∧ ds.length ≤ 1000000 then ret (.lst (isrt leD ds)) else stuck
  | _ => stuck
theorem cr_sortedA (hu : X.A.units + 64 < cLine) : CallR X (.builtin "sorted") (c1D X.K C E bSortedA) := CallR.imp (CallR.or (cr_sorted0 (C := C) hu) (cr_sortedT (C := C) hu)) fun xs H Q ⟨x, g, t, d, ex, w, a, h⟩ => by
  subst ex
  cases d with
  | lst ds =>
    have h : PostQ X.K C E g H Q ((if srtOk ds = true ∧ ds.length ≤ 1000000 then ret (.lst (isrt leD ds)) else stuck) t) := h
    split at h
    · rename_i hc
      obtain ⟨p, vs, rfl, e1, r1⟩ := a.lst w
      exact .inl ⟨p, g, t, vs, ds, rfl, w, e1, r1, hc.1, hc.2, fun ws rw' l hl => pRetL h w rw' l hl⟩
    · exact h.elim
  | tup ds =>
    have h : PostQ X.K C E g H Q ((if srtOk ds = true ∧ ds.length ≤ 1000000 then ret (.lst (isrt leD ds)) else stuck) t) := h
    split at h
    · rename_i hc
      obtain ⟨p, vs, rfl, e1, r1⟩ := a.tup w
      exact .inr ⟨p, g, t, vs, ds, rfl, w, e1, r1, hc.1, hc.2, fun ws rw' l hl => pRetL h w rw' l hl⟩
    · exact h.elim
  | _ => exact h.elim
end
end BG
set_option Elab.async false
set_option linter.all false
set_option maxRecDepth 100000
set_option maxHeartbeats 4000000
namespace BG
open PySem PySem.Spec PyProof.Rows L2
def dLook (ks : List (Key × D)) (k : Key) : Option D := (ks.find? fun p => decide (p.1 = k)).map (·.2)
def dPut (ks : List (Key × D)) (k : Key) (d : D) : List (Key × D) := if (ks.any fun p => decide (p.1 = k)) = true then ks.map (fun p => if p.1 = k then (p.1, d) else p) else ks ++ [(k, d)]
def dMerge (ks more : List (Key × D)) : List (Key × D) := more.foldl (fun acc p => dPut acc p.1 p.2) ks
theorem dPut_len (ks : List (Key × D)) (k : Key) (d : D) : (dPut ks k d).length ≤ ks.length + 1 := by
  unfold dPut
  split
  · rw [List.length_map]; omega
  · rw [List.length_append]; exact Nat.le_refl _
theorem dMerge_len : ∀ (more ks : List (Key × D)), (dMerge ks more).length ≤ ks.length + more.length
  | [], ks => by show ks.length ≤ ks.length + 0; omega
  | p :: r, ks => by
    have h1 := dMerge_len r (dPut ks p.1 p.2)
    have h2 := dPut_len ks p.1 p.2
    show (dMerge (dPut ks p.1 p.2) r).length ≤ _
    rw [List.length_cons]; omega
def keyD : D → Option Key
  | .int i => some (.inl i)
  | .str x => some (.inr x)
  | _ => none
def kD : Key → D
  | .inl i => .int i
  | .inr x => .str x
section
variable {K : PySem.W.Frag} {g : G}
theorem RpK.nil : RpK K g [] [] := ⟨rfl, .nil⟩
theorem RpK.cons {k : Key} {v : V} {d : D} {vs : List (Key × V)} {ks : List (Key × D)} (h : Rp K g v d) (r : RpK K g vs ks) : RpK K g ((k, v) :: vs) ((k, d) :: ks) := ⟨by rw [List.map_cons, List.map_cons, r.1], .cons h r.2⟩
theorem RpK.inv {vs : List (Key × V)} {k : Key} {d : D} {ks : List (Key × D)} (r : RpK K g vs ((k, d) :: ks)) : ∃ v ws, vs = (k, v) :: ws ∧ Rp K g v d ∧ RpK K g ws ks := by
  obtain ⟨h1, h2⟩ := r
  cases vs with
  | nil => cases h1
  | cons p ws =>
    obtain ⟨k', v⟩ := p
    injection h1 with e1 e2
    simp only at e1
    subst e1
    cases h2 with
    | cons a b => exact ⟨v, ws, rfl, a, e2, b⟩
theorem RpK.length {vs : List (Key × V)} {ks : List (Key × D)} (r : RpK K g vs ks) : vs.length = ks.length := by have := congrArg List.length r.1; rw [List.length_map, List.length_map] at this; exact this
theorem RpK.look : ∀ {ks : List (Key × D)} {vs : List (Key × V)} (k : Key), RpK K g vs ks → (dLook ks k = none → valV vs k = none) ∧ ∀ d, dLook ks k = some d → ∃ v, valV vs k = some v ∧ Rp K g v d
  | [], vs, k, r => by
    have : vs = [] := List.eq_nil_of_length_eq_zero r.length
    subst this
    exact ⟨fun _ => rfl, fun d e => (by cases e)⟩
  | (k', d') :: ks, vs, k, r => by
    obtain ⟨v, ws, rfl, rv, rr⟩ := r.inv
    by_cases h : k' = k
    · subst h
      have e : dLook ((k', d') :: ks) k' = some d' := by unfold dLook; rw [List.find?_cons]; simp
      rw [e]
      refine ⟨fun z => (by cases z), fun d z => ?_⟩
      cases z
      exact ⟨v, valV_pos rfl, rv⟩
    · have e : dLook ((k', d') :: ks) k = dLook ks k := by unfold dLook; rw [List.find?_cons]; simp [h]
      rw [e, valV_neg h]
      exact RpK.look k rr
theorem RpK.map {k : Key} {v : V} {d : D} (h : Rp K g v d) : ∀ {ks : List (Key × D)} {vs : List (Key × V)}, RpK K g vs ks → RpK K g (vs.map fun p => if p.1 = k then (p.1, v) else p) (ks.map fun p => if p.1 = k then (p.1, d) else p)
  | [], vs, r => by
    have : vs = [] := List.eq_nil_of_length_eq_zero r.length
    subst this; exact .nil
  | (k', d') :: ks, vs, r => by
    obtain ⟨v', ws, rfl, rv, rr⟩ := r.inv
    rw [List.map_cons, List.map_cons]
    by_cases hk : k' = k
    · rw [if_pos hk, if_pos hk]; exact .cons h (RpK.map h rr)
    · rw [if_neg hk, if_neg hk]; exact .cons rv (RpK.map h rr)
theorem RpK.app : ∀ {ks : List (Key × D)} {vs : List (Key × V)} {ks2 : List (Key × D)} {vs2 : List (Key × V)}, RpK K g vs ks → RpK K g vs2 ks2 → RpK K g (vs ++ vs2) (ks ++ ks2) := fun r q => ⟨by rw [List.map_append, List.map_append, r.1, q.1], by rw [List.map_append, List.map_append]; exact r.2.app q.2⟩
theorem RpK.any {ks : List (Key × D)} {vs : List (Key × V)} (k : Key) (r : RpK K g vs ks) : (vs.any fun p => decide (p.1 = k)) = ks.any fun p => decide (p.1 = k) := by
  have e1 : ∀ l : List (Key × V), (l.any fun p => decide (p.1 = k)) = (l.map (·.1)).any fun x => decide (x = k) := fun l => by rw [List.any_map]; rfl
  have e2 : ∀ l : List (Key × D), (l.any fun p => decide (p.1 = k)) = (l.map (·.1)).any fun x => decide (x = k) := fun l => by rw [List.any_map]; rfl
  rw [e1, e2, r.1]
theorem RpK.put {ks : List (Key × D)} {vs : List (Key × V)} {k : Key} {v : V} {d : D} (r : RpK K g vs ks) (h : Rp K g v d) : RpK K g (putK vs k v) (dPut ks k d) := by
  unfold putK dPut
  rw [r.any k]
  split
  · exact RpK.map h r
  · exact r.app (.cons h .nil)
theorem RpK.merge : ∀ {more : List (Key × D)} {mv : List (Key × V)} {ks : List (Key × D)} {vs : List (Key × V)}, RpK K g mv more → RpK K g vs ks → RpK K g (mergeK vs mv) (dMerge ks more)
  | [], mv, ks, vs, r, q => by
    have : mv = [] := List.eq_nil_of_length_eq_zero r.length
    subst this; exact q
  | (k, d) :: more, mv, ks, vs, r, q => by
    obtain ⟨v, ws, rfl, rv, rr⟩ := r.inv
    exact RpK.merge (ks := dPut ks k d) (vs := putK vs k v) rr (q.put rv)
theorem Rp.key {v : V} {d : D} {k : Key} (r : Rp K g v d) (h : keyD d = some k) : v = kV k := by
  cases d with
  | int i => cases h; cases r; rfl
  | str x => cases h; cases r; rfl
  | _ => cases h
end
/-- the values of a display, with their keys -/
def evsK : List (Str × Ex) → Sl → M (List (Key × D))
  | [], _ => ret []
  | (x, f) :: fs, S => bnd (f S) fun d => bnd (evsK fs S) fun ds => ret ((.inr x, d) :: ds)
theorem evsK_length : ∀ {fs : List (Str × Ex)} {S : Sl} {t t' : Tn} {ds : List (Key × D)}, evsK fs S t = some (.ok ds t') → ds.length = fs.length
  | [], _, _, _, ds, h => by
    have h : some (Out.ok ([] : List (Key × D)) _) = some (Out.ok ds _) := h
    cases h; rfl
  | (x, f) :: fs, S, t, t', ds, h => by
    have h : bnd (f S) (fun d => bnd (evsK fs S) fun ds => ret ((Sum.inr x, d) :: ds)) t = some (.ok ds t') := h
    cases e1 : f S t with
    | none => unfold bnd at h; rw [e1] at h; cases h
    | some o =>
      cases o with
      | exc c t1 => rw [bnd_exc e1] at h; cases h
      | ok d t1 =>
        rw [bnd_ok e1] at h
        cases e2 : evsK fs S t1 with
        | none => unfold bnd at h; rw [e2] at h; cases h
        | some o =>
          cases o with
          | exc c t2 => rw [bnd_exc e2] at h; cases h
          | ok ds' t2 =>
            rw [bnd_ok e2] at h
            have h : some (Out.ok ((Sum.inr x, d) :: ds') t2) = some (Out.ok ds t') := h
            cases h
            rw [List.length_cons, List.length_cons, evsK_length e2]
theorem Post.all {α : Type} {C : Cn} {E : XK} {g g1 : G} {H H1 : Hp} {Rok Rok' : α → Tn → G → Hp → Prop} {r : Option (Out α)} (h : Post C E g H Rok r) (s : Stp g H g1 H1) (f : ∀ a t' g' H', r = some (.ok a t') → Stp g1 H1 g' H' → Wf C g' H' t' → (∀ g2 H2, Stp g H g2 H2 → Wf C g2 H2 t' → Rok a t' g2 H2) → Rok' a t' g' H') : Post C E g1 H1 Rok' r := by
  cases r with
  | none => exact h
  | some o =>
    cases o with
    | ok a t' => exact fun g' H' s' w => f a t' g' H' rfl s' w h
    | exc c t' => exact fun g' H' s' w => h g' H' (s.trans s') w
theorem Wf.updD {C : Cn} {g : G} {H : Hp} {t : Tn} {p : Addr} {kvs : List (Key × V)} {o : HO} (w : Wf C g H t) (hp : H p = some (.dK kvs)) (fp : g.Fz p = none) (nt : ¬ g.isTw p) (ho : ∀ ps, o ≠ .tbl ps) : Wf C g (upd H p o) t where
  fz := fun b o' h => by
    rw [upd_ne (ne_of_none h fp)]
    exact w.fz b o' h
  tw := ⟨w.tw.1.ext fun b kvs h z => by rw [upd_ne fun z2 => nt (.inl (by rw [← z2]; exact z))]; exact h, w.tw.2.keep (fun _ _ h => h) (.refl g) ⟨rfl, rfl⟩ fun a ha ho h => by rw [upd_ne fun z => nt (.inr (by rw [← z]; exact ha))]; exact h⟩
  ntw := w.ntw
  nft := w.nft
  tab := fun q hq => by
    obtain ⟨ps, h1, h2, h3⟩ := w.tab q hq
    refine ⟨ps, by rw [upd_ne (ne_of h1 hp (fun z => nomatch z))]; exact h1, h2, fun pos cv hc => ?_⟩
    obtain ⟨c, e1, e2⟩ := h3 pos cv hc
    exact ⟨c, e1, by rw [upd_ne (ne_of e2 hp (fun z => nomatch z))]; exact e2⟩
section
variable {X : Cx} {C : Cn} {E : XK}
def trsD (X : Cx) (C : Cn) (E : XK) (fs : List (Str × Ex)) : List (TE × TE) := fs.map fun p => (fun _ H Q => Q (.str p.1) H, tE X.K C E p.2)
abbrev CPs (X : Cx) (C : Cn) (E : XK) (pos : Pos) (keys : List (Option Expr)) (values : List Expr) (fs : List (Str × Ex)) : Prop := PPs X pos keys values (trsD X C E fs) ∧ keys.all (·.isSome) = true ∧ keys.length = values.length ∧ keys.length = fs.length
theorem cps_nil {pos : Pos} : CPs X C E pos [] [] [] := ⟨pps_nil, rfl, rfl, rfl⟩
theorem cps_cons {pos p : Pos} {x : Str} {j : Nat} {v : Expr} {f : Ex} {ks : List (Option Expr)} {vs : List Expr} {fs : List (Str × Ex)} (h : CE X C E v f) (r : CPs X C E pos ks vs fs) : CPs X C E pos (some (.Constant (.str x) j p) :: ks) (v :: vs) ((x, f) :: fs) :=
  ⟨pps_cons pe_str h r.1, by rw [List.all_cons, r.2.1]; rfl, by rw [List.length_cons, List.length_cons, r.2.2.1], by rw [List.length_cons, List.length_cons, r.2.2.2]⟩
theorem tPairs_of : ∀ {fs : List (Str × Ex)} {σ : L2.St} {H : Hp} {g : G} {S : Sl} {t : Tn} {Q : List (V × V) → Hp → Prop}, Wf C g H t → SL X.K g H σ S →
    Post C E g H (fun ks _ g' H' => ∀ vs, RpK X.K g' vs ks → Q (vs.map fun p => (kV p.1, p.2)) H') (evsK fs S t) → tPairs (trsD X C E fs) σ H Q
  | [], σ, H, g, S, t, Q, w, s, p => by
    have p := postRet p w
    exact p [] .nil
  | (x, f) :: fs, σ, H, g, S, t, Q, w, s, p => by
    refine ⟨g, S, t, w, s, p.bnd.imp fun d t1 g1 H1 st1 w1 q v r => ?_⟩
    refine tPairs_of w1 (s.stp w st1) (q.bnd.imp fun ks t2 g2 H2 st2 w2 q2 vs rs => ?_)
    have := postRet q2 w2 ((Sum.inr x, v) :: vs) (.cons (r.stp st2) rs)
    exact this
/-- what a display leaves: a new dict of one's own -/
def tDic (X : Cx) (C : Cn) (E : XK) (fs : List (Str × Ex)) : TE := fun σ H Q => ∃ g S t, Wf C g H t ∧ SL X.K g H σ S ∧ Post C E g H (fun ks _ g' H' => ∀ p vs, H p = none → H' p = some (.dK vs) → RpK X.K g' vs (dMerge [] ks) → g'.Fz p = none → ¬ g'.isTw p → Q (.ref p) H') (evsK fs S t)
theorem pe_dic {pos : Pos} {keys : List (Option Expr)} {values : List Expr} {fs : List (Str × Ex)} (h : CPs X C E pos keys values fs) (h0 : keys ≠ []) (h15 : keys.length ≤ 15) : PE X (.Dict keys values pos) (tDic X C E fs) := by
  refine PE.imp (pe_disp h.1 h.2.1 h.2.2.1 h0 h15) fun σ H Q ⟨g, S, t, w, s, q⟩ => ?_
  intro p hp
  have st0 : Stp g H g (upd H p (.dK [])) := Stp.lay w hp
  have w0 : Wf C g (upd H p (.dK [])) t := Wf.lay w hp
  refine tPairs_of w0 (s.stp w st0) (q.all st0 fun ks t1 g1 H1 er st1 w1 q1 vs rs => ?_)
  have nt0 : ¬ g.isTw p := w.ntN hp
  have e1 : H1 p = some (.dK []) := st1.frm p _ upd_same nt0 (fun _ z => nomatch z)
  have nt1 : ¬ g1.isTw p := st1.ntw upd_same nt0 (fun _ z => nomatch z)
  have f1 : g1.Fz p = none := by rw [st1.new p ⟨_, upd_same, fun _ z => nomatch z⟩]; exact w.fzN hp
  refine ⟨e1, vs, rfl, by rw [rs.length, evsK_length er, ← h.2.2.2]; exact h15, ?_⟩
  exact q1 g1 _ ((st0.trans st1).updO (Nt.no hp)) (w1.updD e1 f1 nt1 (fun _ z => by cases z)) p _ hp upd_same (RpK.merge rs .nil) f1 nt1
/-- x = {'k': e, ..} -/
def sDic (i : Nat) (fs : List (Str × Ex)) : Stm := fun S => bnd (evsK fs S) fun ks => ret (.nx (S.set i (.dic (dMerge [] ks))))
theorem cs_dic (i : Nat) {x : Str} {keys : List (Option Expr)} {values : List Expr} {fs : List (Str × Ex)} {dpos pos pos' : Pos} (hN : X.N.Nodup) (h : CPs X C E dpos keys values fs) (h0 : keys ≠ [] := by simp) (h15 : keys.length ≤ 15 := by decide) (hi : X.N[i]? = some x := by rfl) (hx : Loc X.env.scope x := by first | exact .inl rfl | exact .inr rfl) (hs : swapsWith (.Dict keys values dpos) (some (.Name x pos')) pos.line X.env = pure false := by rfl)
    (hf : X.fn x = true ∨ X.env.scope.names.lookup x = some .local := by first | exact .inl rfl | exact .inr rfl | assumption) : CS X C E (.Assign [.Name x pos'] (.Dict keys values dpos) pos) (sDic i fs) :=
  PS.imp (ps_set hN hi hx (pe_dic h h0 h15) hs hf) fun De σ H ⟨g0, H0, gs, g, S, t, st, gr, w, s, o, p⟩ =>
    ⟨g, S, t, w, s, p.bnd0.all st fun ks t1 g1 H1 er st1 w1 q1 a vs ha ha1 rs fa nt => by
      have q2 := q1 g1 H1 (st.trans st1) w1
      exact q2 g1 H1 (st.trans st1) w1 _ (gr.trans st1.gw) ((s.stp w st1).setD ha1 rs fa nt fun j y h1 hx h2 => s.noOne (Nt.no ha) i j y h1 hx h2) (o.put (st.back ha))⟩
/-- x.update({'k': e, ..}) -/
def sDUpd (i : Nat) (fs : List (Str × Ex)) : Stm := fun S => match S[i]? with
  | some (.dic _) => bnd (evsK fs S) fun ms => match S[i]? with
    | some (.dic ks) => if ks.length < 1000 then ret (.nx (S.set i (.dic (dMerge ks (dMerge [] ms))))) else stuck
    | _ => stuck
  | _ => stuck
def rUpd : V → List V → Hp → VK → Prop := fun x xs H Q => ∃ d o kvs more, x = .ref d ∧ xs = [.ref o] ∧ d ≠ o ∧ H d = some (.dK kvs) ∧ H o = some (.dK more) ∧ kvs.length + more.length ≤ sizeLine ∧ Q .non (upd H d (.dK (mergeK kvs more)))
theorem mt_upd : MtR X "dict.update" rUpd := by
  intro pins s σ H x xs v us Q I rx rs h
  obtain ⟨d, o, kvs, more, rfl, rfl, hdo, e1, e2, hz, q⟩ := h
  cases rx
  obtain ⟨u, rfl, ru⟩ := rs.one
  cases ru
  obtain ⟨z1, d1, vs, rel, dd⟩ := dk_of I.hok e1
  obtain ⟨z2, d2, ws, rel2, dd2⟩ := dk_of I.hok e2
  refine call_meetsIn PySem.F.slot_dict_update dd.typeIs PySem.F.entry_dict_update (PySem.F.args_dict_update_2 _ _) (meets_dict_update (mixKind X.prog X.w) d o hdo d2) ⟨vs, ws, dd, dd2, by rw [← rel.length, ← rel2.length]; exact hz, fun h' dd' _ hs => ?_⟩
  have he : ∃ q, h'.get? d = some q := let ⟨q, _, _, hq, _⟩ := dd'; ⟨q, hq⟩
  exact ⟨.non, _, d_write I (by rw [e1]; exact True.intro) hs he (dk_new (by have := length_mergeK more kvs; omega) d1 (rel2.merge rel) dd'), rfl, q⟩
theorem cs_dupd (i : Nat) {x : Str} {keys : List (Option Expr)} {values : List Expr} {fs : List (Str × Ex)} {p1 apos cpos dpos pos : Pos} (h : CPs X C E dpos keys values fs) (h0 : keys ≠ [] := by simp) (h15 : keys.length ≤ 15 := by decide) (hN : X.N[i]? = some x := by rfl) (hv : Vis X.env.scope x := by first | exact Or.inl rfl | exact Or.inr (Or.inl rfl) | exact Or.inr (Or.inr rfl)) (hd : (x == ("__debug__" : Str)) = false := by decide)
    (hcd : (x == ("__classdict__" : Str)) = false := by decide) (hbase : attributeBase (.Name x p1) "update" X.env (eval (.Name x p1) X.env) = eval (.Name x p1) X.env := by rfl)
    (hfew : ((backTo cpos (starEach [.Dict keys values dpos] X.env)).all (fun x => !x.1) && (backToKw cpos (keywordEach [] X.env)).all (fun x => x.1.isSome) && decide ([Expr.Dict keys values dpos].length + ([] : List Keyword).length + (if ([] : List Keyword).isEmpty then 0 else 1) < 30)) = true := by rfl)
    (hline : (apos.endLine == cpos.line) = true := by rfl) (hs : starEach [.Dict keys values dpos] X.env = (false, eval (.Dict keys values dpos) X.env) :: starEach [] X.env := by rfl) (hplain : (backTo cpos (starEach [] X.env)).any (·.1) = false := by rfl) (hsw : swapsWith (.Call (.Attribute (.Name x p1) "update" apos) [.Dict keys values dpos] [] cpos) none pos.line X.env = pure false := by rfl) :
    CS X C E (.Expr (.Call (.Attribute (.Name x p1) "update" apos) [.Dict keys values dpos] [] cpos) pos) (sDUpd i fs) :=
  PS.imp (ps_expr (pe_bm PySem.F.plainAttrs_dict PySem.F.slot_dict_update PySem.F.type_dict_update mt_upd (pe_var hN hv hd hcd) (pa_cons (pe_dic h h0 h15) pa_nil hs) hbase hfew hline hs hplain) hsw) fun De σ H ⟨g0, H0, gs, g, S, t, st, gr, w, s, o, p⟩ => by
    unfold sDUpd at p
    cases e : S[i]? with
    | none => rw [e] at p; exact p.elim
    | some sv =>
      rw [e] at p
      cases sv with
      | un => exact p.elim
      | val d => exact p.elim
      | own d => exact p.elim
      | raw d => exact p.elim
      | exn d => exact p.elim
      | dcT d => exact p.elim
      | dic ks =>
        obtain ⟨a, vs, h1, h2, h3, h4, h5⟩ := s.dic i ks e
        refine ⟨_, h1, .inr (.inr (.inl ⟨rfl, .inl ⟨vs, h2⟩⟩)), ⟨g, S, t, w, s, p.bnd0.all st fun ms t1 g1 H1 er st1 w1 q1 b ws hb hb1 rs fb nt => ?_⟩⟩
        have q2 := q1 g1 H1 (st.trans st1) w1
        have q2 : Post C E g0 H0 (Rs X.K H0 gs De) ((if ks.length < 1000 then ret (Fl.nx (S.set i (.dic (dMerge ks (dMerge [] ms))))) else stuck) t1) := q2
        split at q2
        · rename_i hz
          obtain ⟨a', vs', k1, k2, k3, k4, k5⟩ := (s.stp w st1).dic i ks e
          rw [h1] at k1
          cases k1
          have nab : a ≠ b := fun z => by rw [z, hb] at h2; cases h2
          refine ⟨a, b, vs', ws, rfl, rfl, nab, k2, hb1, ?_, ?_⟩
          · have l1 := k3.length
            have l2 := rs.length
            have l3 := dMerge_len ms []
            have l4 := evsK_length er
            have l5 := h.2.2.2
            rw [List.length_nil] at l3
            rw [sizeLine_eq]
            omega
          exact q2 g1 _ ((st.trans st1).updO (o i _ a e rfl h1)) (w1.updD k2 k4 k5 (fun _ z => by cases z)) _ (gr.trans st1.gw) ((s.stp w st1).updX e rfl h1 rfl ⟨a, _, rfl, upd_same, RpK.merge rs k3, k4, k5⟩) (o.updX e rfl)
        · exact q2.elim
end
end BG
set_option Elab.async false
set_option linter.all false
set_option maxRecDepth 100000
set_option maxHeartbeats 4000000
namespace BG
open PySem PySem.Spec PyProof.Rows L2
section
variable {X : Cx} {C : Cn} {E : XK}
theorem ps_freeze {st : Stmt} {t : TS} (h : PS X st t) : PS X st (fun De σ H => ∃ d kvs, H d = some (.dK kvs) ∧ ∀ od, t De σ (upd H d (.frz od (.dK kvs)))) := ⟨fun pins s σ H D I ⟨d, kvs, e, q⟩ => by
  obtain ⟨od, I'⟩ := I.lock e True.intro
  exact h.run pins s σ _ D I' (q od)⟩
def sFrzD (i : Nat) (a : Stm) : Stm := fun S => match S[i]? with
  | some (.dic ks) => a (S.set i (.val (.dct (ks.map (·.1)) (ks.map (·.2)))))
  | _ => stuck
theorem zip_fs {α β : Type} : ∀ l : List (α × β), (l.map (·.1)).zip (l.map (·.2)) = l
  | [] => rfl
  | (a, b) :: l => by rw [List.map_cons, List.map_cons, List.zip_cons_cons, zip_fs l]
theorem cs_frzD (i : Nat) {st : Stmt} {f : Stm} (h : CS X C E st f) : CS X C E st (sFrzD i f) := PS.imp (ps_freeze h) fun De σ H ⟨g0, H0, gs, g, S, t, st, gr, w, s, o, p⟩ => by
  unfold sFrzD at p
  cases e : S[i]? with
  | none => rw [e] at p; exact p.elim
  | some sv =>
    rw [e] at p
    cases sv with
    | un => exact p.elim
    | val d => exact p.elim
    | own d => exact p.elim
    | raw d => exact p.elim
    | exn d => exact p.elim
    | dcT d => exact p.elim
    | dic ks =>
      obtain ⟨a, vs, h1, h2, h3, h4, h5⟩ := s.dic i ks e
      have h0 := o i _ a e rfl h1
      refine ⟨a, vs, h2, fun od => ?_⟩
      have sm : Same g.Fz (upd g.Fz a (.frz od (.dK vs))) := fun b o h => by rw [upd_ne (ne_of_none h h4)]; exact h
      have w1 : Wf C g (upd H a (.frz od (.dK vs))) t := w.updD h2 h4 h5 (fun _ z => by cases z)
      refine ⟨g0, H0, gs, ⟨upd g.Fz a (.frz od (.dK vs)), g.tw, g.ad, g.lg⟩, _, t, ⟨st.fz.trans sm, st.tw.trans .of, st.twn, (st.updO h0).frm, (st.updO h0).thr, fun b h => ?_⟩, gr.trans ⟨sm, .of⟩, ⟨fun b o h => ?_, ⟨w1.tw.1, w1.tw.2.frz sm⟩, fun b h => ?_, w1.tab, nft_upd w.nft fun _ z => by cases z⟩, ⟨by rw [List.length_set]; exact s.len, fun j x e2 => ?_, fun j k p x y e1 e2 o1 o2 e3 e4 => ?_⟩, fun j dj p e1 ox e2 => ?_, p⟩
      · have nb : b ≠ a := fun z => h0 (by rw [← z]; exact h)
        show upd g.Fz a _ b = _
        rw [upd_ne nb]
        exact st.new b h
      · have h : upd g.Fz a (.frz od (.dK vs)) b = some o := h
        by_cases hb : b = a
        · rw [hb, upd_same] at h ⊢; exact h
        · rw [upd_ne hb] at h ⊢
          exact w.fz b o h
      · have nb : b ≠ a := fun z => h5 (by rw [← z]; exact h)
        show upd g.Fz a _ b = _
        rw [upd_ne nb]
        exact w.ntw b h
      · have tw' : TwLe g (⟨upd g.Fz a (.frz od (.dK vs)), g.tw, g.ad, g.lg⟩ : G) := .of
        by_cases hj : i = j
        · subst hj
          obtain ⟨hl, _⟩ := List.getElem?_eq_some_iff.mp e
          rw [List.getElem?_set_self hl] at e2
          cases e2
          refine ⟨_, h1, .dct (o := od) (vs := vs.map (·.2)) ?_ (by rw [List.length_map, List.length_map, h3.length]) (RpA.mono (g' := ⟨upd g.Fz a (.frz od (.dK vs)), g.tw, g.ad, g.lg⟩) sm tw' h3.2)⟩
          show upd g.Fz a _ a = _
          rw [upd_same, ← h3.1, zip_fs]
        · rw [List.getElem?_set_ne hj] at e2
          have h := s.ok j x e2
          cases x with
          | un => trivial
          | raw v => exact h
          | exn c =>
            obtain ⟨b, k1, k2⟩ := h
            exact ⟨b, k1, by rw [upd_ne (fun z => by rw [z, h2] at k2; unfold ExK at k2; cases k2)]; exact k2⟩
          | val d => obtain ⟨v, k1, k2⟩ := h; exact ⟨v, k1, Rp.mono (g' := ⟨upd g.Fz a (.frz od (.dK vs)), g.tw, g.ad, g.lg⟩) sm tw' k2⟩
          | own dj =>
            obtain ⟨b, us, k1, k2, k3, k4⟩ := h
            have nb : b ≠ a := fun z => hj (s.dis i j a _ _ e e2 rfl rfl h1 (by rw [← z]; exact k1))
            exact ⟨b, us, k1, by rw [upd_ne nb]; exact k2, RpA.mono (g' := ⟨upd g.Fz a (.frz od (.dK vs)), g.tw, g.ad, g.lg⟩) sm tw' k3, by show upd g.Fz a _ b = _; rw [upd_ne nb]; exact k4.1, k4.2⟩
          | dcT kj =>
            obtain ⟨b, L, k1, k2, k3, k4⟩ := h
            have nb : b ≠ a := fun z => hj (s.dis i j a _ _ e e2 rfl rfl h1 (by rw [← z]; exact k1))
            exact ⟨b, L, k1, by rw [upd_ne nb]; exact k2, ⟨k3.keys, k3.nd, fun x hx => Rp.mono (g' := ⟨upd g.Fz a (.frz od (.dK vs)), g.tw, g.ad, g.lg⟩) sm tw' (k3.kt x hx), RpA.mono (g' := ⟨upd g.Fz a (.frz od (.dK vs)), g.tw, g.ad, g.lg⟩) sm tw' k3.vs⟩, by show upd g.Fz a _ b = _; rw [upd_ne nb]; exact k4.1, k4.2⟩
          | dic kj =>
            obtain ⟨b, us, k1, k2, k3, k4, k5⟩ := h
            have nb : b ≠ a := fun z => hj (s.dis i j a _ _ e e2 rfl rfl h1 (by rw [← z]; exact k1))
            exact ⟨b, us, k1, by rw [upd_ne nb]; exact k2, ⟨k3.1, RpA.mono (g' := ⟨upd g.Fz a (.frz od (.dK vs)), g.tw, g.ad, g.lg⟩) sm tw' k3.2⟩, by show upd g.Fz a _ b = _; rw [upd_ne nb]; exact k4, k5⟩
      · have n1 := set_ow e1 o1
        have n2 := set_ow e2 o2
        rw [List.getElem?_set_ne n1] at e1
        rw [List.getElem?_set_ne n2] at e2
        exact s.dis j k p x y e1 e2 o1 o2 e3 e4
      · have n := set_ow e1 ox
        rw [List.getElem?_set_ne n] at e1
        exact o j dj p e1 ox e2
def dAt (S : Sl) (i : Nat) : Option (List (Key × D)) := match S[i]? with
  | some (.dic ks) => some ks
  | some (.val (.dct ks ds)) => some (ks.zip ds)
  | _ => none
theorem RpA.zipK {K : PySem.W.Frag} {g : G} : ∀ {ks : List Key} {vs : List V} {ds : List D}, RpA K g vs ds → ks.length = vs.length → RpK K g (ks.zip vs) (ks.zip ds)
  | [], _, _, _, _ => .nil
  | k :: ks, [], _, _, h => by cases h
  | k :: ks, v :: vs, _, r, h => by
    cases r with
    | cons a b => exact .cons a (RpA.zipK b (by simpa using h))
theorem dAt_at {K : PySem.W.Frag} {g : G} {H : Hp} {σ : L2.St} {S : Sl} {t : Tn} {i : Nat} {ks : List (Key × D)} (w : Wf C g H t) (s : SL K g H σ S) (h : dAt S i = some ks) : ∃ a vs, σ[i]? = some (some (.ref a)) ∧ Rd H a (.dK vs) ∧ RpK K g vs ks := by
  unfold dAt at h
  cases e : S[i]? with
  | none => rw [e] at h; cases h
  | some sv =>
    rw [e] at h
    cases sv with
    | un => cases h
    | own d => cases h
    | raw d => cases h
    | exn d => cases h
    | dcT d => cases h
    | dic ks' =>
      cases h
      obtain ⟨a, vs, h1, h2, h3, _⟩ := s.dic i _ e
      exact ⟨a, vs, h1, .inl h2, h3⟩
    | val d =>
      cases d with
      | dct ks' ds =>
        cases h
        obtain ⟨v, h1, h2⟩ := s.val i _ e
        cases h2 with
        | dct e1 l ra => exact ⟨_, _, h1, .inr ⟨_, w.fz _ _ e1⟩, RpA.zipK ra l⟩
      | _ => cases h
/-- d[k] -/
def eDIx (i : Nat) (k : Ex) : Ex := fun S => match dAt S i with
  | some _ => bnd (k S) fun kd => match dAt S i, keyD kd with
    | some ks, some y => match dLook ks y with
      | some d => ret d
      | none => stuck
    | _, _ => stuck
  | none => stuck
theorem ce_dix (i : Nat) {x : Str} {k : Expr} {fk : Ex} {p1 pos : Pos} (hu : X.A.units + 1 < cLine) (hk : CE X C E k fk) (hN : X.N[i]? = some x := by rfl) (hv : Vis X.env.scope x := by first | exact Or.inl rfl | exact Or.inr (Or.inl rfl) | exact Or.inr (Or.inr rfl)) (hd : (x == ("__debug__" : Str)) = false := by decide)
    (hcd : (x == ("__classdict__" : Str)) = false := by decide) (hs : NoSl k := by exact fun _ _ => rfl) : CE X C E (.Subscript (.Name x p1) k pos) (eDIx i fk) :=
  PE.imp (pe_dget hu (pe_var hN hv hd hcd) hk hs) fun σ H Q ⟨g, S, t, w, s, p⟩ => by
    unfold eDIx at p
    cases e : dAt S i with
    | none => rw [e] at p; exact p.elim
    | some ks =>
      rw [e] at p
      obtain ⟨a, vs, h1, h2, h3⟩ := dAt_at w s e
      refine ⟨_, h1, ⟨g, S, t, w, s, p.bnd.imp fun kd t1 g1 H1 st1 w1 q v r => ?_⟩⟩
      obtain ⟨a', vs', k1, k2, k3⟩ := dAt_at w1 (s.stp w st1) e
      rw [h1] at k1
      cases k1
      cases ek : keyD kd with
      | none => rw [ek] at q; exact q.elim
      | some y =>
        rw [ek] at q
        have q : PostQ X.K C E g1 H1 Q ((match dLook ks y with | some d => ret d | none => stuck) t1) := q
        cases el : dLook ks y with
        | none => rw [el] at q; exact q.elim
        | some d =>
          rw [el] at q
          obtain ⟨u, m1, m2⟩ := (k3.look y).2 d el
          refine ⟨a, u, rfl, .inl ⟨vs', y, k2, r.key ek, m1.symm⟩, pRetV q w1 m2⟩
/-- the keys of a frozen dict -/
def itDic (i : Nat) : Sl → M (List D) := fun S => match S[i]? with
  | some (.val (.dct ks _)) => ret (ks.map kD)
  | _ => stuck
theorem ci_dic {tg : Expr} (i : Nat) {x : Str} {pos : Pos} (hN : X.N[i]? = some x := by rfl) (hv : Vis X.env.scope x := by first | exact Or.inl rfl | exact Or.inr (Or.inl rfl) | exact Or.inr (Or.inr rfl)) (hd : (x == ("__debug__" : Str)) = false := by decide)
    (hcd : (x == ("__classdict__" : Str)) = false := by decide) : CI X C E tg (.Name x pos) (itDic i) := PI.imp (pi_keys (pe_var hN hv hd hcd)) fun σ H R ⟨g, S, t, w, s, p⟩ => by
  unfold itDic at p
  cases e : S[i]? with
  | none => rw [e] at p; exact p.elim
  | some sv =>
    rw [e] at p
    cases sv with
    | un => exact p.elim
    | own d => exact p.elim
    | raw d => exact p.elim
    | exn d => exact p.elim
    | dic d => exact p.elim
    | dcT d => exact p.elim
    | val d =>
      cases d with
      | dct ks ds =>
        obtain ⟨v, h1, h2⟩ := s.val i _ e
        cases h2 with
        | @dct a o ks vs ds e1 l ra =>
          refine ⟨_, h1, a, o, rfl, .inl ⟨_, w.fz _ _ e1, postRet p w _ fun m H' sm => ⟨fun d ed => ?_, fun hl => ⟨sm _ _ e1, ?_⟩⟩⟩⟩
          · rw [List.getElem?_map] at ed
            cases ek : ks[m]? with
            | none => rw [ek] at ed; cases ed
            | some k =>
              rw [ek] at ed
              cases ed
              have hm : m < ks.length := (List.getElem?_eq_some_iff.mp ek).1
              refine ⟨⟨sm _ _ e1, by rw [List.length_zip]; omega⟩, fun y H2 ⟨e2, k', v', e3, e4⟩ => .inl ⟨e2, ?_⟩⟩
              rw [List.getElem?_zip_eq_some] at e3
              have : k = k' := by
                have := e3.1
                rw [ek] at this
                exact Option.some.inj this
              subst this e4
              cases k with
              | inl i => exact .int i
              | inr i => exact .str i
          · rw [List.length_map] at hl; rw [List.length_zip]; omega
      | _ => exact p.elim
end
end BG
set_option Elab.async false
set_option linter.all false
set_option maxRecDepth 100000
set_option maxHeartbeats 4000000
namespace BG
open PySem PySem.Spec PyProof.Rows L2
section
variable {X : Cx} {pins : List (Addr × Obj)} {σ : L2.St} {H : Hp} {s : Shared}
theorem Inv.track {a : Addr} {o : HO} (I : L2.Inv X pins σ H s) (na : H a = none) (nL : a ≠ X.env.locals) (nC : ∀ v, ¬ s.heap.IsCell a v) (n0 : X.s_0.heap.get? a = none) (np : ∀ p ∈ X.pn ++ pins, p.1 ≠ a) (ok : ObjOk X.prog X.w (upd H a o) s.heap a o) : L2.Inv X pins σ (upd H a o) s := by
  refine ⟨I.ok, I.os, I.bare, ⟨I.base.keep, I.base.slot, fun b u e1 e2 e3 => ?_, I.base.there, fun b xs e => ?_, fun b u v e => ?_, fun b ps e => ?_⟩, I.loc, I.cell, ?_, fun x c e => ?_, fun p hp => ?_, ?_, I.len⟩
  · rw [upd_ne (fun z => by rw [z, n0] at e1; cases e1)]; exact I.base.free b u e1 e2 e3
  · have := I.base.tups b xs e
    rw [upd_ne (ne_of_none this na)]; exact this
  · have := I.base.frzs b u v e
    rw [upd_ne (ne_of_none this na)]; exact this
  · obtain ⟨more, h⟩ := I.base.tbls b ps e
    exact ⟨more, by rw [upd_ne (ne_of_none h na)]; exact h⟩
  · rw [upd_ne (Ne.symm nL)]; exact I.free
  · obtain ⟨v, hv⟩ := I.cell x c e
    rw [upd_ne (fun z => nC v (by rw [← z]; exact hv))]; exact I.freeC x c e
  · obtain ⟨h1, h2, h3⟩ := I.pin p hp
    exact ⟨h1, by rw [upd_ne (np p hp)]; exact h2, h3⟩
  · intro b u e
    by_cases hb : b = a
    · subst hb
      rw [upd_same] at e
      cases e
      exact ok
    · rw [upd_ne hb] at e
      exact (I.hok b u e).stay (fun c v _ q => q) (fun c q => by rw [upd_ne (ne_of_none q na)]; exact q) fun c xs q => by rw [upd_ne (ne_of_none q na)]; exact q
end
/-- what the clause wishes: slot i is n's -/
def wKeep (K : PySem.W.Frag) (c : Value) (i ln : Nat) (ts : Addr → TS) (D : Ends) : WX := fun cls d σ H =>
  PySem.W.exmOne K cls c = some true ∧ d = none ∧ ∀ a, H a = none → σ.length = ln → ts a { nx := fun σ' H' => D.nx (σ'.set i none) (upd H' a (ExK cls a)), rt := fun _ _ => False, bk := fun _ _ => False, ct := fun _ _ => False } (σ.set i (some (.ref a))) H
section
variable {X : Cx} {x n : Str} {c : Value} {i : Nat} {body suite : List Stmt} {b₀ : Stmt} {np pos pos' : Pos} {tb : WX → TS} {ts : Addr → TS}
theorem ps_try_keep (hs : X.stack = X.env :: X.outer) (hf : X.env.frame = some X.env.locals) (hex : X.ex = []) (hN : X.N.Nodup) (hi : X.N[i]? = some n) (hln : X.env.kindOf n = some .local) (hc : Names X x c)
    (hb : ∀ (W : WX) (pn : List (Addr × Obj)) (xe : Value → Shared → Prop), L2.Takes (X.tr pn xe) W → PSs (X.tr pn xe) body (tb W))
    (hsu : ∀ (a : Addr) (oe : Obj) (pn : List (Addr × Obj)), PSs (X.suite a ((a, oe) :: pn)) (b₀ :: suite) (ts a)) :
    PS X (.Try body [.ExceptHandler (some (.Name x np)) (some n) (b₀ :: suite) pos'] [] [] pos) (fun D σ H => tb (wKeep X.K c i X.N.length ts D) D σ H) := by
  refine ⟨fun pins s σ H D I h => ?_⟩
  have ok := I.ok
  have fr : X.A.frames = some (X.env :: X.outer) := by rw [ok.frames, hs]
  refine wpAny_Try_except (wpAny_mono ((hb (wKeep X.K c i X.N.length ts D) (X.pn ++ pins) (fun e s₁ => wpAny (model X.prog X.w) X.A (noteFrame e X.env) (fun _ s₂ => wpAny (model X.prog X.w) X.A (setFlight e none) (fun _ s₃ => wpAny (model X.prog X.w) X.A (handleBy e X.env [.ExceptHandler (some (.Name x np)) (some n) (b₀ :: suite) pos']) (SP X pins D) X.xe s₃) X.xe s₂) X.xe s₁) (fun u s' xx => ?_)).run [] s σ H D (I.toTry _) h) (fun f s1 hsp => ?_) (fun e s1 he => he))
  · obtain ⟨a, B, sI, pins', σ', H', cls, d, rfl, J', nb, up, sky, na, os, ag, hb1, hd0, hyes⟩ := xx
    subst hd0
    have J : L2.Inv X pins σ' H' sI := J'.ofTry ok
    have sky2 : Sky B (X.env :: X.outer) a (Zc cls none) X.env.locals s'.heap := by rw [← hs]; exact sky
    have Ba : B.get? a = none := by rcases sky2 with q | q | q <;> exact q.2.1
    show wpAny (model X.prog X.w) X.A (noteFrame (.ref a) X.env) _ _ s'
    refine L2.Sky.land Zc.steady fr hf sky2 fun h3 fl3 up3 => ?_
    have J3 : L2.Inv X pins σ' H' { s' with heap := h3 } := J.landed nb fl3.1 (up.trans up3) os ag
    obtain ⟨ob3, us3, hk3, hy3, hw3⟩ := fl3.there
    have notf : a ∉ frs (X.env :: X.outer) := fun hm => by
      obtain ⟨_, o', e', hnf⟩ := fl3.2.2.1.mem hm
      rw [hk3] at e'; cases e'
      exact hnf _ hw3
    have aI : sI.heap.get? a = none := by
      cases z : sI.heap.get? a with
      | none => rfl
      | some o =>
        have := nb a o z (by rw [hs]; exact notf)
        rw [Ba] at this; cases this
    have nL : a ≠ X.env.locals := fun z => notf (List.mem_filterMap.mpr ⟨X.env, List.mem_cons_self, by rw [hf, z]⟩)
    have nF : a ∉ X.fs := fun hm => by
      obtain ⟨e, he, q⟩ := List.mem_filterMap.mp hm
      exact notf (List.mem_filterMap.mpr ⟨e, List.mem_cons_of_mem _ he, q⟩)
    have a0 : X.s_0.heap.get? a = none := by
      cases z : X.s_0.heap.get? a with
      | none => rfl
      | some o =>
        obtain ⟨o', e'⟩ := J.base.there a o z (by rw [hex]; exact fun q => nomatch q)
        rw [aI] at e'; cases e'
    have ap : ∀ p ∈ X.pn ++ pins, p.1 ≠ a := fun p hp z => by
      have := (J.pin p hp).1
      rw [z, aI] at this; cases this
    have S3 := J3.suite hk3 hw3 na nL nF
    refine wpAny_handleBy_cons (codeAny_handlers_test ?_) (by intro q; cases q)
    have lt1 : PySem.W.Looks (model X.prog X.w) h3 (typeOf (.ref a)) cls := fun A Q E s k q => wpAny_typeOf_ref (k _ _ hk3) (by rw [hy3.1]; exact q)
    have lm1 := PySem.W.exm_one (M := model X.prog X.w) J3.kIn lt1 hb1
    have test : ∀ {Q : Value → Shared → Prop} {E : Value → Shared → Prop}, Q c { s' with heap := h3 } → wpAny (model X.prog X.w) (X.A.mark (some (.ref a))) (eval (.Name x np) X.env) Q E { s' with heap := h3 } := fun {Q E} q => by
      rcases hc with ⟨hg, hdbg, hm | ⟨hm, hv, hnn⟩⟩
      · exact ld_glob (X := X.suite a ((a, ob3) :: (X.pn ++ pins))) S3 hg hm q hdbg
      · exact ld_blt (X := X.suite a ((a, ob3) :: (X.pn ++ pins))) S3 hg hm hv q hnn hdbg
    refine test (lm1.here (codeAny_handlers_suite_as (HandSPX.lands_againZ fl3 fun h4 fl4 up4 => ?_)))
    have J4 : L2.Inv X pins σ' H' { s' with heap := h4 } := J.landed nb fl4.1 ((up.trans up3).trans up4) os ag
    obtain ⟨ob4, us4, hk4, hy4, hw4⟩ := fl4.there
    have S4 := J4.suite hk4 hw4 na nL nF
    refine store_ok (X := X.suite a ((a, ob4) :: (X.pn ++ pins))) (v := .ref a) S4 hN hi (.inl hln) rfl (fun s5 S5 => ?_) (.inr hln)
    refine wpAny_mono ((hsu a ob4 (X.pn ++ pins)).run [] s5 _ H' _ S5 (hyes a na J.len)) (fun f s6 hsp => ?_) (fun _ _ z => False.elim z)
    cases f with
    | next =>
      obtain ⟨σ6, H6, S6, q6⟩ := hsp
      obtain ⟨p1, p2, p3, p4, p5⟩ := S6.pin (a, ob4) (List.mem_append_left _ (List.mem_cons_self ..))
      have T6 : L2.Inv X ((a, ob4) :: pins) σ6 H6 s6 := ⟨ok, S6.os, S6.bare, S6.base, S6.loc, S6.cell, S6.free, S6.freeC, fun p hp => S6.pin p (by
        rcases List.mem_append.mp hp with h | h
        · exact List.mem_append_left _ (List.mem_cons_of_mem _ (List.mem_append_left _ h))
        · rcases List.mem_cons.mp h with h | h
          · rw [h]; exact List.mem_append_left _ (List.mem_cons_self ..)
          · exact List.mem_append_left _ (List.mem_cons_of_mem _ (List.mem_append_right _ h))), S6.hok, S6.len⟩
      refine gone_ok T6 hN hi hln fun s7 J7 => ?_
      obtain ⟨e1, e2, e3, e4, e5⟩ := J7.pin (a, ob4) (List.mem_append_right _ (List.mem_cons_self ..))
      have J8 : L2.Inv X pins (σ6.set i none) H6 s7 := ⟨ok, J7.os, J7.bare, J7.base, J7.loc, J7.cell, J7.free, J7.freeC, fun p hp => J7.pin p (by
        rcases List.mem_append.mp hp with h | h
        · exact List.mem_append_left _ h
        · exact List.mem_append_right _ (List.mem_cons_of_mem _ h)), J7.hok, J7.len⟩
      refine ⟨_, _, Inv.track J8 e2 e3 (fun v ⟨o, g1, g2⟩ => ?_) a0 ap ?_, q6⟩
      · rw [e1] at g1
        cases g1
        exact e5 v g2
      · exact ⟨⟨ob4, us4, e1, hy4.1, hy4.2, hw4⟩, ⟨ob4, e1⟩, fun _ _ ⟨o, v, q, r⟩ k => ⟨o, v, k o q, r⟩⟩
    | brk => obtain ⟨_, _, _, q⟩ := hsp; exact q.elim
    | cont => obtain ⟨_, _, _, q⟩ := hsp; exact q.elim
    | ret u => obtain ⟨_, _, _, _, _, q⟩ := hsp; exact q.elim
  · cases f with
    | next => obtain ⟨σ', H', J', q⟩ := hsp; exact wpAny_execs_nil ⟨σ', H', J'.ofTry ok, q⟩
    | brk => obtain ⟨σ', H', J', q⟩ := hsp; exact ⟨σ', H', J'.ofTry ok, q⟩
    | cont => obtain ⟨σ', H', J', q⟩ := hsp; exact ⟨σ', H', J'.ofTry ok, q⟩
    | ret u => obtain ⟨v, σ', H', J', r, q⟩ := hsp; exact ⟨v, σ', H', J'.ofTry ok, r, q⟩
end
end BG
set_option Elab.async false
set_option linter.all false
set_option maxRecDepth 100000
set_option maxHeartbeats 4000000
namespace BG
open PySem PySem.Spec PyProof.Rows L2
/-- what isinstance asks of an exception class of the program -/
structure ExcF (K : PySem.W.Frag) (c : Addr) : Prop where
  cl : (PySem.W.clsIn K c).isSome = true
  ga : PySem.W.findIn K (.ref c) "__getattribute__" = some (some (.builtin "BaseException.__getattribute__"))
  gt : ∃ gt, PySem.W.findIn K (.ref c) "__getattr__" = some gt
  sub : PySem.W.subIn K (.ref c) (.type "BaseException") = some true
  at_ : PySem.W.findIn K (.ref c) "__class__" = some (some (.builtin "object.__class__"))
  gs : PySem.W.specialIn K (.builtin "object.__class__") "__get__" = some (some (.builtin "getset_descriptor.__get__"))
  tk : PySem.W.takesIn K (.builtin "object.__class__") = some true
  mr : PySem.W.mroIn K c (.type "object") = some true
section
variable {X : Cx} {C : Cn} {E : XK}
def rIsX (K : PySem.W.Frag) : List V → Hp → VK → Prop := fun xs H Q => ∃ a c cv u b, xs = [.ref a, cv] ∧ ClsV cv u ∧ H a = some (ExK (.ref c) a) ∧ ExcF K c ∧ PySem.W.kitOne K (.ref c) u = some b ∧ Q (.bl b) H
theorem call_isX : CallR X (.builtin "isinstance") (rIsX X.K) := by
  intro pins s σ H xs us Q I rl h
  obtain ⟨a, c, cv, u, b, rfl, k, ha, F, e, q⟩ := h
  obtain ⟨u1, u2, rfl, r1, r2⟩ := vals2 rl
  have e2 := k.eq r2
  subst e2
  cases r1
  obtain ⟨⟨oe, vs, g1, g2, g3, g4⟩, _, _⟩ := I.hok a _ ha
  obtain ⟨gt, hgt⟩ := F.gt
  exact PySem.W.kia_one (PySem.W.kitx_exc (x := a) (ox := oe) (od := none) F.cl F.ga hgt F.sub F.at_ F.gs F.tk F.mr) I.kIn ⟨g1, g2, by unfold PySem.W.notCls; rw [g4], by rw [g3]; trivial⟩ e (fun z => nomatch z) fun tk => ⟨.bl b, H, I.tok tk, rfl, q⟩
/-- isinstance(x, C) of a slot that holds an exception -/
def eIsE (K : PySem.W.Frag) (exs : List Addr) (i : Nat) (u : Value) : Ex := fun S => match S[i]? with
  | some (.exn c) => if c ∈ exs then match PySem.W.kitOne K (.ref c) u with
    | some b => ret (.bl b)
    | none => stuck
    else stuck
  | _ => stuck
theorem isE_of {K : PySem.W.Frag} {exs : List Addr} {i : Nat} {u : Value} {cv : V} {σ : L2.St} {H : Hp} {Q : VK} {g : G} {S : Sl} {t : Tn} (hF : ∀ c ∈ exs, ExcF K c) (kc : ClsV cv u) (w : Wf C g H t) (s : SL K g H σ S) (p : PostQ K C E g H Q (eIsE K exs i u S t)) :
    ∃ v, σ[i]? = some (some v) ∧ rIsX K [v, cv] H Q := by
  unfold eIsE at p
  cases e : S[i]? with
  | none => rw [e] at p; exact p.elim
  | some sv =>
    rw [e] at p
    cases sv with
    | exn c =>
      have p : PostQ K C E g H Q ((if c ∈ exs then match PySem.W.kitOne K (.ref c) u with | some b => ret (D.bl b) | none => stuck else stuck) t) := p
      split at p
      · rename_i hc
        cases ek : PySem.W.kitOne K (.ref c) u with
        | none => rw [ek] at p; exact p.elim
        | some b =>
          rw [ek] at p
          obtain ⟨a, h1, h2⟩ := s.ok i _ e
          exact ⟨_, h1, a, c, cv, u, b, rfl, kc, h2, hF c hc, ek, pRetV p w (.bl b)⟩
      · exact p.elim
    | un => exact p.elim
    | val d => exact p.elim
    | own d => exact p.elim
    | dic d => exact p.elim
    | dcT d => exact p.elim
    | raw d => exact p.elim
theorem ce_isE (i : Nat) {exs : List Addr} {x y : Str} {u : Addr} {p q q2 pos : Pos} (hF : ∀ c ∈ exs, ExcF X.K c) (hm : X.mg "isinstance" = none) (hmT : X.mg y = some (.ref u)) (hN : X.N[i]? = some x := by rfl) (hv : Vis X.env.scope x := by first | exact Or.inl rfl | exact Or.inr (Or.inl rfl) | exact Or.inr (Or.inr rfl)) (hd : (x == ("__debug__" : Str)) = false := by decide)
    (hcd : (x == ("__classdict__" : Str)) = false := by decide) (hg : Gl X "isinstance" := by rfl) (hgT : Gl X y := by rfl) (hvi : bootBuiltins "isinstance" = some (.builtin "isinstance") := by decide +kernel) (hdb : (y == ("__debug__" : Str)) = false := by decide)
    (hs : starEach [.Name x q, .Name y q2] X.env = (false, eval (.Name x q) X.env) :: starEach [.Name y q2] X.env := by rfl) (hs2 : starEach [.Name y q2] X.env = (false, eval (.Name y q2) X.env) :: starEach [] X.env := by rfl) (hp : (backTo pos (starEach [.Name y q2] X.env)).any (·.1) = false := by rfl) :
    CE X C E (.Call (.Name "isinstance" p) [.Name x q, .Name y q2] [] pos) (eIsE X.K exs i (.ref u)) :=
  PE.imp (pe_callB call_isX hg hm hvi (pa_cons (pe_var hN hv hd hcd) (pa_cons (pe_glob (v := .ref u) hgT hmT rfl hdb) pa_nil hs2) hs) (by decide) (by decide) hs hp) fun σ H Q ⟨g, S, t, w, s, p⟩ => by
    obtain ⟨v, h1, h2⟩ := isE_of hF (.own u) w s p
    exact ⟨v, h1, h2⟩
theorem ce_isEb (i : Nat) {exs : List Addr} {x y : Str} {n : String} {p q q2 pos : Pos} (hF : ∀ c ∈ exs, ExcF X.K c) (hm : X.mg "isinstance" = none) (hmT : X.mg y = none) (hvT : bootBuiltins y = some (.type n)) (hN : X.N[i]? = some x := by rfl) (hv : Vis X.env.scope x := by first | exact Or.inl rfl | exact Or.inr (Or.inl rfl) | exact Or.inr (Or.inr rfl)) (hd : (x == ("__debug__" : Str)) = false := by decide)
    (hcd : (x == ("__classdict__" : Str)) = false := by decide) (hg : Gl X "isinstance" := by rfl) (hgT : Gl X y := by rfl) (hvi : bootBuiltins "isinstance" = some (.builtin "isinstance") := by decide +kernel) (hnn : y ≠ "__name__" := by decide) (hdb : (y == ("__debug__" : Str)) = false := by decide)
    (hs : starEach [.Name x q, .Name y q2] X.env = (false, eval (.Name x q) X.env) :: starEach [.Name y q2] X.env := by rfl) (hs2 : starEach [.Name y q2] X.env = (false, eval (.Name y q2) X.env) :: starEach [] X.env := by rfl) (hp : (backTo pos (starEach [.Name y q2] X.env)).any (·.1) = false := by rfl) :
    CE X C E (.Call (.Name "isinstance" p) [.Name x q, .Name y q2] [] pos) (eIsE X.K exs i (.type n)) :=
  PE.imp (pe_callB call_isX hg hm hvi (pa_cons (pe_var hN hv hd hcd) (pa_cons (pe_bltn (v := .ty n) hgT hmT hvT rfl hnn hdb) pa_nil hs2) hs) (by decide) (by decide) hs hp) fun σ H Q ⟨g, S, t, w, s, p⟩ => by
    obtain ⟨v, h1, h2⟩ := isE_of hF (.ty n) w s p
    exact ⟨v, h1, h2⟩
/-- x is None, of a slot -/
def eNoE (i : Nat) : Ex := fun S => match S[i]? with
  | some (.val d) => ret (.bl (isN d))
  | some (.exn _) => ret (.bl false)
  | _ => stuck
theorem isE_isN {v : V} {d : D} {K : PySem.W.Frag} {g : G} (r : Rp K g v d) : (v = .non) ↔ isN d = true := by
  cases r <;> first | exact ⟨fun _ => rfl, fun _ => rfl⟩ | (constructor <;> intro h <;> cases h)
theorem ct_noE (i : Nat) {x : Str} {j : Nat} {p p2 pos : Pos} (hN : X.N[i]? = some x := by rfl) (hv : Vis X.env.scope x := by first | exact Or.inl rfl | exact Or.inr (Or.inl rfl) | exact Or.inr (Or.inr rfl)) (hd : (x == ("__debug__" : Str)) = false := by decide)
    (hcd : (x == ("__classdict__" : Str)) = false := by decide) : CT X C E (.Compare (.Name x p) [.Is] [.Constant .none j p2] pos) (eNoE i) := PT.imp (pt_cmp (pc_isN (pe_var hN hv hd hcd))) fun σ H Q ⟨g, S, t, w, s, p⟩ => by
  unfold eNoE at p
  cases e : S[i]? with
  | none => rw [e] at p; exact p.elim
  | some sv =>
    rw [e] at p
    cases sv with
    | exn c =>
      obtain ⟨a, h1, h2⟩ := s.ok i _ e
      obtain ⟨b, eb, q⟩ := postRet p w
      cases eb
      exact ⟨_, h1, _, rfl, q⟩
    | val d =>
      obtain ⟨v, h1, h2⟩ := s.val i d e
      obtain ⟨b, eb, q⟩ := postRet p w
      cases eb
      refine ⟨v, h1, _, rfl, ?_⟩
      have : decide (v = .non) = isN d := by
        rw [Bool.eq_iff_iff, decide_eq_true_iff]
        exact isE_isN h2
      rw [this]; exact q
    | un => exact p.elim
    | own d => exact p.elim
    | dic d => exact p.elim
    | dcT d => exact p.elim
    | raw d => exact p.elim
abbrev ngR : List Str := [Str.ofString "call", Str.ofString "raised", Str.ofString "answer", Str.ofString "e", Str.ofString "some", Str.ofString "names", Str.ofString "name"]
/-- as _law_result tells it -/
def eResM (nm : Nat → Str) (al : Nat → Bool) (m : M D) : M D := fun t => match m t with
  | some (.ok d t') => some (.ok (.tup [.str "returns", d]) t')
  | some (.exc c t') => if al c = true then some (.ok (.tup [.str (nm c)]) t') else none
  | none => none
def eRes (nm : Nat → Str) (al : Nat → Bool) (f : Ex) : Ex := fun S => eResM nm al (f S)
def TTr (K : PySem.W.Frag) (C : Cn) (nm : Nat → Str) (al : Nat → Bool) : (XK → Hp → VK → Prop) → Hp → VK → Prop := fun tl H Q =>
  ∃ (g : G) (t : Tn) (m : M D), Wf C g H t ∧ (∀ (H1 : Hp) (E : XK) (Q' : VK), Stp g H g H1 → Wf C g H1 t → PostQ K C E g H1 Q' (m t) → tl E H1 Q') ∧ PostQ K C E0 g H Q (eResM nm al m t)
abbrev Zc0 (X : Cx) (Ng : List Str) (x : Str) (sg : Scope) (g : Addr) (cdg : Value) (s : Shared) (H : Hp) : Cx := (cxOf C8.CX0 X.prog X.w X.K X.mg X.base Ng x sg g cdg X.A X.stack s H C8.E0).nox
theorem gives_of {Ng : List Str} {sg : Scope} {g : Addr} {cdg : Value} {nm : Nat → Str} {al : Nat → Bool} {q : Str} {CS0 : Addr} {st1 : Stmt} {rest : List Stmt} {bR : Stm} {p1 p2 p3 p4 p5 p6 p7 p8 p9 p10 : Pos}
    (hNg : Ng = ngR) (hnd : Ng.Nodup)
    (h1 : ∀ s H, PS (Zc0 X Ng "_law_result" sg g cdg s H) st1 (fun D σ H => ∀ a, H a = none → D.nx ((σ.set 1 (some .non)).set 2 (some .non)) (upd H a (.tup [.non, .non]))))
    (hme : X.mg "GateError" = some (.ref CS0)) (hgE : sg.names.lookup (Str.ofString "GateError") = some NameKind.globalImplicit)
    (hle : sg.names.lookup (Str.ofString "e") = some NameKind.local) (hla : sg.names.lookup (Str.ofString "answer") = some NameKind.local) (hlr : sg.names.lookup (Str.ofString "raised") = some NameKind.local)
    (hex : ∀ c, al c = true → PySem.W.exmOne X.K (.ref (C.ex c)) (.ref CS0) = some true)
    (hR : ∀ s H, CSs (Zc0 X Ng "_law_result" sg g cdg s H) C E0 rest bR)
    (r1 : ∀ d, bR [.un, .val .non, .val d, .un, .un, .un, .un] = ret (.ret (.tup [.str "returns", d])))
    (r2 : ∀ c, al c = true → bR [.un, .exn (C.ex c), .un, .un, .un, .un, .un] = ret (.ret (.tup [.str (nm c)]))) :
    LamX.GivesTo X Ng "_law_result" sg g cdg (st1 :: .Try [.Assign [.Name "answer" p1] (.Call (.Name "call" p2) [] [] p3) p4] [.ExceptHandler (some (.Name "GateError" p5)) (some "e") [.Assign [.Name "raised" p6] (.Name "e" p7) p8] p9] [] [] p10 :: rest) "call" q (TTr X.K C nm al) := by
  subst hNg
  intro f c' s H Q tl act hc ⟨gg, t, m, w, htl, hq⟩
  refine ⟨_, pss_cons (h1 s H) (pss_cons (ps_try_keep (X := Zc0 X _ "_law_result" sg _ cdg s H) (c := .ref CS0) (i := 3)
      (tb := fun W D σ H => ∃ Ech : XK, (∀ cls d σ' H', Ech cls d H' → W cls d σ' H') ∧ σ[0]? = some (some (.ref f)) ∧ H c' = some (LamX.CodeO c' q) ∧ tl Ech H fun v H' => D.nx (σ.set 2 (some v)) H')
      (ts := fun a D σ H => ∃ v, σ[3]? = some (some v) ∧ D.nx (σ.set 1 (some v)) H)
      rfl rfl rfl hnd rfl hle ⟨hgE, by decide, .inl hme⟩ (fun W pn xe tk => ?_) (fun a oe pn => ?_)) (hR s H)), ?_⟩
  · refine ⟨fun pins s' σ H' D I h' => ?_⟩
    obtain ⟨Ech, hW, h1, h2, h3⟩ := h'
    have hp := act W pn xe Ech p2 p3 tk hW
    have hq := pss_one (ps_set (i := 2) (pos' := p1) (pos := p4) hnd rfl (.inl hla) hp rfl (.inr hla))
    exact hq.run pins s' σ H' D I ⟨h1, h2, h3⟩
  · have hv := pe_var (X := (Zc0 X ngR "_law_result" sg g cdg s H).suite a ((a, oe) :: pn)) (i := 3) (x := Str.ofString "e") (pos := p7) rfl (.inl hle) (by decide) (by decide)
    exact PSs.imp (pss_one (ps_set (i := 1) (pos' := p6) (pos := p8) hnd rfl (.inl hlr) hv rfl (.inr hlr))) fun D σ H ⟨v, h1, h2⟩ => ⟨v, h1, h2⟩
  · intro a0 ha0
    have hst0 : Stp gg H gg (upd H a0 (.tup [.non, .non])) := Stp.lay w ha0
    have hw0 : Wf C gg (upd H a0 (.tup [.non, .non])) t := Wf.lay w ha0
    have hq := hq.stp hst0
    have hc : upd H a0 (.tup [.non, .non]) c' = some (LamX.CodeO c' q) := by rw [upd_ne (ne_of_none hc ha0)]; exact hc
    have htl := fun E Q' h => htl _ E Q' hst0 hw0 h
    clear hst0 w
    have w := hw0
    generalize upd H a0 (.tup [.non, .non]) = H at *
    unfold eResM at hq
    cases e : m t with
    | none => rw [e] at hq; exact hq.elim
    | some o =>
      rw [e] at hq
      cases o with
      | ok d t' =>
        refine ⟨fun _ _ _ => False, fun _ _ _ _ z => z.elim, rfl, hc, htl _ _ ?_⟩
        rw [e]
        intro g1 H1 st1 w1 v rv
        refine ⟨g1, H1, g1, g1, [.un, .val .non, .val d, .un, .un, .un, .un], t', .refl _ _, .refl _, w1, ?_, ?_, ?_⟩
        · refine ⟨rfl, fun j x ej => ?_, fun j k p x y e1 e2 o1 => ?_⟩
          · match j, ej with
            | 0, ej => cases ej; trivial
            | 1, ej => cases ej; exact ⟨.non, rfl, .non⟩
            | 2, ej => cases ej; exact ⟨v, rfl, rv⟩
            | 3, ej => cases ej; trivial
            | 4, ej => cases ej; trivial
            | 5, ej => cases ej; trivial
            | 6, ej => cases ej; trivial
            | (j + 7), ej => simp at ej
          · exfalso
            match j, e1 with
            | 0, e1 => cases e1; cases o1
            | 1, e1 => cases e1; cases o1
            | 2, e1 => cases e1; cases o1
            | 3, e1 => cases e1; cases o1
            | 4, e1 => cases e1; cases o1
            | 5, e1 => cases e1; cases o1
            | 6, e1 => cases e1; cases o1
            | (j + 7), e1 => simp at e1
        · intro j x p e1 o1
          exfalso
          match j, e1 with
          | 0, e1 => cases e1; cases o1
          | 1, e1 => cases e1; cases o1
          | 2, e1 => cases e1; cases o1
          | 3, e1 => cases e1; cases o1
          | 4, e1 => cases e1; cases o1
          | 5, e1 => cases e1; cases o1
          | 6, e1 => cases e1; cases o1
          | (j + 7), e1 => simp at e1
        · rw [r1]
          exact fun g2 H2 st2 w2 u _ ru => hq g2 H2 (st1.trans st2) w2 u ru
      | exc c t' =>
        have hq : PostQ X.K C E0 gg H Q (if al c = true then some (.ok (.tup [.str (nm c)]) t') else none) := hq
        have hc12 : al c = true := by
          cases z : al c with
          | true => rfl
          | false => rw [z] at hq; exact hq.elim
        rw [if_pos hc12] at hq
        refine ⟨fun cls d H' => cls = .ref (C.ex c) ∧ d = none ∧ ∃ g', Stp gg H g' H' ∧ Wf C g' H' t', fun cls d σ' H' ⟨ec, ed, g1, st1, w1⟩ => ?_, rfl, hc, htl _ _ ?_⟩
        · subst ec ed
          refine ⟨hex c hc12, rfl, fun a ha hlen => ⟨.ref a, ?_, ?_⟩⟩
          · rw [List.getElem?_set_self (by rw [hlen]; exact (by decide : (3 : Nat) < 7))]
          have st2 : Stp g1 H' g1 (upd H' a (ExK (.ref (C.ex c)) a)) := Stp.lay w1 ha
          have w2 : Wf C g1 (upd H' a (ExK (.ref (C.ex c)) a)) t' := Wf.lay w1 ha
          have hlen7 : σ'.length = 7 := hlen
          refine ⟨g1, _, g1, g1, [.un, .exn (C.ex c), .un, .un, .un, .un, .un], t', .refl _ _, .refl _, w2, ?_, ?_, ?_⟩
          · refine ⟨by rw [List.length_set, List.length_set, List.length_set]; exact hlen7, fun j x ej => ?_, fun j k p x y e1 e2 o1 => ?_⟩
            · match j, ej with
              | 0, ej => cases ej; trivial
              | 1, ej =>
                cases ej
                refine ⟨a, ?_, upd_same⟩
                rw [List.getElem?_set_ne (by decide), List.getElem?_set_self (by rw [List.length_set, hlen7]; decide)]
              | 2, ej => cases ej; trivial
              | 3, ej => cases ej; trivial
              | 4, ej => cases ej; trivial
              | 5, ej => cases ej; trivial
              | 6, ej => cases ej; trivial
              | (j + 7), ej => simp at ej
            · exfalso
              match j, e1 with
              | 0, e1 => cases e1; cases o1
              | 1, e1 => cases e1; cases o1
              | 2, e1 => cases e1; cases o1
              | 3, e1 => cases e1; cases o1
              | 4, e1 => cases e1; cases o1
              | 5, e1 => cases e1; cases o1
              | 6, e1 => cases e1; cases o1
              | (j + 7), e1 => simp at e1
          · intro j x p e1 o1
            exfalso
            match j, e1 with
            | 0, e1 => cases e1; cases o1
            | 1, e1 => cases e1; cases o1
            | 2, e1 => cases e1; cases o1
            | 3, e1 => cases e1; cases o1
            | 4, e1 => cases e1; cases o1
            | 5, e1 => cases e1; cases o1
            | 6, e1 => cases e1; cases o1
            | (j + 7), e1 => simp at e1
          · rw [r2 c hc12]
            exact fun g3 H3 st3 w3 u _ ru => hq g3 H3 ((st1.trans st2).trans st3) w3 u ru
        · rw [e]
          exact fun g1 H1 st1 w1 => ⟨rfl, rfl, g1, st1, w1⟩
/-- all but the tables stay -/
theorem Stp.extN {g : G} {H H1 : Hp} {t : Tn} (w : Wf C g H t) (e : LamX.ExtN H H1) (hT : LamX.Tabs C.T H1) : Stp g H g H1 ∧ Wf C g H1 t := by
  exact ⟨⟨fun _ _ h => h, .refl g, Twn.refl g H, fun b o h _ n => e b o h n, fun b ⟨o, h, n⟩ => ⟨o, e b o h n, n⟩, fun _ _ => rfl⟩, ⟨fun b o h => e b o (w.fz b o h) fun ps z => w.nft b ps (by rw [h, z]), ⟨w.tw.1.ext fun b kvs h _ => e _ _ h (fun _ z => by cases z), w.tw.2.keep (fun _ _ h => h) (.refl g) ⟨rfl, rfl⟩ fun a ha ho h => by
    obtain ⟨n, o, _, _, ok⟩ := w.tw.2.get ha
    obtain ⟨ho', h1, h2, _⟩ := ok.at
    rw [h] at h1
    cases h1
    exact e _ _ h h2⟩, w.ntw, hT, w.nft⟩⟩
/-- _law_result(lambda: e) -/
theorem ce_res {nm : Nat → Str} {al : Nat → Bool} {g c P : Addr} {k : Nat} {pg : Arguments} {bg : List Stmt} {sg : Scope} {dV kV doc pm cdv ct oc : Value} {an od : Option Addr} {osl : Array (Option Value)} {params : Arguments} {body : Expr} {scope : Scope} {fb : Ex} {p lpos pos : Pos}
    (hm : X.mg "_law_result" = some (.ref g)) (hk : PySem.W.keepIn X.K (.ref g) = true)
    (lk : X.K.lookup g = some ⟨oc, od, .func (PySem.W.fnOf "_law_result" "_law_result" pg bg sg dV kV doc pm an cdv ct), osl⟩) (hcg : PySem.W.codeIn X.K cdv "_law_result" = true) (hb : L2.Binds X.K (PySem.W.fnOf "_law_result" "_law_result" pg bg sg dV kV doc pm an cdv ct) ["call"] []) (Sg : FnScope ngR ["call"] sg) (hva : Vis sg "call")
    (hG : LamX.GivesTo X ngR "_law_result" sg g cdv bg "call" (X.env.qual ++ "<lambda>") (TTr X.K C nm al))
    (TB : LamX.TabB X.base X.mg c P) (hcode : X.env.code = .ref c) (hmT : (P, X.env.qual ++ "<lambda>") ∈ C.T) (hu : ∀ p ∈ C.T, p.1 = P → p.2 = X.env.qual ++ "<lambda>") (hr : Room (k + 2) X.A) (L : LamX.LamS X.env.scope scope)
    (hbody : ∀ (A : Around) (outer : List Env) (s : Shared) (H : Hp) (E : XK) (f c' : Addr), Room k (A.deeper (LamX.lamEnv X scope s.heap.objs.size f c')) → CE (LamX.lamCx X A outer s H E scope f c') C E body fb)
    (hg : Gl X "_law_result" := by rfl) (hdef : defaultsOf params X.env = ([], []) := by rfl)
    (hbind : ∀ (q : Str) (cl : List (Str × Addr)) (pm cv ctv : Value), bindArgs (PySem.W.kla_fn "<lambda>" q params body scope cl pm cv ctv) ⟨[], []⟩ = pure [] := by intros; rfl) :
    CE X C E (.Call (.Name "_law_result" p) [.Lambda params body scope lpos] [] pos) (eRes nm al fb) := by
  refine PE.imp (LamX.pe_lamcall (T := C.T) (TT := TTr X.K C nm al) (t := fun E => tE X.K C E fb) hg hm hk lk hcg hb Sg rfl hva hG TB hcode hmT hu hr L hdef hbind hbody) fun σ H Q ⟨gg, S, t, w, s, q⟩ => ?_
  refine ⟨w.tab, fun H1 e1 T1 => ?_⟩
  obtain ⟨st1, w1⟩ := Stp.extN w e1 T1
  refine ⟨gg, t, fb S, w1, fun H2 E' Q' st2 w2 h => ⟨gg, S, t, w2, (s.stp w st1).stp w1 st2, h⟩, ?_⟩
  have q := q.stp st1
  have q : PostQ X.K C E gg H1 Q (eResM nm al (fb S) t) := q
  unfold eResM at q ⊢
  cases z : fb S t with
  | none => rw [z] at q; exact q.elim
  | some o =>
    rw [z] at q
    cases o with
    | ok d t' => exact q
    | exc c' t' =>
      have q : PostQ X.K C E gg H1 Q (if al c' = true then some (.ok (.tup [.str (nm c')]) t') else none) := q
      show PostQ X.K C E0 gg H1 Q (if al c' = true then some (.ok (.tup [.str (nm c')]) t') else none)
      split
      · rename_i ha; rw [if_pos ha] at q; exact q
      · rename_i ha; rw [if_neg ha] at q; exact q.elim
end
end BG
set_option Elab.async false
set_option linter.all false
set_option maxRecDepth 100000
set_option maxHeartbeats 4000000
namespace BG
open PySem PySem.Spec PyProof.Rows L2
/-- THE RULE for a def whose code object is known -/
theorem fn_okL {P : Program} {w : World} {K : PySem.W.Frag} {mg : Str → Option Value} {base : Heap} {C : Cn} {x qual : Str} {st : Stmt} {f : Addr} {N ps : List Str} {k : Nat} {body : Stm} {kV doc pm cdv ct oc : Value} {an od : Option Addr} {osl : Array (Option Value)}
    (lk : K.lookup f = some ⟨oc, od, .func (PySem.W.fnOf x qual (defArgs st) (defBody st) (defScope st) .none kV doc pm an cdv ct), osl⟩) (hcd : PySem.W.codeIn K cdv qual = true) (S : FnScope N ps (defScope st))
    (hb : ∀ (A : Around) (outer : List Env) (s : Shared) (H : Hp) (E : XK), Room k (A.deeper (envOfC qual (defScope st) s.heap.objs.size f cdv)) →
      CSs (cxOf (L2.CX P w) P w K mg base N qual (defScope st) f cdv A outer s H E) C E (defBody st) body) : FnOk P w K mg base (L2.CX P w) (k + 1) f (PySem.W.fnOf x qual (defArgs st) (defBody st) (defScope st) .none kV doc pm an cdv ct) ps (spF K C ps.length (fnOf N.length body)) := by
  refine fn_of lk hcd S (fun vs H Q E ⟨g, ds, t, r, w, hl, p⟩ => hl) fun A outer s H vs Q E hr ⟨g, ds, t, r, w, hl, p⟩ => ⟨_, hb A outer s H E hr, ?_⟩
  refine ⟨g, H, g, g, _, t, .refl _ _, .refl _, w, SL.start r, OwnF.start, p.bnd0.imp fun fl t1 g1 H1 st1 w1 q => ?_⟩
  cases fl with
  | nx S' => exact fun _ _ _ _ => q g1 H1 st1 w1 _ .non
  | ret d => exact fun v _ r => q g1 H1 st1 w1 v r
/-- the law's own promise, with tables -/
def spLawT (K : PySem.W.Frag) (T : List (Addr × Str)) : Sp := fun vs H Q _ => ∃ (a : Addr) (ns : List Int), vs = [.ref a] ∧ SqL K H a (ns.map V.int) ∧ ns.length ≤ 63 ∧ LamX.Tabs T H ∧ ∀ H', Q (.bl true) H'
theorem law_impT {K : PySem.W.Frag} {C : Cn} {F : Fn} (h : ∀ ns : List Int, ns.length ≤ 63 → ∃ t', F [.scr ns] (none, []) = some (.ok (.bl true) t')) (vs : List V) (H : Hp) (Q : VK) (E : XK) (q : spLawT K C.T vs H Q E) : spF K C 1 F vs H Q E := by
  obtain ⟨a, ns, rfl, sq, hl, hT, q⟩ := q
  exact law_start hT sq (h ns hl) q
end BG
set_option Elab.async false
set_option linter.all false
set_option maxRecDepth 100000
set_option maxHeartbeats 1000000
namespace BG
open PySem L2
def resNm : Nat → Str
  | 0 => "gate" | 1 => "circuit" | 2 => "word" | 3 => "exchange" | 4 => "lines" | 5 => "kinds" | 6 => "function" | 7 => "answers" | 8 => "text" | 9 => "many" | 10 => "empty" | _ => "undo"
def bRes (K : PySem.W.Frag) (C : Cn) (exs : List Addr) : Stm :=
  sSeq (sIf (eNoE 1) (sRet (eTup [eC (.str "returns"), eVar 2])) sNil)
  (sSeq (sDic 4 [("gate", eIsE K exs 1 (.ref (C.ex 0))), ("circuit", eIsE K exs 1 (.ref (C.ex 1)))])
  (sSeq (sDUpd 4 [("word", eIsE K exs 1 (.ref (C.ex 2))), ("exchange", eIsE K exs 1 (.ref (C.ex 3)))])
  (sSeq (sDUpd 4 [("lines", eIsE K exs 1 (.ref (C.ex 4))), ("kinds", eIsE K exs 1 (.ref (C.ex 5)))])
  (sSeq (sDUpd 4 [("function", eIsE K exs 1 (.ref (C.ex 6))), ("answers", eIsE K exs 1 (.ref (C.ex 7)))])
  (sSeq (sDUpd 4 [("text", eIsE K exs 1 (.ref (C.ex 8))), ("many", eIsE K exs 1 (.ref (C.ex 9)))])
  (sSeq (sDUpd 4 [("empty", eIsE K exs 1 (.ref (C.ex 10))), ("undo", eIsE K exs 1 (.ref (C.ex 11)))])
  (sSeq (sFrzD 4 (sAsg 5 (eComp [6] (itDic 4) (gN 6) (eDIx 4 (eVar 6)) (eVar 6))))
  (sRet (eIf (eAnd (eBin pEq (eUn bLen (eVar 5)) (eC (.int 1))) (eIsE K exs 1 (.type "ValueError"))) (eTup [eBin pIdx (eVar 5) (eC (.int 0))]) (eTup [eC (.str "other error")]))))))))))
/-- the facts of the classes that may be raised -/
structure KitF (K : PySem.W.Frag) (C : Cn) (exs : List Addr) (c : Nat) : Prop where
  mem : C.ex c ∈ exs
  kit : ∀ c', c' < 12 → PySem.W.kitOne K (.ref (C.ex c)) (.ref (C.ex c')) = some (decide (c = c'))
  val : PySem.W.kitOne K (.ref (C.ex c)) (.type "ValueError") = some true
theorem bRes1 {K : PySem.W.Frag} {C : Cn} {exs : List Addr} (d : D) : bRes K C exs [.un, .val .non, .val d, .un, .un, .un, .un] = ret (.ret (.tup [.str "returns", d])) := rfl
theorem isE_eq {K : PySem.W.Frag} {C : Cn} {exs : List Addr} {c c' : Nat} {S : Sl} (F : KitF K C exs c) (h : c' < 12) (e : S[1]? = some (.exn (C.ex c))) : eIsE K exs 1 (.ref (C.ex c')) S = ret (.bl (decide (c = c'))) := by
  unfold eIsE
  rw [e]
  show (if C.ex c ∈ exs then _ else _) = _
  rw [if_pos F.mem, F.kit c' h]
theorem isV_eq {K : PySem.W.Frag} {C : Cn} {exs : List Addr} {c : Nat} {S : Sl} (F : KitF K C exs c) (e : S[1]? = some (.exn (C.ex c))) : eIsE K exs 1 (.type "ValueError") S = ret (.bl true) := by
  unfold eIsE
  rw [e]
  show (if C.ex c ∈ exs then _ else _) = _
  rw [if_pos F.mem, F.val]
theorem seq_step {a b : Stm} {S S' : Sl} (h : a S = ret (.nx S')) : sSeq a b S = b S' := by
  unfold sSeq; rw [h]; rfl
theorem evsK2 {x y : Str} {f f' : Ex} {S : Sl} {d d' : D} (h : f S = ret d) (h' : f' S = ret d') : evsK [(x, f), (y, f')] S = ret [(.inr x, d), (.inr y, d')] := by
  show bnd (f S) _ = _
  rw [h]
  show bnd (bnd (f' S) _) _ = _
  rw [h']; rfl
theorem dic_step {i : Nat} {x y : Str} {f f' : Ex} {S : Sl} {d d' : D} (h : f S = ret d) (h' : f' S = ret d') : sDic i [(x, f), (y, f')] S = ret (.nx (S.set i (.dic (dMerge [] [(.inr x, d), (.inr y, d')])))) := by
  unfold sDic; rw [evsK2 h h']; rfl
theorem upd_step {i : Nat} {x y : Str} {f f' : Ex} {S : Sl} {d d' : D} {ks : List (Key × D)} (e : S[i]? = some (.dic ks)) (hl : ks.length < 1000) (h : f S = ret d) (h' : f' S = ret d') : sDUpd i [(x, f), (y, f')] S = ret (.nx (S.set i (.dic (dMerge ks (dMerge [] [(.inr x, d), (.inr y, d')]))))) := by
  unfold sDUpd
  rw [e]
  show bnd (evsK _ S) _ = _
  rw [evsK2 h h']
  show (if ks.length < 1000 then ret (Fl.nx _) else stuck) = _
  rw [if_pos hl]
theorem bRes2 {K : PySem.W.Frag} {C : Cn} {exs : List Addr} {c : Nat} (hc : c < 12) (F : KitF K C exs c) : bRes K C exs [.un, .exn (C.ex c), .un, .un, .un, .un, .un] = ret (.ret (.tup [.str (resNm c)])) := by
  unfold bRes
  have h : ∀ c', c' < 12 → ∀ S : Sl, S[1]? = some (.exn (C.ex c)) → eIsE K exs 1 (.ref (C.ex c')) S = ret (.bl (decide (c = c'))) := fun c' h S e => isE_eq F h e
  have hv : ∀ S : Sl, S[1]? = some (.exn (C.ex c)) → eIsE K exs 1 (.type "ValueError") S = ret (.bl true) := fun S e => isV_eq F e
  rw [seq_step (S' := [.un, .exn (C.ex c), .un, .un, .un, .un, .un]) rfl]
  rw [seq_step (S' := [.un, .exn (C.ex c), .un, .un, .dic [(Sum.inr "gate", .bl (decide (c = 0))), (Sum.inr "circuit", .bl (decide (c = 1)))], .un, .un]) ((dic_step (h 0 (by decide) _ rfl) (h 1 (by decide) _ rfl)).trans (by with_unfolding_all rfl))]
  rw [seq_step (S' := [.un, .exn (C.ex c), .un, .un, .dic [(Sum.inr "gate", .bl (decide (c = 0))), (Sum.inr "circuit", .bl (decide (c = 1))), (Sum.inr "word", .bl (decide (c = 2))), (Sum.inr "exchange", .bl (decide (c = 3)))], .un, .un]) ((upd_step rfl (by simp only [List.length_cons, List.length_nil]; decide) (h 2 (by decide) _ rfl) (h 3 (by decide) _ rfl)).trans (by with_unfolding_all rfl))]
  rw [seq_step (S' := [.un, .exn (C.ex c), .un, .un, .dic [(Sum.inr "gate", .bl (decide (c = 0))), (Sum.inr "circuit", .bl (decide (c = 1))), (Sum.inr "word", .bl (decide (c = 2))), (Sum.inr "exchange", .bl (decide (c = 3))), (Sum.inr "lines", .bl (decide (c = 4))), (Sum.inr "kinds", .bl (decide (c = 5)))], .un, .un]) ((upd_step rfl (by simp only [List.length_cons, List.length_nil]; decide) (h 4 (by decide) _ rfl) (h 5 (by decide) _ rfl)).trans (by with_unfolding_all rfl))]
  rw [seq_step (S' := [.un, .exn (C.ex c), .un, .un, .dic [(Sum.inr "gate", .bl (decide (c = 0))), (Sum.inr "circuit", .bl (decide (c = 1))), (Sum.inr "word", .bl (decide (c = 2))), (Sum.inr "exchange", .bl (decide (c = 3))), (Sum.inr "lines", .bl (decide (c = 4))), (Sum.inr "kinds", .bl (decide (c = 5))), (Sum.inr "function", .bl (decide (c = 6))), (Sum.inr "answers", .bl (decide (c = 7)))], .un, .un]) ((upd_step rfl (by simp only [List.length_cons, List.length_nil]; decide) (h 6 (by decide) _ rfl) (h 7 (by decide) _ rfl)).trans (by with_unfolding_all rfl))]
  rw [seq_step (S' := [.un, .exn (C.ex c), .un, .un, .dic [(Sum.inr "gate", .bl (decide (c = 0))), (Sum.inr "circuit", .bl (decide (c = 1))), (Sum.inr "word", .bl (decide (c = 2))), (Sum.inr "exchange", .bl (decide (c = 3))), (Sum.inr "lines", .bl (decide (c = 4))), (Sum.inr "kinds", .bl (decide (c = 5))), (Sum.inr "function", .bl (decide (c = 6))), (Sum.inr "answers", .bl (decide (c = 7))), (Sum.inr "text", .bl (decide (c = 8))), (Sum.inr "many", .bl (decide (c = 9)))], .un, .un]) ((upd_step rfl (by simp only [List.length_cons, List.length_nil]; decide) (h 8 (by decide) _ rfl) (h 9 (by decide) _ rfl)).trans (by with_unfolding_all rfl))]
  rw [seq_step (S' := [.un, .exn (C.ex c), .un, .un, .dic [(Sum.inr "gate", .bl (decide (c = 0))), (Sum.inr "circuit", .bl (decide (c = 1))), (Sum.inr "word", .bl (decide (c = 2))), (Sum.inr "exchange", .bl (decide (c = 3))), (Sum.inr "lines", .bl (decide (c = 4))), (Sum.inr "kinds", .bl (decide (c = 5))), (Sum.inr "function", .bl (decide (c = 6))), (Sum.inr "answers", .bl (decide (c = 7))), (Sum.inr "text", .bl (decide (c = 8))), (Sum.inr "many", .bl (decide (c = 9))), (Sum.inr "empty", .bl (decide (c = 10))), (Sum.inr "undo", .bl (decide (c = 11)))], .un, .un]) ((upd_step rfl (by simp only [List.length_cons, List.length_nil]; decide) (h 10 (by decide) _ rfl) (h 11 (by decide) _ rfl)).trans (by with_unfolding_all rfl))]
  have key : ∀ c, c < 12 → ∀ a : Addr, (sFrzD 4 (sAsg 5 (eComp [6] (itDic 4) (gN 6) (eDIx 4 (eVar 6)) (eVar 6)))) [.un, .exn a, .un, .un, .dic [(Sum.inr "gate", .bl (decide (c = 0))), (Sum.inr "circuit", .bl (decide (c = 1))), (Sum.inr "word", .bl (decide (c = 2))), (Sum.inr "exchange", .bl (decide (c = 3))), (Sum.inr "lines", .bl (decide (c = 4))), (Sum.inr "kinds", .bl (decide (c = 5))), (Sum.inr "function", .bl (decide (c = 6))), (Sum.inr "answers", .bl (decide (c = 7))), (Sum.inr "text", .bl (decide (c = 8))), (Sum.inr "many", .bl (decide (c = 9))), (Sum.inr "empty", .bl (decide (c = 10))), (Sum.inr "undo", .bl (decide (c = 11)))], .un, .un] = ret (.nx [.un, .exn a, .un, .un, .val (.dct [Sum.inr "gate", Sum.inr "circuit", Sum.inr "word", Sum.inr "exchange", Sum.inr "lines", Sum.inr "kinds", Sum.inr "function", Sum.inr "answers", Sum.inr "text", Sum.inr "many", Sum.inr "empty", Sum.inr "undo"] [.bl (decide (c = 0)), .bl (decide (c = 1)), .bl (decide (c = 2)), .bl (decide (c = 3)), .bl (decide (c = 4)), .bl (decide (c = 5)), .bl (decide (c = 6)), .bl (decide (c = 7)), .bl (decide (c = 8)), .bl (decide (c = 9)), .bl (decide (c = 10)), .bl (decide (c = 11))]), .val (.lst [.str (resNm c)]), .un]) := by
    intro c hc a
    match c, hc with
    | 0, _ => with_unfolding_all rfl
    | 1, _ => with_unfolding_all rfl
    | 2, _ => with_unfolding_all rfl
    | 3, _ => with_unfolding_all rfl
    | 4, _ => with_unfolding_all rfl
    | 5, _ => with_unfolding_all rfl
    | 6, _ => with_unfolding_all rfl
    | 7, _ => with_unfolding_all rfl
    | 8, _ => with_unfolding_all rfl
    | 9, _ => with_unfolding_all rfl
    | 10, _ => with_unfolding_all rfl
    | 11, _ => with_unfolding_all rfl
    | n + 12, h => omega
  rw [seq_step (key c hc _)]
  have cond : ∀ (S : Sl), S[1]? = some (.exn (C.ex c)) → S[5]? = some (.val (.lst [.str (resNm c)])) → eAnd (eBin pEq (eUn bLen (eVar 5)) (eC (.int 1))) (eIsE K exs 1 (.type "ValueError")) S = ret (.bl true) := fun S e1 e5 => by
    have e : eBin pEq (eUn bLen (eVar 5)) (eC (.int 1)) S = ret (.bl true) := by
      unfold eBin eUn eVar; rw [e5]; rfl
    unfold eAnd
    rw [e]
    exact hv S e1
  unfold sRet eIf
  rw [cond _ rfl rfl]
  rfl
end BG
set_option Elab.async false
set_option linter.all false
set_option maxRecDepth 100000
set_option maxHeartbeats 4000000
namespace BG
open PySem PySem.Spec PyProof.Rows L2
/-- all that is asked of the exception classes -/
def excOk (K : PySem.W.Frag) (GE : Addr) (ex : Nat → Addr) : Bool :=
  decide (PySem.W.specialIn K (.builtin "object.__class__") "__get__" = some (some (.builtin "getset_descriptor.__get__"))) && (decide (PySem.W.takesIn K (.builtin "object.__class__") = some true) &&
  (List.range 12).all fun c => (PySem.W.clsIn K (ex c)).isSome && (decide (PySem.W.findIn K (.ref (ex c)) "__getattribute__" = some (some (.builtin "BaseException.__getattribute__"))) &&
    ((PySem.W.findIn K (.ref (ex c)) "__getattr__").isSome && (decide (PySem.W.subIn K (.ref (ex c)) (.type "BaseException") = some true) && (decide (PySem.W.findIn K (.ref (ex c)) "__class__" = some (some (.builtin "object.__class__"))) &&
    (decide (PySem.W.mroIn K (ex c) (.type "object") = some true) && (decide (PySem.W.kitOne K (.ref (ex c)) (.type "ValueError") = some true) && (decide (PySem.W.exmOne K (.ref (ex c)) (.ref GE) = some true) &&
    (List.range 12).all fun c' => decide (PySem.W.kitOne K (.ref (ex c)) (.ref (ex c')) = some (decide (c = c')))))))))))
def exs12 (ex : Nat → Addr) : List Addr := (List.range 12).map ex
def al12 (c : Nat) : Bool := decide (c < 12)
structure ExcAll (K : PySem.W.Frag) (GE : Addr) (C : Cn) : Prop where
  F : ∀ c ∈ exs12 C.ex, ExcF K c
  kit : ∀ c, c < 12 → KitF K C (exs12 C.ex) c
  exm : ∀ c, al12 c = true → PySem.W.exmOne K (.ref (C.ex c)) (.ref GE) = some true
theorem excOk_all {K : PySem.W.Frag} {GE : Addr} {C : Cn} (h : excOk K GE C.ex = true) : ExcAll K GE C := by
  unfold excOk at h
  simp only [Bool.and_eq_true, decide_eq_true_eq, List.all_eq_true, List.mem_range] at h
  obtain ⟨g1, g2, g3⟩ := h
  refine ⟨fun c hc => ?_, fun c hc => ?_, fun c hc => ?_⟩
  · obtain ⟨i, hi, rfl⟩ := List.mem_map.mp hc
    obtain ⟨h1, h2, h3, h4, h5, h6, h7, h8, h9⟩ := g3 i (List.mem_range.mp hi)
    exact ⟨h1, h2, Option.isSome_iff_exists.mp h3, h4, h5, g1, g2, h6⟩
  · obtain ⟨h1, h2, h3, h4, h5, h6, h7, h8, h9⟩ := g3 c hc
    exact ⟨List.mem_map.mpr ⟨c, List.mem_range.mpr hc, rfl⟩, fun c' hc' => h9 c' hc', h7⟩
  · obtain ⟨h1, h2, h3, h4, h5, h6, h7, h8, h9⟩ := g3 c (of_decide_eq_true hc)
    exact h8
/-- a def that makes lambdas: its code object, its table -/
structure LamD (base : Heap) (mg : Str → Option Value) (C : Cn) (x : Str) (c : Addr) : Prop where
  ex : ∃ P, LamX.TabB base mg c P ∧ (P, x ++ ".<locals>." ++ "<lambda>") ∈ C.T ∧ ∀ p ∈ C.T, p.1 = P → p.2 = x ++ ".<locals>." ++ "<lambda>"
theorem passM {X : Cx} {A : Around} {outer : List Env} {s : Shared} {H : Hp} {E : XK} {scope : Scope} {f c' : Addr} : Passes (L2.CX (LamX.lamCx X A outer s H E scope f c').prog (LamX.lamCx X A outer s H E scope f c').w) (LamX.lamCx X A outer s H E scope f c') E := passes_call (X := LamX.lamCx X A outer s H E scope f c') (W := fun cls d _ H => E cls d H) (takes_of rfl rfl rfl rfl) fun _ _ _ _ h => h
theorem tabIn_of {K : PySem.W.Frag} {x : Str} {f c P : Addr} {oc oc' : Value} {od od' : Option Addr} {fd : FuncData} {vs : Array Value} {sl sl' : Array (Option Value)} (h1 : PySem.W.nsIn K mainGlobals x = some (some (.ref f))) (h2 : K.lookup f = some ⟨oc, od, .func fd, sl⟩) (h3 : fd.code = .ref c) (h4 : K.lookup c = some ⟨oc', od', .fields vs, sl'⟩) (h5 : vs[11]? = some (.ref P)) : PySem.W.tabIn K x = some (c, P) := by
  unfold PySem.W.tabIn
  rw [h1]
  simp only [h2, h3, h4, h5]
theorem walk_ofTab {l : PySem.W.OpenLaw} {n k : Nat} {q : Program} {loose : List Str} {XP : (Str → Option Value) → Heap → Prop} {YP : World → Heap → Prop} {d : DefRec} {K : Params → PySem.W.Frag} {CX : World → CXT} {x : Str}
    (hn : l.most = some n) (hn2 : n ≤ sizeLine) (hdf : d.params.defaults = []) (hr : Room k callerA) (hY : ∀ (w : World) (h : Heap), YP w h → (K w.params).In h)
    (F : ∀ (w : World) (mg : Str → Option Value) (fa : Addr) (h : Heap), YP w h → (K w.params).In h → h.Ns mainGlobals mg → mg d.name = some (.ref fa) →
      (∀ (x : Str) (c P : Addr), ((recsOf q).find? fun e => e.name == x).isSome = true → PySem.W.tabIn (K w.params) x = some (c, P) → PySem.W.CodeHd h c P ∧ h.get? P = some (PySem.W.tabObj #[])) → LamX.LawAtS l w (K w.params) (CX w) k n x mg fa h)
    (hCX : ∀ (w : World) (H : Hp) (s : Shared) (e : Value) (s' : Shared), CX w [] H s (fun _ _ _ => False) e s' → False) :
    PySem.W.WalkO q loose XP YP l.row.toRowW d [] (fun f vs => PySem.call f vs) := by
  refine Att.attach_callB hn hdf fun w s₀ s₁ mg mb fa o pm cd doc a vs ns G Y ho hd hcd hmg hobj hints hlen hbits hg => ?_
  have KX := hY w _ Y
  obtain ⟨fd, cs, sp, hT, nT, C, hb, hsp, hF⟩ := F w mg fa _ Y KX G.T.g hmg fun x c P h1 h2 => by
    obtain ⟨d', hd'⟩ := Option.isSome_iff_exists.mp h1
    exact PySem.W.tab_of G.T KX hd' h2
  exact LamX.law_callTs KX G.T.g G.T.b G.T.builtins G.T.nolimit hg hT nT C G.T.bmain hobj hints (Nat.le_trans hlen hn2) hr hF hb (fun H hH hS => hsp H a ns hlen hbits hH hS) fun H e s' => hCX w H s₁ e s'
end BG
set_option Elab.async false
set_option linter.all false
set_option maxRecDepth 100000
set_option maxHeartbeats 4000000
namespace BG
open PySem PySem.Spec PyProof.Rows L2
theorem PGs.imp {X : Cx} {e : List Expr} {t t' : TGs} (h : PGs X e t) (f : ∀ v σ H Q, t' v σ H Q → t v σ H Q) : PGs X e t' := ⟨fun pins s σ H v u Q I r q => h.run pins s σ H v u Q I r (f v σ H Q q)⟩
end BG
set_option Elab.async false
set_option linter.all false
set_option maxRecDepth 100000
set_option maxHeartbeats 4000000
namespace BG
open PySem PySem.Spec PyProof.Rows L2
open AutoSeq1 (wpAny_loadPart')
end BG
set_option Elab.async false
set_option linter.all false
set_option maxRecDepth 100000
set_option maxHeartbeats 4000000
namespace BG
open PySem PySem.Spec PyProof.Rows L2
section
variable {X : Cx} {C : Cn} {E : XK}
theorem SqN.ty {pins : List (Addr × Obj)} {σ : L2.St} {H : Hp} {s : Shared} {a : Addr} {xs : List V} (I : Inv X pins σ H s) (h : SqN X.K H a xs) : s.TypeIs (.ref a) "tuple" ∧ ∃ ob, s.heap.get? a = some ob ∧ ob.dict = none := by
  rcases h with ⟨o, h, hd, hc⟩ | ⟨o, its, n, hk, hc, _, _, _, hd⟩
  · obtain ⟨g1, _⟩ := I.hok a _ h
    exact ⟨⟨o, g1, hc⟩, o, g1, hd⟩
  · have g1 := I.kIn a o hk
    exact ⟨⟨o, g1, hc⟩, o, g1, hd⟩
/-- data that are read -/
theorem RpW.reads {pins : List (Addr × Obj)} {σ : L2.St} {H : Hp} {s : Shared} {g : G} {t : Tn} {v : V} {u : Value} {d : D} (I : Inv X pins σ H s) (w : Wf C g H t) (r : RpW X.K g H v d) (o : okD d 60 = true) (rv : RelV v u) : ∃ as, Reads s.heap u d.py as := Dp.reads I _ _ _ (RpW.dp w r o) rv
end
end BG
set_option Elab.async false
set_option linter.all false
set_option maxRecDepth 100000
set_option maxHeartbeats 4000000
namespace BG
open PySem PySem.Spec PyProof.Rows L2
end BG
set_option Elab.async false
set_option linter.all false
set_option maxRecDepth 100000
set_option maxHeartbeats 4000000
namespace BG
open PySem PySem.Spec PyProof.Rows L2
end BG
set_option Elab.async false
set_option linter.all false
set_option maxRecDepth 100000
set_option maxHeartbeats 4000000
namespace BG
open PySem PySem.Spec PyProof.Rows L2
section
variable {X : Cx} {C : Cn} {E : XK}
/-- the whole object of a nice tuple -/
theorem SqN.obj {pins : List (Addr × Obj)} {σ : L2.St} {H : Hp} {s : Shared} {a : Addr} {xs : List V} (I : Inv X pins σ H s) (h : SqN X.K H a xs) : ∃ o its n, s.heap.get? a = some o ∧ o.cls = .type "tuple" ∧ o.dict = none ∧ o.data = .seq its n ∧ Vals xs its.toList ∧ xs.length ≤ sizeLine := by
  obtain ⟨_, ob, k2, k3⟩ := h.ty I
  obtain ⟨us, r, ⟨o, ho, hc, n, hd⟩, hz⟩ := I.tuple h.t
  rw [k2] at ho
  cases ho
  exact ⟨ob, us.toArray, n, k2, hc, k3, hd, by simpa using r, hz⟩
end
end BG
set_option Elab.async false
set_option linter.all false
set_option maxRecDepth 100000
set_option maxHeartbeats 4000000
namespace BG
open PySem PySem.Spec PyProof.Rows L2
end BG
set_option Elab.async false
set_option linter.all false
set_option maxRecDepth 100000
set_option maxHeartbeats 4000000
namespace BG
open PySem PySem.Spec PyProof.Rows L2
section
variable {X : Cx} {C : Cn} {E : XK}
theorem intsD_map : ∀ n : List Int, intsD (n.map D.int) = some n
  | [] => rfl
  | x :: n => by
    show (intsD (n.map D.int)).map (x :: ·) = _
    rw [intsD_map n]; rfl
end
end BG
set_option Elab.async false
set_option linter.all false
set_option maxRecDepth 100000
set_option maxHeartbeats 4000000
namespace BG
open PySem PySem.Spec PyProof.Rows L2 RZ
end BG
set_option Elab.async false
set_option linter.all false
set_option maxRecDepth 100000
set_option maxHeartbeats 4000000
namespace BG
open PySem PySem.Spec PyProof.Rows L2
def Txt (P : Program) (w : World) (e : Int × Value) : Prop := ∃ x t, e.2 = Value.str x t ∧ e.1 = (PySem.strKind P w).hash x
end BG
set_option Elab.async false
set_option linter.all false
set_option maxRecDepth 100000
set_option maxHeartbeats 4000000
namespace BG
open PySem PySem.Spec PyProof.Rows L2
section
variable {X : Cx} {C : Cn} {E : XK}
def strsD : List D → Option (List Str)
  | [] => some []
  | .str x :: r => match strsD r with
    | some l => some (x :: l)
    | none => none
  | _ => none
theorem RpA.strsD {K : PySem.W.Frag} {g : G} : ∀ {ds : List D} {vs : List V} {xs : List Str}, RpA K g vs ds → BG.strsD ds = some xs → vs = xs.map V.str
  | [], _, xs, h, e => by
    cases h
    have e : some ([] : List Str) = some xs := e
    cases e; rfl
  | d :: ds, _, xs, h, e => by
    cases h with
    | cons a b =>
      cases d with
      | str x =>
        cases a
        have e : (match BG.strsD ds with | some l => some (x :: l) | none => none) = some xs := e
        cases z : BG.strsD ds with
        | none => rw [z] at e; cases e
        | some l =>
          rw [z] at e
          cases e
          rw [RpA.strsD b z]; rfl
      | _ => cases e
end
end BG
set_option Elab.async false
set_option linter.all false
set_option maxRecDepth 100000
set_option maxHeartbeats 4000000
namespace BG
open PySem PySem.Spec PyProof.Rows L2
section
variable {X : Cx} {pins : List (Addr × Obj)} {σ : L2.St} {H : Hp} {s : Shared}
/-- the keys' tuples are there -/
def KeysIn (K : PySem.W.Frag) (H : Hp) (L : List (List Int × Addr × V)) : Prop := ∀ x ∈ L, SqT K H x.2.1 (x.1.map V.int)
theorem RpA.ints_inv {K : PySem.W.Frag} {g : G} : ∀ {k : List Int} {vs : List V}, RpA K g vs (k.map D.int) → vs = k.map V.int
  | [], _, h => by cases h; rfl
  | i :: k, _, h => by
    cases h with
    | cons a b =>
      cases a
      rw [RpA.ints_inv b]; rfl
theorem RpD.kin {K : PySem.W.Frag} {C : Cn} {g : G} {H : Hp} {t : Tn} {L : DL} {ks : List (List Int × D)} (r : RpD K g L ks) (w : Wf C g H t) : KeysIn K H L.2 := fun x hx => by
  have := r.kt x hx
  cases this with
  | tup sq ra =>
    have := RpA.ints_inv ra
    subst this
    exact Same.tseq w.fz sq.t
end
end BG
set_option Elab.async false
set_option linter.all false
set_option maxRecDepth 100000
set_option maxHeartbeats 4000000
namespace BG
open PySem PySem.Spec PyProof.Rows L2
/-- a code object is no dict -/
theorem code_ne {q : Str} {p : Addr} {L : DL} (e : LamX.CodeO p q = DkO p L) : False := by
  obtain ⟨h, e1⟩ := heap_size p
  have at_ : (h.push { cls := .none, data := .fields #[.none, .str q 0] }).get? p = some { cls := .none, data := .fields #[.none, .str q 0] } := by
    have := Heap.get?_push_size h (o := { cls := .none, data := .fields #[.none, .str q 0] }) rfl
    rw [e1] at this; exact this
  unfold LamX.CodeO DkO at e
  injection e with e
  have k : (fun h : Heap => ∃ (oc : Obj) (vs : Array Value) (t : Tok), h.get? p = some oc ∧ oc.data = .fields vs ∧ vs[1]? = some (.str q t)) (h.push { cls := .none, data := .fields #[.none, .str q 0] }) := ⟨_, _, 0, at_, rfl, rfl⟩
  rw [e] at k
  obtain ⟨o, es, us, ho, _, hd, _⟩ := k
  rw [at_] at ho
  cases ho
  cases hd
section
variable {X : Cx} {C : Cn} {E : XK}
theorem RpD.length {K : PySem.W.Frag} {g : G} {L : DL} {ks : List (List Int × D)} (r : RpD K g L ks) : L.2.length = ks.length := by
  have := congrArg List.length r.keys
  rw [List.length_map, List.length_map] at this
  exact this
/-- x[k] -/
def tLook (ks : List (List Int × D)) (y : List Int) : Option D := (ks.find? fun p => decide (p.1 = y)).map (·.2)
theorem tLook_ix : ∀ {ks : List (List Int × D)} {y : List Int} {d : D}, tLook ks y = some d → ∃ (i : Nat), ks[i]? = some (y, d)
  | [], _, _, h => by cases h
  | p :: ks, y, d, h => by
    unfold tLook at h
    rw [List.find?_cons] at h
    by_cases c : p.1 = y
    · rw [decide_eq_true c] at h
      have h : some p.2 = some d := h
      cases h
      exact ⟨0, by rw [← c]; rfl⟩
    · rw [decide_eq_false c] at h
      obtain ⟨i, hi⟩ := tLook_ix (ks := ks) h
      exact ⟨i + 1, hi⟩
theorem RpA.getR {K : PySem.W.Frag} {g : G} : ∀ {vs : List V} {ds : List D} {i : Nat} {d : D}, RpA K g vs ds → ds[i]? = some d → ∃ v, vs[i]? = some v ∧ Rp K g v d
  | _, _, 0, _, .cons a b, h => by cases h; exact ⟨_, rfl, a⟩
  | _, _, i + 1, _, .cons a b, h => RpA.getR (i := i) b h
  | _, _, i, _, .nil, h => by simp at h
theorem RpD.look {K : PySem.W.Frag} {g : G} {L : DL} {ks : List (List Int × D)} {y : List Int} {d : D} (r : RpD K g L ks) (h : tLook ks y = some d) : ∃ (i : Nat) (l : List Int × Addr × V), L.2[i]? = some l ∧ l.1 = y ∧ Rp K g l.2.2 d := by
  obtain ⟨i, hi⟩ := tLook_ix h
  have hk : (ks.map (·.1))[i]? = some y := by rw [List.getElem?_map, hi]; rfl
  have hd : (ks.map (·.2))[i]? = some d := by rw [List.getElem?_map, hi]; rfl
  obtain ⟨v, hv, rv⟩ := r.vs.getR hd
  rw [← r.keys, List.getElem?_map] at hk
  rw [List.getElem?_map] at hv
  cases e : L.2[i]? with
  | none => rw [e] at hk; cases hk
  | some l =>
    rw [e] at hk hv
    cases hk
    cases hv
    exact ⟨i, l, e, rfl, rv⟩
end
end BG
set_option Elab.async false
set_option linter.all false
set_option maxRecDepth 100000
set_option maxHeartbeats 4000000
namespace BG
open PySem PySem.Spec PyProof.Rows L2
end BG
set_option Elab.async false
set_option linter.all false
set_option maxRecDepth 100000
set_option maxHeartbeats 4000000
namespace BG
open PySem PySem.Spec PyProof.Rows L2
end BG
set_option Elab.async false
set_option linter.all false
set_option maxRecDepth 100000
set_option maxHeartbeats 4000000
namespace BG
open PySem PySem.Spec PyProof.Rows L2
end BG
set_option Elab.async false
set_option linter.all false
set_option maxRecDepth 100000
set_option maxHeartbeats 4000000
namespace BL
open PySem PySem.Spec PyProof.Rows L2 BG
def c_KINDS : D := (.tup [(.str "both"), (.str "if"), (.str "not"), (.str "pick"), (.str "swap")])
def c_LONGEST : D := (.int 20)
def b_is_between : Stm := (sRet (eAnd (eUn (pIsi .int) (eVar 0)) (eAnd (eUn oNot (eUn (pIsi .bool) (eVar 0))) (eChain pLe pLe (eVar 1) (eVar 0) (eVar 2)))))
def f_is_between : Fn := fnOf 3 b_is_between
def b_is_gate : Stm := (sSeq (sIf (eOr (eUn oNot (eUn (pIsi .tuple) (eVar 0))) (eOr (eBin pEq (eVar 0) (eTup [])) (eOr (eUn oNot (eUn (pIsi .str) (eBin pIdx (eVar 0) (eC (.int 0))))) (eBin pNotIn (eBin pIdx (eVar 0) (eC (.int 0))) (eC c_KINDS))))) (sRet (eC (.bl false))) sNil)
    (sSeq (sPar 1 2 (eBin pIdx (eVar 0) (eC (.int 0))) (eSlice (eVar 0) (some (eC (.int 1))) none))
    (sSeq (sIf (eOr (eUn oNot (eUn bAll (eComp [3] (itSeq (eVar 2)) (gN 3) (eC (.bl true)) (eCall f_is_between [(eVar 3), (eC (.int 0)), (eC (.int 2))])))) (eBin pNe (eUn pLenSet (eVar 2)) (eUn bLen (eVar 2)))) (sRet (eC (.bl false))) sNil)
    (sSeq (sIf (eBin pNe (eUn bLen (eVar 2)) (eIf (eBin pEq (eVar 1) (eC (.str "not"))) (eC (.int 1)) (eIf (eBin pIn (eVar 1) (eTup [(eC (.str "if")), (eC (.str "swap"))])) (eC (.int 2)) (eC (.int 3))))) (sRet (eC (.bl false))) sNil)
    (sSeq (sIf (eOr (eBin pEq (eVar 1) (eC (.str "both"))) (eBin pEq (eVar 1) (eC (.str "swap")))) (sRet (eBin pLt (eBin pIdx (eVar 2) (eC (.int 0))) (eBin pIdx (eVar 2) (eC (.int 1))))) sNil)
    (sRet (eOr (eBin pNe (eVar 1) (eC (.str "pick"))) (eBin pLt (eBin pIdx (eVar 2) (eC (.int 1))) (eBin pIdx (eVar 2) (eC (.int 2)))))))))))
def f_is_gate : Fn := fnOf 4 b_is_gate
def b_is_circuit : Stm := (sRet (eAnd (eUn (pIsi .tuple) (eVar 0)) (eAnd (eBin pLe (eUn bLen (eVar 0)) (eC c_LONGEST)) (eUn bAll (eComp [1] (itSeq (eVar 0)) (gN 1) (eC (.bl true)) (eCall f_is_gate [(eVar 1)]))))))
def f_is_circuit : Fn := fnOf 2 b_is_circuit
def b_is_exchange : Stm := (sSeq (sIf (eOr (eUn oNot (eUn (pIsi .tuple) (eVar 0))) (eOr (eBin pNe (eUn bLen (eVar 0)) (eC (.int 8))) (eUn oNot (eUn bAll (eComp [1] (itSeq (eVar 0)) (gN 1) (eC (.bl true)) (eCall f_is_between [(eVar 1), (eC (.int 0)), (eC (.int 7))])))))) (sRet (eC (.bl false))) sNil)
    (sRet (eBin pEq (eUn pLenSet (eVar 0)) (eC (.int 8)))))
def f_is_exchange : Fn := fnOf 2 b_is_exchange
def b_law_draw : Stm := (sSeq (sTC 1 (eBin pAdd (eTC 1) (eC (.int 1))))
    (sSeq (sAsg 3 (eIf (eScr 0) (eBin pMod (eTC 1) (eUn bLen (eVar 0))) (eC (.int 0))))
    (sSeq (sAsg 4 (eTR 1 (eVar 3) (eIf (eScr 0) (eBin pIdx (eVar 0) (eVar 3)) (eC (.int 0)))))
    (sSeq (sIf (eBin pGe (eVar 4) (eBin pPow (eC (.int 10)) (eC (.int 18)))) (sSeq (sTR 1 (eVar 3) (eBin pDiv (eVar 4) (eVar 2)))
    (sRet (eBin pMod (eVar 4) (eVar 2)))) sNil)
    (sSeq (sAsg 5 (eBin pMod (eBin pAdd (eVar 4) (eBin pMul (eC (.int 104729)) (eTC 1))) (eC (.int 4294967291))))
    (sSeq (sAsg 5 (eBin pMod (eBin pPow (eVar 5) (eC (.int 5))) (eC (.int 4294967279))))
    (sRet (eBin pMod (eBin pDiv (eBin pMod (eBin pAdd (eBin pMul (eBin pDiv (eVar 5) (eC (.int 64))) (eC (.int 69621))) (eVar 5)) (eC (.int 4294967231))) (eC (.int 8))) (eVar 2)))))))))
def f_law_draw : Fn := fnOf 6 b_law_draw
def b_law_begun : Stm := (sRet eBegun)
def f_law_begun : Fn := fnOf 0 b_law_begun
def b_law_gates : Stm := (sSeq (sOwn 0 (eLst []))
    (sSeq (sFor (itRange1 (eC (.int 3))) (gN 1)
    (sSeq (sApp 0 (eTup [(eC (.str "not")), (eVar 1)]))
    (sSeq (sFor (itRange1 (eC (.int 3))) (gN 2)
    (sExt 0 (eIf (eBin pNe (eVar 1) (eVar 2)) (eLst [(eTup [(eC (.str "if")), (eVar 1), (eVar 2)])]) (eLst []))))
    (sSeq (sAsg 3 (eComp [4] (itRange1 (eC (.int 3))) (gN 4) (eBin pNe (eVar 4) (eVar 1)) (eVar 4)))
    (sSeq (sApp 0 (eTup [(eC (.str "both")), (eBin pIdx (eVar 3) (eC (.int 0))), (eBin pIdx (eVar 3) (eC (.int 1))), (eVar 1)]))
    (sSeq (sApp 0 (eTup [(eC (.str "swap")), (eBin pIdx (eVar 3) (eC (.int 0))), (eBin pIdx (eVar 3) (eC (.int 1)))]))
    (sApp 0 (eTup [(eC (.str "pick")), (eVar 1), (eBin pIdx (eVar 3) (eC (.int 0))), (eBin pIdx (eVar 3) (eC (.int 1)))]))))))))
    (sRet (eUn bSortedA (ePeek 0)))))
def f_law_gates : Fn := fnOf 5 b_law_gates
def b_law_circuit : Stm := (sSeq (sAsg 4 (eComp [5] (itSeq (eCall f_law_gates [])) (gN 5) (eBin pIn (eBin pIdx (eVar 5) (eC (.int 0))) (eVar 2)) (eVar 5)))
    (sRet (eUn bTuple (eComp [6] (itRange1 (eCall f_law_draw [(eVar 0), (eVar 1), (eBin pAdd (eVar 3) (eC (.int 1)))])) (gN 6) (eC (.bl true)) (eBin pIdx (eVar 4) (eCall f_law_draw [(eVar 0), (eVar 1), (eUn bLen (eVar 4))]))))))
def f_law_circuit : Fn := fnOf 7 b_law_circuit
def b_law_exchange : Stm := (sSeq (sParO 2 3 (eUn pRng (eC (.int 8))) (eLst []))
    (sSeq (sFor (itRange1 (eC (.int 8))) (gN 4)
    (sSeq (sAsg 5 (eCall f_law_draw [(eVar 0), (eVar 1), (eUn bLen (eVar 2))]))
    (sSeq (sApp 3 (eBin pIdx (eVar 2) (eVar 5)))
    (sAsg 2 (eBin pAdd (eSlice (eVar 2) none (some (eVar 5))) (eSlice (eVar 2) (some (eBin pAdd (eVar 5) (eC (.int 1)))) none))))))
    (sRet (eUn bTuple (ePeek 3)))))
def f_law_exchange : Fn := fnOf 6 b_law_exchange
def b_check_circuit : Stm := (sIf (eUn oNot (eCall f_is_circuit [(eVar 0)])) (sRaise 1) sNil)
def f_check_circuit : Fn := fnOf 1 b_check_circuit
def b_check_exchange : Stm := (sIf (eUn oNot (eCall f_is_exchange [(eVar 0)])) (sRaise 3) sNil)
def f_check_exchange : Fn := fnOf 1 b_check_exchange
end BL
set_option Elab.async false
set_option linter.all false
set_option maxRecDepth 100000
set_option maxHeartbeats 4000000
namespace BG
open PySem PySem.Spec PyProof.Rows L2
section
variable {K : PySem.W.Frag} {C : Cn} {g : G} {H : Hp} {t : Tn} {v : V} {n : Nat} {o : Ob × Nat}
theorem Rp.ob (r : Rp K g v (.hnd n)) (w : Wf C g H t) (e : t.2[n]? = some o) : ∃ a, v = .ref a ∧ g.ad[n]? = some a ∧ ObOk C g H a o.1 := by
  cases r with
  | hnd h => exact ⟨_, rfl, h, w.tw.2.ok n _ o h e⟩
theorem Rp.td {ks : List (List Int × D)} (hK : C.K = K) (r : Rp K g v (.hnd n)) (w : Wf C g H t) (e : t.2[n]? = some o) (eo : o.1 = .td ks) : ∃ a L, v = .ref a ∧ g.ad[n]? = some a ∧ H a = some (DkO a L) ∧ RpD K g L ks := by
  obtain ⟨a, h1, h2, h3⟩ := r.ob w e
  rw [eo] at h3
  obtain ⟨L, h4, h5⟩ := h3
  rw [hK] at h5
  exact ⟨a, L, h1, h2, h4, h5⟩
theorem Rp.li {ds : List D} (hK : C.K = K) (r : Rp K g v (.hnd n)) (w : Wf C g H t) (e : t.2[n]? = some o) (eo : o.1 = .li ds) : ∃ a vs, v = .ref a ∧ g.ad[n]? = some a ∧ H a = some (.lst vs) ∧ RpA K g vs ds := by
  obtain ⟨a, h1, h2, h3⟩ := r.ob w e
  rw [eo] at h3
  obtain ⟨L, h4, h5⟩ := h3
  rw [hK] at h5
  exact ⟨a, L, h1, h2, h4, h5⟩
theorem Rp.ins {fs : List (Str × D)} (hK : C.K = K) (r : Rp K g v (.hnd n)) (w : Wf C g H t) (e : t.2[n]? = some o) (eo : o.1 = .ins fs) : ∃ a dx fv, v = .ref a ∧ g.ad[n]? = some a ∧ H a = some (.ins C.cl dx fv) ∧ RpI K g fv fs := by
  obtain ⟨a, h1, h2, h3⟩ := r.ob w e
  rw [eo] at h3
  obtain ⟨dx, fv, h4, h5⟩ := h3
  rw [hK] at h5
  exact ⟨a, dx, fv, h1, h2, h4, h5⟩
end
theorem ObOk.code {C : Cn} {g : G} {H : Hp} {a : Addr} {o : Ob} (h : ObOk C g H a o) : ∃ ho, H a = some ho ∧ (∀ ps, ho ≠ .tbl ps) ∧ (∀ kvs, ho ≠ .dK kvs) ∧ ∀ q, ho ≠ LamX.CodeO a q := by
  cases o with
  | td ks => obtain ⟨L, h, _⟩ := h; exact ⟨_, h, DkO_tbl, (fun _ z => by unfold DkO at z; cases z), fun q z => code_ne z.symm⟩
  | li ds => obtain ⟨L, h, _⟩ := h; exact ⟨_, h, (fun _ z => nomatch z), (fun _ z => nomatch z), (fun q z => by unfold LamX.CodeO at z; cases z)⟩
  | ins fs => obtain ⟨dx, vs, h, _⟩ := h; exact ⟨_, h, (fun _ z => nomatch z), (fun _ z => nomatch z), (fun q z => by unfold LamX.CodeO at z; cases z)⟩
end BG
set_option Elab.async false
set_option linter.all false
set_option maxRecDepth 100000
set_option maxHeartbeats 4000000
namespace BG
open PySem PySem.Spec PyProof.Rows L2
section
variable {X : Cx} {C : Cn} {E : XK}
theorem RpI.look {K : PySem.W.Frag} {g : G} {x : Str} {d : D} : ∀ {fv : List (Str × V)} {fs : List (Str × D)}, RpI K g fv fs → fs.lookup x = some d → ∃ v, fv.lookup x = some v ∧ Rp K g v d
  | [], [], _, h => by cases h
  | (y, v) :: r, (z, e) :: q, ⟨h1, h2, h3⟩, h => by
    subst h1
    rw [List.lookup_cons] at h ⊢
    cases c : x == y with
    | true =>
      rw [c] at h
      cases h
      exact ⟨v, rfl, h2⟩
    | false =>
      rw [c] at h
      exact RpI.look h3 h
theorem RpI.none {K : PySem.W.Frag} {g : G} {x : Str} : ∀ {fv : List (Str × V)} {fs : List (Str × D)}, RpI K g fv fs → fs.lookup x = none → fv.lookup x = none
  | [], [], _, h => rfl
  | (y, v) :: r, (z, e) :: q, ⟨h1, h2, h3⟩, h => by
    subst h1
    rw [List.lookup_cons] at h ⊢
    cases c : x == y with
    | true => rw [c] at h; cases h
    | false =>
      rw [c] at h
      exact RpI.none h3 h
theorem RpI.len {K : PySem.W.Frag} {g : G} : ∀ {fv : List (Str × V)} {fs : List (Str × D)}, RpI K g fv fs → fv.length = fs.length
  | [], [], _ => rfl
  | (y, v) :: r, (z, e) :: q, ⟨h1, h2, h3⟩ => by rw [List.length_cons, List.length_cons, RpI.len h3]
def putFD (f : Str) (v : D) : List (Str × D) → List (Str × D)
  | [] => [(f, v)]
  | (g, x) :: r => if g = f then (g, v) :: r else (g, x) :: putFD f v r
theorem RpI.put {K : PySem.W.Frag} {g : G} {x : Str} {u : V} {d : D} (ru : Rp K g u d) : ∀ {fv : List (Str × V)} {fs : List (Str × D)}, RpI K g fv fs → RpI K g (putF x u fv) (putFD x d fs)
  | [], [], _ => ⟨rfl, ru, trivial⟩
  | (y, v) :: r, (z, e) :: q, ⟨h1, h2, h3⟩ => by
    subst h1
    unfold putF putFD
    by_cases c : y = x
    · rw [if_pos c, if_pos c]; exact ⟨rfl, ru, h3⟩
    · rw [if_neg c, if_neg c]; exact ⟨rfl, h2, RpI.put ru h3⟩
end
end BG
set_option Elab.async false
set_option linter.all false
set_option maxRecDepth 100000
set_option maxHeartbeats 4000000
namespace BG
open PySem PySem.Spec PyProof.Rows L2
end BG
set_option Elab.async false
set_option linter.all false
set_option maxRecDepth 100000
set_option maxHeartbeats 4000000
namespace BG
open PySem PySem.Spec PyProof.Rows L2
def isNone : D → Bool
  | .non => true
  | _ => false
section
variable {X : Cx} {C : Cn} {E : XK}
theorem OwnF.raw {H0 : Hp} {σ : L2.St} {S : Sl} {i : Nat} {v : V} (h : OwnF H0 σ S) : OwnF H0 (σ.set i (some v)) (S.set i (.raw v)) := fun j x p e1 ox e2 => by
  have n : i ≠ j := fun z => by
    subst z
    by_cases hl : i < S.length
    · rw [List.getElem?_set_self hl] at e1; cases e1; cases ox
    · rw [List.getElem?_eq_none (by rw [List.length_set]; omega)] at e1; cases e1
  rw [List.getElem?_set_ne n] at e1 e2
  exact h j x p e1 ox e2
end
end BG
set_option Elab.async false
set_option linter.all false
set_option maxRecDepth 100000
set_option maxHeartbeats 4000000
namespace BL
open PySem PySem.Spec PyProof.Rows L2 BG
end BL
set_option Elab.async false
set_option linter.all false
set_option maxRecDepth 100000
set_option maxHeartbeats 4000000
namespace BG
open PySem PySem.Spec PyProof.Rows L2
end BG
set_option Elab.async false
set_option linter.all false
set_option maxRecDepth 100000
set_option maxHeartbeats 4000000
namespace BL
open PySem PySem.Spec PyProof.Rows L2 BG
end BL
set_option Elab.async false
set_option linter.all false
set_option maxRecDepth 100000
set_option maxHeartbeats 4000000
namespace BG
open PySem PySem.Spec PyProof.Rows L2
end BG
set_option Elab.async false
set_option linter.all false
set_option maxRecDepth 100000
set_option maxHeartbeats 4000000
namespace BL
open PySem PySem.Spec PyProof.Rows L2 BG
end BL
set_option Elab.async false
set_option linter.all false
set_option maxRecDepth 100000
set_option maxHeartbeats 4000000
namespace BG
open PySem PySem.Spec PyProof.Rows L2
section
variable {X : Cx} {C : Cn} {E : XK}
def bStr : D → M D
  | .int i => if i.natAbs.log2 < 1920 then ret (.str (toString i)) else stuck
  | _ => stuck
theorem cr_strI : CallR X (.type "str") (c1D X.K C E bStr) := CallR.imp call_str_int fun xs H Q ⟨x, g, t, d, ex, w, a, h⟩ => by
  subst ex
  cases d with
  | int i =>
    have h : PostQ X.K C E g H Q ((if i.natAbs.log2 < 1920 then ret (D.str (toString i)) else stuck) t) := h
    cases a.int
    split at h
    · rename_i hz
      exact ⟨i, rfl, hz, pRetV h w (.str _)⟩
    · exact h.elim
  | _ => exact h.elim
def bInt : D → M D
  | .str a => match PySem.intText? a with
    | some n => if a.length ≤ 640 then ret (.int n) else stuck
    | none => stuck
  | _ => stuck
theorem cr_intS : CallR X (.type "int") (c1D X.K C E bInt) := CallR.imp call_int_str fun xs H Q ⟨x, g, t, d, ex, w, a, h⟩ => by
  subst ex
  cases d with
  | str y =>
    have h : PostQ X.K C E g H Q ((match PySem.intText? y with | some n => if y.length ≤ 640 then ret (D.int n) else stuck | none => stuck) t) := h
    cases a.str
    cases e : PySem.intText? y with
    | none => rw [e] at h; exact h.elim
    | some n =>
      rw [e] at h
      have h : PostQ X.K C E g H Q ((if y.length ≤ 640 then ret (D.int n) else stuck) t) := h
      split at h
      · rename_i hz
        exact ⟨y, n, rfl, e, hz, pRetV h w (.int _)⟩
      · exact h.elim
  | _ => exact h.elim
def pInS : D → D → M D
  | .str ⟨cs⟩, .str z => match cs.toList with
    | [c] => ret (.bl (decide (c ∈ z.cps.toList)))
    | _ => stuck
  | _, _ => stuck
theorem bin_inS : BinOk X C E (compareOp .In) pInS := OpR.imp op_in_sign fun x y H Q ⟨g, t, p, q, w, rx, ry, h⟩ => by
  cases p with
  | str a =>
    cases q with
    | str z =>
      obtain ⟨cs⟩ := a
      have h : PostQ X.K C E g H Q ((match cs.toList with | [c] => ret (D.bl (decide (c ∈ z.cps.toList))) | _ => stuck) t) := h
      cases e : cs.toList with
      | nil => rw [e] at h; exact h.elim
      | cons c r =>
        cases r with
        | nil =>
          rw [e] at h
          have e2 : cs = #[c] := by apply Array.toList_inj.mp; rw [e]
          subst e2
          exact ⟨c, z, rx.str, ry.str, pRetV h w (.bl _)⟩
        | cons _ _ => rw [e] at h; exact h.elim
    | _ => exact h.elim
  | _ => exact h.elim
def pIxS : D → D → M D
  | .str z, .int i => if z.length ≤ sizeLine then match L2.atI z.cps.toList i with
      | some c => ret (.str ⟨#[c]⟩)
      | none => stuck
    else stuck
  | _, _ => stuck
theorem ix_S : IxR X (rD X.K C E pIxS) := IxR.imp ix_str fun x y H Q ⟨g, t, p, q, w, rx, ry, h⟩ => by
  cases p with
  | str z =>
    cases q with
    | int i =>
      have h : PostQ X.K C E g H Q ((if z.length ≤ sizeLine then match L2.atI z.cps.toList i with | some c => ret (D.str ⟨#[c]⟩) | none => stuck else stuck) t) := h
      split at h
      · rename_i hz
        cases e : L2.atI z.cps.toList i with
        | none => rw [e] at h; exact h.elim
        | some c => rw [e] at h; exact ⟨z, i, c, rx.str, ry.int, hz, e, pRetV h w (.str _)⟩
      · exact h.elim
    | _ => exact h.elim
  | _ => exact h.elim
theorem ce_ixS {a b : Expr} {fa fb : Ex} {pos : Pos} (ha : CW X C E a fa) (hb : CW X C E b fb) (hs : PlainIx b := by exact fun _ _ => rfl) : CE X C E (.Subscript a b pos) (eBin pIxS fa fb) := PE.imp (pe_ix ix_S ha hb hs) fun σ H Q h => tW.two h
def pCutS (x : D) (lo hi : Option Int) : M D := match x with
  | .str z => if z.length ≤ sizeLine then ret (.str (cutS z lo hi)) else stuck
  | _ => stuck
def eCutS (a : Ex) (lo hi : Option Ex) : Ex := fun S => bnd (a S) fun x => bnd (oEx lo S) fun l => bnd (oEx hi S) fun h => pCutS x l h
theorem ce_cutS {a : Expr} {lo hi : Option Expr} {fa : Ex} {fl fh : Option Ex} {p2 pos : Pos} (ha : CW X C E a fa) (hl : PO X lo (tOp1 X.K C E fl)) (hh : PO X hi (tOp1 X.K C E fh)) : CE X C E (.Subscript a (.Slice lo hi none p2) pos) (eCutS fa fl fh) := by
  refine PE.imp (pe_slice sl_str ha hl hh) fun σ H Q h => ?_
  refine tW.seq h fun g S t x d H1 w s rx p1 => ?_
  refine ⟨g, S, t, w, s, p1.bnd.imp fun l t2 g2 H2 st2 w2 q2 => ?_⟩
  refine ⟨g2, S, t2, w2, s.stp w st2, q2.bnd.imp fun hh t3 g3 H3 st3 w3 q3 => ?_⟩
  cases d with
  | str z =>
    have q3 : PostQ X.K C E g3 H3 Q ((if z.length ≤ sizeLine then ret (D.str (cutS z l hh)) else stuck) t3) := q3
    split at q3
    · rename_i hz
      exact ⟨z, rx.str, hz, pRetV q3 w3 (.str _)⟩
    · exact q3.elim
  | _ => exact q3.elim
/-- object, then argument; the object is a text -/
def eTx (op : Str → D → M D) (a b : Ex) : Ex := fun S => bnd (a S) fun x => match x with
  | .str z => bnd (b S) fun y => op z y
  | _ => stuck
def pJn (a : Str) : D → M D
  | .lst ds => match strsD ds with
    | some ys => if (ys.map Str.length).sum + ys.length * a.length ≤ 16777216 then ret (.str (Txt.join a ys)) else stuck
    | none => stuck
  | _ => stuck
theorem ce_join {o e : Expr} {fo fe : Ex} {apos pos : Pos} (ho : CE X C E o fo) (he : CW X C E e fe) (hs : starEach [e] X.env = [(false, eval e X.env)] := by rfl) (hbase : attributeBase o "join" X.env (eval o X.env) = eval o X.env := by rfl) (hline : (apos.endLine == pos.line) = true := by rfl) :
    CE X C E (.Call (.Attribute o "join" apos) [e] [] pos) (eTx pJn fo fe) := by
  refine PE.imp (pe_join ho he hs hbase hline) fun σ H Q h => ?_
  refine tE.seq h fun g S t x d H1 w s rx p1 => ?_
  cases d with
  | str z =>
    have ex : x = .str z := by cases rx; rfl
    subst ex
    refine ⟨⟨z, rfl⟩, g, S, t, w, s, Post.bnd p1 |>.imp fun d2 t2 g2 H2 st2 w2 q v r => ?_⟩
    cases d2 with
    | lst ds =>
      have q : PostQ X.K C E g2 H2 Q ((match strsD ds with | some ys => if (ys.map Str.length).sum + ys.length * z.length ≤ 16777216 then ret (D.str (Txt.join z ys)) else stuck | none => stuck) t2) := q
      cases e : strsD ds with
      | none => rw [e] at q; exact q.elim
      | some ys =>
        rw [e] at q
        have q : PostQ X.K C E g2 H2 Q ((if (ys.map Str.length).sum + ys.length * z.length ≤ 16777216 then ret (D.str (Txt.join z ys)) else stuck) t2) := q
        split at q
        · rename_i hz
          obtain ⟨p, vs, rfl, e1, r1⟩ := r.lst w2
          rw [r1.strsD e] at e1
          exact ⟨z, p, ys, rfl, rfl, .inl (.of e1), hz, pRetV q w2 (.str _)⟩
        · exact q.elim
    | _ => exact q.elim
  | _ => exact p1.elim
def pSpl (a : Str) : D → M D
  | .str b => if b.length ≠ 0 ∧ a.length + 2 ≤ sizeLine then ret (.lst ((Txt.split a b).map D.str)) else stuck
  | _ => stuck
theorem rpA_strs {K : PySem.W.Frag} {g : G} : ∀ ys : List Str, RpA K g (ys.map V.str) (ys.map D.str)
  | [] => .nil
  | y :: ys => .cons (.str y) (rpA_strs ys)
theorem cf_split {o e : Expr} {fo fe : Ex} {apos pos : Pos} (ho : CE X C E o fo) (he : CE X C E e fe) (hs : starEach [e] X.env = [(false, eval e X.env)] := by rfl) (hbase : attributeBase o "split" X.env (eval o X.env) = eval o X.env := by rfl) (hline : (apos.endLine == pos.line) = true := by rfl) :
    CF X C E (.Call (.Attribute o "split" apos) [e] [] pos) (eTx pSpl fo fe) := by
  refine PE.imp (pe_split ho he hs hbase hline) fun σ H Q ⟨g, S, t, w, s, p⟩ => ?_
  refine ⟨g, S, t, w, s, p.bnd.imp fun d t1 g1 H1 st1 w1 q v r => ?_⟩
  cases d with
  | str z =>
    have ex : v = .str z := by cases r; rfl
    subst ex
    refine ⟨⟨z, rfl⟩, g1, S, t1, w1, s.stp w st1, Post.bnd q |>.imp fun d2 t2 g2 H2 st2 w2 q2 v2 r2 => ?_⟩
    cases d2 with
    | str b =>
      have e2 : v2 = .str b := by cases r2; rfl
      subst e2
      have q2 : Post C E g2 H2 (fun d _ g' H' => ∀ v, RpF X.K H g' H' v d → Q v H') ((if b.length ≠ 0 ∧ z.length + 2 ≤ sizeLine then ret (D.lst ((Txt.split z b).map D.str)) else stuck) t2) := q2
      split at q2
      · rename_i hz
        refine ⟨z, b, rfl, rfl, by simpa using hz.1, hz.2, fun p hp => ?_⟩
        exact q2 g2 _ (Stp.lay w2 hp) (Wf.lay w2 hp) _ ⟨p, _, _, rfl, rfl, fun z => Nt.no hp (st2.thr p (st1.thr p z)), upd_same, rpA_strs _, w2.fzN hp, w2.ntN hp⟩
      · exact q2.elim
    | _ => exact q2.elim
  | _ => exact q.elim
def signsL (x : Str) : List Str := x.cps.toList.map fun c => ⟨#[c]⟩
def rListS : List V → Hp → VK → Prop := fun xs H Q => ∃ a, xs = [.str a] ∧ a.length ≤ sizeLine ∧ ∀ q, H q = none → Q (.ref q) (upd H q (.lst ((signsL a).map V.str)))
theorem call_list_S (hc : X.calm = true) : CallR X (.type "list") rListS := by
  intro pins s σ H xs us Q I r h
  obtain ⟨a, rfl, hz, q⟩ := h
  obtain ⟨u, rfl, t, rfl⟩ := vals1 r
  refine PySem.call_list_str (I.ok.hd hc) a t (hn := hz) fun h' tk acc' c' hkeep hS hacc => ?_
  have hl : (signsL a).length = a.length := by unfold signsL; simp [Str.length]
  have el : acc'.toList.length = a.cps.size := by have := hacc.1; simpa using this
  refine ⟨.ref s.heap.objs.size, upd H s.heap.objs.size (.lst ((signsL a).map V.str)), I.laid hkeep (Nat.le_refl _) (show ObjOk X.prog X.w _ _ _ (.lst ((signsL a).map V.str)) from ⟨?_, acc'.toList, c', ?_, ?_⟩), rfl, q _ (I.hok.fresh (Nat.le_refl _))⟩
  · rw [List.length_map, hl]; exact hz
  · refine vals_of_at (by rw [List.length_map, hl, el]; rfl) fun j x w h1 h2 => ?_
    have z := hacc.2 j w (by rw [← Array.getElem?_toList]; exact h2)
    obtain ⟨c, u, e1, e2⟩ := z
    have e3 : ((signsL a).map V.str)[j]? = some (V.str ⟨#[c]⟩) := by
      unfold signsL
      rw [List.getElem?_map, List.getElem?_map, Array.getElem?_toList, e1] <;> rfl
    rw [e3] at h1
    cases h1
    exact ⟨u, e2⟩
  · exact hS
def bListS : D → M D
  | .str a => if a.length ≤ sizeLine then ret (.lst ((signsL a).map D.str)) else stuck
  | _ => stuck
theorem cf_listS {x : Str} {e : Expr} {f : Ex} {p pos : Pos} (hc : X.calm = true) (hm : X.mg x = none) (hv : bootBuiltins x = some (.type "list")) (ha : CW X C E e f) (hg : Gl X x := by rfl)
    (hn : x ≠ "__name__" := by decide) (hdb : (x == ("__debug__" : Str)) = false := by decide) (hs : starEach [e] X.env = (false, eval e X.env) :: starEach [] X.env := by rfl) (hp : (backTo pos (starEach [] X.env)).any (·.1) = false := by rfl) :
    CF X C E (.Call (.Name x p) [e] [] pos) (eUn bListS f) := by
  refine PE.imp (pe_callTy (call_list_S hc) hg hm hv (pa_cons ha pa_nil hs) hn hdb hs hp) fun σ H Q ⟨g, S, t, w, s, p⟩ => ?_
  refine ⟨g, S, t, w, s, p.bnd.imp fun d t1 g1 H1 st1 w1 q v r => ?_⟩
  cases d with
  | str z =>
    cases r.str
    have q : Post C E g1 H1 (fun d _ g' H' => ∀ v, RpF X.K H g' H' v d → Q v H') ((if z.length ≤ sizeLine then ret (D.lst ((signsL z).map D.str)) else stuck) t1) := q
    split at q
    · rename_i hz
      exact ⟨z, rfl, hz, fun l hl => q g1 _ (Stp.lay w1 hl) (Wf.lay w1 hl) _ ⟨l, _, _, rfl, rfl, st1.back hl, upd_same, rpA_strs _, w1.fzN hl, w1.ntN hl⟩⟩
    · exact q.elim
  | _ => exact q.elim
end
end BG
set_option Elab.async false
set_option linter.all false
set_option maxRecDepth 100000
set_option maxHeartbeats 4000000
namespace BL
open PySem PySem.Spec PyProof.Rows L2 BG
def b_gate_text : Stm := (sRet (eBin pAdd (eBin pAdd (eBin pAdd (eBin pIdx (eVar 0) (eC (.int 0))) (eC (.str "("))) (eTx pJn (eC (.str ",")) (eComp [1] (itSeq (eSlice (eVar 0) (some (eC (.int 1))) none)) (gN 1) (eC (.bl true)) (eUn bStr (eVar 1))))) (eC (.str ")"))))
def f_gate_text : Fn := fnOf 2 b_gate_text
def b_circuit_text : Stm := (sRet (eIf (eBin pNe (eVar 0) (eTup [])) (eTx pJn (eC (.str " ")) (eComp [1] (itSeq (eVar 0)) (gN 1) (eC (.bl true)) (eCall f_gate_text [(eVar 1)]))) (eC (.str "-"))))
def f_circuit_text : Fn := fnOf 2 b_circuit_text
def b_format_circuit : Stm := (sSeq (sExpr (eCall f_check_circuit [(eVar 0)]))
    (sRet (eCall f_circuit_text [(eVar 0)])))
def f_format_circuit : Fn := fnOf 1 b_format_circuit
def b_exchange_text : Stm := (sRet (eTx pJn (eC (.str "")) (eComp [1] (itSeq (eVar 0)) (gN 1) (eC (.bl true)) (eUn bStr (eVar 1)))))
def f_exchange_text : Fn := fnOf 2 b_exchange_text
def b_format_exchange : Stm := (sSeq (sExpr (eCall f_check_exchange [(eVar 0)]))
    (sRet (eCall f_exchange_text [(eVar 0)])))
def f_format_exchange : Fn := fnOf 1 b_format_exchange
def b_read_digits : Stm := (sSeq (sIf (eUn oNot (eUn bAll (eComp [1] (itSeq (eVar 0)) (gN 1) (eC (.bl true)) (eAnd (eBin pEq (eUn bLen (eVar 1)) (eC (.int 1))) (eBin pInS (eVar 1) (eC (.str "01234567"))))))) (sRaise 8) sNil)
    (sRet (eUn bTuple (eComp [1] (itSeq (eVar 0)) (gN 1) (eC (.bl true)) (eUn bInt (eVar 1))))))
def f_read_digits : Fn := fnOf 2 b_read_digits
def b_read_gate : Stm := (sSeq (sAsg 1 (eTx pSpl (eVar 0) (eC (.str "("))))
    (sSeq (sIf (eOr (eBin pNe (eUn bLen (eVar 1)) (eC (.int 2))) (eBin pNe (eCutS (eBin pIdx (eVar 1) (eC (.int 1))) (some (eUn pNeg (eC (.int 1)))) none) (eC (.str ")")))) (sRaise 8) sNil)
    (sRet (eBin pAdd (eTup [(eBin pIdx (eVar 1) (eC (.int 0)))]) (eCall f_read_digits [(eTx pSpl (eCutS (eBin pIdx (eVar 1) (eC (.int 1))) none (some (eUn pNeg (eC (.int 1))))) (eC (.str ",")))])))))
def f_read_gate : Fn := fnOf 2 b_read_gate
def b_parse_circuit : Stm := (sSeq (sIf (eUn oNot (eUn (pIsi .str) (eVar 0))) (sRaise 8) sNil)
    (sSeq (sAsg 1 (eIf (eBin pNe (eVar 0) (eC (.str "-"))) (eUn bTuple (eComp [2] (itSeq (eTx pSpl (eVar 0) (eC (.str " ")))) (gN 2) (eC (.bl true)) (eCall f_read_gate [(eVar 2)]))) (eTup [])))
    (sSeq (sIf (eOr (eUn oNot (eCall f_is_circuit [(eVar 1)])) (eBin pNe (eCall f_circuit_text [(eVar 1)]) (eVar 0))) (sRaise 8) sNil)
    (sRet (eVar 1)))))
def f_parse_circuit : Fn := fnOf 3 b_parse_circuit
def b_parse_exchange : Stm := (sSeq (sIf (eUn oNot (eUn (pIsi .str) (eVar 0))) (sRaise 8) sNil)
    (sSeq (sAsg 1 (eCall f_read_digits [(eUn bListS (eVar 0))]))
    (sSeq (sIf (eUn oNot (eCall f_is_exchange [(eVar 1)])) (sRaise 8) sNil)
    (sRet (eVar 1)))))
def f_parse_exchange : Fn := fnOf 2 b_parse_exchange
end BL
set_option Elab.async false
set_option linter.all false
set_option maxRecDepth 100000
set_option maxHeartbeats 4000000
namespace BG
open PySem PySem.Spec PyProof.Rows L2
/-- what a block's callee lets out: Y the block's context -/
def xeB (Y : Cx) (E : XK) (v : Value) (z : Shared) : Prop :=
  ∃ (a : Addr) (B : Heap) (q : Shared) (ps : List (Addr × Obj)) (τ : L2.St) (G : Hp) (cls : Value) (d : Option Addr), v = .ref a ∧ L2.Inv Y ps τ G q ∧
    (∀ c ob, q.heap.get? c = some ob → c ∉ frs Y.stack → B.get? c = some ob) ∧ q.heap.UpToSlots z.heap ∧
    HandSPX.FlyingZ B Y.stack a (Zc cls d) z.heap ∧ G a = none ∧ z.os = q.os ∧ AllBare z.gens ∧ E cls d G
theorem xeB_call {Y : Cx} {E : XK} {ps : List (Addr × Obj)} {τ : L2.St} {G : Hp} {q z : Shared} {v : Value} (J : L2.Inv Y ps τ G q) (c : L2.CX Y.prog Y.w Y.stack G q E v z) : xeB Y E v z := by
  obtain ⟨a, B, G2, cls, d, ev, fl, okB, un, na, ho, hg, hE⟩ := c
  obtain ⟨K, kin, kout⟩ := restrict z.heap fun c => decide (c ∈ frs Y.stack) || (B.get? c).isSome
  have onB : ∀ c ob, B.get? c = some ob → K.get? c = some ob := fun c ob e => (kin c (by simp [e])).trans (fl.1 c ob e)
  have onF : ∀ c ∈ frs Y.stack, K.get? c = z.heap.get? c := fun c hc => kin c (by simp [hc])
  have src : ∀ c ob, K.get? c = some ob → z.heap.get? c = some ob ∧ (c ∈ frs Y.stack ∨ ∃ ob', B.get? c = some ob') := fun c ob e => by
    by_cases h : (decide (c ∈ frs Y.stack) || (B.get? c).isSome) = true
    · rw [kin c h] at e
      refine ⟨e, ?_⟩
      rcases Bool.or_eq_true_iff.mp h with h | h
      · exact .inl (of_decide_eq_true h)
      · exact .inr (Option.isSome_iff_exists.mp h)
    · rw [kout c (by simpa using h)] at e; cases e
  refine ⟨a, B, { q with heap := K, gens := z.gens, drawn := z.drawn, toks := z.toks }, ps, τ, G2, cls, d, ev, ?_, fun c ob e hc => ?_, Heap.UpToSlots.of_keeps fun c ob e => (src c ob e).1, fl, na, ho, hg, hE⟩
  · refine J.call (ch := []) ⟨fun c ob e n hc _ => onB c ob (un.keep c ob e n hc), fun c ob e n hc _ => ?_, fun c ob e n _ => un.free c ob e n, fun c ob e _ => ?_, un.tups, un.frzs, un.tbls⟩ (okB.kept onB) hg fun _ w => nomatch w
    · obtain ⟨sl, e2⟩ := un.slot c ob e hc
      exact ⟨sl, (onF c hc).trans e2⟩
    · by_cases hc : c ∈ frs Y.stack
      · obtain ⟨sl, e2⟩ := un.slot c ob e hc
        exact ⟨_, (onF c hc).trans e2⟩
      · obtain ⟨ob2, e2⟩ := un.there c ob e hc
        exact ⟨ob2, onB c ob2 e2⟩
  · obtain ⟨e2, h⟩ := src c ob e
    rcases h with h | ⟨ob2, h⟩
    · exact absurd h hc
    · have w := fl.1 c ob2 h
      rw [e2] at w; cases w
      exact h
theorem passB {Y : Cx} {E : XK} : Passes (L2.CX Y.prog Y.w) (Y.wish (xeB Y E)) E := fun ps τ G q v z J c => xeB_call J.unwish c
section
variable {X : Cx} {E : XK}
/-- it leaves the block -/
theorem blk_out {ps : List (Addr × Obj)} {σ : L2.St} {H3 : Hp} {s3 z : Shared} {scope : Scope} {ce : Env} {fp : List Addr} {v : Value} (hs : X.stack = X.env :: X.outer) (hf : X.env.frame = some X.env.locals) (tk : Takes X fun cls d _ G => E cls d G)
    (J3 : L2.Inv X ps σ H3 s3) (f3 : ∀ b ∈ fp, FpOk X ps H3 b) (hL : ce.locals = s3.heap.objs.size) (hcf : ce.frame = X.env.frame) (x : xeB (X.blk s3 H3 scope ce fp) E v z) :
    notedBy (model X.prog X.w) X.A ce (CompFails (model X.prog X.w) X.A X.xe ce) v z := by
  obtain ⟨a, B, q, ps', τ, G, cls, d, rfl, J, nb, up, fl, na, ho, hg, hE⟩ := x
  have hfr : X.A.frames = some (X.env :: X.outer) := by rw [J3.ok.frames, hs]
  have fl : HandSPX.FlyingZ B (X.env :: X.outer) a (Zc cls d) z.heap := by
    have := fl
    rw [show (X.blk s3 H3 scope ce fp).stack = X.env :: X.outer from hs] at this
    exact this
  have below : ∀ b ob, s3.heap.get? b = some ob → b ≠ ce.locals := fun b ob e => by
    rw [hL]; exact Nat.ne_of_lt (Heap.lt_size e)
  show wpAny _ _ (noteFrame (.ref a) ce) _ _ z
  rw [noteFrame_env _ hcf]
  refine HandSPX.looks_onZ Zc.steady hfr hf fl fun h1 hh1 up1 => ?_
  obtain ⟨m, hn, _⟩ := J.loc
  have hn : q.heap.Ns ce.locals m := hn
  have hn1 : h1.Ns ce.locals m := (hn.upToSlots up).upToSlots up1
  refine ⟨m, hn1, fun h2 m2 hn2 sb => ?_⟩
  obtain ⟨oC, _, _, eC, _, _⟩ := id hn
  have nst : ce.locals ∉ frs X.stack := fun hm => by
    obtain ⟨_, ob, e, _⟩ := J3.stack.mem hm
    exact below _ ob e rfl
  have bC : B.get? ce.locals = some oC := nb _ _ eC nst
  obtain ⟨k1, k2, k3, oe, vs, T, oT, ts, he, hz, hd, e1, nT, Te, hT, dT, e3⟩ := hh1
  have aC : a ≠ ce.locals := fun w => by rw [w, bC] at k2; cases k2
  have tC : T ≠ ce.locals := fun w => by rw [w, bC] at nT; cases nT
  obtain ⟨B1, b1, b2⟩ := restrict B fun b => decide (b ≠ ce.locals)
  obtain ⟨K1, c1, c2⟩ := restrict q.heap fun b => decide (b ≠ ce.locals)
  have hB1 : ∀ b, b ≠ ce.locals → B1.get? b = B.get? b := fun b hb => b1 b (decide_eq_true hb)
  have hBC : B1.get? ce.locals = none := b2 _ (by simp)
  have hK1 : ∀ b, b ≠ ce.locals → K1.get? b = q.heap.get? b := fun b hb => c1 b (decide_eq_true hb)
  have hKC : K1.get? ce.locals = none := c2 _ (by simp)
  have neB : ∀ b ob, B1.get? b = some ob → b ≠ ce.locals := fun b ob e w => by rw [w, hBC] at e; cases e
  have neK : ∀ b ob, K1.get? b = some ob → b ≠ ce.locals := fun b ob e w => by rw [w, hKC] at e; cases e
  have held : HandSPX.HeldZ B1 (X.env :: X.outer) a (Zc cls d) X.env.locals h2 := by
    refine ⟨fun b ob e => ?_, (hB1 a aC).trans k2, funFrames_none (Heap.FunFrames.sameBut sb hn2 k3) fun L hm => ?_, oe, vs, T, oT, ts, (sb.2 a aC).trans he, hz, hd, e1, (hB1 T tC).trans nT, Te, (sb.2 T tC).trans hT, dT, e3⟩
    · have hb := neB b ob e
      rw [hB1 b hb] at e
      exact (sb.2 b hb).trans (k1 b ob e)
    · by_cases w : L = ce.locals
      · rw [w]; exact hBC
      · exact (hB1 L w).trans (k3.mem hm).1
  unfold PySem.passOn
  refine wpAny_bind (wpAny_field ((sb.2 a aC).trans he) hd e1 ?_)
  rw [if_neg (show ¬ ((Value.ref T == Value.none) = true) from by simp)]
  rw [hcf, hf]
  have fin : wpAny (model X.prog X.w) X.A (setFlight (.ref a) (some X.env.locals)) (fun _ s4 => wpAny (model X.prog X.w) X.A (throw (.ref a) : Sem Value) (fun _ _ => False) X.xe s4) X.xe { z with heap := h2 } := by
    refine HandSPX.setFlight_onZ held fun h3 hh3 up3 => wpAny_throw (tk _ _ ?_)
    refine ⟨a, B1, { q with heap := K1 }, ps, σ, G, cls, d, rfl, ?_, fun b ob e hb => ?_, fun b ob e nf => ?_, .inr (.inr (by rw [hs]; exact hh3)), na, ho, hg, hE⟩
    · refine J3.call' (ch := fp) (s' := { q with heap := K1 }) J.os ⟨fun b ob e n h4 h5 => ?_, fun b ob e n h4 h5 => ?_, fun b ob e n h5 => J.base.free b ob e n h5, fun b ob e h5 => ?_, J.base.tups, J.base.frzs, J.base.tbls⟩ (fun b ob e => ?_) J.bare fun b hb => ?_
      · exact (hK1 b (below b ob e)).trans (J.base.keep b ob e n h4 h5)
      · obtain ⟨sl, w⟩ := J.base.slot b ob e n h4 h5
        exact ⟨sl, (hK1 b (below b ob e)).trans w⟩
      · obtain ⟨o', w⟩ := J.base.there b ob e h5
        exact ⟨o', (hK1 b (below b ob e)).trans w⟩
      · refine (J.hok b ob e).stay (fun c u hc r => (hK1 c fun w => ?_).trans r) (fun _ w => w) fun _ _ w => w
        have fr : G ce.locals = none := J.free
        rcases hc with hc | hc
        · rw [← hc, w, fr] at e; cases e
        · rw [w, fr] at hc; cases hc
      · have f := f3 b hb
        exact ⟨f.2.2.2.1, f.2.1, f.2.2.2.2.1, f.2.2.2.2.2⟩
    · have w := neK b ob e
      rw [hK1 b w] at e
      exact (hB1 b w).trans (nb b ob e hb)
    · have w := neK b ob e
      rw [hK1 b w] at e
      obtain ⟨sl, r1⟩ := up b ob e nf
      obtain ⟨sl2, r2⟩ := up1 b _ r1 nf
      have r3 : h2.get? b = some { ob with slots := sl2 } := (sb.2 b w).trans r2
      obtain ⟨sl3, r4⟩ := up3 b { ob with slots := sl2 } r3 nf
      exact ⟨sl3, r4⟩
  first
    | exact wpAny_bind fin
    | exact wpAny_bind (wpAny_pure (wpAny_bind fin))
end
end BG
set_option Elab.async false
set_option linter.all false
set_option maxRecDepth 100000
set_option maxHeartbeats 4000000
namespace BG
open PySem PySem.Spec PyProof.Rows L2
section
variable {X : Cx} {C : Cn} {E : XK}
/-- what becomes of a block's context with a wish of its own -/
abbrev blkE (X : Cx) (E : XK) (q : Shared) (G : Hp) (scope : Scope) (ce : Env) (fp : List Addr) : Cx := (X.blk q G scope ce fp).wish (xeB (X.blk q G scope ce fp) E)
theorem pe_lcx {elt tg iter : Expr} {ifs : List Expr} {scope : Scope} {own : List (Str × Nat)} {pos : Pos} {wi : TI} {g : TG} {tt : TT} {te : TE} (hst : X.stack = X.env :: X.outer) (hf : X.env.frame = some X.env.locals) (tk : Takes X fun cls d _ G => E cls d G)
    (hc : X.calm = true) (hN : X.N.Nodup) (hi : PI X tg iter wi) (ok : BlkOk X.N X.env.scope scope own)
    (hg : ∀ (q : Shared) (G : Hp) (c : Addr) (cl : List (Str × Addr)) (fp : List Addr), PG (X.blk q G scope (compEnvC scope cl c X.env) fp) tg g)
    (ht : ∀ (q : Shared) (G : Hp) (c : Addr) (cl : List (Str × Addr)) (fp : List Addr), PTs (X.blk q G scope (compEnvC scope cl c X.env) fp) ifs tt)
    (he : ∀ (q : Shared) (G : Hp) (c : Addr) (cl : List (Str × Addr)) (fp : List Addr), PE (blkE X E q G scope (compEnvC scope cl c X.env) fp) elt te) (hs : ∀ x, foldedSetIterable iter X.env x = pure x := by intro _; rfl) :
    PE X (.ListComp elt [⟨tg, iter, ifs, 0⟩] scope pos) (tLc wi g tt te (own.map (·.2))) := by
  refine ⟨fun pins s σ H Q J h => ?_⟩
  rw [eval_ListComp]
  have captured : ∀ y ∈ scope.names, y.2 = .free → ∃ c, X.env.cells.lookup y.1 = some c := fun y hy e => (ok.free y hy e).elim (fun k => J.ok.has _ (.inl k)) fun k => J.ok.has _ (.inr k)
  refine comprehension_at (use := none) rfl hs (closure_ok captured) ok.kind (fun y hy e => (ok.uniq y hy).trans (congrArg some e)) ?_
  refine thn (hi.run pins s σ H _ J h) fun xv q1 hx => thn hx fun itv q2 h2 => ?_
  obtain ⟨it, fp, tn, Jt, H2, rfl, J2, T, st2, f2, q⟩ := h2
  refine wpAny_newObj_type (newEnv_comp ?_) (by show 0 ≤ sizeLine; decide)
  generalize hD : q2.heap.objs.size = D
  have hDn : H2 D = none := J2.hok.fresh (Nat.le_of_eq hD)
  obtain ⟨W, ⟨m0, w0⟩, turn⟩ := q D hDn
  generalize hq3 : ({ q2 with heap := q2.heap.push { cls := .type "list", data := .seq ([] : List Value).toArray } } : Shared) = q3
  have h3 : q3.heap = q2.heap.push { cls := .type "list", data := .seq ([] : List Value).toArray } := by rw [← hq3]
  have J3 : L2.Inv X pins σ (upd H2 D (.lst [])) q3 := by
    rw [← hq3]
    refine J2.laid (t' := q2.toks) (fun b o e => Heap.get?_push_of_some _ e) (Nat.le_of_eq hD) ⟨Nat.zero_le _, [], 0, .nil, ?_⟩
    rw [← hD]
    exact Heap.get?_push_size _ rfl
  have f3 : ∀ b ∈ fp, FpOk X pins (upd H2 D (.lst [])) b ∧ b < q3.heap.objs.size := fun b hb => by
    obtain ⟨o, e, _⟩ := T.obj _ _ st2 b hb
    have hlt : b < q2.heap.objs.size := Heap.lt_size e
    refine ⟨⟨(upd_ne (by rw [← hD]; exact Nat.ne_of_lt hlt)).trans (f2 b hb).1, (f2 b hb).2⟩, ?_⟩
    rw [h3, Heap.size_push]
    exact Nat.lt_succ_of_lt hlt
  have st3 : tn 0 q3.heap := T.keep _ _ _ st2 fun b _ o e => by
    rw [h3]; exact Heap.get?_push_of_some _ e
  have J4 := block_start J3 ok hN f3
  generalize hcl : cellsFrom (q3.heap.objs.size + 1) scope.names (cloFrom X.env.cells scope.names []) = cl at J4 ⊢
  have pg := hg q3 (upd H2 D (.lst [])) q3.heap.objs.size cl fp
  have pt := ht q3 (upd H2 D (.lst [])) q3.heap.objs.size cl fp
  have pe := he q3 (upd H2 D (.lst [])) q3.heap.objs.size cl fp
  show codeAny (model X.prog X.w) X.A (.compStart (.ListComp elt [⟨tg, iter, ifs, 0⟩] scope pos) 0 (.ref it) (.ref D) (compEnvC scope cl q3.heap.objs.size X.env))
    (compEnds (model X.prog X.w) X.A X.xe none (EP X pins σ Q) (.ref D) (compEnvC scope cl q3.heap.objs.size X.env)) { q3 with heap := pushCells (q3.heap.push { cls := .type "dict", data := .dict #[] }) scope.names }
  have n3 : ∀ b ∈ fp, (upd H2 D (.lst [])) b = none := fun b hb => (f3 b hb).1.1
  generalize hce : compEnvC scope cl q3.heap.objs.size X.env = ce at J4 pg pt pe ⊢
  have cL : ce.locals = q3.heap.objs.size := by rw [← hce]; rfl
  have cF : ce.frame = X.env.frame := by rw [← hce]; rfl
  generalize hH3 : upd H2 D (.lst []) = H3 at J3 J4 pg pt pe w0 n3 f3
  generalize hq4 : ({ q3 with heap := pushCells (q3.heap.push { cls := .type "dict", data := .dict #[] }) scope.names } : Shared) = q4 at J4 ⊢
  have st4 : tn 0 q4.heap := T.keep _ _ _ st3 fun b _ o e => by
    rw [← hq4]; exact pushCells_keeps _ _ _ _ (Heap.get?_push_of_some _ e)
  have walks : ∀ {τ : L2.St} {G : Hp} {z : Shared}, L2.Inv (X.blk q3 H3 scope ce fp) [] τ G z → (∀ b ∈ fp, G b = none) → ∀ b ∈ fp, FpOk (X.blk q3 H3 scope ce fp) [] G b := fun {τ G z} Jz hn b hb =>
    ⟨hn b hb, (Jz.ok.exf b hb).1, Jz.ok.exfs b hb, .inl hb, (Jz.ok.exf b hb).2, fun p hp => by simp at hp⟩
  have raised : ∀ v z, xeB (X.blk q3 H3 scope ce fp) E v z → notedBy (model X.prog X.w) X.A ce (CompFails (model X.prog X.w) X.A X.xe ce) v z := fun v z x => blk_out hst hf tk J3 (fun b hb => (f3 b hb).1) cL cF x
  have loop : codeAny (model X.prog X.w) X.A (.compLoop (.ListComp elt [⟨tg, iter, ifs, 0⟩] scope pos) 0 (.ref it) (.ref D) ce) (compEnds (model X.prog X.w) X.A X.xe none (EP X pins σ Q) (.ref D) ce) q4 := by
    refine compLoop_any (fun n z => ∃ i G, L2.Inv (X.blk q3 H3 scope ce fp) [] (wipe σ (own.map (·.2))) G z ∧ tn i z.heap ∧ (∀ b ∈ fp, G b = none) ∧ W i n G) ?_ m0 ⟨0, H3, J4, st4, n3, w0⟩
    rintro n q5 ⟨i, H5, J5, st5, n5, w5⟩
    rcases turn i n H5 w5 with ⟨stop, qq⟩ | ⟨go, Nx, hNx, step⟩
    · refine thnF (T.done (X.blk q3 H3 scope ce fp) rfl rfl rfl hc i [] q5 _ H5 (fun _ _ => False) J5 (walks J5 n5) st5 stop) fun r q6 ⟨hr, J6⟩ => ?_
      subst hr
      have J7 : L2.Inv X pins σ H5 q6 := J3.call' (ch := fp) J6.os J6.base J6.hok J6.bare fun b hb => by
        have f := (f3 b hb).1
        exact ⟨f.2.2.2.1, f.2.1, f.2.2.2.2.1, f.2.2.2.2.2⟩
      obtain ⟨m, hn, _⟩ := J6.loc
      refine ⟨m, hn, fun h8 sb => ?_⟩
      have nC : H5 ce.locals = none := J6.free
      obtain ⟨_, a1, _, a3, a4, a5⟩ := J3.fpOk (H' := H5) (b := ce.locals) (Nat.le_of_eq cL.symm) nC
      exact ⟨.ref D, H5, J7.turned (t' := q6.toks) (fun b o hb e => (sb.2 b hb).trans e) nC a1 a3 a4 a5, rfl, qq⟩
    · refine thnF (T.item (X.blk q3 H3 scope ce fp) rfl rfl rfl hc i [] q5 _ H5 (fun _ _ => False) J5 (walks J5 n5) st5 go) fun r q6 ⟨u, hr, h6⟩ => ?_
      subst hr
      refine thnF h6 fun _ q7 ⟨x, H7, J7, r7, y7, st7, n7⟩ => ?_
      have P7 := J7.pinned (walks J7 n7) (T.obj _ _ st7)
      refine thnF (pg.run _ q7 _ H7 x u _ P7 r7 (step x H7 y7)) fun _ q8 ⟨σ8, H8, J8, hw8, t8⟩ => ?_
      refine thnF (pt.run _ q8 σ8 H8 _ J8 t8) fun b q9 ⟨H9, J9, t9⟩ => ?_
      have done : ∀ {z : Shared} {G : Hp}, L2.Inv (X.blk q3 H3 scope ce fp) ([] ++ pinsAt fp q7.heap) σ8 G z → Nx G → ∃ m, m < n ∧ ∃ i G, L2.Inv (X.blk q3 H3 scope ce fp) [] (wipe σ (own.map (·.2))) G z ∧ tn i z.heap ∧ (∀ b ∈ fp, G b = none) ∧ W i m G := fun {z G} Jz nx => by
        obtain ⟨m', hm, w'⟩ := hNx G nx
        have pin : ∀ b ∈ fp, ∀ o, q7.heap.get? b = some o → z.heap.get? b = some o ∧ G b = none := fun b hb o e => by
          have := Jz.pin (b, o) (List.mem_append_right _ (List.mem_append_right _ (mem_pinsAt hb e)))
          exact ⟨this.1, this.2.1⟩
        refine ⟨m', hm, i + 1, G, (Jz.unpinned (pins := [])).weak (by rw [← hw8, wipe_length]) (fun j v e => ?_), T.keep _ _ _ st7 fun b hb o e => (pin b hb o e).1, fun b hb => ?_, w'⟩
        · rw [← hw8] at e
          exact (wipe_some e).1
        · obtain ⟨o, e, _⟩ := T.obj _ _ st7 b hb
          exact (pin b hb o e).2
      cases b with
      | false =>
        simp only [Bool.false_eq_true, if_false] at t9 ⊢
        exact done J9 t9
      | true =>
        simp only [if_true] at t9 ⊢
        refine wpAny_mono (pe.run _ q9 σ8 H9 _ (J9.wish _) t9) (fun y qa ha => ?_) raised
        obtain ⟨yv, Ha, Ja, ra, acc, hDa, hza, nx⟩ := ha
        exact app_ok (X := X.blk q3 H3 scope ce fp) Ja.unwish hDa hza ra fun z Jz => done Jz nx
  exact codeAny_compStart_list loop (T.self X.A 0 _ _ _ st4 loop)
def cmpX (tg : Tg) (cond elt : Ex) (S : Sl) : List D → M (List D)
  | [] => ret []
  | d :: ds => match tg d S with
    | none => stuck
    | some S' => bnd (calm (cond S')) fun b => match b with
      | .bl true => bnd (elt S') fun r => bnd (cmpX tg cond elt S ds) fun rs => ret (r :: rs)
      | .bl false => cmpX tg cond elt S ds
      | _ => stuck
def eCompX (vs : List Nat) (it : Sl → M (List D)) (tg : Tg) (cond elt : Ex) : Ex := fun S => bnd (it S) fun ds => if ds.length ≤ sizeLine then bnd (cmpX tg cond elt (wipeS S vs) ds) fun rs => ret (.lst rs) else stuck
theorem tF.lcx {own : List (Str × Nat)} {is : List Nat} {fi : Sl → M (List D)} {ft : Tg} {fc fe : Ex} {σ : L2.St} {H : Hp} {Q : VK} (hv : ∀ i ∈ is, i ∈ own.map (·.2)) (h : tF X.K C E (eCompX (own.map (·.2)) fi ft fc fe) σ H Q) :
    tLc (tIW X.K C E fi) (tG X.K C is ft) (tT X.K C E0 fc) (tE X.K C E fe) (own.map (·.2)) σ H Q := by
  obtain ⟨g, S, t, w, s, p⟩ := h
  refine ⟨g, S, t, w, s, p.bnd.imp fun ds t1 g1 H1 st1 w1 q J B kp wk => ?_⟩
  have q : Post C E g1 H1 (fun d _ g' H' => ∀ v, RpF X.K H g' H' v d → Q v H') ((if ds.length ≤ sizeLine then bnd (cmpX ft fc fe (wipeS S (own.map (·.2))) ds) fun rs => ret (BG.D.lst rs) else stuck) t1) := q
  split at q
  case isFalse => exact q.elim
  rename_i hsz
  intro La hD
  have s1 := s.stp w st1
  refine ⟨fun i m Hk => m = ds.length - i ∧ i ≤ ds.length ∧ ∃ gk tk av ad, Stp g1 H1 gk Hk ∧ Wf C gk Hk tk ∧ Hk La = some (.lst av) ∧ Fre gk La ∧ RpA X.K gk av ad ∧ ad.length ≤ i ∧
    Post C E g1 H1 (fun d _ g' H' => ∀ v, RpF X.K H g' H' v d → Q v H') (bnd (cmpX ft fc fe (wipeS S (own.map (·.2))) (ds.drop i)) (fun rs => ret (BG.D.lst (ad ++ rs))) tk), ⟨ds.length, by simp, Nat.zero_le _, g1, t1, [], [], Stp.lay w1 hD, Wf.lay w1 hD, upd_same, w1.fre hD, .nil, Nat.zero_le _, ?_⟩, ?_⟩
  · rw [List.drop_zero]
    exact q
  rintro i m Hk ⟨rfl, hi', gk, tk, av, ad, stk, wk', eD, fD, ra, hal, pk⟩
  obtain ⟨wgo, wstop⟩ := wk i Hk (kp gk Hk tk stk wk')
  by_cases hlt : i < ds.length
  · have ed : ds[i]? = some ds[i] := List.getElem?_eq_getElem hlt
    obtain ⟨go, yl⟩ := wgo _ ed
    have edr : ds.drop i = ds[i] :: ds.drop (i + 1) := List.drop_eq_getElem_cons hlt
    rw [edr] at pk
    refine .inr ⟨go, fun Hn => ∃ gn tn bv bd, Stp g1 H1 gn Hn ∧ Wf C gn Hn tn ∧ Hn La = some (.lst bv) ∧ Fre gn La ∧ RpA X.K gn bv bd ∧ bd.length ≤ i + 1 ∧
      Post C E g1 H1 (fun d _ g' H' => ∀ v, RpF X.K H g' H' v d → Q v H') (bnd (cmpX ft fc fe (wipeS S (own.map (·.2))) (ds.drop (i + 1))) (fun rs => ret (BG.D.lst (bd ++ rs))) tn), fun H' hn => ⟨_, Nat.sub_lt_sub_left hlt (Nat.lt_succ_self i), rfl, hlt, hn⟩, fun x H' hy => ?_⟩
    obtain ⟨g3, st3, w3, r3, kp3⟩ := (yl x H' hy).stp stk.fz stk.tw wk'
    have st13 : Stp g1 H1 g3 H' := stk.trans st3
    have eD3 : H' La = some (.lst av) := by rw [kp3 La (by rw [eD]; exact fun z => nomatch z)]; exact eD
    have fD3 : Fre g3 La := fD.stp st3 eD (fun _ z => nomatch z)
    have ra3 := ra.stp st3
    have sl3 : SL X.K g3 H' (L2.wipe σ (own.map (·.2))) (wipeS S (own.map (·.2))) := (s1.stp w1 st13).wipe _
    have pk : Post C E g1 H1 (fun d _ g' H' => ∀ v, RpF X.K H g' H' v d → Q v H') (bnd (match ft ds[i] (wipeS S (own.map (·.2))) with
      | none => stuck
      | some S' => bnd (calm (fc S')) fun b => match b with
        | .bl true => bnd (fe S') fun r => bnd (cmpX ft fc fe (wipeS S (own.map (·.2))) (ds.drop (i + 1))) fun rs => ret (r :: rs)
        | .bl false => cmpX ft fc fe (wipeS S (own.map (·.2))) (ds.drop (i + 1))
        | _ => stuck) (fun rs => ret (BG.D.lst (ad ++ rs))) tk) := pk
    cases eft : ft ds[i] (wipeS S (own.map (·.2))) with
    | none => rw [eft] at pk; exact pk.elim
    | some S' =>
      rw [eft] at pk
      refine ⟨g3, _, tk, _, S', w3, sl3, r3, eft, fun σ2 sl2 hl2 hout _ => ⟨wipe_eq (by rw [hl2, wipe_length]) fun j hj => hout j fun z => hj (hv j z), ?_⟩⟩
      have pk : Post C E g1 H1 (fun d _ g' H' => ∀ v, RpF X.K H g' H' v d → Q v H') (bnd (bnd (calm (fc S')) fun b => match b with
        | .bl true => bnd (fe S') fun r => bnd (cmpX ft fc fe (wipeS S (own.map (·.2))) (ds.drop (i + 1))) fun rs => ret (r :: rs)
        | .bl false => cmpX ft fc fe (wipeS S (own.map (·.2))) (ds.drop (i + 1))
        | _ => stuck) (fun rs => ret (BG.D.lst (ad ++ rs))) tk) := pk
      rw [bnd_assoc] at pk
      have pc := (Post.calm pk.bnd0 E0).stp st13
      refine ⟨g3, S', tk, w3, sl2, pc.imp fun b tb gb Hb stb wb qb => ?_⟩
      have st1b := st13.trans stb
      have eDb : Hb La = some (.lst av) := stb.frm _ _ eD3 fD3.2 (fun _ z => nomatch z)
      have fDb : Fre gb La := fD3.stp stb eD3 (fun _ z => nomatch z)
      have rab := ra3.stp stb
      cases b with
      | bl b =>
        refine ⟨b, rfl, ?_⟩
        cases b with
        | false => exact iteF ⟨gb, tb, av, ad, st1b, wb, eDb, fDb, rab, Nat.le_succ_of_le hal, qb⟩
        | true =>
          refine iteT ?_
          have qb : Post C E g1 H1 (fun d _ g' H' => ∀ v, RpF X.K H g' H' v d → Q v H') (bnd (bnd (fe S') fun r => bnd (cmpX ft fc fe (wipeS S (own.map (·.2))) (ds.drop (i + 1))) fun rs => ret (r :: rs)) (fun rs => ret (BG.D.lst (ad ++ rs))) tb) := qb
          rw [bnd_assoc] at qb
          have pe := qb.bnd0.stp st1b
          refine ⟨gb, S', tb, wb, sl2.stp w3 stb, pe.imp fun r tr gr Hr str wr qr y ry => ?_⟩
          have eDr : Hr La = some (.lst av) := str.frm _ _ eDb fDb.2 (fun _ z => nomatch z)
          have fDr : Fre gr La := fDb.stp str eDb (fun _ z => nomatch z)
          have rar := rab.stp str
          have st1r := st1b.trans str
          have hH1D : H1 La = none := hD
          refine ⟨av, eDr, ?_, gr, tr, av ++ [y], ad ++ [r], ⟨st1r.fz, st1r.tw, st1r.twn, fun b o e1 e2 e3 => ?_, fun b e1 => ?_, st1r.new⟩, ?_, upd_same, fDr, rar.app (.one ry), by rw [List.length_append]; exact Nat.succ_le_succ hal, ?_⟩
          · rw [rar.length]
            exact Nat.lt_of_lt_of_le (Nat.lt_of_le_of_lt hal hlt) hsz
          · rw [upd_ne (ne_of_none e1 hH1D)]
            exact st1r.frm b o e1 e2 e3
          · by_cases hb : b = La
            · exact ⟨_, by rw [hb]; exact upd_same, fun _ z => by cases z⟩
            · obtain ⟨o', e', n'⟩ := st1r.thr b e1
              exact ⟨o', by rw [upd_ne hb]; exact e', n'⟩
          · exact wr.updL eDr fDr
          · rw [bnd_assoc] at qr
            have er : (fun rs => ret (BG.D.lst (ad ++ [r] ++ rs))) = (fun rs => bnd (ret (r :: rs)) fun rs => ret (BG.D.lst (ad ++ rs))) := by
              funext rs
              rw [ret_bnd, List.append_assoc]; rfl
            rw [er]
            exact qr
      | _ => exact qb.elim
  · have e : i = ds.length := by omega
    subst e
    refine .inl ⟨wstop (Nat.le_refl _), ?_⟩
    rw [List.drop_length] at pk
    have pk : Post C E g1 H1 (fun d _ g' H' => ∀ v, RpF X.K H g' H' v d → Q v H') (ret (BG.D.lst (ad ++ [])) tk) := pk
    rw [List.append_nil] at pk
    exact pk gk Hk stk wk' _ ⟨La, av, ad, rfl, rfl, st1.back hD, eD, ra, fD⟩
theorem cf_compX {elt tg iter : Expr} {ifs : List Expr} {scope : Scope} {own : List (Str × Nat)} {pos : Pos} {is : List Nat} {fi : Sl → M (List D)} {ft : Tg} {fc fe : Ex} (hst : X.stack = X.env :: X.outer) (hf : X.env.frame = some X.env.locals) (tk : Takes X fun cls d _ G => E cls d G)
    (hc : X.calm = true) (hN : X.N.Nodup) (hi : CIW X C E tg iter fi) (ok : BlkOk X.N X.env.scope scope own) (hv : ∀ i ∈ is, i ∈ own.map (·.2))
    (hg : ∀ (q : Shared) (G : Hp) (c : Addr) (cl : List (Str × Addr)) (fp : List Addr), CG (X.blk q G scope (compEnvC scope cl c X.env) fp) C is tg ft)
    (ht : ∀ (q : Shared) (G : Hp) (c : Addr) (cl : List (Str × Addr)) (fp : List Addr), CTs (X.blk q G scope (compEnvC scope cl c X.env) fp) C E0 ifs fc)
    (he : ∀ (q : Shared) (G : Hp) (c : Addr) (cl : List (Str × Addr)) (fp : List Addr), CE (blkE X E q G scope (compEnvC scope cl c X.env) fp) C E elt fe) (hs : ∀ x, foldedSetIterable iter X.env x = pure x := by intro _; rfl) :
    CF X C E (.ListComp elt [⟨tg, iter, ifs, 0⟩] scope pos) (eCompX (own.map (·.2)) fi ft fc fe) :=
  PE.imp (pe_lcx (te := tE X.K C E fe) (g := tG X.K C is ft) (tt := tT X.K C E0 fc) hst hf tk hc hN hi ok hg ht he hs) fun σ H Q h => tF.lcx hv h
end
end BG
set_option Elab.async false
set_option linter.all false
set_option maxRecDepth 100000
set_option maxHeartbeats 4000000
namespace K26
open PySem PySem.Spec PyProof.Rows L2 BG BL
def b_parse_circuit : Stm := (sSeq (sIf (eUn oNot (eUn (pIsi .str) (eVar 0))) (sRaise 8) sNil)
    (sSeq (sAsg 1 (eIf (eBin pNe (eVar 0) (eC (.str "-"))) (eUn bTuple (eCompX [2] (itSeq (eTx pSpl (eVar 0) (eC (.str " ")))) (gN 2) (eC (.bl true)) (eCall f_read_gate [(eVar 2)]))) (eTup [])))
    (sSeq (sIf (eOr (eUn oNot (eCall f_is_circuit [(eVar 1)])) (eBin pNe (eCall f_circuit_text [(eVar 1)]) (eVar 0))) (sRaise 8) sNil)
    (sRet (eVar 1)))))
def f_parse_circuit : Fn := fnOf 3 (b_parse_circuit)
def b_law_written : Stm := (sSeq (sOwn 1 (eLst []))
    (sSeq (sFor (itSeq (eVar 0)) (gN 2)
    (sApp 1 (eBin pAdd (eBin pAdd (eBin pAdd (eBin pIdx (eVar 2) (eC (.int 0))) (eC (.str "("))) (eTx pJn (eC (.str ",")) (eComp [3] (itSeq (eSlice (eVar 2) (some (eC (.int 1))) none)) (gN 3) (eC (.bl true)) (eUn bStr (eVar 3))))) (eC (.str ")")))))
    (sRet (eIf (eBin pNe (ePeek 1) (eLst [])) (eTx pJn (eC (.str " ")) (ePeek 1)) (eC (.str "-"))))))
def f_law_written : Fn := fnOf 4 (b_law_written)
def b_law_digits : Stm := (sRet (eTx pJn (eC (.str "")) (eComp [1] (itSeq (eVar 0)) (gN 1) (eC (.bl true)) (eUn bStr (eVar 1)))))
def f_law_digits : Fn := fnOf 2 (b_law_digits)
def b_law_changed : Stm := (sSeq (sPar 3 4 (eCall f_law_draw [(eVar 0), (eVar 1), (eBin pAdd (eUn bLen (eVar 2)) (eC (.int 1)))]) (eBin pIxS (eC (.str "0123(), -nif")) (eCall f_law_draw [(eVar 0), (eVar 1), (eC (.int 12))])))
    (sSeq (sAsg 5 (eLst [(eBin pAdd (eBin pAdd (eCutS (eVar 2) none (some (eVar 3))) (eVar 4)) (eCutS (eVar 2) (some (eVar 3)) none)), (eBin pAdd (eCutS (eVar 2) none (some (eVar 3))) (eCutS (eVar 2) (some (eBin pAdd (eVar 3) (eC (.int 1)))) none))]))
    (sRet (eBin pIdx (eBin pAdd (eVar 5) (eLst [(eBin pAdd (eBin pAdd (eCutS (eVar 2) none (some (eVar 3))) (eVar 4)) (eCutS (eVar 2) (some (eBin pAdd (eVar 3) (eC (.int 1)))) none))])) (eCall f_law_draw [(eVar 0), (eVar 1), (eC (.int 3))])))))
def f_law_changed : Fn := fnOf 6 (b_law_changed)
def b_law_by_hand : Stm := (sSeq (sAsg 0 (eLst [(eC (.str "")), (eC (.str "not")), (eC (.str "not()")), (eC (.str "not(3)")), (eC (.str "not(0")), (eC (.str "not(0))")), (eC (.str "not (0)")), (eC (.str "not(0) ")), (eC (.str " not(0)"))]))
    (sSeq (sAsg 0 (eBin pAdd (eVar 0) (eLst [(eC (.str "not(0)  not(0)")), (eC (.str "not(00)")), (eC (.str "if(0,0)")), (eC (.str "if(0)")), (eC (.str "if(0, 1)")), (eC (.str "swap(1,0)")), (eC (.str "both(1,0,2)")), (eC (.str "- "))])))
    (sSeq (sAsg 0 (eBin pAdd (eVar 0) (eLst [(eC (.str "--")), (eC (.str "or(0)")), (eC (.str "not(0),if(0,1)")), (eTx pJn (eC (.str " ")) (eBin pMul (eLst [(eC (.str "not(0)"))]) (eC (.int 21)))), (eC (.str "not(0)\n"))])))
    (sSeq (sFor (itSeq (eBin pAdd (eVar 0) (eLst [(eC (.str "(0)")), (eC (.str "not((0)")), (eC .non), (eTup [])]))) (gN 1)
    (sIf (eBin pNe (eRes resNm al12 (eCall f_parse_circuit [(eVar 1)])) (eTup [(eC (.str "text"))])) (sRet (eC (.bl false))) sNil))
    (sSeq (sFor (itSeq (eTup [(eC (.str "")), (eC (.str "0123456")), (eC (.str "012345677")), (eC (.str "01234568")), (eC (.str "0123456 7")), (eC (.str "00000000")), (eC .non), (eC (.int 1234567)), (eC (.str "0,1,2,3,4,5,6,7"))])) (gN 1)
    (sIf (eBin pNe (eRes resNm al12 (eCall f_parse_exchange [(eVar 1)])) (eTup [(eC (.str "text"))])) (sRet (eC (.bl false))) sNil))
    (sSeq (sIf (eOr (eBin pNe (eCall f_parse_circuit [(eC (.str "if(0,1) not(2)"))]) (eTup [(eTup [(eC (.str "if")), (eC (.int 0)), (eC (.int 1))]), (eTup [(eC (.str "not")), (eC (.int 2))])])) (eBin pNe (eCall f_parse_circuit [(eC (.str "-"))]) (eTup []))) (sRet (eC (.bl false))) sNil)
    (sRet (eAnd (eBin pEq (eCall f_parse_exchange [(eC (.str "76543210"))]) (eTup [(eC (.int 7)), (eC (.int 6)), (eC (.int 5)), (eC (.int 4)), (eC (.int 3)), (eC (.int 2)), (eC (.int 1)), (eC (.int 0))])) (eBin pEq (eCall f_format_circuit [(eTup [])]) (eC (.str "-")))))))))))
def f_law_by_hand : Fn := fnOf 2 (b_law_by_hand)
def b_law : Stm := (sSeq (sAsg 1 (eCall f_law_begun []))
    (sSeq (sFor (itRange1 (eC (.int 5))) (gN 2)
    (sSeq (sAsg 3 (eCall f_law_circuit [(eVar 0), (eVar 1), (eTup [(eC (.str "both")), (eC (.str "if")), (eC (.str "not")), (eC (.str "pick")), (eC (.str "swap"))]), (eC (.int 6))]))
    (sSeq (sAsg 4 (eCall f_law_exchange [(eVar 0), (eVar 1)]))
    (sSeq (sPar 5 6 (eCall f_law_written [(eVar 3)]) (eCall f_law_digits [(eVar 4)]))
    (sSeq (sIf (eOr (eBin pNe (eCall f_format_circuit [(eVar 3)]) (eVar 5)) (eBin pNe (eCall f_parse_circuit [(eVar 5)]) (eVar 3))) (sRet (eC (.bl false))) sNil)
    (sSeq (sIf (eOr (eBin pNe (eCall f_format_exchange [(eVar 4)]) (eVar 6)) (eBin pNe (eCall f_parse_exchange [(eVar 6)]) (eVar 4))) (sRet (eC (.bl false))) sNil)
    (sSeq (sFor (itRange1 (eC (.int 4))) (gN 7)
    (sSeq (sAsg 9 (eCall f_law_changed [(eVar 0), (eVar 1), (eVar 5)]))
    (sSeq (sAsg 10 (eRes resNm al12 (eCall f_parse_circuit [(eVar 9)])))
    (sSeq (sIf (eAnd (eBin pNe (eVar 10) (eTup [(eC (.str "text"))])) (eOr (eBin pNe (eBin pIdx (eVar 10) (eC (.int 0))) (eC (.str "returns"))) (eBin pNe (eCall f_law_written [(eBin pIdx (eVar 10) (eC (.int 1)))]) (eVar 9)))) (sRet (eC (.bl false))) sNil)
    (sSeq (sAsg 9 (eCall f_law_changed [(eVar 0), (eVar 1), (eVar 6)]))
    (sSeq (sAsg 10 (eRes resNm al12 (eCall f_parse_exchange [(eVar 9)])))
    (sIf (eAnd (eBin pNe (eVar 10) (eTup [(eC (.str "text"))])) (eOr (eBin pNe (eBin pIdx (eVar 10) (eC (.int 0))) (eC (.str "returns"))) (eBin pNe (eCall f_law_digits [(eBin pIdx (eVar 10) (eC (.int 1)))]) (eVar 9)))) (sRet (eC (.bl false))) sNil)))))))
    (sSeq (sOwn 8 (eLst [(eRes resNm al12 (eCall f_format_circuit [(eC .non)]))]))
    (sSeq (sApp 8 (eRes resNm al12 (eCall f_format_circuit [(eTup [(eTup [(eC (.str "not"))])])])))
    (sSeq (sApp 8 (eRes resNm al12 (eCall f_format_exchange [(eSlice (eVar 4) (some (eC (.int 1))) none)])))
    (sIf (eBin pNe (ePeek 8) (eLst [(eTup [(eC (.str "circuit"))]), (eTup [(eC (.str "circuit"))]), (eTup [(eC (.str "exchange"))])])) (sRet (eC (.bl false))) sNil)))))))))))
    (sRet (eCall f_law_by_hand []))))
def f_law : Fn := fnOf 11 (b_law)
end K26
set_option Elab.async false
set_option linter.all false
set_option maxRecDepth 100000
set_option maxHeartbeats 4000000
namespace K26
open PySem PySem.Spec PyProof.Rows L2 BG BL
def topS (i : Nat) : Stmt := PySem.Challenge.pw_backgates_k26_texts.main.body.getD i (.Pass ⟨0, 0, 0, 0⟩)
structure Mg (K : PySem.W.Frag) (w : World) (mg : Str → Option Value) (C : Cn) : Prop extends Bt mg where
  hK : C.K = K
  cKINDS : ∃ a, mg "KINDS" = some (.ref a) ∧ ∀ g, Rp K g (.ref a) c_KINDS
  cLONGEST : ∃ t, mg "LONGEST" = some (.int 20 t)
  eInvalidCircuit : mg "InvalidCircuit" = some (.ref (C.ex 1)) ∧ PySem.W.excIn K (C.ex 1) [.type "ValueError", .type "Exception", .type "BaseException", .type "object"] "ValueError.__new__" = true ∧ PySem.W.keepIn K (.ref (C.ex 1)) = true ∧ PySem.W.subIn K (.ref (C.ex 1)) (.type "BaseException") = true ∧ PySem.W.typeIn K (.ref (C.ex 1)) = some (.type "type")
  eInvalidExchange : mg "InvalidExchange" = some (.ref (C.ex 3)) ∧ PySem.W.excIn K (C.ex 3) [.type "ValueError", .type "Exception", .type "BaseException", .type "object"] "ValueError.__new__" = true ∧ PySem.W.keepIn K (.ref (C.ex 3)) = true ∧ PySem.W.subIn K (.ref (C.ex 3)) (.type "BaseException") = true ∧ PySem.W.typeIn K (.ref (C.ex 3)) = some (.type "type")
  eInvalidText : mg "InvalidText" = some (.ref (C.ex 8)) ∧ PySem.W.excIn K (C.ex 8) [.type "ValueError", .type "Exception", .type "BaseException", .type "object"] "ValueError.__new__" = true ∧ PySem.W.keepIn K (.ref (C.ex 8)) = true ∧ PySem.W.subIn K (.ref (C.ex 8)) (.type "BaseException") = true ∧ PySem.W.typeIn K (.ref (C.ex 8)) = some (.type "type")
theorem g_KINDS {X : Cx} {C : Cn} {E : XK} {pos : Pos} (M : Mg X.K X.w X.mg C) (hg : Gl X "KINDS" := by rfl) : CE X C E (.Name "KINDS" pos) (eC c_KINDS) := by
  obtain ⟨a, h1, h2⟩ := M.cKINDS
  exact ce_glob (v := .ref a) h1 rfl h2 hg
theorem g_LONGEST {X : Cx} {C : Cn} {E : XK} {pos : Pos} (M : Mg X.K X.w X.mg C) (hg : Gl X "LONGEST" := by rfl) : CE X C E (.Name "LONGEST" pos) (eC c_LONGEST) := by
  obtain ⟨t, h1⟩ := M.cLONGEST
  exact ce_glob (v := .int 20) h1 ⟨t, rfl⟩ (fun _ => .int _) hg
theorem x_InvalidCircuit {X : Cx} {C : Cn} {E : XK} {m : Str} {j : Nat} {p p2 pos pos' : Pos} (M : Mg X.K X.w X.mg C) (tk : Takes X (fun cls d _ H => E cls d H)) (hc : X.calm = true := by rfl) (hg : Gl X "InvalidCircuit" := by rfl) : CS X C E (.Raise (some (.Call (.Name "InvalidCircuit" p) [.Constant (.str m) j p2] [] pos)) none pos') (sRaise 1) := by
  obtain ⟨h1, h2, h3, h4, h5⟩ := M.eInvalidCircuit
  exact cs_raise (W := fun cls d _ H => E cls d H) 1 PySem.F.excBase_ValueError h2 h1 h3 (raises_own h4 h5) tk hc hg
theorem x_InvalidExchange {X : Cx} {C : Cn} {E : XK} {m : Str} {j : Nat} {p p2 pos pos' : Pos} (M : Mg X.K X.w X.mg C) (tk : Takes X (fun cls d _ H => E cls d H)) (hc : X.calm = true := by rfl) (hg : Gl X "InvalidExchange" := by rfl) : CS X C E (.Raise (some (.Call (.Name "InvalidExchange" p) [.Constant (.str m) j p2] [] pos)) none pos') (sRaise 3) := by
  obtain ⟨h1, h2, h3, h4, h5⟩ := M.eInvalidExchange
  exact cs_raise (W := fun cls d _ H => E cls d H) 3 PySem.F.excBase_ValueError h2 h1 h3 (raises_own h4 h5) tk hc hg
theorem x_InvalidText {X : Cx} {C : Cn} {E : XK} {m : Str} {j : Nat} {p p2 pos pos' : Pos} (M : Mg X.K X.w X.mg C) (tk : Takes X (fun cls d _ H => E cls d H)) (hc : X.calm = true := by rfl) (hg : Gl X "InvalidText" := by rfl) : CS X C E (.Raise (some (.Call (.Name "InvalidText" p) [.Constant (.str m) j p2] [] pos)) none pos') (sRaise 8) := by
  obtain ⟨h1, h2, h3, h4, h5⟩ := M.eInvalidText
  exact cs_raise (W := fun cls d _ H => E cls d H) 8 PySem.F.excBase_ValueError h2 h1 h3 (raises_own h4 h5) tk hc hg
abbrev s_law_result : Stmt := topS 34
theorem sc_law_result : FnScope ngR ["call"] (defScope s_law_result) := ⟨rfl, rfl, rfl, by decide +kernel, rfl, by decide +kernel, by decide +kernel⟩
structure ResF (K : PySem.W.Frag) (mg : Str → Option Value) (C : Cn) : Prop where
  ex : ∃ (g GE : Addr) (oc : Value) (od : Option Addr) (osl : Array (Option Value)) (kV doc pm : Value) (an : Option Addr) (cdv ct : Value), mg "_law_result" = some (.ref g) ∧ PySem.W.keepIn K (.ref g) = true ∧
    K.lookup g = some ⟨oc, od, .func (PySem.W.fnOf "_law_result" "_law_result" (defArgs s_law_result) (defBody s_law_result) (defScope s_law_result) .none kV doc pm an cdv ct), osl⟩ ∧ PySem.W.codeIn K cdv "_law_result" = true ∧ mg "GateError" = some (.ref GE) ∧ excOk K GE C.ex = true
  c0 : mg "InvalidGate" = some (.ref (C.ex 0))
  c1 : mg "InvalidCircuit" = some (.ref (C.ex 1))
  c2 : mg "InvalidWord" = some (.ref (C.ex 2))
  c3 : mg "InvalidExchange" = some (.ref (C.ex 3))
  c4 : mg "InvalidLines" = some (.ref (C.ex 4))
  c5 : mg "InvalidKinds" = some (.ref (C.ex 5))
  c6 : mg "InvalidFunction" = some (.ref (C.ex 6))
  c7 : mg "InvalidAnswers" = some (.ref (C.ex 7))
  c8 : mg "InvalidText" = some (.ref (C.ex 8))
  c9 : mg "TooMany" = some (.ref (C.ex 9))
  c10 : mg "Empty" = some (.ref (C.ex 10))
  c11 : mg "NothingToUndo" = some (.ref (C.ex 11))
  ve : mg "ValueError" = none
theorem r_res {X : Cx} {C : Cn} {E : XK} {k : Nat} {c : Addr} {x : Str} {params : Arguments} {body : Expr} {scope : Scope} {fb : Ex} {p lpos pos : Pos}
    (M : Bt X.mg) (R : ResF X.K X.mg C) (Lm : LamD X.base X.mg C x c) (hcode : X.env.code = .ref c) (hq : X.env.qual = x ++ ".<locals>.") (hr : Room (k + 2) X.A) (L : LamX.LamS X.env.scope scope)
    (hbody : ∀ (A : Around) (outer : List Env) (s : Shared) (H : Hp) (E : XK) (f c' : Addr), Room k (A.deeper (LamX.lamEnv X scope s.heap.objs.size f c')) → CE (LamX.lamCx X A outer s H E scope f c') C E body fb)
    (hg : Gl X "_law_result" := by rfl) (hdef : defaultsOf params X.env = ([], []) := by rfl)
    (hbind : ∀ (q : Str) (cl : List (Str × Addr)) (pm cv ctv : Value), bindArgs (PySem.W.kla_fn "<lambda>" q params body scope cl pm cv ctv) ⟨[], []⟩ = pure [] := by intros; rfl) :
    CE X C E (.Call (.Name "_law_result" p) [.Lambda params body scope lpos] [] pos) (eRes resNm al12 fb) := by
  obtain ⟨g, GE, oc, od, osl, kV, doc, pm, an, cdv, ct, h1, h2, h3, h4, h5, h6⟩ := R.ex
  obtain ⟨P, tb, m1, m2⟩ := Lm.ex
  have EA := excOk_all h6
  rw [← hq] at m1 m2
  have hu : ∀ env, (X.A.deeper env).units + 1 < cLine := fun env => (hr.deeper env).u1
  have F := fun_mk (st := s_law_result) h3 h4 h2
  refine ce_res h1 h2 h3 h4 (F.binds (ps := ["call"]) fun _ _ _ _ _ _ us hl => match us, hl with | [_], _ => rfl) sc_law_result (.inl rfl) ?_ tb hcode m1 m2 hr L hbody hg hdef hbind
  refine gives_of (C := C) (al := al12) rfl sc_law_result.nd (fun s H => ?_) h5 rfl rfl rfl rfl EA.exm (fun s H => ?_) (bRes1 (K := X.K) (C := C) (exs := exs12 C.ex)) (fun c hc => bRes2 (of_decide_eq_true hc) (EA.kit c (of_decide_eq_true hc)))
  · exact PS.imp (ps_asg (pe_tup (pa_cons pe_non (pa_cons pe_non pa_nil rfl) rfl)) (pg_tup rfl (pgs_cons (pg_name (i := 1) sc_law_result.nd rfl (.inl rfl) (.inl rfl)) (pgs_cons (pg_name (i := 2) sc_law_result.nd rfl (.inl rfl) (.inl rfl)) pgs_nil rfl) rfl) rfl rfl) rfl rfl rfl) fun De σ H q => ⟨by decide, fun a ha => ⟨a, _, rfl, .inl (.inl upd_same), rfl, _, _, rfl, _, _, rfl, rfl, q a ha⟩⟩
  · exact css_cons (cs_if (ct_noE 1) (css_one (cs_ret (ce_tup (ca_cons ce_str (ca_cons (ce_var 2) ca_nil))))) css_nil)
      (css_cons (cs_dic 4 sc_law_result.nd (cps_cons (ce_isE 1 EA.F M.isinstance R.c0) (cps_cons (ce_isE 1 EA.F M.isinstance R.c1) cps_nil)))
      (css_cons (cs_dupd 4 (cps_cons (ce_isE 1 EA.F M.isinstance R.c2) (cps_cons (ce_isE 1 EA.F M.isinstance R.c3) cps_nil)))
      (css_cons (cs_dupd 4 (cps_cons (ce_isE 1 EA.F M.isinstance R.c4) (cps_cons (ce_isE 1 EA.F M.isinstance R.c5) cps_nil)))
      (css_cons (cs_dupd 4 (cps_cons (ce_isE 1 EA.F M.isinstance R.c6) (cps_cons (ce_isE 1 EA.F M.isinstance R.c7) cps_nil)))
      (css_cons (cs_dupd 4 (cps_cons (ce_isE 1 EA.F M.isinstance R.c8) (cps_cons (ce_isE 1 EA.F M.isinstance R.c9) cps_nil)))
      (css_cons (cs_dupd 4 (cps_cons (ce_isE 1 EA.F M.isinstance R.c10) (cps_cons (ce_isE 1 EA.F M.isinstance R.c11) cps_nil)))
      (css_cons (cs_frzD 4 (cs_asgLc 5 (own := [("name", 6)]) (is := [6]) rfl sc_law_result.nd rfl (sw_true rfl rfl rfl (by decide +kernel)) (ci_w (ci_dic 4)) (blkOk_by (N := ngR) (sc := (defScope s_law_result)) (by decide +kernel)) (by decide) (fun _ _ _ _ _ => (cg_name 6 sc_law_result.nd)) (fun _ _ _ _ _ => (cts_one (ct_val (ce_dix 4 (hu _) (ce_var 6))))) (fun _ _ _ _ _ => (ce_var 6))))
      (css_one (cs_ret (ce_if (ct_w (cw_and (ct_cmp (bin_eq (hr.deeper _).units) (e2w (ce_callB1 cr_len M.len bt_len (e2w (ce_var 5)))) (e2w ce_int)) (pw_and1 (ct_val (ce_isEb 1 EA.F M.isinstance R.ve (by decide +kernel)))))) (ce_tup (ca_cons (ce_ix (e2w (ce_var 5)) (e2w ce_int)) ca_nil)) (ce_tup (ca_cons ce_str ca_nil))))))))))))
section
variable {P : Program} {w : World} {K : PySem.W.Frag} {mg : Str → Option Value} {base : Heap} {C : Cn}
abbrev s_is_between : Stmt := topS 17
theorem sc_is_between : FnScope ["value", "low", "high"] ["value", "low", "high"] (defScope s_is_between) := ⟨rfl, rfl, rfl, by decide +kernel, rfl, by decide +kernel, by decide +kernel⟩
theorem ok_is_between {f : Addr} {fd : FuncData} (M : Mg K w mg C) (F : Fun K "is_between" "is_between" s_is_between f fd)  :
    FnOk P w K mg base (L2.CX P w) 1 f fd ["value", "low", "high"] (spF K C 3 f_is_between) :=
  fn_ok (N := ["value", "low", "high"]) F sc_is_between fun cdv A outer s H E hr =>
    (css_one (cs_ret (ce_and (ce_isi .int M.isinstance M.int bt_int (e2w (ce_var 0))) (ce_and (ce_not (ce_isi .bool M.isinstance M.bool bt_bool (e2w (ce_var 0)))) (ce_one (ce_chain bin_le bin_le (e2w (ce_var 1)) (e2w (ce_var 0)) (e2w (ce_var 2))))))))
abbrev s_is_gate : Stmt := topS 18
theorem sc_is_gate : FnScope ["value", "kind", "lines", "line"] ["value"] (defScope s_is_gate) := ⟨rfl, rfl, rfl, by decide +kernel, rfl, by decide +kernel, by decide +kernel⟩
theorem ok_is_gate {f : Addr} {fd : FuncData} (M : Mg K w mg C) (F : Fun K "is_gate" "is_gate" s_is_gate f fd) (fd_is_between : Fd P w K mg base C 1 "is_between" 3 f_is_between) :
    FnOk P w K mg base (L2.CX P w) 2 f fd ["value"] (spF K C 1 f_is_gate) :=
  fn_ok (N := ["value", "kind", "lines", "line"]) F sc_is_gate fun cdv A outer s H E hr =>
    (css_cons (cs_if (ct_w (cw_or (ct_not (ct_val (ce_isi .tuple M.isinstance M.tuple bt_tuple (e2w (ce_var 0))))) (cw_or (ct_cmp (bin_eq hr.units) (e2w (ce_var 0)) (e2w (ce_tup ca_nil))) (cw_or (ct_not (ct_val (ce_isi .str M.isinstance M.str bt_str (e2w (ce_ix (e2w (ce_var 0)) (e2w ce_int)))))) (pw_or1 (ct_cmp (bin_notIn hr.u65) (e2w (ce_ix (e2w (ce_var 0)) (e2w ce_int))) (e2w (g_KINDS M)))))))) (css_one (cs_ret ce_bl)) css_nil)
    (css_cons (cs_par 1 2 sc_is_gate.nd (ce_ix (e2w (ce_var 0)) (e2w ce_int)) (ce_slice (e2w (ce_var 0)) (co_some ce_int) co_none))
    (css_cons (cs_if (ct_w (cw_or (ct_not (ct_val (ce_callB1 (cr_allD rfl) M.all bt_all (f2w (cf_comp (own := [("line", 3)]) (is := [3]) rfl sc_is_gate.nd (ciw_seq (e2w (ce_var 2))) (blkOk_by (N := ["value", "kind", "lines", "line"]) (sc := (defScope s_is_gate)) (by decide +kernel)) (by decide) (fun _ _ _ _ _ => (cg_name 3 sc_is_gate.nd)) (fun _ _ _ _ _ => cts_nil) (fun _ _ _ _ _ => (ce_call fd_is_between hr (by decide) passL (ca_cons (ce_var 3) (ca_cons ce_int (ca_cons ce_int ca_nil)))))))))) (pw_or1 (ct_cmp (bin_ne hr.units) (e2w (ce_lenSet rfl M.len M.set (e2w (ce_var 2)))) (e2w (ce_callB1 cr_len M.len bt_len (e2w (ce_var 2)))))))) (css_one (cs_ret ce_bl)) css_nil)
    (css_cons (cs_if (ct_cmp (bin_ne hr.units) (e2w (ce_callB1 cr_len M.len bt_len (e2w (ce_var 2)))) (e2w (ce_if (ct_cmp (bin_eq hr.units) (e2w (ce_var 1)) (e2w ce_str)) ce_int (ce_if (ct_cmp (bin_in hr.u65) (e2w (ce_var 1)) (e2w (ce_tup (ca_cons ce_str (ca_cons ce_str ca_nil))))) ce_int ce_int)))) (css_one (cs_ret ce_bl)) css_nil)
    (css_cons (cs_if (ct_w (cw_or (ct_cmp (bin_eq hr.units) (e2w (ce_var 1)) (e2w ce_str)) (pw_or1 (ct_cmp (bin_eq hr.units) (e2w (ce_var 1)) (e2w ce_str))))) (css_one (cs_ret (ce_cmp bin_lt (e2w (ce_ix (e2w (ce_var 2)) (e2w ce_int))) (e2w (ce_ix (e2w (ce_var 2)) (e2w ce_int)))))) css_nil)
    (css_one (cs_ret (ce_or (ce_cmp (bin_ne hr.units) (e2w (ce_var 1)) (e2w ce_str)) (ce_one (ce_cmp bin_lt (e2w (ce_ix (e2w (ce_var 2)) (e2w ce_int))) (e2w (ce_ix (e2w (ce_var 2)) (e2w ce_int)))))))))))))
abbrev s_is_circuit : Stmt := topS 19
theorem sc_is_circuit : FnScope ["value", "gate"] ["value"] (defScope s_is_circuit) := ⟨rfl, rfl, rfl, by decide +kernel, rfl, by decide +kernel, by decide +kernel⟩
theorem ok_is_circuit {f : Addr} {fd : FuncData} (M : Mg K w mg C) (F : Fun K "is_circuit" "is_circuit" s_is_circuit f fd) (fd_is_gate : Fd P w K mg base C 2 "is_gate" 1 f_is_gate) :
    FnOk P w K mg base (L2.CX P w) 3 f fd ["value"] (spF K C 1 f_is_circuit) :=
  fn_ok (N := ["value", "gate"]) F sc_is_circuit fun cdv A outer s H E hr =>
    (css_one (cs_ret (ce_and (ce_isi .tuple M.isinstance M.tuple bt_tuple (e2w (ce_var 0))) (ce_and (ce_cmp bin_le (e2w (ce_callB1 cr_len M.len bt_len (e2w (ce_var 0)))) (e2w (g_LONGEST M))) (ce_one (ce_callB1 (cr_allD rfl) M.all bt_all (f2w (cf_comp (own := [("gate", 1)]) (is := [1]) rfl sc_is_circuit.nd (ciw_seq (e2w (ce_var 0))) (blkOk_by (N := ["value", "gate"]) (sc := (defScope s_is_circuit)) (by decide +kernel)) (by decide) (fun _ _ _ _ _ => (cg_name 1 sc_is_circuit.nd)) (fun _ _ _ _ _ => cts_nil) (fun _ _ _ _ _ => (ce_call fd_is_gate hr (by decide) passL (ca_cons (ce_var 1) ca_nil)))))))))))
abbrev s_is_exchange : Stmt := topS 20
theorem sc_is_exchange : FnScope ["value", "word"] ["value"] (defScope s_is_exchange) := ⟨rfl, rfl, rfl, by decide +kernel, rfl, by decide +kernel, by decide +kernel⟩
theorem ok_is_exchange {f : Addr} {fd : FuncData} (M : Mg K w mg C) (F : Fun K "is_exchange" "is_exchange" s_is_exchange f fd) (fd_is_between : Fd P w K mg base C 1 "is_between" 3 f_is_between) :
    FnOk P w K mg base (L2.CX P w) 2 f fd ["value"] (spF K C 1 f_is_exchange) :=
  fn_ok (N := ["value", "word"]) F sc_is_exchange fun cdv A outer s H E hr =>
    (css_cons (cs_if (ct_w (cw_or (ct_not (ct_val (ce_isi .tuple M.isinstance M.tuple bt_tuple (e2w (ce_var 0))))) (cw_or (ct_cmp (bin_ne hr.units) (e2w (ce_callB1 cr_len M.len bt_len (e2w (ce_var 0)))) (e2w ce_int)) (pw_or1 (ct_not (ct_val (ce_callB1 (cr_allD rfl) M.all bt_all (f2w (cf_comp (own := [("word", 1)]) (is := [1]) rfl sc_is_exchange.nd (ciw_seq (e2w (ce_var 0))) (blkOk_by (N := ["value", "word"]) (sc := (defScope s_is_exchange)) (by decide +kernel)) (by decide) (fun _ _ _ _ _ => (cg_name 1 sc_is_exchange.nd)) (fun _ _ _ _ _ => cts_nil) (fun _ _ _ _ _ => (ce_call fd_is_between hr (by decide) passL (ca_cons (ce_var 1) (ca_cons ce_int (ca_cons ce_int ca_nil)))))))))))))) (css_one (cs_ret ce_bl)) css_nil)
    (css_one (cs_ret (ce_cmp (bin_eq hr.units) (e2w (ce_lenSet rfl M.len M.set (e2w (ce_var 0)))) (e2w ce_int)))))
abbrev s_check_circuit : Stmt := topS 21
theorem sc_check_circuit : FnScope ["circuit"] ["circuit"] (defScope s_check_circuit) := ⟨rfl, rfl, rfl, by decide +kernel, rfl, by decide +kernel, by decide +kernel⟩
theorem ok_check_circuit {f : Addr} {fd : FuncData} (M : Mg K w mg C) (F : Fun K "check_circuit" "check_circuit" s_check_circuit f fd) (fd_is_circuit : Fd P w K mg base C 3 "is_circuit" 1 f_is_circuit) :
    FnOk P w K mg base (L2.CX P w) 4 f fd ["circuit"] (spF K C 1 f_check_circuit) :=
  fn_ok (N := ["circuit"]) F sc_check_circuit fun cdv A outer s H E hr =>
    (css_one (cs_if (ct_not (ct_val (ce_call fd_is_circuit hr (by decide) passC (ca_cons (ce_var 0) ca_nil)))) (css_one (x_InvalidCircuit M (takes_of rfl rfl rfl rfl))) css_nil))
abbrev s_check_exchange : Stmt := topS 22
theorem sc_check_exchange : FnScope ["exchange"] ["exchange"] (defScope s_check_exchange) := ⟨rfl, rfl, rfl, by decide +kernel, rfl, by decide +kernel, by decide +kernel⟩
theorem ok_check_exchange {f : Addr} {fd : FuncData} (M : Mg K w mg C) (F : Fun K "check_exchange" "check_exchange" s_check_exchange f fd) (fd_is_exchange : Fd P w K mg base C 2 "is_exchange" 1 f_is_exchange) :
    FnOk P w K mg base (L2.CX P w) 3 f fd ["exchange"] (spF K C 1 f_check_exchange) :=
  fn_ok (N := ["exchange"]) F sc_check_exchange fun cdv A outer s H E hr =>
    (css_one (cs_if (ct_not (ct_val (ce_call fd_is_exchange hr (by decide) passC (ca_cons (ce_var 0) ca_nil)))) (css_one (x_InvalidExchange M (takes_of rfl rfl rfl rfl))) css_nil))
abbrev s_gate_text : Stmt := topS 24
theorem sc_gate_text : FnScope ["gate", "line"] ["gate"] (defScope s_gate_text) := ⟨rfl, rfl, rfl, by decide +kernel, rfl, by decide +kernel, by decide +kernel⟩
theorem ok_gate_text {f : Addr} {fd : FuncData} (M : Mg K w mg C) (F : Fun K "gate_text" "gate_text" s_gate_text f fd)  :
    FnOk P w K mg base (L2.CX P w) 1 f fd ["gate"] (spF K C 1 f_gate_text) :=
  fn_ok (N := ["gate", "line"]) F sc_gate_text fun cdv A outer s H E hr =>
    (css_one (cs_ret (ce_bin bin_add (e2w (ce_bin bin_add (e2w (ce_bin bin_add (e2w (ce_ix (e2w (ce_var 0)) (e2w ce_int))) (e2w ce_str))) (e2w (ce_join ce_str (f2w (cf_comp (own := [("line", 1)]) (is := [1]) rfl sc_gate_text.nd (ciw_seq (e2w (ce_slice (e2w (ce_var 0)) (co_some ce_int) co_none))) (blkOk_by (N := ["gate", "line"]) (sc := (defScope s_gate_text)) (by decide +kernel)) (by decide) (fun _ _ _ _ _ => (cg_name 1 sc_gate_text.nd)) (fun _ _ _ _ _ => cts_nil) (fun _ _ _ _ _ => (ce_callTy1 cr_strI M.str bt_str (e2w (ce_var 1)))))))))) (e2w ce_str))))
abbrev s_circuit_text : Stmt := topS 25
theorem sc_circuit_text : FnScope ["circuit", "gate"] ["circuit"] (defScope s_circuit_text) := ⟨rfl, rfl, rfl, by decide +kernel, rfl, by decide +kernel, by decide +kernel⟩
theorem ok_circuit_text {f : Addr} {fd : FuncData} (M : Mg K w mg C) (F : Fun K "circuit_text" "circuit_text" s_circuit_text f fd) (fd_gate_text : Fd P w K mg base C 1 "gate_text" 1 f_gate_text) :
    FnOk P w K mg base (L2.CX P w) 2 f fd ["circuit"] (spF K C 1 f_circuit_text) :=
  fn_ok (N := ["circuit", "gate"]) F sc_circuit_text fun cdv A outer s H E hr =>
    (css_one (cs_ret (ce_if (ct_cmp (bin_ne hr.units) (e2w (ce_var 0)) (e2w (ce_tup ca_nil))) (ce_join ce_str (f2w (cf_comp (own := [("gate", 1)]) (is := [1]) rfl sc_circuit_text.nd (ciw_seq (e2w (ce_var 0))) (blkOk_by (N := ["circuit", "gate"]) (sc := (defScope s_circuit_text)) (by decide +kernel)) (by decide) (fun _ _ _ _ _ => (cg_name 1 sc_circuit_text.nd)) (fun _ _ _ _ _ => cts_nil) (fun _ _ _ _ _ => (ce_call fd_gate_text hr (by decide) passL (ca_cons (ce_var 1) ca_nil)))))) ce_str)))
abbrev s_format_circuit : Stmt := topS 26
theorem sc_format_circuit : FnScope ["circuit"] ["circuit"] (defScope s_format_circuit) := ⟨rfl, rfl, rfl, by decide +kernel, rfl, by decide +kernel, by decide +kernel⟩
theorem ok_format_circuit {f : Addr} {fd : FuncData} (M : Mg K w mg C) (F : Fun K "format_circuit" "format_circuit" s_format_circuit f fd) (fd_check_circuit : Fd P w K mg base C 4 "check_circuit" 1 f_check_circuit) (fd_circuit_text : Fd P w K mg base C 2 "circuit_text" 1 f_circuit_text) :
    FnOk P w K mg base (L2.CX P w) 5 f fd ["circuit"] (spF K C 1 f_format_circuit) :=
  fn_ok (N := ["circuit"]) F sc_format_circuit fun cdv A outer s H E hr =>
    (css_cons (cs_expr (ce_call fd_check_circuit hr (by decide) passC (ca_cons (ce_var 0) ca_nil)))
    (css_one (cs_ret (ce_call fd_circuit_text hr (by decide) passC (ca_cons (ce_var 0) ca_nil)))))
abbrev s_exchange_text : Stmt := topS 27
theorem sc_exchange_text : FnScope ["exchange", "word"] ["exchange"] (defScope s_exchange_text) := ⟨rfl, rfl, rfl, by decide +kernel, rfl, by decide +kernel, by decide +kernel⟩
theorem ok_exchange_text {f : Addr} {fd : FuncData} (M : Mg K w mg C) (F : Fun K "exchange_text" "exchange_text" s_exchange_text f fd)  :
    FnOk P w K mg base (L2.CX P w) 1 f fd ["exchange"] (spF K C 1 f_exchange_text) :=
  fn_ok (N := ["exchange", "word"]) F sc_exchange_text fun cdv A outer s H E hr =>
    (css_one (cs_ret (ce_join ce_str (f2w (cf_comp (own := [("word", 1)]) (is := [1]) rfl sc_exchange_text.nd (ciw_seq (e2w (ce_var 0))) (blkOk_by (N := ["exchange", "word"]) (sc := (defScope s_exchange_text)) (by decide +kernel)) (by decide) (fun _ _ _ _ _ => (cg_name 1 sc_exchange_text.nd)) (fun _ _ _ _ _ => cts_nil) (fun _ _ _ _ _ => (ce_callTy1 cr_strI M.str bt_str (e2w (ce_var 1)))))))))
abbrev s_format_exchange : Stmt := topS 28
theorem sc_format_exchange : FnScope ["exchange"] ["exchange"] (defScope s_format_exchange) := ⟨rfl, rfl, rfl, by decide +kernel, rfl, by decide +kernel, by decide +kernel⟩
theorem ok_format_exchange {f : Addr} {fd : FuncData} (M : Mg K w mg C) (F : Fun K "format_exchange" "format_exchange" s_format_exchange f fd) (fd_check_exchange : Fd P w K mg base C 3 "check_exchange" 1 f_check_exchange) (fd_exchange_text : Fd P w K mg base C 1 "exchange_text" 1 f_exchange_text) :
    FnOk P w K mg base (L2.CX P w) 4 f fd ["exchange"] (spF K C 1 f_format_exchange) :=
  fn_ok (N := ["exchange"]) F sc_format_exchange fun cdv A outer s H E hr =>
    (css_cons (cs_expr (ce_call fd_check_exchange hr (by decide) passC (ca_cons (ce_var 0) ca_nil)))
    (css_one (cs_ret (ce_call fd_exchange_text hr (by decide) passC (ca_cons (ce_var 0) ca_nil)))))
abbrev s_read_digits : Stmt := topS 29
theorem sc_read_digits : FnScope ["words", "word"] ["words"] (defScope s_read_digits) := ⟨rfl, rfl, rfl, by decide +kernel, rfl, by decide +kernel, by decide +kernel⟩
theorem ok_read_digits {f : Addr} {fd : FuncData} (M : Mg K w mg C) (F : Fun K "read_digits" "read_digits" s_read_digits f fd)  :
    FnOk P w K mg base (L2.CX P w) 1 f fd ["words"] (spF K C 1 f_read_digits) :=
  fn_ok (N := ["words", "word"]) F sc_read_digits fun cdv A outer s H E hr =>
    (css_cons (cs_if (ct_not (ct_val (ce_callB1 (cr_allD rfl) M.all bt_all (f2w (cf_comp (own := [("word", 1)]) (is := [1]) rfl sc_read_digits.nd (ciw_seq (e2w (ce_var 0))) (blkOk_by (N := ["words", "word"]) (sc := (defScope s_read_digits)) (by decide +kernel)) (by decide) (fun _ _ _ _ _ => (cg_name 1 sc_read_digits.nd)) (fun _ _ _ _ _ => cts_nil) (fun _ _ _ _ _ => (ce_and (ce_cmp (bin_eq hr.units) (e2w (ce_callB1 cr_len M.len bt_len (e2w (ce_var 1)))) (e2w ce_int)) (ce_one (ce_cmp bin_inS (e2w (ce_var 1)) (e2w ce_str)))))))))) (css_one (x_InvalidText M (takes_of rfl rfl rfl rfl))) css_nil)
    (css_one (cs_ret (ce_callTy1 cr_tuple M.tuple bt_tuple (f2w (cf_comp (own := [("word", 1)]) (is := [1]) rfl sc_read_digits.nd (ciw_seq (e2w (ce_var 0))) (blkOk_by (N := ["words", "word"]) (sc := (defScope s_read_digits)) (by decide +kernel)) (by decide) (fun _ _ _ _ _ => (cg_name 1 sc_read_digits.nd)) (fun _ _ _ _ _ => cts_nil) (fun _ _ _ _ _ => (ce_callTy1 cr_intS M.int bt_int (e2w (ce_var 1))))))))))
abbrev s_read_gate : Stmt := topS 30
theorem sc_read_gate : FnScope ["word", "parts"] ["word"] (defScope s_read_gate) := ⟨rfl, rfl, rfl, by decide +kernel, rfl, by decide +kernel, by decide +kernel⟩
theorem ok_read_gate {f : Addr} {fd : FuncData} (M : Mg K w mg C) (F : Fun K "read_gate" "read_gate" s_read_gate f fd) (fd_read_digits : Fd P w K mg base C 1 "read_digits" 1 f_read_digits) :
    FnOk P w K mg base (L2.CX P w) 2 f fd ["word"] (spF K C 1 f_read_gate) :=
  fn_ok (N := ["word", "parts"]) F sc_read_gate fun cdv A outer s H E hr =>
    (css_cons (cs_asg 1 sc_read_gate.nd (f2e (cf_split (ce_var 0) ce_str)))
    (css_cons (cs_if (ct_w (cw_or (ct_cmp (bin_ne hr.units) (e2w (ce_callB1 cr_len M.len bt_len (e2w (ce_var 1)))) (e2w ce_int)) (pw_or1 (ct_cmp (bin_ne hr.units) (e2w (ce_cutS (e2w (ce_ix (e2w (ce_var 1)) (e2w ce_int))) (co_some (ce_neg ce_int)) co_none)) (e2w ce_str))))) (css_one (x_InvalidText M (takes_of rfl rfl rfl rfl))) css_nil)
    (css_one (cs_ret (ce_bin bin_add (e2w (ce_tup (ca_cons (ce_ix (e2w (ce_var 1)) (e2w ce_int)) ca_nil))) (e2w (ce_call fd_read_digits hr (by decide) passC (ca_cons (f2e (cf_split (ce_cutS (e2w (ce_ix (e2w (ce_var 1)) (e2w ce_int))) co_none (co_some (ce_neg ce_int))) ce_str)) ca_nil))))))))
abbrev s_parse_circuit : Stmt := topS 31
theorem sc_parse_circuit : FnScope ["text", "circuit", "word"] ["text"] (defScope s_parse_circuit) := ⟨rfl, rfl, rfl, by decide +kernel, rfl, by decide +kernel, by decide +kernel⟩
theorem ok_parse_circuit {f : Addr} {fd : FuncData} (M : Mg K w mg C) (F : Fun K "parse_circuit" "parse_circuit" s_parse_circuit f fd) (fd_read_gate : Fd P w K mg base C 2 "read_gate" 1 f_read_gate) (fd_is_circuit : Fd P w K mg base C 3 "is_circuit" 1 f_is_circuit) (fd_circuit_text : Fd P w K mg base C 2 "circuit_text" 1 f_circuit_text) :
    FnOk P w K mg base (L2.CX P w) 4 f fd ["text"] (spF K C 1 f_parse_circuit) :=
  fn_ok (N := ["text", "circuit", "word"]) F sc_parse_circuit fun cdv A outer s H E hr =>
    (css_cons (cs_if (ct_not (ct_val (ce_isi .str M.isinstance M.str bt_str (e2w (ce_var 0))))) (css_one (x_InvalidText M (takes_of rfl rfl rfl rfl))) css_nil)
    (css_cons (cs_asg 1 sc_parse_circuit.nd (ce_if (ct_cmp (bin_ne hr.units) (e2w (ce_var 0)) (e2w ce_str)) (ce_callTy1 cr_tuple M.tuple bt_tuple (f2w (cf_compX (own := [("word", 2)]) (is := [2]) rfl rfl (takes_of rfl rfl rfl rfl) rfl sc_parse_circuit.nd (ciw_seq (f2w (cf_split (ce_var 0) ce_str))) (blkOk_by (N := ["text", "circuit", "word"]) (sc := (defScope s_parse_circuit)) (by decide +kernel)) (by decide) (fun _ _ _ _ _ => (cg_name 2 sc_parse_circuit.nd)) (fun _ _ _ _ _ => cts_nil) (fun _ _ _ _ _ => (ce_call fd_read_gate hr (by decide) passB (ca_cons (ce_var 2) ca_nil)))))) (ce_tup ca_nil)))
    (css_cons (cs_if (ct_w (cw_or (ct_not (ct_val (ce_call fd_is_circuit hr (by decide) passC (ca_cons (ce_var 1) ca_nil)))) (pw_or1 (ct_cmp (bin_ne hr.units) (e2w (ce_call fd_circuit_text hr (by decide) passC (ca_cons (ce_var 1) ca_nil))) (e2w (ce_var 0)))))) (css_one (x_InvalidText M (takes_of rfl rfl rfl rfl))) css_nil)
    (css_one (cs_ret (ce_var 1))))))
abbrev s_parse_exchange : Stmt := topS 32
theorem sc_parse_exchange : FnScope ["text", "exchange"] ["text"] (defScope s_parse_exchange) := ⟨rfl, rfl, rfl, by decide +kernel, rfl, by decide +kernel, by decide +kernel⟩
theorem ok_parse_exchange {f : Addr} {fd : FuncData} (M : Mg K w mg C) (F : Fun K "parse_exchange" "parse_exchange" s_parse_exchange f fd) (fd_read_digits : Fd P w K mg base C 1 "read_digits" 1 f_read_digits) (fd_is_exchange : Fd P w K mg base C 2 "is_exchange" 1 f_is_exchange) :
    FnOk P w K mg base (L2.CX P w) 3 f fd ["text"] (spF K C 1 f_parse_exchange) :=
  fn_ok (N := ["text", "exchange"]) F sc_parse_exchange fun cdv A outer s H E hr =>
    (css_cons (cs_if (ct_not (ct_val (ce_isi .str M.isinstance M.str bt_str (e2w (ce_var 0))))) (css_one (x_InvalidText M (takes_of rfl rfl rfl rfl))) css_nil)
    (css_cons (cs_asg 1 sc_parse_exchange.nd (ce_call fd_read_digits hr (by decide) passC (ca_cons (f2e (cf_listS rfl M.list bt_list (e2w (ce_var 0)))) ca_nil)))
    (css_cons (cs_if (ct_not (ct_val (ce_call fd_is_exchange hr (by decide) passC (ca_cons (ce_var 1) ca_nil)))) (css_one (x_InvalidText M (takes_of rfl rfl rfl rfl))) css_nil)
    (css_one (cs_ret (ce_var 1))))))
abbrev s_law_draw : Stmt := topS 35
theorem sc_law_draw : FnScope ["script", "town", "many", "at", "rest", "number"] ["script", "town", "many"] (defScope s_law_draw) := ⟨rfl, rfl, rfl, by decide +kernel, rfl, by decide +kernel, by decide +kernel⟩
theorem ok_law_draw {f : Addr} {fd : FuncData} (M : Mg K w mg C) (F : Fun K "_law_draw" "_law_draw" s_law_draw f fd)  :
    FnOk P w K mg base (L2.CX P w) 1 f fd ["script", "town", "many"] (spF K C 3 f_law_draw) :=
  fn_ok (N := ["script", "town", "many", "at", "rest", "number"]) F sc_law_draw fun cdv A outer s H E hr =>
    (css_cons (cs_tc 1 hr.u1 (ce_bin bin_add (e2w (ce_tc 1 hr.u1)) (e2w ce_int)))
    (css_cons (cs_asg 3 sc_law_draw.nd (ce_if (ct_scr 0) (ce_bin bin_mod (e2w (ce_tc 1 hr.u1)) (e2w (ce_callB1 cr_len M.len bt_len (e2w (ce_var 0))))) ce_int))
    (css_cons (cs_asg 4 sc_law_draw.nd (ce_tr 1 hr.u1 (ce_var 3) (ce_if (ct_scr 0) (ce_ix (e2w (ce_var 0)) (e2w (ce_var 3))) ce_int)))
    (css_cons (cs_if (ct_cmp bin_ge (e2w (ce_var 4)) (e2w (ce_bin bin_pow (e2w ce_int) (e2w ce_int)))) (css_cons (cs_tr 1 hr.u1 (ce_bin bin_div (e2w (ce_var 4)) (e2w (ce_var 2))) (ce_var 3))
    (css_one (cs_ret (ce_bin bin_mod (e2w (ce_var 4)) (e2w (ce_var 2)))))) css_nil)
    (css_cons (cs_asg 5 sc_law_draw.nd (ce_bin bin_mod (e2w (ce_bin bin_add (e2w (ce_var 4)) (e2w (ce_bin bin_mul (e2w ce_int) (e2w (ce_tc 1 hr.u1)))))) (e2w ce_int)))
    (css_cons (cs_asg 5 sc_law_draw.nd (ce_bin bin_mod (e2w (ce_bin bin_pow (e2w (ce_var 5)) (e2w ce_int))) (e2w ce_int)))
    (css_one (cs_ret (ce_bin bin_mod (e2w (ce_bin bin_div (e2w (ce_bin bin_mod (e2w (ce_bin bin_add (e2w (ce_bin bin_mul (e2w (ce_bin bin_div (e2w (ce_var 5)) (e2w ce_int))) (e2w ce_int))) (e2w (ce_var 5)))) (e2w ce_int))) (e2w ce_int))) (e2w (ce_var 2)))))))))))
abbrev s_law_begun : Stmt := topS 36
theorem sc_law_begun : FnScope [] [] (defScope s_law_begun) := ⟨rfl, rfl, rfl, by decide +kernel, rfl, by decide +kernel, by decide +kernel⟩
theorem ok_law_begun {f : Addr} {fd : FuncData} (M : Mg K w mg C) (F : Fun K "_law_begun" "_law_begun" s_law_begun f fd)  :
    FnOk P w K mg base (L2.CX P w) 1 f fd [] (spF K C 0 f_law_begun) :=
  fn_ok (N := []) F sc_law_begun fun cdv A outer s H E hr =>
    (css_one (cs_ret ce_begun))
abbrev s_law_gates : Stmt := topS 37
theorem sc_law_gates : FnScope ["found", "one", "other", "rest", "line"] [] (defScope s_law_gates) := ⟨rfl, rfl, rfl, by decide +kernel, rfl, by decide +kernel, by decide +kernel⟩
theorem ok_law_gates {f : Addr} {fd : FuncData} (M : Mg K w mg C) (F : Fun K "_law_gates" "_law_gates" s_law_gates f fd)  :
    FnOk P w K mg base (L2.CX P w) 1 f fd [] (spF K C 0 f_law_gates) :=
  fn_ok (N := ["found", "one", "other", "rest", "line"]) F sc_law_gates fun cdv A outer s H E hr =>
    (css_cons (cs_own 0 sc_law_gates.nd (cf_lst ca_nil))
    (css_cons (cs_for rfl (ci_range1 M.range ce_int) (cg_name 1 sc_law_gates.nd)
    (css_cons (cs_app 0 (ce_tup (ca_cons ce_str (ca_cons (ce_var 1) ca_nil))))
    (css_cons (cs_for rfl (ci_range1 M.range ce_int) (cg_name 2 sc_law_gates.nd)
    (css_one (cs_ext 0 (e2w (ce_if (ct_cmp (bin_ne hr.units) (e2w (ce_var 1)) (e2w (ce_var 2))) (f2e (cf_lst (ca_cons (ce_tup (ca_cons ce_str (ca_cons (ce_var 1) (ca_cons (ce_var 2) ca_nil)))) ca_nil))) (f2e (cf_lst ca_nil)))))))
    (css_cons (cs_asgLc 3 (own := [("line", 4)]) (is := [4]) rfl sc_law_gates.nd rfl (sw_true rfl rfl rfl (by decide +kernel)) (ci_w (ci_range1 M.range ce_int)) (blkOk_by (N := ["found", "one", "other", "rest", "line"]) (sc := (defScope s_law_gates)) (by decide +kernel)) (by decide) (fun _ _ _ _ _ => (cg_name 4 sc_law_gates.nd)) (fun _ _ _ _ _ => (cts_one (ct_cmp (bin_ne hr.units) (e2w (ce_var 4)) (e2w (ce_var 1))))) (fun _ _ _ _ _ => (ce_var 4)))
    (css_cons (cs_app 0 (ce_tup (ca_cons ce_str (ca_cons (ce_ix (e2w (ce_var 3)) (e2w ce_int)) (ca_cons (ce_ix (e2w (ce_var 3)) (e2w ce_int)) (ca_cons (ce_var 1) ca_nil))))))
    (css_cons (cs_app 0 (ce_tup (ca_cons ce_str (ca_cons (ce_ix (e2w (ce_var 3)) (e2w ce_int)) (ca_cons (ce_ix (e2w (ce_var 3)) (e2w ce_int)) ca_nil)))))
    (css_one (cs_app 0 (ce_tup (ca_cons ce_str (ca_cons (ce_var 1) (ca_cons (ce_ix (e2w (ce_var 3)) (e2w ce_int)) (ca_cons (ce_ix (e2w (ce_var 3)) (e2w ce_int)) ca_nil)))))))))))))
    (css_one (cs_ret (ce_callB1 (cr_sortedA hr.units) M.sorted bt_sorted (cw_peek 0))))))
abbrev s_law_circuit : Stmt := topS 38
theorem sc_law_circuit : FnScope ["script", "town", "kinds", "most", "some", "gate", "j"] ["script", "town", "kinds", "most"] (defScope s_law_circuit) := ⟨rfl, rfl, rfl, by decide +kernel, rfl, by decide +kernel, by decide +kernel⟩
theorem ok_law_circuit {f : Addr} {fd : FuncData} (M : Mg K w mg C) (F : Fun K "_law_circuit" "_law_circuit" s_law_circuit f fd) (fd_law_gates : Fd P w K mg base C 1 "_law_gates" 0 f_law_gates) (fd_law_draw : Fd P w K mg base C 1 "_law_draw" 3 f_law_draw) :
    FnOk P w K mg base (L2.CX P w) 2 f fd ["script", "town", "kinds", "most"] (spF K C 4 f_law_circuit) :=
  fn_ok (N := ["script", "town", "kinds", "most", "some", "gate", "j"]) F sc_law_circuit fun cdv A outer s H E hr =>
    (css_cons (cs_asg 4 sc_law_circuit.nd (f2e (cf_comp (own := [("gate", 5)]) (is := [5]) rfl sc_law_circuit.nd (ciw_seq (e2w (ce_call0 fd_law_gates hr (by decide) passC))) (blkOk_by (N := ["script", "town", "kinds", "most", "some", "gate", "j"]) (sc := (defScope s_law_circuit)) (by decide +kernel)) (by decide) (fun _ _ _ _ _ => (cg_name 5 sc_law_circuit.nd)) (fun _ _ _ _ _ => (cts_one (ct_cmp (bin_in hr.u65) (e2w (ce_ix (e2w (ce_var 5)) (e2w ce_int))) (e2w (ce_var 2))))) (fun _ _ _ _ _ => (ce_var 5)))))
    (css_one (cs_ret (ce_callTy1 cr_tuple M.tuple bt_tuple (f2w (cf_comp (own := [("j", 6)]) (is := [6]) rfl sc_law_circuit.nd (ci_w (ci_range1 M.range (ce_call fd_law_draw hr (by decide) passC (ca_cons (ce_var 0) (ca_cons (ce_var 1) (ca_cons (ce_bin bin_add (e2w (ce_var 3)) (e2w ce_int)) ca_nil)))))) (blkOk_by (N := ["script", "town", "kinds", "most", "some", "gate", "j"]) (sc := (defScope s_law_circuit)) (by decide +kernel)) (by decide) (fun _ _ _ _ _ => (cg_name 6 sc_law_circuit.nd)) (fun _ _ _ _ _ => cts_nil) (fun _ _ _ _ _ => (ce_ix (e2w (ce_var 4)) (e2w (ce_call fd_law_draw hr (by decide) passL (ca_cons (ce_var 0) (ca_cons (ce_var 1) (ca_cons (ce_callB1 cr_len M.len bt_len (e2w (ce_var 4))) ca_nil)))))))))))))
abbrev s_law_exchange : Stmt := topS 39
theorem sc_law_exchange : FnScope ["script", "town", "rest", "found", "turn", "at"] ["script", "town"] (defScope s_law_exchange) := ⟨rfl, rfl, rfl, by decide +kernel, rfl, by decide +kernel, by decide +kernel⟩
theorem ok_law_exchange {f : Addr} {fd : FuncData} (M : Mg K w mg C) (F : Fun K "_law_exchange" "_law_exchange" s_law_exchange f fd) (fd_law_draw : Fd P w K mg base C 1 "_law_draw" 3 f_law_draw) :
    FnOk P w K mg base (L2.CX P w) 2 f fd ["script", "town"] (spF K C 2 f_law_exchange) :=
  fn_ok (N := ["script", "town", "rest", "found", "turn", "at"]) F sc_law_exchange fun cdv A outer s H E hr =>
    (css_cons (cs_parO 2 3 sc_law_exchange.nd (ce_listRg rfl M.list M.range ce_int) (cf_lst ca_nil))
    (css_cons (cs_for rfl (ci_range1 M.range ce_int) (cg_name 4 sc_law_exchange.nd)
    (css_cons (cs_asg 5 sc_law_exchange.nd (ce_call fd_law_draw hr (by decide) passL (ca_cons (ce_var 0) (ca_cons (ce_var 1) (ca_cons (ce_callB1 cr_len M.len bt_len (e2w (ce_var 2))) ca_nil)))))
    (css_cons (cs_app 3 (ce_ix (e2w (ce_var 2)) (e2w (ce_var 5))))
    (css_one (cs_asg 2 sc_law_exchange.nd (ce_bin bin_add (e2w (ce_slice (e2w (ce_var 2)) co_none (co_some (ce_var 5)))) (e2w (ce_slice (e2w (ce_var 2)) (co_some (ce_bin bin_add (e2w (ce_var 5)) (e2w ce_int))) co_none))))))))
    (css_one (cs_ret (ce_callTy1 cr_tuple M.tuple bt_tuple (cw_peek 3))))))
abbrev s_law_written : Stmt := topS 40
theorem sc_law_written : FnScope ["circuit_here", "items", "gate", "line"] ["circuit_here"] (defScope s_law_written) := ⟨rfl, rfl, rfl, by decide +kernel, rfl, by decide +kernel, by decide +kernel⟩
theorem ok_law_written {f : Addr} {fd : FuncData} (M : Mg K w mg C) (F : Fun K "_law_written" "_law_written" s_law_written f fd)  :
    FnOk P w K mg base (L2.CX P w) 1 f fd ["circuit_here"] (spF K C 1 f_law_written) :=
  fn_ok (N := ["circuit_here", "items", "gate", "line"]) F sc_law_written fun cdv A outer s H E hr =>
    (css_cons (cs_own 1 sc_law_written.nd (cf_lst ca_nil))
    (css_cons (cs_for rfl (ci_seq (ce_var 0)) (cg_name 2 sc_law_written.nd)
    (css_one (cs_app 1 (ce_bin bin_add (e2w (ce_bin bin_add (e2w (ce_bin bin_add (e2w (ce_ix (e2w (ce_var 2)) (e2w ce_int))) (e2w ce_str))) (e2w (ce_join ce_str (f2w (cf_comp (own := [("line", 3)]) (is := [3]) rfl sc_law_written.nd (ciw_seq (e2w (ce_slice (e2w (ce_var 2)) (co_some ce_int) co_none))) (blkOk_by (N := ["circuit_here", "items", "gate", "line"]) (sc := (defScope s_law_written)) (by decide +kernel)) (by decide) (fun _ _ _ _ _ => (cg_name 3 sc_law_written.nd)) (fun _ _ _ _ _ => cts_nil) (fun _ _ _ _ _ => (ce_callTy1 cr_strI M.str bt_str (e2w (ce_var 3)))))))))) (e2w ce_str)))))
    (css_one (cs_ret (ce_if (ct_cmp (bin_ne hr.units) (cw_peek 1) (f2w (cf_lst ca_nil))) (ce_join ce_str (cw_peek 1)) ce_str)))))
abbrev s_law_digits : Stmt := topS 41
theorem sc_law_digits : FnScope ["exchange_here", "word"] ["exchange_here"] (defScope s_law_digits) := ⟨rfl, rfl, rfl, by decide +kernel, rfl, by decide +kernel, by decide +kernel⟩
theorem ok_law_digits {f : Addr} {fd : FuncData} (M : Mg K w mg C) (F : Fun K "_law_digits" "_law_digits" s_law_digits f fd)  :
    FnOk P w K mg base (L2.CX P w) 1 f fd ["exchange_here"] (spF K C 1 f_law_digits) :=
  fn_ok (N := ["exchange_here", "word"]) F sc_law_digits fun cdv A outer s H E hr =>
    (css_one (cs_ret (ce_join ce_str (f2w (cf_comp (own := [("word", 1)]) (is := [1]) rfl sc_law_digits.nd (ciw_seq (e2w (ce_var 0))) (blkOk_by (N := ["exchange_here", "word"]) (sc := (defScope s_law_digits)) (by decide +kernel)) (by decide) (fun _ _ _ _ _ => (cg_name 1 sc_law_digits.nd)) (fun _ _ _ _ _ => cts_nil) (fun _ _ _ _ _ => (ce_callTy1 cr_strI M.str bt_str (e2w (ce_var 1)))))))))
abbrev s_law_changed : Stmt := topS 42
theorem sc_law_changed : FnScope ["script", "town", "text_here", "at", "mark", "some"] ["script", "town", "text_here"] (defScope s_law_changed) := ⟨rfl, rfl, rfl, by decide +kernel, rfl, by decide +kernel, by decide +kernel⟩
theorem ok_law_changed {f : Addr} {fd : FuncData} (M : Mg K w mg C) (F : Fun K "_law_changed" "_law_changed" s_law_changed f fd) (fd_law_draw : Fd P w K mg base C 1 "_law_draw" 3 f_law_draw) :
    FnOk P w K mg base (L2.CX P w) 2 f fd ["script", "town", "text_here"] (spF K C 3 f_law_changed) :=
  fn_ok (N := ["script", "town", "text_here", "at", "mark", "some"]) F sc_law_changed fun cdv A outer s H E hr =>
    (css_cons (cs_par 3 4 sc_law_changed.nd (ce_call fd_law_draw hr (by decide) passC (ca_cons (ce_var 0) (ca_cons (ce_var 1) (ca_cons (ce_bin bin_add (e2w (ce_callB1 cr_len M.len bt_len (e2w (ce_var 2)))) (e2w ce_int)) ca_nil)))) (ce_ixS (e2w ce_str) (e2w (ce_call fd_law_draw hr (by decide) passC (ca_cons (ce_var 0) (ca_cons (ce_var 1) (ca_cons ce_int ca_nil)))))))
    (css_cons (cs_asg 5 sc_law_changed.nd (f2e (cf_lst (ca_cons (ce_bin bin_add (e2w (ce_bin bin_add (e2w (ce_cutS (e2w (ce_var 2)) co_none (co_some (ce_var 3)))) (e2w (ce_var 4)))) (e2w (ce_cutS (e2w (ce_var 2)) (co_some (ce_var 3)) co_none))) (ca_cons (ce_bin bin_add (e2w (ce_cutS (e2w (ce_var 2)) co_none (co_some (ce_var 3)))) (e2w (ce_cutS (e2w (ce_var 2)) (co_some (ce_bin bin_add (e2w (ce_var 3)) (e2w ce_int))) co_none))) ca_nil)))))
    (css_one (cs_ret (ce_ix (e2w (ce_bin bin_add (e2w (ce_var 5)) (f2w (cf_lst (ca_cons (ce_bin bin_add (e2w (ce_bin bin_add (e2w (ce_cutS (e2w (ce_var 2)) co_none (co_some (ce_var 3)))) (e2w (ce_var 4)))) (e2w (ce_cutS (e2w (ce_var 2)) (co_some (ce_bin bin_add (e2w (ce_var 3)) (e2w ce_int))) co_none))) ca_nil))))) (e2w (ce_call fd_law_draw hr (by decide) passC (ca_cons (ce_var 0) (ca_cons (ce_var 1) (ca_cons ce_int ca_nil))))))))))
abbrev s_law_by_hand : Stmt := topS 43
theorem sc_law_by_hand : FnScope ["odds", "odd"] [] (defScope s_law_by_hand) := ⟨rfl, rfl, rfl, by decide +kernel, rfl, by decide +kernel, by decide +kernel⟩
theorem ok_law_by_hand {f ca : Addr} {kV doc pm ct oc : Value} {an od : Option Addr} {osl : Array (Option Value)} (M : Mg K w mg C) (lk : K.lookup f = some ⟨oc, od, .func (PySem.W.fnOf "_law_by_hand" "_law_by_hand" (defArgs s_law_by_hand) (defBody s_law_by_hand) (defScope s_law_by_hand) .none kV doc pm an (.ref ca) ct), osl⟩) (hcd : PySem.W.codeIn K (.ref ca) "_law_by_hand" = true) (R : ResF K mg C) (Lm : LamD base mg C "_law_by_hand" ca) (fd_parse_circuit : Fd P w K mg base C 4 "parse_circuit" 1 f_parse_circuit) (fd_parse_exchange : Fd P w K mg base C 3 "parse_exchange" 1 f_parse_exchange) (fd_format_circuit : Fd P w K mg base C 5 "format_circuit" 1 f_format_circuit) :
    FnOk P w K mg base (L2.CX P w) 7 f (PySem.W.fnOf "_law_by_hand" "_law_by_hand" (defArgs s_law_by_hand) (defBody s_law_by_hand) (defScope s_law_by_hand) .none kV doc pm an (.ref ca) ct) [] (spF K C 0 f_law_by_hand) :=
  fn_okL (N := ["odds", "odd"]) lk hcd sc_law_by_hand fun A outer s H E hr =>
    (css_cons (cs_asg 0 sc_law_by_hand.nd (f2e (cf_lst (ca_cons ce_str (ca_cons ce_str (ca_cons ce_str (ca_cons ce_str (ca_cons ce_str (ca_cons ce_str (ca_cons ce_str (ca_cons ce_str (ca_cons ce_str ca_nil))))))))))))
    (css_cons (cs_asg 0 sc_law_by_hand.nd (ce_bin bin_add (e2w (ce_var 0)) (f2w (cf_lst (ca_cons ce_str (ca_cons ce_str (ca_cons ce_str (ca_cons ce_str (ca_cons ce_str (ca_cons ce_str (ca_cons ce_str (ca_cons ce_str ca_nil))))))))))))
    (css_cons (cs_asg 0 sc_law_by_hand.nd (ce_bin bin_add (e2w (ce_var 0)) (f2w (cf_lst (ca_cons ce_str (ca_cons ce_str (ca_cons ce_str (ca_cons (ce_join ce_str (e2w (ce_bin bin_mul (f2w (cf_lst (ca_cons ce_str ca_nil))) (e2w ce_int)))) (ca_cons ce_str ca_nil)))))))))
    (css_cons (cs_for rfl (ci_seq (ce_bin bin_add (e2w (ce_var 0)) (f2w (cf_lst (ca_cons ce_str (ca_cons ce_str (ca_cons ce_non (ca_cons (ce_tup ca_nil) ca_nil)))))))) (cg_name 1 sc_law_by_hand.nd)
    (css_one (cs_if (ct_cmp (bin_ne hr.units) (e2w (r_res M.toBt R Lm rfl rfl hr (LamX.lamS_by (sc := (defScope s_law_by_hand)) (by decide +kernel)) fun _ _ _ _ _ _ _ hr => (ce_call fd_parse_circuit hr (by decide) passM (ca_cons (ce_var 1) ca_nil)))) (e2w (ce_tup (ca_cons ce_str ca_nil)))) (css_one (cs_ret ce_bl)) css_nil)))
    (css_cons (cs_for rfl (ci_seq (ce_tup (ca_cons ce_str (ca_cons ce_str (ca_cons ce_str (ca_cons ce_str (ca_cons ce_str (ca_cons ce_str (ca_cons ce_non (ca_cons ce_int (ca_cons ce_str ca_nil))))))))))) (cg_name 1 sc_law_by_hand.nd)
    (css_one (cs_if (ct_cmp (bin_ne hr.units) (e2w (r_res M.toBt R Lm rfl rfl hr (LamX.lamS_by (sc := (defScope s_law_by_hand)) (by decide +kernel)) fun _ _ _ _ _ _ _ hr => (ce_call fd_parse_exchange hr (by decide) passM (ca_cons (ce_var 1) ca_nil)))) (e2w (ce_tup (ca_cons ce_str ca_nil)))) (css_one (cs_ret ce_bl)) css_nil)))
    (css_cons (cs_if (ct_w (cw_or (ct_cmp (bin_ne hr.units) (e2w (ce_call fd_parse_circuit hr (by decide) passC (ca_cons ce_str ca_nil))) (e2w (ce_tup (ca_cons (ce_tup (ca_cons ce_str (ca_cons ce_int (ca_cons ce_int ca_nil)))) (ca_cons (ce_tup (ca_cons ce_str (ca_cons ce_int ca_nil))) ca_nil))))) (pw_or1 (ct_cmp (bin_ne hr.units) (e2w (ce_call fd_parse_circuit hr (by decide) passC (ca_cons ce_str ca_nil))) (e2w (ce_tup ca_nil)))))) (css_one (cs_ret ce_bl)) css_nil)
    (css_one (cs_ret (ce_and (ce_cmp (bin_eq hr.units) (e2w (ce_call fd_parse_exchange hr (by decide) passC (ca_cons ce_str ca_nil))) (e2w (ce_tup (ca_cons ce_int (ca_cons ce_int (ca_cons ce_int (ca_cons ce_int (ca_cons ce_int (ca_cons ce_int (ca_cons ce_int (ca_cons ce_int ca_nil))))))))))) (ce_one (ce_cmp (bin_eq hr.units) (e2w (ce_call fd_format_circuit hr (by decide) passC (ca_cons (ce_tup ca_nil) ca_nil))) (e2w ce_str))))))))))))
abbrev s_law : Stmt := topS 44
theorem sc_law : FnScope ["script", "town", "k", "circuit_here", "exchange_here", "one", "two", "j", "answers", "odd", "found"] ["script"] (defScope s_law) := ⟨rfl, rfl, rfl, by decide +kernel, rfl, by decide +kernel, by decide +kernel⟩
theorem ok_law {f ca : Addr} {kV doc pm ct oc : Value} {an od : Option Addr} {osl : Array (Option Value)} (M : Mg K w mg C) (lk : K.lookup f = some ⟨oc, od, .func (PySem.W.fnOf "law" "law" (defArgs s_law) (defBody s_law) (defScope s_law) .none kV doc pm an (.ref ca) ct), osl⟩) (hcd : PySem.W.codeIn K (.ref ca) "law" = true) (R : ResF K mg C) (Lm : LamD base mg C "law" ca) (fd_law_begun : Fd P w K mg base C 1 "_law_begun" 0 f_law_begun) (fd_law_circuit : Fd P w K mg base C 2 "_law_circuit" 4 f_law_circuit) (fd_law_exchange : Fd P w K mg base C 2 "_law_exchange" 2 f_law_exchange) (fd_law_written : Fd P w K mg base C 1 "_law_written" 1 f_law_written) (fd_law_digits : Fd P w K mg base C 1 "_law_digits" 1 f_law_digits) (fk0_format_circuit : FdK P w K mg base C 5 "format_circuit" 0 ["circuit"] f_format_circuit) (fk0_parse_circuit : FdK P w K mg base C 4 "parse_circuit" 0 ["text"] f_parse_circuit) (fk0_format_exchange : FdK P w K mg base C 4 "format_exchange" 0 ["exchange"] f_format_exchange) (fk0_parse_exchange : FdK P w K mg base C 3 "parse_exchange" 0 ["text"] f_parse_exchange) (fd_law_changed : Fd P w K mg base C 2 "_law_changed" 3 f_law_changed) (fd_law_by_hand : Fd P w K mg base C 7 "_law_by_hand" 0 f_law_by_hand) (fd_parse_circuit : Fd P w K mg base C 4 "parse_circuit" 1 f_parse_circuit) (fd_parse_exchange : Fd P w K mg base C 3 "parse_exchange" 1 f_parse_exchange) (fd_format_circuit : Fd P w K mg base C 5 "format_circuit" 1 f_format_circuit) (fd_format_exchange : Fd P w K mg base C 4 "format_exchange" 1 f_format_exchange) :
    FnOk P w K mg base (L2.CX P w) 8 f (PySem.W.fnOf "law" "law" (defArgs s_law) (defBody s_law) (defScope s_law) .none kV doc pm an (.ref ca) ct) ["script"] (spF K C 1 f_law) :=
  fn_okL (N := ["script", "town", "k", "circuit_here", "exchange_here", "one", "two", "j", "answers", "odd", "found"]) lk hcd sc_law fun A outer s H E hr =>
    (css_cons (cs_asg 1 sc_law.nd (ce_call0 fd_law_begun hr (by decide) passC))
    (css_cons (cs_for rfl (ci_range1 M.range ce_int) (cg_name 2 sc_law.nd)
    (css_cons (cs_asg 3 sc_law.nd (ce_call fd_law_circuit hr (by decide) passL (ca_cons (ce_var 0) (ca_cons (ce_var 1) (ca_cons (ce_tup (ca_cons ce_str (ca_cons ce_str (ca_cons ce_str (ca_cons ce_str (ca_cons ce_str ca_nil)))))) (ca_cons ce_int ca_nil))))))
    (css_cons (cs_asg 4 sc_law.nd (ce_call fd_law_exchange hr (by decide) passL (ca_cons (ce_var 0) (ca_cons (ce_var 1) ca_nil))))
    (css_cons (cs_par 5 6 sc_law.nd (ce_call fd_law_written hr (by decide) passL (ca_cons (ce_var 3) ca_nil)) (ce_call fd_law_digits hr (by decide) passL (ca_cons (ce_var 4) ca_nil)))
    (css_cons (cs_if (ct_w (cw_or (ct_cmp (bin_ne hr.units) (e2w (ce_callK0 fk0_format_circuit hr (by decide) passL (ck_cons (ce_var 3) ck_nil))) (e2w (ce_var 5))) (pw_or1 (ct_cmp (bin_ne hr.units) (e2w (ce_callK0 fk0_parse_circuit hr (by decide) passL (ck_cons (ce_var 5) ck_nil))) (e2w (ce_var 3)))))) (css_one (cs_ret ce_bl)) css_nil)
    (css_cons (cs_if (ct_w (cw_or (ct_cmp (bin_ne hr.units) (e2w (ce_callK0 fk0_format_exchange hr (by decide) passL (ck_cons (ce_var 4) ck_nil))) (e2w (ce_var 6))) (pw_or1 (ct_cmp (bin_ne hr.units) (e2w (ce_callK0 fk0_parse_exchange hr (by decide) passL (ck_cons (ce_var 6) ck_nil))) (e2w (ce_var 4)))))) (css_one (cs_ret ce_bl)) css_nil)
    (css_cons (cs_for rfl (ci_range1 M.range ce_int) (cg_name 7 sc_law.nd)
    (css_cons (cs_asg 9 sc_law.nd (ce_call fd_law_changed hr (by decide) passL (ca_cons (ce_var 0) (ca_cons (ce_var 1) (ca_cons (ce_var 5) ca_nil)))))
    (css_cons (cs_asg 10 sc_law.nd (r_res M.toBt R Lm rfl rfl hr (LamX.lamS_by (sc := (defScope s_law)) (by decide +kernel)) fun _ _ _ _ _ _ _ hr => (ce_call fd_parse_circuit hr (by decide) passM (ca_cons (ce_var 9) ca_nil))))
    (css_cons (cs_if (ct_w (cw_and (ct_cmp (bin_ne hr.units) (e2w (ce_var 10)) (e2w (ce_tup (ca_cons ce_str ca_nil)))) (pw_and1 (ct_w (cw_or (ct_cmp (bin_ne hr.units) (e2w (ce_ix (e2w (ce_var 10)) (e2w ce_int))) (e2w ce_str)) (pw_or1 (ct_cmp (bin_ne hr.units) (e2w (ce_call fd_law_written hr (by decide) passL (ca_cons (ce_ix (e2w (ce_var 10)) (e2w ce_int)) ca_nil))) (e2w (ce_var 9))))))))) (css_one (cs_ret ce_bl)) css_nil)
    (css_cons (cs_asg 9 sc_law.nd (ce_call fd_law_changed hr (by decide) passL (ca_cons (ce_var 0) (ca_cons (ce_var 1) (ca_cons (ce_var 6) ca_nil)))))
    (css_cons (cs_asg 10 sc_law.nd (r_res M.toBt R Lm rfl rfl hr (LamX.lamS_by (sc := (defScope s_law)) (by decide +kernel)) fun _ _ _ _ _ _ _ hr => (ce_call fd_parse_exchange hr (by decide) passM (ca_cons (ce_var 9) ca_nil))))
    (css_one (cs_if (ct_w (cw_and (ct_cmp (bin_ne hr.units) (e2w (ce_var 10)) (e2w (ce_tup (ca_cons ce_str ca_nil)))) (pw_and1 (ct_w (cw_or (ct_cmp (bin_ne hr.units) (e2w (ce_ix (e2w (ce_var 10)) (e2w ce_int))) (e2w ce_str)) (pw_or1 (ct_cmp (bin_ne hr.units) (e2w (ce_call fd_law_digits hr (by decide) passL (ca_cons (ce_ix (e2w (ce_var 10)) (e2w ce_int)) ca_nil))) (e2w (ce_var 9))))))))) (css_one (cs_ret ce_bl)) css_nil))))))))
    (css_cons (cs_own 8 sc_law.nd (cf_lst (ca_cons (r_res M.toBt R Lm rfl rfl hr (LamX.lamS_by (sc := (defScope s_law)) (by decide +kernel)) fun _ _ _ _ _ _ _ hr => (ce_call fd_format_circuit hr (by decide) passM (ca_cons ce_non ca_nil))) ca_nil)))
    (css_cons (cs_app 8 (r_res M.toBt R Lm rfl rfl hr (LamX.lamS_by (sc := (defScope s_law)) (by decide +kernel)) fun _ _ _ _ _ _ _ hr => (ce_call fd_format_circuit hr (by decide) passM (ca_cons (ce_tup (ca_cons (ce_tup (ca_cons ce_str ca_nil)) ca_nil)) ca_nil))))
    (css_cons (cs_app 8 (r_res M.toBt R Lm rfl rfl hr (LamX.lamS_by (sc := (defScope s_law)) (by decide +kernel)) fun _ _ _ _ _ _ _ hr => (ce_call fd_format_exchange hr (by decide) passM (ca_cons (ce_slice (e2w (ce_var 4)) (co_some ce_int) co_none) ca_nil))))
    (css_one (cs_if (ct_cmp (bin_ne hr.units) (cw_peek 8) (f2w (cf_lst (ca_cons (ce_tup (ca_cons ce_str ca_nil)) (ca_cons (ce_tup (ca_cons ce_str ca_nil)) (ca_cons (ce_tup (ca_cons ce_str ca_nil)) ca_nil)))))) (css_one (cs_ret ce_bl)) css_nil))))))))))))
    (css_one (cs_ret (ce_call0 fd_law_by_hand hr (by decide) passC)))))
end
end K26
set_option Elab.async false
set_option linter.all false
set_option maxRecDepth 100000
set_option maxHeartbeats 4000000
namespace BG
open PySem
/-- it returns, and Q holds of what is returned -/
def W {α : Type} (r : Option (Out α)) (Q : α → Tn → Prop) : Prop := match r with
  | some (.ok a t) => Q a t
  | _ => False
section
variable {α β : Type} {Q : α → Tn → Prop}
theorem W.ex {r : Option (Out α)} (h : W r Q) : ∃ a t, r = some (.ok a t) ∧ Q a t := by
  match r, h with
  | some (.ok a t), h => exact ⟨a, t, rfl, h⟩
theorem W.mono {Q' : α → Tn → Prop} {r : Option (Out α)} (h : W r Q) (i : ∀ a t, Q a t → Q' a t) : W r Q' := by
  obtain ⟨a, t, rfl, q⟩ := h.ex
  exact i a t q
theorem w_ret {a : α} {t : Tn} (h : Q a t) : W (ret a t) Q := h
theorem w_bnd {m : M β} {f : β → M α} {t : Tn} (h : W (m t) fun a t' => W (f a t') Q) : W (bnd m f t) Q := by
  obtain ⟨a, t', e, q⟩ := h.ex
  rw [bnd_ok e]; exact q
theorem w_calm {m : M α} {t : Tn} (h : W (m t) Q) : W (calm m t) Q := by
  obtain ⟨a, t', e, q⟩ := h.ex
  unfold calm; rw [e]; exact q
theorem w_eq {m : M α} {a : α} {t : Tn} (e : m = ret a) (h : Q a t) : W (m t) Q := by rw [e]; exact h
end
theorem eq_of_W {m : M D} {d : D} (h : ∀ t, W (m t) fun x t' => x = d ∧ t' = t) : m = ret d := by
  funext t
  obtain ⟨a, t', e, rfl, rfl⟩ := (h t).ex
  exact e
section
variable {S : Sl} {t : Tn} {Q : D → Tn → Prop}
theorem w_var {i : Nat} {d : D} (e : S[i]? = some (.val d)) (h : Q d t) : W (eVar i S t) Q := by
  unfold eVar; rw [e]; exact h
theorem w_peekV {i : Nat} {d : D} (e : S[i]? = some (.val d)) (h : Q d t) : W (ePeek i S t) Q := by
  unfold ePeek; rw [e]; exact h
theorem w_peekO {i : Nat} {ds : List D} (e : S[i]? = some (.own ds)) (h : Q (.lst ds) t) : W (ePeek i S t) Q := by
  unfold ePeek; rw [e]; exact h
theorem w_c {d : D} (h : Q d t) : W (eC d S t) Q := h
theorem w_bin {op : D → D → M D} {a b : Ex} (h : W (a S t) fun x t1 => W (b S t1) fun y t2 => W (op x y t2) Q) : W (eBin op a b S t) Q := w_bnd (h.mono fun _ _ h => w_bnd h)
theorem w_un {op : D → M D} {a : Ex} (h : W (a S t) fun x t1 => W (op x t1) Q) : W (eUn op a S t) Q := w_bnd h
theorem w_evnil {Q : List D → Tn → Prop} (h : Q [] t) : W (evs [] S t) Q := h
theorem w_evcons {f : Ex} {fs : List Ex} {Q : List D → Tn → Prop} (h : W (f S t) fun d t1 => W (evs fs S t1) fun ds t2 => Q (d :: ds) t2) : W (evs (f :: fs) S t) Q := w_bnd (h.mono fun _ _ h => w_bnd h)
theorem w_evc1 {f : Ex} {fs hs : List Ex} {Q : List D → Tn → Prop} (h : W (evs (f :: (fs ++ hs)) S t) Q) : W (evs ((f :: fs) ++ hs) S t) Q := h
theorem w_evc0 {hs : List Ex} {Q : List D → Tn → Prop} (h : W (evs hs S t) Q) : W (evs ([] ++ hs) S t) Q := h
theorem w_tup {fs : List Ex} (h : W (evs fs S t) fun ds t1 => Q (.tup ds) t1) : W (eTup fs S t) Q := w_bnd h
theorem w_lst {fs : List Ex} (h : W (evs fs S t) fun ds t1 => Q (.lst ds) t1) : W (eLst fs S t) Q := w_bnd h
theorem w_call {F : Fn} {fs : List Ex} (h : W (evs fs S t) fun ds t1 => W (F ds t1) Q) : W (eCall F fs S t) Q := w_bnd h
/-- of a truth value -/
def Bl (Q : Bool → Tn → Prop) : D → Tn → Prop := fun d t => match d with
  | .bl b => Q b t
  | _ => False
theorem w_and {a b : Ex} (h : W (a S t) (Bl fun k t1 => (k = true → W (b S t1) Q) ∧ (k = false → Q (.bl false) t1))) : W (eAnd a b S t) Q := w_bnd (h.mono fun d t1 q => by
  cases d with
  | bl k => cases k with
    | true => exact q.1 rfl
    | false => exact q.2 rfl
  | _ => exact q.elim)
theorem w_or {a b : Ex} (h : W (a S t) (Bl fun k t1 => (k = false → W (b S t1) Q) ∧ (k = true → Q (.bl true) t1))) : W (eOr a b S t) Q := w_bnd (h.mono fun d t1 q => by
  cases d with
  | bl k => cases k with
    | true => exact q.2 rfl
    | false => exact q.1 rfl
  | _ => exact q.elim)
theorem w_ife {c a b : Ex} (h : W (c S t) (Bl fun k t1 => (k = true → W (a S t1) Q) ∧ (k = false → W (b S t1) Q))) : W (eIf c a b S t) Q := w_bnd (h.mono fun d t1 q => by
  cases d with
  | bl k => cases k with
    | true => exact q.1 rfl
    | false => exact q.2 rfl
  | _ => exact q.elim)
theorem w_chain {o1 o2 : D → D → M D} {a b c : Ex} (h : W (a S t) fun x t1 => W (b S t1) fun y t2 => W (o1 x y t2) (Bl fun k t3 => (k = true → W (c S t3) fun u t4 => W (o2 y u t4) Q) ∧ (k = false → Q (.bl false) t3))) : W (eChain o1 o2 a b c S t) Q :=
  w_bnd (h.mono fun x t1 h => w_bnd (h.mono fun y t2 h => w_bnd (h.mono fun d t3 q => by
    cases d with
    | bl k => cases k with
      | true => exact w_bnd (q.1 rfl)
      | false => exact q.2 rfl
    | _ => exact q.elim)))
theorem w_not {b : Bool} (h : Q (.bl (!b)) t) : W (oNot (.bl b) t) Q := h
theorem w_slice {a : Ex} {lo hi : Option Ex} (h : W (a S t) fun x t1 => W (oEx lo S t1) fun l t2 => W (oEx hi S t2) fun u t3 => W (pSlice x l u t3) Q) : W (eSlice a lo hi S t) Q :=
  w_bnd (h.mono fun x t1 h => w_bnd (h.mono fun l t2 h => w_bnd h))
theorem w_oN {Q : Option Int → Tn → Prop} (h : Q none t) : W (oEx none S t) Q := h
/-- of a number -/
def In (Q : Int → Tn → Prop) : D → Tn → Prop := fun d t => match d with
  | .int i => Q i t
  | _ => False
theorem w_oS {f : Ex} {Q : Option Int → Tn → Prop} (h : W (f S t) (In fun i t1 => Q (some i) t1)) : W (oEx (some f) S t) Q := w_bnd (h.mono fun d t1 q => by
  cases d with
  | int k => exact q
  | _ => exact q.elim)
theorem w_comp {vs : List Nat} {it : Sl → M (List D)} {tg : Tg} {cond elt : Ex} (h : W (it S t) fun ds t1 => ds.length ≤ sizeLine ∧ W (cmpL tg cond elt (wipeS S vs) ds t1) fun rs t2 => Q (.lst rs) t2) : W (eComp vs it tg cond elt S t) Q :=
  w_bnd (h.mono fun ds t1 ⟨h1, h2⟩ => by rw [if_pos h1]; exact w_bnd h2)
/-- of a tuple or a list -/
def Sq (Q : List D → Tn → Prop) : D → Tn → Prop := fun d t => match d with
  | .tup ds => Q ds t
  | .lst ds => Q ds t
  | _ => False
theorem w_itSeq {f : Ex} {Q : List D → Tn → Prop} (h : W (f S t) (Sq Q)) : W (itSeq f S t) Q := w_bnd (h.mono fun d t1 q => by
  cases d with
  | tup ds => exact q
  | lst ds => exact q
  | _ => exact q.elim)
def rng (n : Nat) : List D := (List.range n).map fun (i : Nat) => D.int (i : Int)
theorem rng_eq (n : Nat) : ((List.range n).map fun (i : Nat) => D.int ((0 : Int) + (i : Int))) = rng n := by
  unfold rng
  exact List.map_congr_left fun i _ => by rw [Int.zero_add]
theorem w_itR {f : Ex} {Q : List D → Tn → Prop} (h : W (f S t) (In fun j t1 => 0 ≤ j ∧ j < 2 ^ 62 ∧ Q (rng j.toNat) t1)) : W (itRange1 f S t) Q := w_bnd (h.mono fun d t1 q => by
  cases d with
  | int k =>
    obtain ⟨h1, h2, h3⟩ := q
    show W ((if -(2 ^ 62) ≤ k ∧ k < 2 ^ 62 then ret ((List.range k.toNat).map fun (i : Nat) => D.int ((0 : Int) + (i : Int))) else stuck) t1) Q
    rw [if_pos ⟨by omega, h2⟩, rng_eq]
    exact h3
  | _ => exact q.elim)
end
section
variable {S : Sl} {t : Tn} {Q : Fl → Tn → Prop}
/-- what follows: on with the slots, or back with a value -/
def Nx (N : Sl → Tn → Prop) (R : D → Tn → Prop) : Fl → Tn → Prop := fun fl t => match fl with
  | .nx S => N S t
  | .ret d => R d t
theorem w_nil (h : Q (.nx S) t) : W (sNil S t) Q := h
theorem w_seq {a b : Stm} (h : W (a S t) (Nx (fun S' t' => W (b S' t') Q) (fun d t' => Q (.ret d) t'))) : W (sSeq a b S t) Q := w_bnd (h.mono fun fl t1 q => by
  cases fl with
  | nx S' => exact q
  | ret d => exact q)
theorem w_asg {i : Nat} {e : Ex} (h : W (e S t) fun d t1 => Q (.nx (S.set i (.val d))) t1) : W (sAsg i e S t) Q := w_bnd h
/-- of a list -/
def Ls (Q : List D → Tn → Prop) : D → Tn → Prop := fun d t => match d with
  | .lst ds => Q ds t
  | _ => False
theorem w_own {i : Nat} {e : Ex} (h : W (e S t) (Ls fun ds t1 => Q (.nx (S.set i (.own ds))) t1)) : W (sOwn i e S t) Q := w_bnd (h.mono fun d t1 q => by
  cases d with
  | lst ds => exact q
  | _ => exact q.elim)
theorem w_par {i j : Nat} {a b : Ex} (h : W (a S t) fun x t1 => W (b S t1) fun y t2 => Q (.nx ((S.set i (.val x)).set j (.val y))) t2) : W (sPar i j a b S t) Q := w_bnd (h.mono fun _ _ h => w_bnd h)
theorem w_parO {i j : Nat} {a b : Ex} (h : W (a S t) fun x t1 => W (b S t1) (Ls fun ds t2 => Q (.nx ((S.set i (.val x)).set j (.own ds))) t2)) : W (sParO i j a b S t) Q := w_bnd (h.mono fun _ _ h => w_bnd (h.mono fun d t1 q => by
  cases d with
  | lst ds => exact q
  | _ => exact q.elim))
theorem w_app {i : Nat} {ds : List D} {e : Ex} (he : S[i]? = some (.own ds)) (h : W (e S t) fun d t1 => ds.length < sizeLine ∧ Q (.nx (S.set i (.own (ds ++ [d])))) t1) : W (sApp i e S t) Q := by
  unfold sApp
  rw [he]
  exact w_bnd (h.mono fun d t1 ⟨h1, h2⟩ => by
    show W ((if ds.length < sizeLine then ret (Fl.nx (S.set i (.own (ds ++ [d])))) else stuck) t1) Q
    rw [if_pos h1]; exact h2)
theorem w_expr {e : Ex} (h : W (e S t) fun _ t1 => Q (.nx S) t1) : W (sExpr e S t) Q := w_bnd h
theorem w_if {c : Ex} {a b : Stm} (h : W (c S t) (Bl fun k t1 => (k = true → W (a S t1) Q) ∧ (k = false → W (b S t1) Q))) : W (sIf c a b S t) Q := w_bnd (h.mono fun d t1 q => by
  cases d with
  | bl k => cases k with
    | true => exact q.1 rfl
    | false => exact q.2 rfl
  | _ => exact q.elim)
theorem w_sret {e : Ex} (h : W (e S t) fun d t1 => Q (.ret d) t1) : W (sRet e S t) Q := w_bnd h
theorem w_frz {i : Nat} {ds : List D} {a : Stm} (he : S[i]? = some (.own ds)) (h : W (a (S.set i (.val (.lst ds))) t) Q) : W (sFrz i a S t) Q := by
  unfold sFrz; rw [he]; exact h
theorem w_for {it : Sl → M (List D)} {tg : Tg} {body : Stm} (h : W (it S t) fun ds t1 => W (forL tg body ds S t1) Q) : W (sFor it tg body S t) Q := w_bnd (w_calm h)
theorem w_forI {tg : Tg} {body : Stm} (I : Nat → Sl → Tn → Prop) : ∀ {ds : List D} {k : Nat} {S : Sl} {t : Tn}, I k S t →
    (∀ i d, ds[i]? = some d → ∀ S t, I (k + i) S t → ∃ S', tg d S = some S' ∧ W (body S' t) (Nx (fun S2 t2 => I (k + i + 1) S2 t2) fun d t2 => Q (.ret d) t2)) →
    (∀ S t, I (k + ds.length) S t → Q (.nx S) t) → W (forL tg body ds S t) Q
  | [], k, S, t, h0, _, hQ => hQ S t h0
  | d :: ds, k, S, t, h0, hs, hQ => by
    obtain ⟨S', e, w⟩ := hs 0 d rfl S t h0
    show W ((match tg d S with
      | none => stuck
      | some S' => bnd (calm (body S')) fun fl => match fl with
        | .nx S'' => forL tg body ds S''
        | .ret v => ret (.ret v)) t) Q
    rw [e]
    exact w_bnd (w_calm (w.mono fun fl t1 q => by
      cases fl with
      | ret v => exact q
      | nx S2 =>
        refine w_forI I (k := k + 1) q (fun i d' e' S t hI => ?_) fun S t hI => hQ S t (by rw [List.length_cons, Nat.add_comm ds.length 1, ← Nat.add_assoc]; exact hI)
        have := hs (i + 1) d' e' S t (by rw [Nat.add_comm i 1, ← Nat.add_assoc]; exact hI)
        rw [Nat.add_comm i 1, ← Nat.add_assoc] at this
        exact this))
/-- with an invariant that does not count -/
theorem w_forC {tg : Tg} {body : Stm} {ds : List D} {S : Sl} {t : Tn} (I : Sl → Tn → Prop) (h0 : I S t)
    (hs : ∀ d ∈ ds, ∀ S t, I S t → ∃ S', tg d S = some S' ∧ W (body S' t) (Nx (fun S2 t2 => I S2 t2) fun d t2 => Q (.ret d) t2))
    (hQ : ∀ S t, I S t → Q (.nx S) t) : W (forL tg body ds S t) Q :=
  w_forI (fun _ => I) (k := 0) h0 (fun i d e S t hI => hs d (List.mem_of_getElem? e) S t hI) fun S t hI => hQ S t hI
end
theorem w_fn {n : Nat} {body : Stm} {ds : List D} {t : Tn} {Q : D → Tn → Prop} (h : W (body (slots0 n ds) t) (Nx (fun _ t1 => Q .non t1) Q)) : W (fnOf n body ds t) Q := w_bnd (h.mono fun fl t1 q => by
  cases fl with
  | nx S => exact q
  | ret d => exact q)
section
variable {tg : Tg} {cond elt : Ex} {S : Sl}
theorem cmpL_pure {p : D → Bool} {e : D → D} : ∀ {ds : List D}, (∀ d ∈ ds, ∃ S', tg d S = some S' ∧ cond S' = ret (.bl (p d)) ∧ (p d = true → elt S' = ret (e d))) → cmpL tg cond elt S ds = ret ((ds.filter p).map e)
  | [], _ => rfl
  | d :: ds, h => by
    obtain ⟨S', e1, e2, e3⟩ := h d (List.mem_cons_self ..)
    have ih := cmpL_pure (p := p) (e := e) fun d hd => h d (List.mem_cons_of_mem _ hd)
    show (match tg d S with
      | none => stuck
      | some S' => bnd (calm (cond S')) fun b => match b with
        | .bl true => bnd (calm (elt S')) fun r => bnd (cmpL tg cond elt S ds) fun rs => ret (r :: rs)
        | .bl false => cmpL tg cond elt S ds
        | _ => stuck) = _
    rw [e1]
    show bnd (calm (cond S')) _ = _
    rw [e2]
    cases hp : p d with
    | true =>
      show bnd (calm (elt S')) _ = _
      rw [e3 hp, ih, List.filter_cons_of_pos hp, List.map_cons]
      rfl
    | false =>
      show cmpL tg cond elt S ds = _
      rw [ih, List.filter_cons_of_neg (by rw [hp]; decide)]
theorem w_cmpL {T : Tn → Prop} {R : D → D → Prop} {Q : List D → Tn → Prop} : ∀ {ds : List D} {t : Tn}, T t →
    (∀ d ∈ ds, ∀ t, T t → ∃ S', tg d S = some S' ∧ cond S' = ret (.bl true) ∧ W (elt S' t) fun r t1 => T t1 ∧ R d r) →
    (∀ rs t, T t → ds.length = rs.length → (∀ (i : Nat) (d r : D), ds[i]? = some d → rs[i]? = some r → R d r) → Q rs t) → W (cmpL tg cond elt S ds t) Q
  | [], t, ht, _, hQ => hQ [] t ht rfl fun i d r e => by simp at e
  | d :: ds, t, ht, h, hQ => by
    obtain ⟨S', e1, e2, e3⟩ := h d (List.mem_cons_self ..) t ht
    show W ((match tg d S with
      | none => stuck
      | some S' => bnd (calm (cond S')) fun b => match b with
        | .bl true => bnd (calm (elt S')) fun r => bnd (cmpL tg cond elt S ds) fun rs => ret (r :: rs)
        | .bl false => cmpL tg cond elt S ds
        | _ => stuck) t) Q
    rw [e1]
    show W (bnd (calm (cond S')) _ t) Q
    rw [e2]
    refine w_bnd (w_calm (w_ret ?_))
    refine w_bnd (w_calm (e3.mono fun r t1 ⟨ht1, hr⟩ => w_bnd ?_))
    refine w_cmpL ht1 (fun d hd => h d (List.mem_cons_of_mem _ hd)) fun rs t2 ht2 hl hR => ?_
    refine hQ (r :: rs) t2 ht2 (by rw [List.length_cons, List.length_cons, hl]) fun i d' r' e e' => ?_
    cases i with
    | zero => cases e; cases e'; exact hr
    | succ i => exact hR i d' r' e e'
end
theorem w_cmpP {tg : Tg} {cond elt : Ex} {S : Sl} {t : Tn} {Q : List D → Tn → Prop} {ds : List D} (p : D → Bool) (e : D → D) (h : ∀ d ∈ ds, ∃ S', tg d S = some S' ∧ cond S' = ret (.bl (p d)) ∧ (p d = true → elt S' = ret (e d))) (q : Q ((ds.filter p).map e) t) : W (cmpL tg cond elt S ds t) Q := by
  rw [cmpL_pure h]; exact q
section
variable {S : Sl} {c : Int} {rs : List (Int × Int)} {st : Sto}
theorem w_tc {i : Nat} {Q : D → Tn → Prop} (e : S[i]? = some (.val .town)) (h : Q (.int c) (some (c, rs), st)) : W (eTC i S (some (c, rs), st)) Q := by
  unfold eTC isTown; rw [e]; exact h
theorem w_stc {i : Nat} {e : Ex} {t : Tn} {Q : Fl → Tn → Prop} (he : S[i]? = some (.val .town)) (h : W (e S t) (In fun n t1 => ∃ c rs st, t1 = (some (c, rs), st) ∧ Q (.nx S) (some (n, rs), st))) : W (sTC i e S t) Q := by
  unfold sTC isTown
  rw [he, if_pos rfl]
  exact w_bnd (h.mono fun d t1 q => by
    cases d with
    | int n => obtain ⟨c, rs, st, rfl, q⟩ := q; exact q
    | _ => exact q.elim)
end
section
variable {S : Sl} {c : Int} {rs : List (Int × Int)}
theorem w_tr {i : Nat} {k d : Ex} {t : Tn} {Q : D → Tn → Prop} (he : S[i]? = some (.val .town)) (h : W (k S t) (In fun n t1 => W (d S t1) fun b t2 => ∃ c rs st, t2 = (some (c, rs), st) ∧ Q (match rLook rs n with | some v => .int v | none => b) (some (c, rs), st))) : W (eTR i k d S t) Q := by
  unfold eTR isTown
  rw [he, if_pos rfl]
  exact w_bnd (h.mono fun a t1 q => by
    cases a with
    | int n => exact w_bnd (q.mono fun b t2 q => by obtain ⟨c, rs, st, rfl, q⟩ := q; exact q)
    | _ => exact q.elim)
theorem w_str {i : Nat} {k e : Ex} {t : Tn} {Q : Fl → Tn → Prop} (he : S[i]? = some (.val .town)) (h : W (e S t) (In fun v t1 => W (k S t1) (In fun n t2 => ∃ c rs st, t2 = (some (c, rs), st) ∧ rs.length < 1000000 ∧ Q (.nx S) (some (c, rPut rs n v), st)))) : W (sTR i k e S t) Q := by
  unfold sTR isTown
  rw [he, if_pos rfl]
  exact w_bnd (h.mono fun d t1 q => by
    cases d with
    | int v => exact w_bnd (q.mono fun a t2 q => by
        cases a with
        | int n =>
          obtain ⟨c, rs, st, rfl, hl, q⟩ := q
          show W (if rs.length < 1000000 then some (.ok (.nx S) (some (c, rPut rs n v), st)) else none) Q
          rw [if_pos hl]; exact q
        | _ => exact q.elim)
    | _ => exact q.elim)
theorem w_scr {i : Nat} {ns : List Int} {t : Tn} {Q : D → Tn → Prop} (e : S[i]? = some (.val (.scr ns))) (h : Q (.bl (!ns.isEmpty)) t) : W (eScr i S t) Q := by
  unfold eScr scrAt; rw [e]; exact h
theorem w_begun {st : Sto} {Q : D → Tn → Prop} (h : Q .town (some (0, []), st)) : W (eBegun S (none, st)) Q := h
end
end BG
set_option Elab.async false
set_option linter.all false
set_option maxRecDepth 100000
set_option maxHeartbeats 4000000
namespace BG
open PySem L2
section
variable {t : Tn} {Q : D → Tn → Prop}
theorem nx_nx {N : Sl → Tn → Prop} {R : D → Tn → Prop} {S : Sl} (h : N S t) : Nx N R (.nx S) t := h
theorem nx_ret {N : Sl → Tn → Prop} {R : D → Tn → Prop} {d : D} (h : R d t) : Nx N R (.ret d) t := h
theorem bl_i {Q : Bool → Tn → Prop} {b : Bool} (h : Q b t) : Bl Q (.bl b) t := h
theorem in_i {Q : Int → Tn → Prop} {b : Int} (h : Q b t) : In Q (.int b) t := h
theorem sq_t {Q : List D → Tn → Prop} {b : List D} (h : Q b t) : Sq Q (.tup b) t := h
theorem sq_l {Q : List D → Tn → Prop} {b : List D} (h : Q b t) : Sq Q (.lst b) t := h
theorem ls_l {Q : List D → Tn → Prop} {b : List D} (h : Q b t) : Ls Q (.lst b) t := h
theorem ift {A B : Prop} (h : A) : (true = true → A) ∧ (true = false → B) := ⟨fun _ => h, fun e => Bool.noConfusion e⟩
theorem iff' {A B : Prop} (h : B) : (false = true → A) ∧ (false = false → B) := ⟨fun e => Bool.noConfusion e, fun _ => h⟩
theorem ift2 {A B : Prop} (h : A) : (true = false → B) ∧ (true = true → A) := ⟨fun e => Bool.noConfusion e, fun _ => h⟩
theorem iff2 {A B : Prop} (h : B) : (false = false → B) ∧ (false = true → A) := ⟨fun _ => h, fun e => Bool.noConfusion e⟩
theorem ift_of {A B : Prop} {k : Bool} (e : k = true) (h : A) : (k = true → A) ∧ (k = false → B) := by subst e; exact ift h
theorem iff_of {A B : Prop} {k : Bool} (e : k = false) (h : B) : (k = true → A) ∧ (k = false → B) := by subst e; exact iff' h
theorem ift2_of {A B : Prop} {k : Bool} (e : k = true) (h : A) : (k = false → B) ∧ (k = true → A) := by subst e; exact ift2 h
theorem iff2_of {A B : Prop} {k : Bool} (e : k = false) (h : B) : (k = false → B) ∧ (k = true → A) := by subst e; exact iff2 h
theorem w_addI {i j : Int} (h : Q (.int (i + j)) t) : W (pAdd (.int i) (.int j) t) Q := h
theorem w_addT {xs ys : List D} (hl : xs.length + ys.length ≤ sizeLine) (h : Q (.tup (xs ++ ys)) t) : W (pAdd (.tup xs) (.tup ys) t) Q := by
  show W ((if xs.length + ys.length ≤ sizeLine then ret (.tup (xs ++ ys)) else stuck) t) Q
  rw [if_pos hl]; exact h
theorem w_addL {xs ys : List D} (hl : xs.length + ys.length ≤ sizeLine) (h : Q (.lst (xs ++ ys)) t) : W (pAdd (.lst xs) (.lst ys) t) Q := by
  show W ((if xs.length + ys.length ≤ sizeLine then ret (.lst (xs ++ ys)) else stuck) t) Q
  rw [if_pos hl]; exact h
theorem w_sub {i j : Int} (h : Q (.int (i - j)) t) : W (pSub (.int i) (.int j) t) Q := h
theorem w_mulI {i j : Int} (hl : -(2 ^ 64) < i ∧ i < 2 ^ 64) (h : Q (.int (i * j)) t) : W (pMul (.int i) (.int j) t) Q := by
  show W ((if -(2 ^ 64) < i ∧ i < 2 ^ 64 then ret (.int (i * j)) else stuck) t) Q
  rw [if_pos hl]; exact h
theorem w_mulT {xs : List D} {k : Int} (hl : xs ≠ [] ∧ 2 ≤ k ∧ k ≤ 1000 ∧ xs.length ≤ 1000) (h : Q (.tup (List.replicate k.toNat xs).flatten) t) : W (pMul (.tup xs) (.int k) t) Q := by
  show W ((if xs ≠ [] ∧ 2 ≤ k ∧ k ≤ 1000 ∧ xs.length ≤ 1000 then ret (.tup (List.replicate k.toNat xs).flatten) else stuck) t) Q
  rw [if_pos hl]; exact h
theorem w_mulL {xs : List D} {k : Int} (hl : 0 ≤ k ∧ k ≤ 1000 ∧ xs.length ≤ 1000) (h : Q (.lst (List.replicate k.toNat xs).flatten) t) : W (pMul (.lst xs) (.int k) t) Q := by
  show W ((if 0 ≤ k ∧ k ≤ 1000 ∧ xs.length ≤ 1000 then ret (.lst (List.replicate k.toNat xs).flatten) else stuck) t) Q
  rw [if_pos hl]; exact h
theorem w_mod {i j : Int} (hl : 0 < j) (h : Q (.int (i % j)) t) : W (pMod (.int i) (.int j) t) Q := by
  show W ((if 0 < j then ret (.int (i % j)) else stuck) t) Q
  rw [if_pos hl]; exact h
theorem w_div {i j : Int} (hl : 0 < j ∧ j < 1073741824) (h : Q (.int (i / j)) t) : W (pDiv (.int i) (.int j) t) Q := by
  show W ((if 0 < j ∧ j < 1073741824 then ret (.int (i / j)) else stuck) t) Q
  rw [if_pos hl]; exact h
theorem w_pow {i j : Int} (hl : 0 ≤ j ∧ j ≤ 1000000 ∧ i.natAbs < 2 ^ 64) (h : Q (.int (i ^ j.toNat)) t) : W (pPow (.int i) (.int j) t) Q := by
  show W ((if 0 ≤ j ∧ j ≤ 1000000 ∧ i.natAbs < 2 ^ 64 then ret (.int (i ^ j.toNat)) else stuck) t) Q
  rw [if_pos hl]; exact h
theorem w_xor {i j : Int} (h : Q (.int (Builtin.bitXor i j)) t) : W (pXor (.int i) (.int j) t) Q := h
theorem w_eqD {p q : D} (hp : okD p 60 = true) (hq : okD q 60 = true) (h : Q (.bl (PyData.eqv p.py q.py)) t) : W (pEq p q t) Q := by
  unfold pEq; rw [if_pos ⟨hp, hq⟩]; exact h
theorem w_neD {p q : D} (hp : okD p 60 = true) (hq : okD q 60 = true) (h : Q (.bl (!PyData.eqv p.py q.py)) t) : W (pNe p q t) Q := by
  unfold pNe; rw [if_pos ⟨hp, hq⟩]; exact h
theorem w_ltI {i j : Int} (h : Q (.bl (decide (i < j))) t) : W (pLt (.int i) (.int j) t) Q := h
theorem w_leI {i j : Int} (h : Q (.bl (decide (i ≤ j))) t) : W (pLe (.int i) (.int j) t) Q := h
theorem w_gtI {i j : Int} (h : Q (.bl (decide (j < i))) t) : W (pGt (.int i) (.int j) t) Q := h
theorem w_geI {i j : Int} (h : Q (.bl (decide (j ≤ i))) t) : W (pGe (.int i) (.int j) t) Q := h
theorem w_inT {p : D} {ds : List D} (hp : okD p 60 = true) (hq : okA ds 60 = true) (h : Q (.bl (inD p ds)) t) : W (pIn p (.tup ds) t) Q := by
  show W ((if okD p 60 = true ∧ okA ds 60 = true then ret (.bl (inD p ds)) else stuck) t) Q
  rw [if_pos ⟨hp, hq⟩]; exact h
theorem w_inL {p : D} {ds : List D} (hp : okD p 60 = true) (hq : okA ds 60 = true) (h : Q (.bl (inD p ds)) t) : W (pIn p (.lst ds) t) Q := by
  show W ((if okD p 60 = true ∧ okA ds 60 = true then ret (.bl (inD p ds)) else stuck) t) Q
  rw [if_pos ⟨hp, hq⟩]; exact h
theorem w_idxT {ds : List D} {i : Int} {d : D} (e : atI ds i = some d) (h : Q d t) : W (pIdx (.tup ds) (.int i) t) Q := by
  show W ((match atI ds i with | some d => ret d | none => stuck) t) Q
  rw [e]; exact h
theorem w_idxL {ds : List D} {i : Int} {d : D} (e : atI ds i = some d) (h : Q d t) : W (pIdx (.lst ds) (.int i) t) Q := by
  show W ((match atI ds i with | some d => ret d | none => stuck) t) Q
  rw [e]; exact h
theorem w_idxS {ns : List Int} {i : Int} {n : Int} (e : atI ns i = some n) (h : Q (.int n) t) : W (pIdx (.scr ns) (.int i) t) Q := by
  show W ((match atI ns i with | some d => ret (D.int d) | none => stuck) t) Q
  rw [e]; exact h
theorem w_slT {ds : List D} {lo hi : Option Int} (h : Q (.tup (cutD ds lo hi)) t) : W (pSlice (.tup ds) lo hi t) Q := h
theorem w_slL {ds : List D} {lo hi : Option Int} (h : Q (.lst (cutD ds lo hi)) t) : W (pSlice (.lst ds) lo hi t) Q := h
theorem w_lenT {ds : List D} (h : Q (.int ds.length) t) : W (bLen (.tup ds) t) Q := h
theorem w_lenL {ds : List D} (h : Q (.int ds.length) t) : W (bLen (.lst ds) t) Q := h
theorem w_lenS {ns : List Int} (h : Q (.int ns.length) t) : W (bLen (.scr ns) t) Q := h
theorem w_tupL {ds : List D} (h : Q (.tup ds) t) : W (bTuple (.lst ds) t) Q := h
theorem w_tupT {ds : List D} (h : Q (.tup ds) t) : W (bTuple (.tup ds) t) Q := h
theorem w_lstL {ds : List D} (h : Q (.lst ds) t) : W (bList (.lst ds) t) Q := h
theorem w_lstT {ds : List D} (h : Q (.lst ds) t) : W (bList (.tup ds) t) Q := h
theorem w_isi {T : Ty} {d : D} {b : Bool} (e : isTy T d = some b) (h : Q (.bl b) t) : W (pIsi T d t) Q := by
  unfold pIsi; rw [e]; exact h
theorem w_allL {ds : List D} {bs : List Bool} (e : bools ds = some bs) (h : Q (.bl (bs.all id)) t) : W (bAll (.lst ds) t) Q := by
  show W ((match bools ds with | some bs => ret (D.bl (bs.all id)) | none => stuck) t) Q
  rw [e]; exact h
theorem w_lenSet {ds : List D} {ns : List Int} (e : intsD ds = some ns) (hl : ns.length < 1000) (h : Q (.int (ddp ns).length) t) : W (pLenSet (.tup ds) t) Q := by
  show W ((match intsD ds with | some ns => if ns.length < 1000 then ret (D.int (ddp ns).length) else stuck | none => stuck) t) Q
  rw [e]
  show W ((if ns.length < 1000 then ret (D.int (ddp ns).length) else stuck) t) Q
  rw [if_pos hl]; exact h
theorem w_neg {i : Int} (h : Q (.int (-i)) t) : W (pNeg (.int i) t) Q := h
theorem w_rng {i : Int} (hl : 0 ≤ i ∧ i ≤ 1000000) (h : Q (.lst (rng i.toNat)) t) : W (pRng (.int i) t) Q := by
  show W ((if 0 ≤ i ∧ i ≤ 1000000 then ret (D.lst ((List.range i.toNat).map fun (i : Nat) => D.int (i : Int))) else stuck) t) Q
  rw [if_pos hl]; exact h
theorem w_isn {p : D} (h : Q (.bl (isN p)) t) : W (pIs p .non t) Q := by cases p <;> exact h
theorem w_isnn {p : D} (h : Q (.bl (!isN p)) t) : W (pIsNot p .non t) Q := by cases p <;> exact h
end
theorem w_eqI {i j : Int} {t : Tn} {Q : D → Tn → Prop} (h : Q (.bl (decide (i = j))) t) : W (pEq (.int i) (.int j) t) Q := by
  refine w_eqD rfl rfl ?_
  have e : PyData.eqv (D.int i).py (D.int j).py = decide (i = j) := by
    show (i == j) = decide (i = j)
    rw [Bool.eq_iff_iff, beq_iff_eq, decide_eq_true_iff]
  rw [e]; exact h
theorem w_neI {i j : Int} {t : Tn} {Q : D → Tn → Prop} (h : Q (.bl (decide (i ≠ j))) t) : W (pNe (.int i) (.int j) t) Q := by
  refine w_neD rfl rfl ?_
  have e : (!PyData.eqv (D.int i).py (D.int j).py) = decide (i ≠ j) := by
    show (!(i == j)) = decide (i ≠ j)
    by_cases h : i = j
    · rw [decide_eq_false (by simp [h]), beq_iff_eq.mpr h]; rfl
    · rw [decide_eq_true h, beq_eq_false_iff_ne.mpr h]; rfl
  rw [e]; exact h
/-- of a pair -/
def Pr (Q : D → D → Tn → Prop) : D → Tn → Prop := fun d t => match d with
  | .tup [a, b] => Q a b t
  | _ => False
theorem pr_i {Q : D → D → Tn → Prop} {a b : D} {t : Tn} (h : Q a b t) : Pr Q (.tup [a, b]) t := h
theorem w_asgP {i j : Nat} {e : Ex} {S : Sl} {t : Tn} {Q : Fl → Tn → Prop} (h : W (e S t) (Pr fun a b t1 => Q (.nx ((S.set i (.val a)).set j (.val b))) t1)) : W (sAsgG (gP i j) e S t) Q := w_bnd (h.mono fun d t1 q => by
  unfold Pr at q
  split at q
  · exact q
  · exact q.elim)
mutual
def nobl : D → Bool
  | .non => true
  | .bl _ => false
  | .int _ => true
  | .str _ => true
  | .tup xs => noblA xs
  | .lst xs => noblA xs
  | .town => false
  | .scr _ => false
  | .dct _ _ => false
  | .dTT _ _ => false
  | .hnd _ => false
def noblA : List D → Bool
  | [] => true
  | d :: ds => nobl d && noblA ds
end
mutual
theorem eqv_iff : ∀ {p q : D}, nobl p = true → nobl q = true → (PyData.eqv p.py q.py = true ↔ p = q)
  | .non, q, hp, hq => by cases q <;> first | exact ⟨fun _ => rfl, fun _ => rfl⟩ | (cases hq; done) | (constructor <;> intro h <;> cases h; done)
  | .int i, q, hp, hq => by
    cases q with
    | int j =>
      show ((i == j) = true ↔ _)
      rw [beq_iff_eq]
      exact ⟨fun h => by rw [h], fun h => by cases h; rfl⟩
    | _ => first | (cases hq; done) | (constructor <;> intro h <;> cases h)
  | .str i, q, hp, hq => by
    cases q with
    | str j =>
      show ((i == j) = true ↔ _)
      rw [beq_iff_eq]
      exact ⟨fun h => by rw [h], fun h => by cases h; rfl⟩
    | _ => first | (cases hq; done) | (constructor <;> intro h <;> cases h)
  | .tup xs, q, hp, hq => by
    cases q with
    | tup ys =>
      have := eqvA_iff (ds := xs) (es := ys) hp hq
      show (PyData.eqvAll (pyA xs) (pyA ys) = true ↔ _)
      rw [this]
      exact ⟨fun h => by rw [h], fun h => by cases h; rfl⟩
    | _ => first | (cases hq; done) | (constructor <;> intro h <;> cases h)
  | .lst xs, q, hp, hq => by
    cases q with
    | lst ys =>
      have := eqvA_iff (ds := xs) (es := ys) hp hq
      show (PyData.eqvAll (pyA xs) (pyA ys) = true ↔ _)
      rw [this]
      exact ⟨fun h => by rw [h], fun h => by cases h; rfl⟩
    | _ => first | (cases hq; done) | (constructor <;> intro h <;> cases h)
theorem eqvA_iff : ∀ {ds es : List D}, noblA ds = true → noblA es = true → (PyData.eqvAll (pyA ds) (pyA es) = true ↔ ds = es)
  | [], [], _, _ => ⟨fun _ => rfl, fun _ => rfl⟩
  | [], e :: es, _, _ => ⟨fun h => (nomatch h), fun h => (nomatch h)⟩
  | d :: ds, [], _, _ => ⟨fun h => (nomatch h), fun h => (nomatch h)⟩
  | d :: ds, e :: es, hp, hq => by
    have hp : (nobl d && noblA ds) = true := hp
    have hq : (nobl e && noblA es) = true := hq
    rw [Bool.and_eq_true] at hp hq
    show ((PyData.eqv d.py e.py && PyData.eqvAll (pyA ds) (pyA es)) = true ↔ _)
    rw [Bool.and_eq_true, eqv_iff hp.1 hq.1, eqvA_iff hp.2 hq.2, List.cons.injEq]
end
theorem w_resE {nm : Nat → Str} {al : Nat → Bool} {F : Fn} {fs : List Ex} {S : Sl} {t : Tn} {Q : D → Tn → Prop} (h : W (evs fs S t) fun ds t1 => W (eResM nm al (F ds) t1) Q) : W (eRes nm al (eCall F fs) S t) Q := by
  obtain ⟨ds, t1, e, q⟩ := h.ex
  unfold eRes
  have e2 : eCall F fs S t = F ds t1 := by unfold eCall; exact bnd_ok e
  unfold eResM at q ⊢
  rw [e2]
  exact q
theorem w_rmX {nm : Nat → Str} {al : Nat → Bool} {m : M D} {t : Tn} {Q : D → Tn → Prop} {c : Nat} (h : m = raise c) (ha : al c = true) (q : Q (.tup [.str (nm c)]) t) : W (eResM nm al m t) Q := by
  unfold eResM
  rw [h]
  show W (if al c = true then some (.ok (.tup [.str (nm c)]) t) else none) Q
  rw [if_pos ha]; exact q
theorem w_rC {m : M D} {t : Tn} {Q : D → Tn → Prop} (h : m = raise 1) (q : Q (.tup [.str "circuit"]) t) : W (eResM resNm al12 m t) Q := w_rmX h rfl q
theorem w_rX {m : M D} {t : Tn} {Q : D → Tn → Prop} (h : m = raise 3) (q : Q (.tup [.str "exchange"]) t) : W (eResM resNm al12 m t) Q := w_rmX h rfl q
theorem w_rT {m : M D} {t : Tn} {Q : D → Tn → Prop} (h : m = raise 8) (q : Q (.tup [.str "text"]) t) : W (eResM resNm al12 m t) Q := w_rmX h rfl q
theorem w_rmR {nm : Nat → Str} {al : Nat → Bool} {m : M D} {t : Tn} {Q : D → Tn → Prop} {d : D} (h : m = ret d) (q : Q (.tup [.str "returns", d]) t) : W (eResM nm al m t) Q := by
  unfold eResM
  rw [h]; exact q
/-- of a tuple -/
def Tp (Q : List D → Tn → Prop) : D → Tn → Prop := fun d t => match d with
  | .tup ds => Q ds t
  | _ => False
theorem tp_t {Q : List D → Tn → Prop} {b : List D} {t : Tn} (h : Q b t) : Tp Q (.tup b) t := h
end BG
set_option Elab.async false
set_option linter.all false
set_option maxRecDepth 100000
set_option maxHeartbeats 4000000
namespace BL
open PySem BG L2
local macro_rules | `(tactic| infer_instance) => `(tactic| first | (with_reducible first | refine w_seq ?_ | refine w_asg ?_ | refine w_asgP ?_ | refine pr_i ?_ | refine w_eqI ?_ | refine w_neI ?_ | refine w_own ?_ | refine w_par ?_ | refine w_parO ?_ | refine w_expr ?_ | refine w_if ?_ | refine w_sret ?_ | refine w_nil ?_ | refine w_for ?_ | refine w_bin ?_ | refine w_un ?_ | refine w_tup ?_ | refine w_lst ?_ | refine w_call ?_ | refine w_and ?_ | refine w_or ?_ | refine w_ife ?_ | refine w_chain ?_ | refine w_slice ?_ | refine w_oN ?_ | refine w_oS ?_ | refine w_comp ?_ | refine w_itSeq ?_ | refine w_itR ?_ | refine w_evnil ?_ | refine w_evcons ?_ | refine w_evc1 ?_ | refine w_evc0 ?_ | refine w_c ?_ | refine nx_nx ?_ | refine nx_ret ?_ | refine bl_i ?_ | refine in_i ?_ | refine sq_t ?_ | refine sq_l ?_ | refine ls_l ?_ | refine tp_t ?_ | refine w_not ?_ | refine w_addI ?_ | refine w_sub ?_ | refine w_xor ?_ | refine w_ltI ?_ | refine w_leI ?_ | refine w_gtI ?_ | refine w_geI ?_ | refine w_slT ?_ | refine w_slL ?_ | refine w_lenT ?_ | refine w_lenL ?_ | refine w_lenS ?_ | refine w_tupL ?_ | refine w_tupT ?_ | refine w_lstL ?_ | refine w_lstT ?_ | refine w_neg ?_ | refine w_isn ?_ | refine w_isnn ?_ | refine w_begun ?_ | refine w_ret ?_ | refine w_resE ?_) | (with_reducible refine w_var (by with_unfolding_all rfl) ?_) | (with_reducible refine w_peekV (by with_unfolding_all rfl) ?_) | (with_reducible refine w_peekO (by with_unfolding_all rfl) ?_) | (with_reducible refine w_app (by with_unfolding_all rfl) ?_) | (with_reducible refine w_frz (by with_unfolding_all rfl) ?_) | (with_reducible refine w_scr (by with_unfolding_all rfl) ?_) | (with_reducible refine w_tc (by with_unfolding_all rfl) ?_) | (with_reducible refine w_stc (by with_unfolding_all rfl) ?_) | (with_reducible refine w_tr (by with_unfolding_all rfl) ?_) | (with_reducible refine w_str (by with_unfolding_all rfl) ?_) | (with_reducible refine w_idxT (by with_unfolding_all rfl) ?_) | (with_reducible refine w_idxL (by with_unfolding_all rfl) ?_) | (with_reducible refine w_isi (by with_unfolding_all rfl) ?_) | ((with_reducible first | refine w_addT ?_ ?_ | refine w_addL ?_ ?_ | refine w_mulI ?_ ?_ | refine w_mulT ?_ ?_ | refine w_mulL ?_ ?_ | refine w_mod ?_ ?_ | refine w_div ?_ ?_ | refine w_pow ?_ ?_ | refine w_rng ?_ ?_); (first | decide | omega | (refine ⟨?_, ?_⟩ <;> omega) | (refine ⟨?_, ?_, ?_⟩ <;> omega) | (simp only [List.length_cons, List.length_nil, List.length_append, List.length_reverse, BL.cD_len, BL.iD_len, BL.mkx_len, BL.sizeL]; omega) | (refine ⟨List.cons_ne_nil _ _, ?_⟩; simp only [List.length_cons, List.length_nil]; omega))) | ((with_reducible first | refine w_eqD ?_ ?_ ?_ | refine w_neD ?_ ?_ ?_ | refine w_inT ?_ ?_ ?_ | refine w_inL ?_ ?_ ?_); (first | rfl | with_unfolding_all rfl); (first | rfl | with_unfolding_all rfl)) | ((with_reducible refine ift_of ?_ ?_); (with_unfolding_all rfl)) | ((with_reducible refine iff_of ?_ ?_); (with_unfolding_all rfl)) | ((with_reducible refine ift2_of ?_ ?_); (with_unfolding_all rfl)) | ((with_reducible refine iff2_of ?_ ?_); (with_unfolding_all rfl)) | ((with_reducible refine ift_of ?_ ?_); exact decide_eq_true (by omega)) | ((with_reducible refine iff_of ?_ ?_); exact decide_eq_false (by omega)) | ((with_reducible refine ift2_of ?_ ?_); exact decide_eq_true (by omega)) | ((with_reducible refine iff2_of ?_ ?_); exact decide_eq_false (by omega)))
variable {st : Sto}
theorem nd_le : ∀ (n : Nat) (l : List Int), l.Nodup → (∀ k ∈ l, 0 ≤ k ∧ k < (n : Int)) → l.length ≤ n
  | 0, l, _, h => by
    cases l with
    | nil => exact Nat.le_refl _
    | cons k r => have := h k (List.mem_cons_self ..); omega
  | n + 1, l, nd, h => by
    have ih := nd_le n (l.erase (n : Int)) (nd.erase _) fun k hk => by
      have h1 := (nd.mem_erase_iff).mp hk
      have h2 := h k h1.2
      have := h1.1
      omega
    by_cases hm : (n : Int) ∈ l
    · rw [List.length_erase_of_mem hm] at ih; omega
    · rw [List.erase_of_not_mem hm] at ih; omega
structure TOk (st : Sto) (t : Tn) : Prop where
  ex : ∃ c rs, t = (some (c, rs), st) ∧ (rs.map Prod.fst).Nodup ∧ ∀ k ∈ rs.map Prod.fst, (0 : Int) ≤ k ∧ k < ((64 : Nat) : Int)
theorem TOk.begun {st : Sto} : TOk st (some (0, []), st) := ⟨0, [], rfl, .nil, fun k h => nomatch h⟩
theorem rPut_keys (rs : List (Int × Int)) (k v : Int) : (rPut rs k v).map Prod.fst = if (rs.any fun p => decide (p.1 = k)) = true then rs.map Prod.fst else rs.map Prod.fst ++ [k] := by
  unfold rPut
  split
  · rw [List.map_map]
    refine List.map_congr_left fun p _ => ?_
    show (if p.1 = k then (p.1, v) else p).1 = p.1
    split <;> rfl
  · rw [List.map_append]; rfl
theorem atI_nat {α : Type} {xs : List α} {n : Nat} {x : α} (e : xs[n]? = some x) : atI xs (n : Int) = some x := by
  unfold atI ixN
  have hl : n < xs.length := (List.getElem?_eq_some_iff.mp e).1
  rw [if_pos (by omega), if_pos (by omega)]
  show xs[(n : Int).toNat]? = some x
  rw [Int.toNat_natCast]; exact e
theorem atI_of {α : Type} {xs : List α} {i : Int} (h0 : 0 ≤ i) (h1 : i < xs.length) : ∃ x, x ∈ xs ∧ atI xs i = some x ∧ xs[i.toNat]? = some x := by
  have hl : i.toNat < xs.length := by omega
  refine ⟨xs[i.toNat], List.getElem_mem hl, ?_, List.getElem?_eq_getElem hl⟩
  have := atI_nat (xs := xs) (n := i.toNat) (List.getElem?_eq_getElem hl)
  rw [Int.toNat_of_nonneg h0] at this
  exact this
/-- what is left of the draw's body when the number at the place is known -/
theorem draw_tail {ns : List Int} {m a n c : Int} {rs : List (Int × Int)} {Q : D → Tn → Prop} {b : Stm} {S : Sl} (hb : S = [.val (.scr ns), .val .town, .val (.int m), .val (.int a), .val (.int n), .un]) (nd : (rs.map Prod.fst).Nodup) (hk : ∀ k ∈ rs.map Prod.fst, (0 : Int) ≤ k ∧ k < ((64 : Nat) : Int)) (a0 : 0 ≤ a) (a1 : a < 64) (h0 : 0 < m) (h1 : m < 1073741824) (hQ : ∀ r t', 0 ≤ r → r < m → (TOk st) t' → Q (.int r) t') :
    W ((sSeq (sIf (eBin pGe (eVar 4) (eBin pPow (eC (.int 10)) (eC (.int 18)))) (sSeq (sTR 1 (eVar 3) (eBin pDiv (eVar 4) (eVar 2))) (sRet (eBin pMod (eVar 4) (eVar 2)))) sNil)
      (sSeq (sAsg 5 (eBin pMod (eBin pAdd (eVar 4) (eBin pMul (eC (.int 104729)) (eTC 1))) (eC (.int 4294967291))))
      (sSeq (sAsg 5 (eBin pMod (eBin pPow (eVar 5) (eC (.int 5))) (eC (.int 4294967279))))
      (sRet (eBin pMod (eBin pDiv (eBin pMod (eBin pAdd (eBin pMul (eBin pDiv (eVar 5) (eC (.int 64))) (eC (.int 69621))) (eVar 5)) (eC (.int 4294967231))) (eC (.int 8))) (eVar 2)))))) S (some (c, rs), st)) (Nx (fun _ t1 => Q .non t1) Q) := by
  subst hb
  repeat (first | infer_instance)
  refine ⟨fun _ => ?_, fun _ => ?_⟩
  · repeat (first | infer_instance)
    refine ⟨c, rs, st, rfl, ?_, ?_⟩
    · have := nd_le 64 _ nd hk
      rw [List.length_map] at this
      omega
    repeat (first | infer_instance)
    refine hQ _ _ (Int.emod_nonneg _ (Int.ne_of_gt h0)) (Int.emod_lt_of_pos _ h0) ⟨c, _, rfl, ?_, ?_⟩
    · rw [rPut_keys]
      split
      · exact nd
      · rename_i hn
        refine List.nodup_append.mpr ⟨nd, List.nodup_cons.mpr ⟨fun h => (nomatch h), List.nodup_nil⟩, fun x hx y hy => ?_⟩
        rw [List.mem_singleton] at hy
        subst hy
        intro e
        subst e
        obtain ⟨p, hp, rfl⟩ := List.mem_map.mp hx
        exact hn (List.any_eq_true.mpr ⟨p, hp, decide_eq_true rfl⟩)
    · rw [rPut_keys]
      split
      · exact hk
      · intro k hk'
        rcases List.mem_append.mp hk' with h | h
        · exact hk k h
        · rw [List.mem_singleton] at h; omega
  · repeat (first | infer_instance)
    exact hQ _ _ (Int.emod_nonneg _ (Int.ne_of_gt h0)) (Int.emod_lt_of_pos _ h0) ⟨c, rs, rfl, nd, hk⟩
theorem w_draw {ns : List Int} {m : Int} {t : Tn} {Q : D → Tn → Prop} (hl : ns.length ≤ 63) (ht : (TOk st) t) (h0 : 0 < m) (h1 : m < 1073741824) (hQ : ∀ r t', 0 ≤ r → r < m → (TOk st) t' → Q (.int r) t') : W (f_law_draw [.scr ns, .town, .int m] t) Q := by
  obtain ⟨c, rs, rfl, nd, hk⟩ := ht.ex
  refine w_fn ?_
  show W (b_law_draw [.val (.scr ns), .val .town, .val (.int m), .un, .un, .un] _) _
  unfold b_law_draw
  cases ns with
  | nil =>
    repeat (first | infer_instance)
    refine ⟨c, rs, st, rfl, ?_⟩
    repeat (first | infer_instance)
    refine ⟨c + 1, rs, st, rfl, ?_⟩
    refine nx_nx ?_
    cases rLook rs 0 with
    | none => exact draw_tail (b := sNil) rfl nd hk (by decide) (by decide) h0 h1 hQ
    | some v => exact draw_tail (b := sNil) rfl nd hk (by decide) (by decide) h0 h1 hQ
  | cons x r =>
    have hp : 0 < ((x :: r).length : Int) := by simp only [List.length_cons]; omega
    have a1 := Int.emod_nonneg (c + 1) (Int.ne_of_gt hp)
    have a2 := Int.emod_lt_of_pos (c + 1) hp
    obtain ⟨y, _, hy, _⟩ := atI_of a1 a2
    repeat (first | infer_instance)
    refine ⟨c, rs, st, rfl, ?_⟩
    repeat (first | infer_instance)
    refine w_idxS hy ?_
    refine ⟨c + 1, rs, st, rfl, ?_⟩
    refine nx_nx ?_
    cases rLook rs ((c + 1) % ((x :: r).length : Int)) with
    | none => exact draw_tail (b := sNil) rfl nd hk a1 (by omega) h0 h1 hQ
    | some v => exact draw_tail (b := sNil) rfl nd hk a1 (by omega) h0 h1 hQ
end BL
set_option Elab.async false
set_option linter.all false
set_option maxRecDepth 100000
set_option maxHeartbeats 4000000
namespace BL
open PySem BG L2
local macro_rules | `(tactic| infer_instance) => `(tactic| first | (with_reducible first | refine w_seq ?_ | refine w_asg ?_ | refine w_asgP ?_ | refine pr_i ?_ | refine w_eqI ?_ | refine w_neI ?_ | refine w_own ?_ | refine w_par ?_ | refine w_parO ?_ | refine w_expr ?_ | refine w_if ?_ | refine w_sret ?_ | refine w_nil ?_ | refine w_for ?_ | refine w_bin ?_ | refine w_un ?_ | refine w_tup ?_ | refine w_lst ?_ | refine w_call ?_ | refine w_and ?_ | refine w_or ?_ | refine w_ife ?_ | refine w_chain ?_ | refine w_slice ?_ | refine w_oN ?_ | refine w_oS ?_ | refine w_comp ?_ | refine w_itSeq ?_ | refine w_itR ?_ | refine w_evnil ?_ | refine w_evcons ?_ | refine w_evc1 ?_ | refine w_evc0 ?_ | refine w_c ?_ | refine nx_nx ?_ | refine nx_ret ?_ | refine bl_i ?_ | refine in_i ?_ | refine sq_t ?_ | refine sq_l ?_ | refine ls_l ?_ | refine tp_t ?_ | refine w_not ?_ | refine w_addI ?_ | refine w_sub ?_ | refine w_xor ?_ | refine w_ltI ?_ | refine w_leI ?_ | refine w_gtI ?_ | refine w_geI ?_ | refine w_slT ?_ | refine w_slL ?_ | refine w_lenT ?_ | refine w_lenL ?_ | refine w_lenS ?_ | refine w_tupL ?_ | refine w_tupT ?_ | refine w_lstL ?_ | refine w_lstT ?_ | refine w_neg ?_ | refine w_isn ?_ | refine w_isnn ?_ | refine w_begun ?_ | refine w_ret ?_ | refine w_resE ?_) | (with_reducible refine w_var (by with_unfolding_all rfl) ?_) | (with_reducible refine w_peekV (by with_unfolding_all rfl) ?_) | (with_reducible refine w_peekO (by with_unfolding_all rfl) ?_) | (with_reducible refine w_app (by with_unfolding_all rfl) ?_) | (with_reducible refine w_frz (by with_unfolding_all rfl) ?_) | (with_reducible refine w_scr (by with_unfolding_all rfl) ?_) | (with_reducible refine w_tc (by with_unfolding_all rfl) ?_) | (with_reducible refine w_stc (by with_unfolding_all rfl) ?_) | (with_reducible refine w_tr (by with_unfolding_all rfl) ?_) | (with_reducible refine w_str (by with_unfolding_all rfl) ?_) | (with_reducible refine w_idxT (by with_unfolding_all rfl) ?_) | (with_reducible refine w_idxL (by with_unfolding_all rfl) ?_) | (with_reducible refine w_isi (by with_unfolding_all rfl) ?_) | ((with_reducible first | refine w_addT ?_ ?_ | refine w_addL ?_ ?_ | refine w_mulI ?_ ?_ | refine w_mulT ?_ ?_ | refine w_mulL ?_ ?_ | refine w_mod ?_ ?_ | refine w_div ?_ ?_ | refine w_pow ?_ ?_ | refine w_rng ?_ ?_); (first | decide | omega | (refine ⟨?_, ?_⟩ <;> omega) | (refine ⟨?_, ?_, ?_⟩ <;> omega) | (simp only [List.length_cons, List.length_nil, List.length_append, List.length_reverse, BL.cD_len, BL.iD_len, BL.mkx_len, BL.sizeL]; omega) | (refine ⟨List.cons_ne_nil _ _, ?_⟩; simp only [List.length_cons, List.length_nil]; omega))) | ((with_reducible first | refine w_eqD ?_ ?_ ?_ | refine w_neD ?_ ?_ ?_ | refine w_inT ?_ ?_ ?_ | refine w_inL ?_ ?_ ?_); (first | rfl | with_unfolding_all rfl); (first | rfl | with_unfolding_all rfl)) | ((with_reducible refine ift_of ?_ ?_); (with_unfolding_all rfl)) | ((with_reducible refine iff_of ?_ ?_); (with_unfolding_all rfl)) | ((with_reducible refine ift2_of ?_ ?_); (with_unfolding_all rfl)) | ((with_reducible refine iff2_of ?_ ?_); (with_unfolding_all rfl)) | ((with_reducible refine ift_of ?_ ?_); exact decide_eq_true (by omega)) | ((with_reducible refine iff_of ?_ ?_); exact decide_eq_false (by omega)) | ((with_reducible refine ift2_of ?_ ?_); exact decide_eq_true (by omega)) | ((with_reducible refine iff2_of ?_ ?_); exact decide_eq_false (by omega)))
variable {st : Sto}
def gts : List D := [.tup [.str "both", .int 0, .int 1, .int 2], .tup [.str "both", .int 0, .int 2, .int 1], .tup [.str "both", .int 1, .int 2, .int 0], .tup [.str "if", .int 0, .int 1], .tup [.str "if", .int 0, .int 2], .tup [.str "if", .int 1, .int 0], .tup [.str "if", .int 1, .int 2], .tup [.str "if", .int 2, .int 0], .tup [.str "if", .int 2, .int 1], .tup [.str "not", .int 0], .tup [.str "not", .int 1], .tup [.str "not", .int 2], .tup [.str "pick", .int 0, .int 1, .int 2], .tup [.str "pick", .int 1, .int 0, .int 2], .tup [.str "pick", .int 2, .int 0, .int 1], .tup [.str "swap", .int 0, .int 1], .tup [.str "swap", .int 0, .int 2], .tup [.str "swap", .int 1, .int 2]]
theorem law_gates_eq : f_law_gates [] = ret (.lst gts) := by with_unfolding_all rfl
theorem gts_len : gts.length = 18 := by decide +kernel
theorem map_eq_all {α β : Type} {f g : α → β} {l : List α} (h : l.map f = l.map g) : ∀ x ∈ l, f x = g x := List.map_inj_left.mp h
theorem is_gate_eq : ∀ g ∈ gts, f_is_gate [g] = ret (.bl true) := map_eq_all (by with_unfolding_all rfl)
theorem all_of {α : Type} {p : α → Bool} {l : List α} (h : l.all p = true) : ∀ x ∈ l, p x = true := List.all_eq_true.mp h
def kindD : D → D
  | .tup (k :: _) => k
  | _ => .non
def gateShape : D → Bool
  | .tup (.str k :: ls) => okD (.tup (.str k :: ls)) 20 && nobl (.tup (.str k :: ls))
  | _ => false
theorem gts_shape : ∀ g ∈ gts, gateShape g = true := all_of (by decide +kernel)
theorem gts_kind {g : D} (h : g ∈ gts) : ∃ k ls, g = .tup (.str k :: ls) ∧ okD g 20 = true ∧ nobl g = true := by
  have := gts_shape g h
  unfold gateShape at this
  split at this
  · rw [Bool.and_eq_true] at this; exact ⟨_, _, rfl, this.1, this.2⟩
  · cases this
mutual
theorem okD_le : ∀ {d : D} {n m : Nat}, n ≤ m → okD d n = true → okD d m = true
  | .non, n, m, h, e => by cases n <;> cases m <;> rfl
  | .bl _, n, m, h, e => by cases n <;> cases m <;> rfl
  | .int _, n, m, h, e => by cases n <;> cases m <;> rfl
  | .str x, n, m, h, e => by unfold okD at e ⊢; exact e
  | .tup xs, 0, m, h, e => by cases e
  | .tup xs, n + 1, 0, h, e => by omega
  | .tup xs, n + 1, m + 1, h, e => okA_le (ds := xs) (n := n) (m := m) (by omega) e
  | .lst xs, 0, m, h, e => by cases e
  | .lst xs, n + 1, 0, h, e => by omega
  | .lst xs, n + 1, m + 1, h, e => okA_le (ds := xs) (n := n) (m := m) (by omega) e
  | .town, n, m, h, e => by unfold okD at e; cases e
  | .scr _, n, m, h, e => by unfold okD at e; cases e
  | .dct _ _, n, m, h, e => by unfold okD at e; cases e
  | .dTT _ _, n, m, h, e => by unfold okD at e; cases e
  | .hnd _, n, m, h, e => by unfold okD at e; cases e
theorem okA_le : ∀ {ds : List D} {n m : Nat}, n ≤ m → okA ds n = true → okA ds m = true
  | [], _, _, _, _ => rfl
  | d :: ds, n, m, h, e => by
    have e : (okD d n && okA ds n) = true := e
    show (okD d m && okA ds m) = true
    rw [Bool.and_eq_true] at e ⊢
    exact ⟨okD_le h e.1, okA_le h e.2⟩
end
theorem okA_of {ds : List D} {n : Nat} (h : ∀ d ∈ ds, okD d n = true) : okA ds n = true := by rw [okA_all]; exact List.all_eq_true.mpr h
theorem noblA_of : ∀ {ds : List D}, (∀ d ∈ ds, nobl d = true) → noblA ds = true
  | [], _ => rfl
  | d :: ds, h => by
    show (nobl d && noblA ds) = true
    rw [h d (List.mem_cons_self ..), noblA_of fun d hd => h d (List.mem_cons_of_mem _ hd)]; rfl
theorem atI_zero {α : Type} {x : α} {xs : List α} : atI (x :: xs) 0 = some x := atI_nat (n := 0) rfl
theorem perm_erase {α : Type} : ∀ {l : List α} {n : Nat} (h : n < l.length), (l[n] :: l.eraseIdx n).Perm l
  | x :: l, 0, _ => .refl _
  | x :: l, n + 1, h => by
    show (l[n]'(Nat.lt_of_succ_lt_succ h) :: x :: l.eraseIdx n).Perm (x :: l)
    exact (List.Perm.swap ..).trans ((perm_erase (l := l) (n := n) (Nat.lt_of_succ_lt_succ h)).cons x)
def gtsK (ks : List D) : List D := gts.filter fun g => inD (kindD g) ks
theorem gtsK_sub {ks : List D} {g : D} (h : g ∈ gtsK ks) : g ∈ gts := (List.mem_filter.mp h).1
theorem gtsK_len (ks : List D) : (gtsK ks).length ≤ 18 := by
  have := List.length_filter_le (fun g => inD (kindD g) ks) gts
  rw [gts_len] at this; exact this
theorem w_circuit {ns : List Int} {ks : List D} {most : Nat} {t : Tn} {Q : D → Tn → Prop} (hl : ns.length ≤ 63) (ht : (TOk st) t) (hm : most ≤ 1000) (hk : okA ks 60 = true) (hne : gtsK ks ≠ []) (hQ : ∀ cs t', cs.length ≤ most → (∀ g ∈ cs, g ∈ gtsK ks) → (TOk st) t' → Q (.tup cs) t') :
    W (f_law_circuit [.scr ns, .town, .tup ks, .int most] t) Q := by
  refine w_fn ?_
  show W (b_law_circuit [.val (.scr ns), .val .town, .val (.tup ks), .val (.int most), .un, .un, .un] _) _
  unfold b_law_circuit
  repeat (first | (with_reducible refine w_eq law_gates_eq ?_) | infer_instance)
  have hl18 := gtsK_len ks
  have hpos : 0 < (gtsK ks).length := List.length_pos_iff.mpr hne
  refine ⟨by decide +kernel, w_cmpP (fun g => inD (kindD g) ks) id (fun g hg => ?_) ?_⟩
  · obtain ⟨k, ls, rfl, ok, nb⟩ := gts_kind hg
    refine ⟨_, rfl, eq_of_W fun t => ?_, fun _ => eq_of_W fun t => ?_⟩
    · repeat (first | (with_reducible refine w_idxT atI_zero ?_) | infer_instance)
      have ok2 : okD (.str k) 60 = true := by
        have : (okD (.str k) 19 && okA ls 19) = true := ok
        rw [Bool.and_eq_true] at this
        exact okD_le (by decide) this.1
      refine w_inT ok2 hk ?_
      exact ⟨rfl, rfl⟩
    · repeat (first | infer_instance)
      exact ⟨rfl, rfl⟩
  rw [List.map_id]
  show Nx _ _ (.nx [.val (.scr ns), .val .town, .val (.tup ks), .val (.int most), .val (.lst (gtsK ks)), .un, .un]) _
  generalize gtsK ks = gs at *
  repeat (first | (with_reducible refine w_draw hl ht (by omega) (by omega) fun r t' r0 r1 ht' => ?_) | infer_instance)
  refine ⟨r0, by omega, ?_⟩
  refine ⟨by unfold rng; rw [List.length_map, List.length_range]; have : sizeLine = 16777216 := rfl; omega, ?_⟩
  refine w_cmpL (T := (TOk st)) (R := fun _ r => r ∈ gs) ht' (fun d hd t ht => ⟨_, rfl, rfl, ?_⟩) fun rs t2 ht2 he hR => ?_
  · show W (eBin pIdx (eVar 4) (eCall f_law_draw [(eVar 0), (eVar 1), (eUn bLen (eVar 4))]) [.val (.scr ns), .val .town, .val (.tup ks), .val (.int most), .val (.lst gs), .un, .val d] t) _
    repeat (first | (with_reducible refine w_draw hl ht (by omega) (by omega) fun r t' r0 r1 ht' => ?_) | infer_instance)
    obtain ⟨x, hx, e, _⟩ := atI_of r0 r1
    exact w_idxL e ⟨by assumption, hx⟩
  · repeat (first | infer_instance)
    refine hQ _ _ ?_ ?_ ht2
    · rw [← he]; unfold rng; rw [List.length_map, List.length_range]; omega
    · intro g hg
      obtain ⟨i, hi, e⟩ := List.mem_iff_getElem.mp hg
      have hi' : i < (rng r.toNat).length := by rw [he]; exact hi
      exact hR i _ g (List.getElem?_eq_getElem hi') (by rw [← e]; exact List.getElem?_eq_getElem hi)
theorem w_circuitI {ns : List Int} {ks : List D} {m : Int} {t : Tn} {Q : D → Tn → Prop} (hl : ns.length ≤ 63) (ht : (TOk st) t) (h0 : 0 ≤ m) (hm : m ≤ 1000) (hk : okA ks 60 = true) (hne : gtsK ks ≠ []) (hQ : ∀ cs t', cs.length ≤ m.toNat → (∀ g ∈ cs, g ∈ gtsK ks) → (TOk st) t' → Q (.tup cs) t') :
    W (f_law_circuit [.scr ns, .town, .tup ks, .int m] t) Q := by
  have e : m = (m.toNat : Int) := (Int.toNat_of_nonneg h0).symm
  rw [e]
  exact w_circuit hl ht (by omega) hk hne hQ
def iD (ws : List Nat) : List D := ws.map fun (w : Nat) => D.int (w : Int)
theorem iD_len (ws : List Nat) : (iD ws).length = ws.length := List.length_map _
theorem iD_app (a b : List Nat) : iD (a ++ b) = iD a ++ iD b := List.map_append
theorem sIx_le {n d k : Nat} (h : k ≤ n) : HT.sIx n d (some (k : Int)) = k := by rw [HT.sIx_nat]; omega
theorem cutD_take {ds : List D} {k : Nat} (h : k ≤ ds.length) : cutD ds none (some (k : Int)) = ds.take k := by
  unfold cutD
  rw [sIx_le h]
  show (ds.drop 0).take (k - 0) = _
  rw [List.drop_zero, Nat.sub_zero]
theorem cutD_drop {ds : List D} {k : Nat} (h : k ≤ ds.length) : cutD ds (some (k : Int)) none = ds.drop k := by
  unfold cutD
  rw [sIx_le h]
  show (ds.drop k).take (ds.length - k) = _
  rw [List.take_of_length_le]
  rw [List.length_drop]; exact Nat.le_refl _
theorem w_exchange {ns : List Int} {t : Tn} {Q : D → Tn → Prop} (hl : ns.length ≤ 63) (ht : (TOk st) t) (hQ : ∀ ws t', ws.Perm (List.range 8) → (TOk st) t' → Q (.tup (iD ws)) t') : W (f_law_exchange [.scr ns, .town] t) Q := by
  refine w_fn ?_
  show W (b_law_exchange [.val (.scr ns), .val .town, .un, .un, .un, .un] _) _
  unfold b_law_exchange
  repeat (first | infer_instance)
  refine ⟨by decide, by decide, ?_⟩
  refine w_forI (fun k S t => ∃ r f x4 x5, S = [.val (.scr ns), .val .town, .val (.lst (iD r)), .own (iD f), x4, x5] ∧ (f ++ r).Perm (List.range 8) ∧ f.length = k ∧ (TOk st) t) (k := 0) ⟨List.range 8, [], .un, .un, rfl, .refl _, rfl, ht⟩ (fun i d hd S t ⟨r, f, x4, x5, hS, hp, hf, ht⟩ => ?_) fun S t ⟨r, f, x4, x5, hS, hp, hf, ht⟩ => ?_
  · subst hS
    refine ⟨_, rfl, ?_⟩
    show W _ _
    have hi : i < 8 := (List.getElem?_eq_some_iff.mp hd).1
    have hlen : f.length + r.length = 8 := by have := hp.length_eq; rw [List.length_append, List.length_range] at this; exact this
    have hr : r.length ≤ 8 ∧ 0 < r.length := by omega
    have hr2 := iD_len r
    repeat (first | (with_reducible refine w_draw hl ht (by omega) (by omega) fun z t' z0 z1 ht' => ?_) | infer_instance)
    have z1' : z.toNat < r.length := by omega
    obtain ⟨y, hy⟩ : ∃ y, r[z.toNat]? = some y := ⟨_, List.getElem?_eq_getElem z1'⟩
    have e : atI (iD r) z = some (.int (y : Int)) := by
      have := atI_nat (xs := iD r) (n := z.toNat) (x := .int (y : Int)) (by unfold iD; rw [List.getElem?_map, hy]; rfl)
      rw [Int.toNat_of_nonneg z0] at this; exact this
    refine w_idxL e ?_
    refine ⟨by rw [iD_len]; have : sizeLine = 16777216 := rfl; omega, ?_⟩
    repeat (first | infer_instance)
    have e1 : z = (z.toNat : Int) := (Int.toNat_of_nonneg z0).symm
    have e2 : z + 1 = ((z.toNat + 1 : Nat) : Int) := by omega
    rw [e2, cutD_drop (by omega)]
    rw [e1, Int.toNat_natCast, cutD_take (by omega)]
    refine w_addL ?_ ?_
    · rw [List.length_take, List.length_drop, iD_len]; have : sizeLine = 16777216 := rfl; omega
    refine nx_nx ⟨r.eraseIdx z.toNat, f ++ [y], .val d, .val (.int z), ?_, ?_, ?_, ht'⟩
    · rw [List.eraseIdx_eq_take_drop_succ, iD_app, iD_app]
      unfold iD
      rw [List.map_take, List.map_drop, ← e1]
      rfl
    · refine List.Perm.trans ?_ hp
      rw [List.append_assoc]
      refine List.Perm.append_left f ?_
      have := perm_erase z1'
      rw [List.getElem?_eq_getElem z1'] at hy
      cases hy
      exact this
    · rw [List.length_append, hf]; rfl
  · subst hS
    have hr : r = [] := by
      have h2 := hp.length_eq
      rw [List.length_append, List.length_range, hf] at h2
      have h3 : (rng (8 : Int).toNat).length = 8 := by decide +kernel
      exact List.eq_nil_of_length_eq_zero (by omega)
    subst hr
    rw [List.append_nil] at hp
    repeat (first | infer_instance)
    exact hQ f t hp ht
end BL
set_option Elab.async false
set_option linter.all false
set_option maxRecDepth 100000
set_option maxHeartbeats 4000000
namespace BL
open PySem BG L2
local macro_rules | `(tactic| infer_instance) => `(tactic| first | (with_reducible first | refine w_seq ?_ | refine w_asg ?_ | refine w_asgP ?_ | refine pr_i ?_ | refine w_eqI ?_ | refine w_neI ?_ | refine w_own ?_ | refine w_par ?_ | refine w_parO ?_ | refine w_expr ?_ | refine w_if ?_ | refine w_sret ?_ | refine w_nil ?_ | refine w_for ?_ | refine w_bin ?_ | refine w_un ?_ | refine w_tup ?_ | refine w_lst ?_ | refine w_call ?_ | refine w_and ?_ | refine w_or ?_ | refine w_ife ?_ | refine w_chain ?_ | refine w_slice ?_ | refine w_oN ?_ | refine w_oS ?_ | refine w_comp ?_ | refine w_itSeq ?_ | refine w_itR ?_ | refine w_evnil ?_ | refine w_evcons ?_ | refine w_evc1 ?_ | refine w_evc0 ?_ | refine w_c ?_ | refine nx_nx ?_ | refine nx_ret ?_ | refine bl_i ?_ | refine in_i ?_ | refine sq_t ?_ | refine sq_l ?_ | refine ls_l ?_ | refine tp_t ?_ | refine w_not ?_ | refine w_addI ?_ | refine w_sub ?_ | refine w_xor ?_ | refine w_ltI ?_ | refine w_leI ?_ | refine w_gtI ?_ | refine w_geI ?_ | refine w_slT ?_ | refine w_slL ?_ | refine w_lenT ?_ | refine w_lenL ?_ | refine w_lenS ?_ | refine w_tupL ?_ | refine w_tupT ?_ | refine w_lstL ?_ | refine w_lstT ?_ | refine w_neg ?_ | refine w_isn ?_ | refine w_isnn ?_ | refine w_begun ?_ | refine w_ret ?_ | refine w_resE ?_) | (with_reducible refine w_var (by with_unfolding_all rfl) ?_) | (with_reducible refine w_peekV (by with_unfolding_all rfl) ?_) | (with_reducible refine w_peekO (by with_unfolding_all rfl) ?_) | (with_reducible refine w_app (by with_unfolding_all rfl) ?_) | (with_reducible refine w_frz (by with_unfolding_all rfl) ?_) | (with_reducible refine w_scr (by with_unfolding_all rfl) ?_) | (with_reducible refine w_tc (by with_unfolding_all rfl) ?_) | (with_reducible refine w_stc (by with_unfolding_all rfl) ?_) | (with_reducible refine w_tr (by with_unfolding_all rfl) ?_) | (with_reducible refine w_str (by with_unfolding_all rfl) ?_) | (with_reducible refine w_idxT (by with_unfolding_all rfl) ?_) | (with_reducible refine w_idxL (by with_unfolding_all rfl) ?_) | (with_reducible refine w_isi (by with_unfolding_all rfl) ?_) | ((with_reducible first | refine w_addT ?_ ?_ | refine w_addL ?_ ?_ | refine w_mulI ?_ ?_ | refine w_mulT ?_ ?_ | refine w_mulL ?_ ?_ | refine w_mod ?_ ?_ | refine w_div ?_ ?_ | refine w_pow ?_ ?_ | refine w_rng ?_ ?_); (first | decide | omega | (refine ⟨?_, ?_⟩ <;> omega) | (refine ⟨?_, ?_, ?_⟩ <;> omega) | (simp only [List.length_cons, List.length_nil, List.length_append, List.length_reverse, BL.cD_len, BL.iD_len, BL.mkx_len, BL.sizeL]; omega) | (refine ⟨List.cons_ne_nil _ _, ?_⟩; simp only [List.length_cons, List.length_nil]; omega))) | ((with_reducible first | refine w_eqD ?_ ?_ ?_ | refine w_neD ?_ ?_ ?_ | refine w_inT ?_ ?_ ?_ | refine w_inL ?_ ?_ ?_); (first | rfl | with_unfolding_all rfl); (first | rfl | with_unfolding_all rfl)) | ((with_reducible refine ift_of ?_ ?_); (with_unfolding_all rfl)) | ((with_reducible refine iff_of ?_ ?_); (with_unfolding_all rfl)) | ((with_reducible refine ift2_of ?_ ?_); (with_unfolding_all rfl)) | ((with_reducible refine iff2_of ?_ ?_); (with_unfolding_all rfl)) | ((with_reducible refine ift_of ?_ ?_); exact decide_eq_true (by omega)) | ((with_reducible refine iff_of ?_ ?_); exact decide_eq_false (by omega)) | ((with_reducible refine ift2_of ?_ ?_); exact decide_eq_true (by omega)) | ((with_reducible refine iff2_of ?_ ?_); exact decide_eq_false (by omega)))
def btw (lo hi : Int) : D → Bool
  | .int i => decide (lo ≤ i) && decide (i ≤ hi)
  | _ => false
def plain : D → Bool
  | .town => false
  | .scr _ => false
  | .dct _ _ => false
  | .dTT _ _ => false
  | .hnd _ => false
  | _ => true
theorem is_between_eq {d : D} {lo hi : Int} (h : plain d = true) : f_is_between [d, .int lo, .int hi] = ret (.bl (btw lo hi d)) := by
  refine eq_of_W fun t => w_fn ?_
  show W (b_is_between [.val d, .val (.int lo), .val (.int hi)] t) _
  unfold b_is_between
  cases d with
  | int i =>
    repeat (first | infer_instance)
    have e : btw lo hi (.int i) = (decide (lo ≤ i) && decide (i ≤ hi)) := rfl
    rw [e]
    refine ⟨fun h1 => ?_, fun h1 => ?_⟩
    · repeat (first | infer_instance)
      rw [h1]; exact ⟨rfl, rfl⟩
    · repeat (first | infer_instance)
      rw [h1]; exact ⟨rfl, rfl⟩
  | town => cases h
  | scr ns => cases h
  | dct _ _ => cases h
  | dTT _ _ => cases h
  | hnd _ => cases h
  | _ =>
    repeat (first | infer_instance)
    exact ⟨rfl, rfl⟩
theorem bools_map {α : Type} (f : α → Bool) : ∀ l : List α, bools (l.map fun x => D.bl (f x)) = some (l.map f)
  | [] => rfl
  | x :: l => by
    show (bools (l.map fun x => D.bl (f x))).map (f x :: ·) = _
    rw [bools_map f l]; rfl
theorem filter_true {α : Type} (l : List α) : l.filter (fun _ => true) = l := List.filter_eq_self.mpr fun _ _ => rfl
theorem all_map {α : Type} (f : α → Bool) (l : List α) : (l.map f).all id = l.all f := by rw [List.all_map]; rfl
theorem is_circuit_eq {ds : List D} (isg : D → Bool) (hl : ds.length ≤ sizeLine) (h : ds.length ≤ 20 → ∀ d ∈ ds, f_is_gate [d] = ret (.bl (isg d))) : f_is_circuit [.tup ds] = ret (.bl (decide ((ds.length : Int) ≤ 20) && ds.all isg)) := by
  refine eq_of_W fun t => w_fn ?_
  show W (b_is_circuit [.val (.tup ds), .un] t) _
  unfold b_is_circuit c_LONGEST
  repeat (first | infer_instance)
  refine ⟨fun h1 => ?_, fun h1 => ?_⟩
  · have h1' : ds.length ≤ 20 := by have := of_decide_eq_true h1; omega
    repeat (first | infer_instance)
    refine ⟨hl, w_cmpP (fun _ => true) (fun d => .bl (isg d)) (fun d hd => ⟨_, rfl, rfl, fun _ => ?_⟩) ?_⟩
    · refine eq_of_W fun t => ?_
      repeat (first | (with_reducible refine w_eq (h h1' d hd) ?_) | infer_instance)
      exact ⟨rfl, rfl⟩
    · rw [filter_true]
      refine w_allL (bools_map isg ds) ?_
      repeat (first | infer_instance)
      rw [h1, all_map]; exact ⟨rfl, rfl⟩
  · repeat (first | infer_instance)
    rw [h1]; exact ⟨rfl, rfl⟩
theorem is_circuit_no {d : D} (h : isTy .tuple d = some false) : f_is_circuit [d] = ret (.bl false) := by
  refine eq_of_W fun t => w_fn ?_
  show W (b_is_circuit [.val d, .un] t) _
  unfold b_is_circuit
  repeat (first | (with_reducible refine w_isi h ?_) | infer_instance)
  exact ⟨rfl, rfl⟩
/-- a circuit -/
def IsC (cs : List D) : Prop := cs.length ≤ 20 ∧ ∀ g ∈ cs, g ∈ gts
theorem sizeL : sizeLine = 16777216 := rfl
theorem is_circuit_yes {cs : List D} (h : IsC cs) : f_is_circuit [.tup cs] = ret (.bl true) := by
  rw [is_circuit_eq (fun _ => true) (by have := h.1; have := sizeL; omega) fun _ d hd => is_gate_eq d (h.2 d hd)]
  have h1 : decide ((cs.length : Int) ≤ 20) = true := decide_eq_true (by have := h.1; omega)
  rw [h1, List.all_eq_true.mpr fun _ _ => rfl]; rfl
theorem intsD_map : ∀ l : List Int, intsD (l.map D.int) = some l
  | [] => rfl
  | x :: l => by
    show (intsD (l.map D.int)).map (x :: ·) = _
    rw [intsD_map l]; rfl
theorem is_exchange_len {ds : List D} (h : ds.length ≠ 8) : f_is_exchange [.tup ds] = ret (.bl false) := by
  refine eq_of_W fun t => w_fn ?_
  show W (b_is_exchange [.val (.tup ds), .un] t) _
  unfold b_is_exchange
  repeat (first | infer_instance)
  exact ⟨rfl, rfl⟩
theorem is_exchange_eq {ds : List D} (h : ds.length = 8) (hp : ∀ d ∈ ds, plain d = true) : f_is_exchange [.tup ds] = ret (.bl (ds.all (btw 0 7) && match intsD ds with | some ns => decide ((ddp ns).length = 8) | none => false)) := by
  refine eq_of_W fun t => w_fn ?_
  show W (b_is_exchange [.val (.tup ds), .un] t) _
  unfold b_is_exchange
  repeat (first | infer_instance)
  refine ⟨by have := sizeL; omega, w_cmpP (fun _ => true) (fun d => .bl (btw 0 7 d)) (fun d hd => ⟨_, rfl, rfl, fun _ => ?_⟩) ?_⟩
  · refine eq_of_W fun t => ?_
    repeat (first | (with_reducible refine w_eq (is_between_eq (hp d hd)) ?_) | infer_instance)
    exact ⟨rfl, rfl⟩
  rw [filter_true]
  refine w_allL (bools_map (btw 0 7) ds) ?_
  rw [all_map]
  repeat (first | infer_instance)
  refine ⟨fun h1 => ?_, fun h1 => ?_⟩
  · have h2 : ds.all (btw 0 7) = false := by cases e : ds.all (btw 0 7) with | false => rfl | true => rw [e] at h1; cases h1
    repeat (first | infer_instance)
    rw [h2]; exact ⟨rfl, rfl⟩
  · have h2 : ds.all (btw 0 7) = true := by cases e : ds.all (btw 0 7) with | true => rfl | false => rw [e] at h1; cases h1
    have h3 : ∃ ns, intsD ds = some ns ∧ ns.length = ds.length := by
      clear h hp h1
      induction ds with
      | nil => exact ⟨[], rfl, rfl⟩
      | cons d ds ih =>
        rw [List.all_cons, Bool.and_eq_true] at h2
        obtain ⟨ns, e, l⟩ := ih h2.2
        cases d with
        | int i => exact ⟨i :: ns, by show (intsD ds).map (i :: ·) = _; rw [e]; rfl, by rw [List.length_cons, List.length_cons, l]⟩
        | _ => cases h2.1
    obtain ⟨ns, e, l⟩ := h3
    repeat (first | infer_instance)
    refine w_lenSet e (by omega) ?_
    repeat (first | infer_instance)
    rw [h2, e]
    refine ⟨?_, rfl⟩
    show D.bl _ = D.bl (true && decide _)
    rw [Bool.true_and]
    congr 2
    exact propext ⟨fun h => by omega, fun h => by omega⟩
theorem ddp_nodup : ∀ {l : List Int}, l.Nodup → ddp l = l
  | [], _ => rfl
  | x :: r, h => by
    rw [List.nodup_cons] at h
    unfold ddp
    rw [if_neg (by rw [List.contains_iff_mem]; exact h.1), ddp_nodup h.2]
theorem ddp_len : ∀ {l : List Int}, (ddp l).length ≤ l.length
  | [] => Nat.le_refl _
  | x :: r => by
    unfold ddp
    have := ddp_len (l := r)
    split
    · rw [List.length_cons]; omega
    · rw [List.length_cons, List.length_cons]; omega
theorem ddp_dup : ∀ {l : List Int}, ¬ l.Nodup → (ddp l).length < l.length
  | [], h => absurd List.nodup_nil h
  | x :: r, h => by
    rw [List.nodup_cons] at h
    have := ddp_len (l := r)
    unfold ddp
    split
    · rw [List.length_cons]; omega
    · rename_i hc
      rw [List.contains_iff_mem] at hc
      have := ddp_dup (l := r) fun z => h ⟨hc, z⟩
      rw [List.length_cons, List.length_cons]; omega
/-- an exchange -/
def IsX (ws : List Nat) : Prop := ws.Perm (List.range 8)
theorem IsX.len {ws : List Nat} (h : IsX ws) : ws.length = 8 := by have := h.length_eq; rw [List.length_range] at this; exact this
theorem IsX.lt {ws : List Nat} (h : IsX ws) {w : Nat} (hw : w ∈ ws) : w < 8 := List.mem_range.mp (h.mem_iff.mp hw)
theorem IsX.nodup {ws : List Nat} (h : IsX ws) : ws.Nodup := h.nodup_iff.mpr List.nodup_range
theorem intsD_iD (ws : List Nat) : intsD (iD ws) = some (ws.map fun (w : Nat) => (w : Int)) := by
  have := intsD_map (ws.map fun (w : Nat) => (w : Int))
  rw [List.map_map] at this
  exact this
theorem nodup_cast {ws : List Nat} (h : ws.Nodup) : (ws.map fun (w : Nat) => (w : Int)).Nodup := List.Pairwise.map _ (fun a b hab e => hab (by omega)) h
theorem mem_iD {d : D} {ws : List Nat} (h : d ∈ iD ws) : ∃ w ∈ ws, d = .int (w : Int) := by
  obtain ⟨w, hw, rfl⟩ := List.mem_map.mp h; exact ⟨w, hw, rfl⟩
theorem is_exchange_yes {ws : List Nat} (h : IsX ws) : f_is_exchange [.tup (iD ws)] = ret (.bl true) := by
  rw [is_exchange_eq (by rw [iD_len]; exact h.len) fun d hd => by obtain ⟨w, _, rfl⟩ := mem_iD hd; rfl]
  have h1 : (iD ws).all (btw 0 7) = true := List.all_eq_true.mpr fun d hd => by
    obtain ⟨w, hw, rfl⟩ := mem_iD hd
    have := h.lt hw
    show (decide ((0 : Int) ≤ (w : Int)) && decide ((w : Int) ≤ 7)) = true
    rw [decide_eq_true (by omega), decide_eq_true (by omega)]; rfl
  rw [h1, intsD_iD]
  show ret (D.bl (true && decide ((ddp (ws.map fun (w : Nat) => (w : Int))).length = 8))) = _
  rw [ddp_nodup (nodup_cast h.nodup), List.length_map, h.len]
  rfl
end BL
set_option Elab.async false
set_option linter.all false
set_option maxRecDepth 100000
set_option maxHeartbeats 4000000
namespace BL
open PySem BG L2
local macro_rules | `(tactic| infer_instance) => `(tactic| first | (with_reducible first | refine w_seq ?_ | refine w_asg ?_ | refine w_asgP ?_ | refine pr_i ?_ | refine w_eqI ?_ | refine w_neI ?_ | refine w_own ?_ | refine w_par ?_ | refine w_parO ?_ | refine w_expr ?_ | refine w_if ?_ | refine w_sret ?_ | refine w_nil ?_ | refine w_for ?_ | refine w_bin ?_ | refine w_un ?_ | refine w_tup ?_ | refine w_lst ?_ | refine w_call ?_ | refine w_and ?_ | refine w_or ?_ | refine w_ife ?_ | refine w_chain ?_ | refine w_slice ?_ | refine w_oN ?_ | refine w_oS ?_ | refine w_comp ?_ | refine w_itSeq ?_ | refine w_itR ?_ | refine w_evnil ?_ | refine w_evcons ?_ | refine w_evc1 ?_ | refine w_evc0 ?_ | refine w_c ?_ | refine nx_nx ?_ | refine nx_ret ?_ | refine bl_i ?_ | refine in_i ?_ | refine sq_t ?_ | refine sq_l ?_ | refine ls_l ?_ | refine tp_t ?_ | refine w_not ?_ | refine w_addI ?_ | refine w_sub ?_ | refine w_xor ?_ | refine w_ltI ?_ | refine w_leI ?_ | refine w_gtI ?_ | refine w_geI ?_ | refine w_slT ?_ | refine w_slL ?_ | refine w_lenT ?_ | refine w_lenL ?_ | refine w_lenS ?_ | refine w_tupL ?_ | refine w_tupT ?_ | refine w_lstL ?_ | refine w_lstT ?_ | refine w_neg ?_ | refine w_isn ?_ | refine w_isnn ?_ | refine w_begun ?_ | refine w_ret ?_ | refine w_resE ?_) | (with_reducible refine w_var (by with_unfolding_all rfl) ?_) | (with_reducible refine w_peekV (by with_unfolding_all rfl) ?_) | (with_reducible refine w_peekO (by with_unfolding_all rfl) ?_) | (with_reducible refine w_app (by with_unfolding_all rfl) ?_) | (with_reducible refine w_frz (by with_unfolding_all rfl) ?_) | (with_reducible refine w_scr (by with_unfolding_all rfl) ?_) | (with_reducible refine w_tc (by with_unfolding_all rfl) ?_) | (with_reducible refine w_stc (by with_unfolding_all rfl) ?_) | (with_reducible refine w_tr (by with_unfolding_all rfl) ?_) | (with_reducible refine w_str (by with_unfolding_all rfl) ?_) | (with_reducible refine w_idxT (by with_unfolding_all rfl) ?_) | (with_reducible refine w_idxL (by with_unfolding_all rfl) ?_) | (with_reducible refine w_isi (by with_unfolding_all rfl) ?_) | ((with_reducible first | refine w_addT ?_ ?_ | refine w_addL ?_ ?_ | refine w_mulI ?_ ?_ | refine w_mulT ?_ ?_ | refine w_mulL ?_ ?_ | refine w_mod ?_ ?_ | refine w_div ?_ ?_ | refine w_pow ?_ ?_ | refine w_rng ?_ ?_); (first | decide | omega | (refine ⟨?_, ?_⟩ <;> omega) | (refine ⟨?_, ?_, ?_⟩ <;> omega) | (simp only [List.length_cons, List.length_nil, List.length_append, List.length_reverse, BL.cD_len, BL.iD_len, BL.mkx_len, BL.sizeL]; omega) | (refine ⟨List.cons_ne_nil _ _, ?_⟩; simp only [List.length_cons, List.length_nil]; omega))) | ((with_reducible first | refine w_eqD ?_ ?_ ?_ | refine w_neD ?_ ?_ ?_ | refine w_inT ?_ ?_ ?_ | refine w_inL ?_ ?_ ?_); (first | rfl | with_unfolding_all rfl); (first | rfl | with_unfolding_all rfl)) | ((with_reducible refine ift_of ?_ ?_); (with_unfolding_all rfl)) | ((with_reducible refine iff_of ?_ ?_); (with_unfolding_all rfl)) | ((with_reducible refine ift2_of ?_ ?_); (with_unfolding_all rfl)) | ((with_reducible refine iff2_of ?_ ?_); (with_unfolding_all rfl)) | ((with_reducible refine ift_of ?_ ?_); exact decide_eq_true (by omega)) | ((with_reducible refine iff_of ?_ ?_); exact decide_eq_false (by omega)) | ((with_reducible refine ift2_of ?_ ?_); exact decide_eq_true (by omega)) | ((with_reducible refine iff2_of ?_ ?_); exact decide_eq_false (by omega)))
/-- gate number i -/
def gk (i : Nat) : D := gts.getD i .non
def apT : List (List Nat) := [[0, 1, 2, 7, 4, 5, 6, 3], [0, 1, 2, 3, 4, 7, 6, 5], [0, 1, 2, 3, 4, 5, 7, 6], [0, 3, 2, 1, 4, 7, 6, 5], [0, 5, 2, 7, 4, 1, 6, 3], [0, 1, 3, 2, 4, 5, 7, 6], [0, 1, 6, 7, 4, 5, 2, 3], [0, 1, 2, 3, 5, 4, 7, 6], [0, 1, 2, 3, 6, 7, 4, 5], [1, 0, 3, 2, 5, 4, 7, 6], [2, 3, 0, 1, 6, 7, 4, 5], [4, 5, 6, 7, 0, 1, 2, 3], [0, 1, 2, 5, 4, 3, 6, 7], [0, 1, 2, 6, 4, 5, 3, 7], [0, 1, 2, 3, 4, 6, 5, 7], [0, 2, 1, 3, 4, 6, 5, 7], [0, 4, 2, 6, 1, 5, 3, 7], [0, 1, 4, 5, 2, 3, 6, 7]]
def ap (i w : Nat) : Nat := (apT.getD i []).getD w 0
theorem gk_mem {i : Nat} (h : i < 18) : gk i ∈ gts := by
  have hl : i < gts.length := by rw [gts_len]; exact h
  unfold gk
  rw [List.getD_eq_getElem?_getD, List.getElem?_eq_getElem hl]
  exact List.getElem_mem hl
theorem gk_of {g : D} (h : g ∈ gts) : ∃ i, i < 18 ∧ g = gk i := by
  obtain ⟨i, hi, e⟩ := List.mem_iff_getElem.mp h
  refine ⟨i, by rw [gts_len] at hi; exact hi, ?_⟩
  unfold gk
  rw [List.getD_eq_getElem?_getD, List.getElem?_eq_getElem hi, e]; rfl
abbrev Gs (c : List Nat) : Prop := ∀ i ∈ c, i < 18
def cD (c : List Nat) : List D := c.map gk
theorem cD_len (c : List Nat) : (cD c).length = c.length := List.length_map _
theorem cD_of : ∀ {cs : List D}, (∀ g ∈ cs, g ∈ gts) → ∃ c, Gs c ∧ cs = cD c
  | [], _ => ⟨[], fun i h => (nomatch h), rfl⟩
  | g :: cs, h => by
    obtain ⟨i, hi, e⟩ := gk_of (h g (List.mem_cons_self ..))
    obtain ⟨c, hc, e2⟩ := cD_of fun g hg => h g (List.mem_cons_of_mem _ hg)
    refine ⟨i :: c, fun j hj => ?_, by rw [e, e2]; rfl⟩
    rcases List.mem_cons.mp hj with h | h
    · rw [h]; exact hi
    · exact hc j h
theorem cD_mem {c : List Nat} (h : Gs c) : ∀ g ∈ cD c, g ∈ gts := fun g hg => by
  obtain ⟨i, hi, rfl⟩ := List.mem_map.mp hg
  exact gk_mem (h i hi)
theorem IsC.of {c : List Nat} (h : Gs c) (hl : c.length ≤ 20) : IsC (cD c) := ⟨by rw [cD_len]; exact hl, cD_mem h⟩
theorem Gs.app {a b : List Nat} (ha : Gs a) (hb : Gs b) : Gs (a ++ b) := fun i hi => (List.mem_append.mp hi).elim (ha i) (hb i)
theorem Gs.take {a : List Nat} (ha : Gs a) (n : Nat) : Gs (a.take n) := fun i hi => ha i (List.mem_of_mem_take hi)
theorem Gs.drop {a : List Nat} (ha : Gs a) (n : Nat) : Gs (a.drop n) := fun i hi => ha i (List.mem_of_mem_drop hi)
/-- what a circuit makes of a word -/
def mkw (c : List Nat) (w : Nat) : Nat := c.foldl (fun w i => ap i w) w
/-- the exchange that a circuit makes -/
def mkx (c : List Nat) : List Nat := (List.range 8).map (mkw c)
theorem mkx_len (c : List Nat) : (mkx c).length = 8 := by unfold mkx; rw [List.length_map, List.length_range]
theorem perm_range : ∀ {n : Nat} {l : List Nat}, l.Nodup → (∀ x ∈ l, x < n) → l.length = n → l.Perm (List.range n)
  | 0, l, _, _, hl => by rw [List.eq_nil_of_length_eq_zero hl]; exact .refl _
  | n + 1, l, nd, hlt, hl => by
    have hm : n ∈ l := by
      refine Classical.byContradiction fun hn => ?_
      have : (l.map fun (x : Nat) => (x : Int)).length ≤ n := nd_le n _ (List.Pairwise.map _ (fun a b hab e => hab (by omega)) nd) fun k hk => by
        obtain ⟨x, hx, rfl⟩ := List.mem_map.mp hk
        have h1 := hlt x hx
        have h2 : x ≠ n := fun e => hn (by rw [← e]; exact hx)
        exact ⟨by omega, by omega⟩
      rw [List.length_map] at this
      omega
    have h1 := List.perm_cons_erase hm
    have h2 : (l.erase n).length = n := by rw [List.length_erase_of_mem hm, hl]; rfl
    have h3 := perm_range (n := n) (nd.erase n) (fun x hx => by
      have q := (nd.mem_erase_iff).mp hx
      have := hlt x q.2
      have := q.1
      omega) h2
    rw [List.range_succ]
    exact (h1.trans (h3.cons n)).trans (List.perm_append_comm (l₁ := [n]) (l₂ := List.range n))
theorem check_circuit_eq {c : List Nat} (hc : Gs c) (hl : c.length ≤ 20) : f_check_circuit [.tup (cD c)] = ret .non := by
  refine eq_of_W fun t => w_fn ?_
  show W (b_check_circuit [.val (.tup (cD c))] t) _
  unfold b_check_circuit
  repeat (first | (with_reducible refine w_eq (is_circuit_yes (IsC.of hc hl)) ?_) | infer_instance)
  exact ⟨rfl, rfl⟩
end BL
set_option Elab.async false
set_option linter.all false
set_option maxRecDepth 100000
set_option maxHeartbeats 1000000
namespace BL
open PySem BG L2
variable {st : Sto}
theorem w_lbegun {Q : D → Tn → Prop} (h : Q .town (some (0, []), st)) : W (f_law_begun [] (none, st)) Q := h
abbrev ks5 : List D := [.str "both", .str "if", .str "not", .str "pick", .str "swap"]
theorem ks5_ok : okA ks5 60 = true := by decide +kernel
theorem gtsK_len5 : (gtsK ks5).length = 18 := by decide +kernel
theorem gtsK_5 : gtsK ks5 ≠ [] := fun h => by
  have := gtsK_len5
  rw [h] at this
  cases this
theorem w_ne_no {p q : D} {t : Tn} {Q : D → Tn → Prop} (e : p = q) (h1 : okD p 60 = true) (h2 : nobl p = true) (h : Q (.bl false) t) : W (pNe p q t) Q := by
  subst e
  refine w_neD h1 h1 ?_
  rw [(eqv_iff h2 h2).mpr rfl]; exact h
theorem w_ne_yes {p q : D} {t : Tn} {Q : D → Tn → Prop} (e : p ≠ q) (h1 : okD p 60 = true) (h2 : nobl p = true) (h3 : okD q 60 = true) (h4 : nobl q = true) (h : Q (.bl true) t) : W (pNe p q t) Q := by
  refine w_neD h1 h3 ?_
  have : PyData.eqv p.py q.py = false := Bool.eq_false_iff.mpr fun z => e ((eqv_iff h2 h4).mp z)
  rw [this]; exact h
theorem ok_iD (ws : List Nat) : okD (.tup (iD ws)) 60 = true := okA_of (n := 59) fun d hd => by obtain ⟨w, _, rfl⟩ := mem_iD hd; rfl
theorem nobl_iD (ws : List Nat) : nobl (.tup (iD ws)) = true := noblA_of fun d hd => by obtain ⟨w, _, rfl⟩ := mem_iD hd; rfl
theorem ok_cD {c : List Nat} (h : Gs c) : okD (.tup (cD c)) 60 = true := okA_of (n := 59) fun d hd => by
  obtain ⟨_, _, _, h1, _⟩ := gts_kind (cD_mem h d hd)
  exact okD_le (by decide) h1
theorem nobl_cD {c : List Nat} (h : Gs c) : nobl (.tup (cD c)) = true := noblA_of fun d hd => by
  obtain ⟨_, _, _, _, h2⟩ := gts_kind (cD_mem h d hd)
  exact h2
/-- the end of a law -/
theorem law_of {F : Fn} {ns : List Int} (h : W (F [.scr ns] (none, [])) fun d _ => d = .bl true) : ∃ t', F [.scr ns] (none, []) = some (.ok (.bl true) t') := by
  obtain ⟨a, t, e, rfl⟩ := h.ex
  exact ⟨t, e⟩
/-- a drawn circuit of all kinds, by numbers -/
theorem w_circ5 {ns : List Int} {m : Int} {t : Tn} {Q : D → Tn → Prop} (hl : ns.length ≤ 63) (ht : (TOk st) t) (h0 : 0 ≤ m) (hm : m ≤ 1000) (hQ : ∀ c t', Gs c → c.length ≤ m.toNat → (TOk st) t' → Q (.tup (cD c)) t') :
    W (f_law_circuit [.scr ns, .town, .tup ks5, .int m] t) Q := by
  refine w_circuitI hl ht h0 hm ks5_ok gtsK_5 fun cs t' h1 h2 ht' => ?_
  obtain ⟨c, hc, rfl⟩ := cD_of fun g hg => gtsK_sub (h2 g hg)
  rw [cD_len] at h1
  exact hQ c t' hc h1 ht'
end BL
set_option Elab.async false
set_option linter.all false
set_option maxRecDepth 100000
set_option maxHeartbeats 1000000
namespace BL
open PySem BG L2
local macro_rules | `(tactic| infer_instance) => `(tactic| first | (with_reducible first | refine w_seq ?_ | refine w_asg ?_ | refine w_asgP ?_ | refine pr_i ?_ | refine w_eqI ?_ | refine w_neI ?_ | refine w_own ?_ | refine w_par ?_ | refine w_parO ?_ | refine w_expr ?_ | refine w_if ?_ | refine w_sret ?_ | refine w_nil ?_ | refine w_for ?_ | refine w_bin ?_ | refine w_un ?_ | refine w_tup ?_ | refine w_lst ?_ | refine w_call ?_ | refine w_and ?_ | refine w_or ?_ | refine w_ife ?_ | refine w_chain ?_ | refine w_slice ?_ | refine w_oN ?_ | refine w_oS ?_ | refine w_comp ?_ | refine w_itSeq ?_ | refine w_itR ?_ | refine w_evnil ?_ | refine w_evcons ?_ | refine w_evc1 ?_ | refine w_evc0 ?_ | refine w_c ?_ | refine nx_nx ?_ | refine nx_ret ?_ | refine bl_i ?_ | refine in_i ?_ | refine sq_t ?_ | refine sq_l ?_ | refine ls_l ?_ | refine tp_t ?_ | refine w_not ?_ | refine w_addI ?_ | refine w_sub ?_ | refine w_xor ?_ | refine w_ltI ?_ | refine w_leI ?_ | refine w_gtI ?_ | refine w_geI ?_ | refine w_slT ?_ | refine w_slL ?_ | refine w_lenT ?_ | refine w_lenL ?_ | refine w_lenS ?_ | refine w_tupL ?_ | refine w_tupT ?_ | refine w_lstL ?_ | refine w_lstT ?_ | refine w_neg ?_ | refine w_isn ?_ | refine w_isnn ?_ | refine w_begun ?_ | refine w_ret ?_ | refine w_resE ?_) | (with_reducible refine w_var (by with_unfolding_all rfl) ?_) | (with_reducible refine w_peekV (by with_unfolding_all rfl) ?_) | (with_reducible refine w_peekO (by with_unfolding_all rfl) ?_) | (with_reducible refine w_app (by with_unfolding_all rfl) ?_) | (with_reducible refine w_frz (by with_unfolding_all rfl) ?_) | (with_reducible refine w_scr (by with_unfolding_all rfl) ?_) | (with_reducible refine w_tc (by with_unfolding_all rfl) ?_) | (with_reducible refine w_stc (by with_unfolding_all rfl) ?_) | (with_reducible refine w_tr (by with_unfolding_all rfl) ?_) | (with_reducible refine w_str (by with_unfolding_all rfl) ?_) | (with_reducible refine w_idxT (by with_unfolding_all rfl) ?_) | (with_reducible refine w_idxL (by with_unfolding_all rfl) ?_) | (with_reducible refine w_isi (by with_unfolding_all rfl) ?_) | ((with_reducible first | refine w_addT ?_ ?_ | refine w_addL ?_ ?_ | refine w_mulI ?_ ?_ | refine w_mulT ?_ ?_ | refine w_mulL ?_ ?_ | refine w_mod ?_ ?_ | refine w_div ?_ ?_ | refine w_pow ?_ ?_ | refine w_rng ?_ ?_); (first | decide | omega | (refine ⟨?_, ?_⟩ <;> omega) | (refine ⟨?_, ?_, ?_⟩ <;> omega) | (simp only [List.length_cons, List.length_nil, List.length_append, List.length_reverse, BL.cD_len, BL.iD_len, BL.mkx_len, BL.sizeL]; omega) | (refine ⟨List.cons_ne_nil _ _, ?_⟩; simp only [List.length_cons, List.length_nil]; omega))) | ((with_reducible first | refine w_eqD ?_ ?_ ?_ | refine w_neD ?_ ?_ ?_ | refine w_inT ?_ ?_ ?_ | refine w_inL ?_ ?_ ?_); (first | rfl | with_unfolding_all rfl); (first | rfl | with_unfolding_all rfl)) | ((with_reducible refine ift_of ?_ ?_); (with_unfolding_all rfl)) | ((with_reducible refine iff_of ?_ ?_); (with_unfolding_all rfl)) | ((with_reducible refine ift2_of ?_ ?_); (with_unfolding_all rfl)) | ((with_reducible refine iff2_of ?_ ?_); (with_unfolding_all rfl)) | ((with_reducible refine ift_of ?_ ?_); exact decide_eq_true (by omega)) | ((with_reducible refine iff_of ?_ ?_); exact decide_eq_false (by omega)) | ((with_reducible refine ift2_of ?_ ?_); exact decide_eq_true (by omega)) | ((with_reducible refine iff2_of ?_ ?_); exact decide_eq_false (by omega)))
theorem rz_fn {n : Nat} {body : Stm} {ds : List D} {c : Nat} (h : body (slots0 n ds) = raise c) : fnOf n body ds = raise c := by
  unfold fnOf
  rw [h]; rfl
theorem rz_seq1 {a b : Stm} {S : Sl} {c : Nat} (h : a S = raise c) : sSeq a b S = raise c := by unfold sSeq; rw [h]; rfl
theorem rz_seq2 {a b : Stm} {S S' : Sl} {c : Nat} (h : a S = ret (.nx S')) (h2 : b S' = raise c) : sSeq a b S = raise c := by unfold sSeq; rw [h]; exact h2
theorem rz_expr {e : Ex} {S : Sl} {c : Nat} (h : e S = raise c) : sExpr e S = raise c := by unfold sExpr; rw [h]; rfl
/-- if not ..: raise -/
theorem rz_chk {f : Ex} {b : Stm} {S : Sl} {c : Nat} (h : f S = ret (.bl false)) : sIf (eUn oNot f) (sRaise c) b S = raise c := by unfold sIf eUn; rw [h]; rfl
theorem rt_chk {f : Ex} {S : Sl} {c : Nat} (h : f S = ret (.bl true)) : sIf (eUn oNot f) (sRaise c) sNil S = ret (.nx S) := by unfold sIf eUn; rw [h]; rfl
theorem check_circuit_no {d : D} (h : f_is_circuit [d] = ret (.bl false)) : f_check_circuit [d] = raise 1 := rz_fn (rz_chk h)
theorem check_exchange_no {d : D} (h : f_is_exchange [d] = ret (.bl false)) : f_check_exchange [d] = raise 3 := rz_fn (rz_chk h)
theorem check_exchange_yes {ws : List Nat} (h : IsX ws) : f_check_exchange [.tup (iD ws)] = ret .non := by
  have := is_exchange_yes h
  show bnd (sIf (eUn oNot (eCall f_is_exchange [eVar 0])) (sRaise 3) sNil [.val (.tup (iD ws))]) _ = _
  rw [rt_chk this]; rfl
end BL
set_option Elab.async false
set_option linter.all false
set_option maxRecDepth 100000
set_option maxHeartbeats 1000000
namespace BM
section
variable (cm : Nat → Nat → Bool)
/-- the pair is watched -/
def tk (a b : Nat) : Bool := !cm a b || decide (a = b)
abbrev Fm := Nat → Nat → List Nat
def hit (g a b : Nat) : Bool := tk cm a b && (decide (a = g) || decide (b = g))
/-- all watched pairs with g end with g -/
def rmv (g : Nat) (f : Fm) : Prop := ∀ a b, hit cm g a b = true → (f a b).getLast? = some g
def addF (g : Nat) (f : Fm) : Fm := fun a b => if hit cm g a b = true then f a b ++ [g] else f a b
def dropF (g : Nat) (f : Fm) : Fm := fun a b => if hit cm g a b = true then (f a b).dropLast else f a b
open Classical in
noncomputable def act (g : Nat) (f : Fm) : Fm := if rmv cm g f then dropF cm g f else addF cm g f
/-- no two letters cancel -/
def Red (w : List Nat) : Prop := ∀ u g m v, w = u ++ g :: (m ++ g :: v) → ∃ x ∈ m, cm g x = false
theorem Red.nil : Red cm [] := fun u g m v e => by
  have := congrArg List.length e
  simp at this
noncomputable def run (w : List Nat) (f : Fm) : Fm := w.foldl (fun f g => act cm g f) f
end
end BM
set_option Elab.async false
set_option linter.all false
set_option maxRecDepth 100000
set_option maxHeartbeats 1000000
namespace BL
open PySem BG L2
local macro_rules | `(tactic| infer_instance) => `(tactic| first | (with_reducible first | refine w_seq ?_ | refine w_asg ?_ | refine w_asgP ?_ | refine pr_i ?_ | refine w_eqI ?_ | refine w_neI ?_ | refine w_own ?_ | refine w_par ?_ | refine w_parO ?_ | refine w_expr ?_ | refine w_if ?_ | refine w_sret ?_ | refine w_nil ?_ | refine w_for ?_ | refine w_bin ?_ | refine w_un ?_ | refine w_tup ?_ | refine w_lst ?_ | refine w_call ?_ | refine w_and ?_ | refine w_or ?_ | refine w_ife ?_ | refine w_chain ?_ | refine w_slice ?_ | refine w_oN ?_ | refine w_oS ?_ | refine w_comp ?_ | refine w_itSeq ?_ | refine w_itR ?_ | refine w_evnil ?_ | refine w_evcons ?_ | refine w_evc1 ?_ | refine w_evc0 ?_ | refine w_c ?_ | refine nx_nx ?_ | refine nx_ret ?_ | refine bl_i ?_ | refine in_i ?_ | refine sq_t ?_ | refine sq_l ?_ | refine ls_l ?_ | refine tp_t ?_ | refine w_not ?_ | refine w_addI ?_ | refine w_sub ?_ | refine w_xor ?_ | refine w_ltI ?_ | refine w_leI ?_ | refine w_gtI ?_ | refine w_geI ?_ | refine w_slT ?_ | refine w_slL ?_ | refine w_lenT ?_ | refine w_lenL ?_ | refine w_lenS ?_ | refine w_tupL ?_ | refine w_tupT ?_ | refine w_lstL ?_ | refine w_lstT ?_ | refine w_neg ?_ | refine w_isn ?_ | refine w_isnn ?_ | refine w_begun ?_ | refine w_ret ?_ | refine w_resE ?_) | (with_reducible refine w_var (by with_unfolding_all rfl) ?_) | (with_reducible refine w_peekV (by with_unfolding_all rfl) ?_) | (with_reducible refine w_peekO (by with_unfolding_all rfl) ?_) | (with_reducible refine w_app (by with_unfolding_all rfl) ?_) | (with_reducible refine w_frz (by with_unfolding_all rfl) ?_) | (with_reducible refine w_scr (by with_unfolding_all rfl) ?_) | (with_reducible refine w_tc (by with_unfolding_all rfl) ?_) | (with_reducible refine w_stc (by with_unfolding_all rfl) ?_) | (with_reducible refine w_tr (by with_unfolding_all rfl) ?_) | (with_reducible refine w_str (by with_unfolding_all rfl) ?_) | (with_reducible refine w_idxT (by with_unfolding_all rfl) ?_) | (with_reducible refine w_idxL (by with_unfolding_all rfl) ?_) | (with_reducible refine w_isi (by with_unfolding_all rfl) ?_) | ((with_reducible first | refine w_addT ?_ ?_ | refine w_addL ?_ ?_ | refine w_mulI ?_ ?_ | refine w_mulT ?_ ?_ | refine w_mulL ?_ ?_ | refine w_mod ?_ ?_ | refine w_div ?_ ?_ | refine w_pow ?_ ?_ | refine w_rng ?_ ?_); (first | decide | omega | (refine ⟨?_, ?_⟩ <;> omega) | (refine ⟨?_, ?_, ?_⟩ <;> omega) | (simp only [List.length_cons, List.length_nil, List.length_append, List.length_reverse, BL.cD_len, BL.iD_len, BL.mkx_len, BL.sizeL]; omega) | (refine ⟨List.cons_ne_nil _ _, ?_⟩; simp only [List.length_cons, List.length_nil]; omega))) | ((with_reducible first | refine w_eqD ?_ ?_ ?_ | refine w_neD ?_ ?_ ?_ | refine w_inT ?_ ?_ ?_ | refine w_inL ?_ ?_ ?_); (first | rfl | with_unfolding_all rfl); (first | rfl | with_unfolding_all rfl)) | ((with_reducible refine ift_of ?_ ?_); (with_unfolding_all rfl)) | ((with_reducible refine iff_of ?_ ?_); (with_unfolding_all rfl)) | ((with_reducible refine ift2_of ?_ ?_); (with_unfolding_all rfl)) | ((with_reducible refine iff2_of ?_ ?_); (with_unfolding_all rfl)) | ((with_reducible refine ift_of ?_ ?_); exact decide_eq_true (by omega)) | ((with_reducible refine iff_of ?_ ?_); exact decide_eq_false (by omega)) | ((with_reducible refine ift2_of ?_ ?_); exact decide_eq_true (by omega)) | ((with_reducible refine iff2_of ?_ ?_); exact decide_eq_false (by omega)))
theorem cD_get {c : List Nat} {k : Nat} {d : D} (h : (cD c)[k]? = some d) : ∃ i, c[k]? = some i ∧ d = gk i ∧ k < c.length := by
  unfold cD at h
  rw [List.getElem?_map] at h
  cases e : c[k]? with
  | none => rw [e] at h; cases h
  | some i => rw [e] at h; cases h; exact ⟨i, rfl, rfl, (List.getElem?_eq_some_iff.mp e).1⟩
end BL
set_option Elab.async false
set_option linter.all false
set_option maxRecDepth 100000
set_option maxHeartbeats 1000000
namespace BL
open PySem BG L2
local macro_rules | `(tactic| infer_instance) => `(tactic| first | (with_reducible first | refine w_seq ?_ | refine w_asg ?_ | refine w_asgP ?_ | refine pr_i ?_ | refine w_eqI ?_ | refine w_neI ?_ | refine w_own ?_ | refine w_par ?_ | refine w_parO ?_ | refine w_expr ?_ | refine w_if ?_ | refine w_sret ?_ | refine w_nil ?_ | refine w_for ?_ | refine w_bin ?_ | refine w_un ?_ | refine w_tup ?_ | refine w_lst ?_ | refine w_call ?_ | refine w_and ?_ | refine w_or ?_ | refine w_ife ?_ | refine w_chain ?_ | refine w_slice ?_ | refine w_oN ?_ | refine w_oS ?_ | refine w_comp ?_ | refine w_itSeq ?_ | refine w_itR ?_ | refine w_evnil ?_ | refine w_evcons ?_ | refine w_evc1 ?_ | refine w_evc0 ?_ | refine w_c ?_ | refine nx_nx ?_ | refine nx_ret ?_ | refine bl_i ?_ | refine in_i ?_ | refine sq_t ?_ | refine sq_l ?_ | refine ls_l ?_ | refine tp_t ?_ | refine w_not ?_ | refine w_addI ?_ | refine w_sub ?_ | refine w_xor ?_ | refine w_ltI ?_ | refine w_leI ?_ | refine w_gtI ?_ | refine w_geI ?_ | refine w_slT ?_ | refine w_slL ?_ | refine w_lenT ?_ | refine w_lenL ?_ | refine w_lenS ?_ | refine w_tupL ?_ | refine w_tupT ?_ | refine w_lstL ?_ | refine w_lstT ?_ | refine w_neg ?_ | refine w_isn ?_ | refine w_isnn ?_ | refine w_begun ?_ | refine w_ret ?_ | refine w_resE ?_) | (with_reducible refine w_var (by with_unfolding_all rfl) ?_) | (with_reducible refine w_peekV (by with_unfolding_all rfl) ?_) | (with_reducible refine w_peekO (by with_unfolding_all rfl) ?_) | (with_reducible refine w_app (by with_unfolding_all rfl) ?_) | (with_reducible refine w_frz (by with_unfolding_all rfl) ?_) | (with_reducible refine w_scr (by with_unfolding_all rfl) ?_) | (with_reducible refine w_tc (by with_unfolding_all rfl) ?_) | (with_reducible refine w_stc (by with_unfolding_all rfl) ?_) | (with_reducible refine w_tr (by with_unfolding_all rfl) ?_) | (with_reducible refine w_str (by with_unfolding_all rfl) ?_) | (with_reducible refine w_idxT (by with_unfolding_all rfl) ?_) | (with_reducible refine w_idxL (by with_unfolding_all rfl) ?_) | (with_reducible refine w_isi (by with_unfolding_all rfl) ?_) | ((with_reducible first | refine w_addT ?_ ?_ | refine w_addL ?_ ?_ | refine w_mulI ?_ ?_ | refine w_mulT ?_ ?_ | refine w_mulL ?_ ?_ | refine w_mod ?_ ?_ | refine w_div ?_ ?_ | refine w_pow ?_ ?_ | refine w_rng ?_ ?_); (first | decide | omega | (refine ⟨?_, ?_⟩ <;> omega) | (refine ⟨?_, ?_, ?_⟩ <;> omega) | (simp only [List.length_cons, List.length_nil, List.length_append, List.length_reverse, BL.cD_len, BL.iD_len, BL.mkx_len, BL.sizeL]; omega) | (refine ⟨List.cons_ne_nil _ _, ?_⟩; simp only [List.length_cons, List.length_nil]; omega))) | ((with_reducible first | refine w_eqD ?_ ?_ ?_ | refine w_neD ?_ ?_ ?_ | refine w_inT ?_ ?_ ?_ | refine w_inL ?_ ?_ ?_); (first | rfl | with_unfolding_all rfl); (first | rfl | with_unfolding_all rfl)) | ((with_reducible refine ift_of ?_ ?_); (with_unfolding_all rfl)) | ((with_reducible refine iff_of ?_ ?_); (with_unfolding_all rfl)) | ((with_reducible refine ift2_of ?_ ?_); (with_unfolding_all rfl)) | ((with_reducible refine iff2_of ?_ ?_); (with_unfolding_all rfl)) | ((with_reducible refine ift_of ?_ ?_); exact decide_eq_true (by omega)) | ((with_reducible refine iff_of ?_ ?_); exact decide_eq_false (by omega)) | ((with_reducible refine ift2_of ?_ ?_); exact decide_eq_true (by omega)) | ((with_reducible refine iff2_of ?_ ?_); exact decide_eq_false (by omega)))
variable {st : Sto}
theorem rz_if {f : Ex} {b : Stm} {S : Sl} {c : Nat} (h : f S = ret (.bl true)) : sIf f (sRaise c) b S = raise c := by unfold sIf; rw [h]; rfl
theorem rt_if {f : Ex} {a : Stm} {S : Sl} (h : f S = ret (.bl false)) : sIf f a sNil S = ret (.nx S) := by unfold sIf; rw [h]; rfl
def fb (m : Int) : Int := if m ≤ 1 then 0 else if m ≤ 2 then 1 else if m ≤ 4 then 2 else 3
end BL
set_option Elab.async false
set_option linter.all false
set_option maxRecDepth 100000
set_option maxHeartbeats 4000000
namespace BL
open PySem PySem.Spec PyProof.Rows L2 BG
def gtxL : List (List Nat) := [[98, 111, 116, 104, 40, 48, 44, 49, 44, 50, 41], [98, 111, 116, 104, 40, 48, 44, 50, 44, 49, 41], [98, 111, 116, 104, 40, 49, 44, 50, 44, 48, 41], [105, 102, 40, 48, 44, 49, 41], [105, 102, 40, 48, 44, 50, 41], [105, 102, 40, 49, 44, 48, 41], [105, 102, 40, 49, 44, 50, 41], [105, 102, 40, 50, 44, 48, 41], [105, 102, 40, 50, 44, 49, 41], [110, 111, 116, 40, 48, 41], [110, 111, 116, 40, 49, 41], [110, 111, 116, 40, 50, 41], [112, 105, 99, 107, 40, 48, 44, 49, 44, 50, 41], [112, 105, 99, 107, 40, 49, 44, 48, 44, 50, 41], [112, 105, 99, 107, 40, 50, 44, 48, 44, 49, 41], [115, 119, 97, 112, 40, 48, 44, 49, 41], [115, 119, 97, 112, 40, 48, 44, 50, 41], [115, 119, 97, 112, 40, 49, 44, 50, 41]]
def gtx (i : Nat) : Str := ⟨(gtxL.getD i []).toArray⟩
theorem gate_text_tab : (List.range 18).map (fun i => f_gate_text [gk i]) = (List.range 18).map (fun i => ret (.str (gtx i))) := by with_unfolding_all rfl
theorem read_gate_tab : (List.range 18).map (fun i => f_read_gate [.str (gtx i)]) = (List.range 18).map (fun i => ret (gk i)) := by with_unfolding_all rfl
theorem gate_text_eq {i : Nat} (h : i < 18) : f_gate_text [gk i] = ret (.str (gtx i)) := map_eq_all gate_text_tab i (List.mem_range.mpr h)
theorem read_gate_eq {i : Nat} (h : i < 18) : f_read_gate [.str (gtx i)] = ret (gk i) := map_eq_all read_gate_tab i (List.mem_range.mpr h)
def Asc (z : Str) : Prop := ∀ n ∈ TL.tl z, n < 128
theorem ok_str {z : Str} (h : Asc z) : okD (.str z) 60 = true := by
  show z.cps.all _ = true
  rw [← Array.all_toList, List.all_eq_true]
  intro n hn
  have : n < 128 := h n hn
  exact decide_eq_true (by omega)
theorem mem_joinL {S : List Nat} {n : Nat} : ∀ {ps : List (List Nat)}, n ∈ TL.joinL S ps → n ∈ S ∨ ∃ p ∈ ps, n ∈ p
  | [], h => nomatch h
  | [p], h => .inr ⟨p, List.mem_cons_self .., h⟩
  | p :: q :: r, h => by
    rcases List.mem_append.mp (show n ∈ p ++ (S ++ TL.joinL S (q :: r)) from h) with h | h
    · exact .inr ⟨p, List.mem_cons_self .., h⟩
    · rcases List.mem_append.mp h with h | h
      · exact .inl h
      · rcases mem_joinL h with h | ⟨p', h1, h2⟩
        · exact .inl h
        · exact .inr ⟨p', List.mem_cons_of_mem _ h1, h2⟩
theorem tl_txjoin (a : Str) (ys : List Str) : TL.tl (Txt.join a ys) = TL.joinL (TL.tl a) (ys.map TL.tl) := by rw [TL.join_eq, TL.tl_join]
theorem Asc.join {a : Str} {ys : List Str} (ha : Asc a) (h : ∀ y ∈ ys, Asc y) : Asc (Txt.join a ys) := fun n hn => by
  rw [tl_txjoin] at hn
  rcases mem_joinL hn with h1 | ⟨p, h1, h2⟩
  · exact ha n h1
  · obtain ⟨y, hy, rfl⟩ := List.mem_map.mp h1
    exact h y hy n h2
theorem Asc.app {a b : Str} (ha : Asc a) (hb : Asc b) : Asc (a ++ b) := fun n hn => by
  rw [TL.tl_append] at hn
  exact (List.mem_append.mp hn).elim (ha n) (hb n)
/-- of a text -/
def Sx (Q : Str → Tn → Prop) : D → Tn → Prop := fun d t => match d with
  | .str z => Q z t
  | _ => False
section
variable {S : Sl} {t : Tn} {Q : D → Tn → Prop}
theorem sx_i {Q : Str → Tn → Prop} {z : Str} (h : Q z t) : Sx Q (.str z) t := h
theorem w_tx {op : Str → D → M D} {a b : Ex} (h : W (a S t) (Sx fun z t1 => W (b S t1) fun y t2 => W (op z y t2) Q)) : W (eTx op a b S t) Q := w_bnd (h.mono fun d t1 q => by
  cases d with
  | str z => exact w_bnd q
  | _ => exact q.elim)
theorem strsD_map : ∀ ys : List Str, strsD (ys.map D.str) = some ys
  | [] => rfl
  | y :: ys => by
    show (match strsD (ys.map D.str) with | some l => some (y :: l) | none => none) = _
    rw [strsD_map ys]
theorem w_jn {a : Str} {ys : List Str} (hl : (ys.map Str.length).sum + ys.length * a.length ≤ 16777216) (h : Q (.str (Txt.join a ys)) t) : W (pJn a (.lst (ys.map D.str)) t) Q := by
  show W ((match strsD (ys.map D.str) with | some ys => if (ys.map Str.length).sum + ys.length * a.length ≤ 16777216 then ret (D.str (Txt.join a ys)) else stuck | none => stuck) t) Q
  rw [strsD_map]
  show W ((if (ys.map Str.length).sum + ys.length * a.length ≤ 16777216 then ret (D.str (Txt.join a ys)) else stuck) t) Q
  rw [if_pos hl]; exact h
theorem w_spl {a b : Str} (hl : b.length ≠ 0 ∧ a.length + 2 ≤ sizeLine) (h : Q (.lst ((Txt.split a b).map D.str)) t) : W (pSpl a (.str b) t) Q := by
  show W ((if b.length ≠ 0 ∧ a.length + 2 ≤ sizeLine then ret (D.lst ((Txt.split a b).map D.str)) else stuck) t) Q
  rw [if_pos hl]; exact h
theorem w_listS {a : Str} (hl : a.length ≤ sizeLine) (h : Q (.lst ((signsL a).map D.str)) t) : W (bListS (.str a) t) Q := by
  show W ((if a.length ≤ sizeLine then ret (D.lst ((signsL a).map D.str)) else stuck) t) Q
  rw [if_pos hl]; exact h
theorem w_strI {i : Int} (hl : i.natAbs.log2 < 1920) (h : Q (.str (toString i)) t) : W (bStr (.int i) t) Q := by
  show W ((if i.natAbs.log2 < 1920 then ret (D.str (toString i)) else stuck) t) Q
  rw [if_pos hl]; exact h
theorem w_cmpF {α : Type} {tg : Tg} {elt : Ex} (f e : α → D) : ∀ {l : List α} {Q : List D → Tn → Prop}, (∀ x ∈ l, ∃ S', tg (f x) S = some S' ∧ elt S' = ret (e x)) → Q (l.map e) t → W (cmpL tg (eC (.bl true)) elt S (l.map f) t) Q
  | [], _, _, q => q
  | x :: l, Q, h, q => by
    obtain ⟨S', e1, e2⟩ := h x (List.mem_cons_self ..)
    have k : cmpL tg (eC (.bl true)) elt S ((x :: l).map f) = bnd (calm (elt S')) fun r => bnd (cmpL tg (eC (.bl true)) elt S (l.map f)) fun rs => ret (r :: rs) := by
      rw [List.map_cons, cmpL, e1]; rfl
    rw [k, e2]
    refine w_bnd (w_calm (show W (ret (e x) t) _ from ?_))
    exact w_bnd (w_cmpF f e (Q := fun rs t => W (ret (e x :: rs) t) Q) (fun y hy => h y (List.mem_cons_of_mem _ hy)) q)
end
theorem gtx_tab : ∀ i, i < 18 → (TL.tl (gtx i)).all (fun n => n < 128 ∧ n ≠ 32 ∧ n ≠ 45) = true ∧ (gtx i).length ≤ 11 ∧ (TL.tl (gtx i)).count 40 = 1 := by decide +kernel
theorem gtx_sp {i : Nat} (h : i < 18) {n : Nat} (hn : n ∈ TL.tl (gtx i)) : n < 128 ∧ n ≠ 32 ∧ n ≠ 45 := of_decide_eq_true (List.all_eq_true.mp (gtx_tab i h).1 n hn)
def wds (c : List Nat) : List Str := c.map gtx
theorem wds_len (c : List Nat) : (wds c).length = c.length := List.length_map _
theorem wds_sum : ∀ {c : List Nat}, Gs c → ((wds c).map Str.length).sum ≤ 11 * c.length
  | [], _ => Nat.le_refl _
  | i :: c, h => by
    have h1 := (gtx_tab i (h i (List.mem_cons_self ..))).2.1
    have h2 := wds_sum (c := c) fun j hj => h j (List.mem_cons_of_mem _ hj)
    show (gtx i).length + ((wds c).map Str.length).sum ≤ 11 * (c.length + 1)
    omega
def dash : Str := "-"
def ctx (c : List Nat) : Str := if c = [] then dash else Txt.join " " (wds c)
theorem tl_sp : TL.tl (" " : Str) = [32] := by with_unfolding_all rfl
theorem tl_dash : TL.tl dash = [45] := by with_unfolding_all rfl
theorem len_sp : (" " : Str).length = 1 := by rw [TL.len_tl, tl_sp]; rfl
theorem asc_sp : Asc " " := fun n hn => by rw [tl_sp] at hn; have := List.mem_singleton.mp hn; omega
theorem asc_dash : Asc dash := fun n hn => by rw [tl_dash] at hn; have := List.mem_singleton.mp hn; omega
theorem asc_gtx {i : Nat} (h : i < 18) : Asc (gtx i) := fun n hn => (gtx_sp h hn).1
theorem asc_wds {c : List Nat} (h : Gs c) : ∀ y ∈ wds c, Asc y := fun y hy => by
  obtain ⟨i, hi, rfl⟩ := List.mem_map.mp hy
  exact asc_gtx (h i hi)
theorem asc_ctx {c : List Nat} (h : Gs c) : Asc (ctx c) := by
  unfold ctx
  split
  · exact asc_dash
  · exact asc_sp.join (asc_wds h)
theorem split_wds {c : List Nat} (h : Gs c) (hne : c ≠ []) : Txt.split (Txt.join " " (wds c)) " " = wds c :=
  TL.split_join tl_sp (by decide +kernel) (fun e => hne (List.map_eq_nil_iff.mp e)) fun p hp => by
    obtain ⟨i, hi, rfl⟩ := List.mem_map.mp hp
    exact fun hn => (gtx_sp (h i hi) hn).2.1 rfl
theorem join_ne_dash {c : List Nat} (h : Gs c) (hne : c ≠ []) : Txt.join " " (wds c) ≠ dash := fun e => by
  have hm : (45 : Nat) ∈ TL.tl (Txt.join " " (wds c)) := by rw [e, tl_dash]; exact List.mem_singleton.mpr rfl
  rw [tl_txjoin, tl_sp] at hm
  rcases mem_joinL hm with h1 | ⟨p, h1, h2⟩
  · have := List.mem_singleton.mp h1; omega
  · obtain ⟨y, hy, rfl⟩ := List.mem_map.mp h1
    obtain ⟨i, hi, rfl⟩ := List.mem_map.mp hy
    exact (gtx_sp (h i hi) h2).2.2 rfl
theorem len_joinL {S : List Nat} : ∀ ps : List (List Nat), (TL.joinL S ps).length ≤ (ps.map List.length).sum + ps.length * S.length
  | [] => Nat.zero_le _
  | [p] => by
    show p.length ≤ (p.length + 0) + 1 * S.length
    omega
  | p :: q :: r => by
    have h := len_joinL (S := S) (q :: r)
    show (p ++ (S ++ TL.joinL S (q :: r))).length ≤ _
    rw [List.length_append, List.length_append, List.map_cons, List.sum_cons, List.length_cons, Nat.add_mul]
    omega
theorem len_txjoin (a : Str) (ys : List Str) : (Txt.join a ys).length ≤ (ys.map Str.length).sum + ys.length * a.length := by
  have h := len_joinL (S := TL.tl a) (ys.map TL.tl)
  rw [← tl_txjoin, ← TL.len_tl, List.length_map, ← TL.len_tl, List.map_map] at h
  rw [show ys.map Str.length = ys.map (List.length ∘ TL.tl) from List.map_congr_left fun y _ => TL.len_tl y]
  exact h
theorem len_ctx {c : List Nat} (h : Gs c) : (ctx c).length ≤ 12 * c.length + 1 := by
  unfold ctx
  split
  · rw [TL.len_tl, tl_dash]; show 1 ≤ _; omega
  · have h1 := len_txjoin " " (wds c)
    have h2 := wds_sum h
    rw [wds_len, len_sp] at h1
    omega
theorem circuit_text_eq {c : List Nat} (hc : Gs c) (hl : c.length ≤ 20) : f_circuit_text [.tup (cD c)] = ret (.str (ctx c)) := by
  have hsz := sizeL
  refine eq_of_W fun t => w_fn ?_
  rw [show slots0 2 [D.tup (cD c)] = [.val (.tup (cD c)), .un] from rfl]
  unfold b_circuit_text
  by_cases h0 : c = []
  · refine w_sret (w_ife (w_bin (w_var rfl (w_tup (w_evnil (w_ne_no (by rw [h0]; rfl) (ok_cD hc) (nobl_cD hc) (bl_i ⟨(fun z => nomatch z), fun _ => w_c (nx_ret ⟨?_, rfl⟩)⟩)))))))
    unfold ctx
    rw [if_pos h0]; rfl
  · have hne : D.tup (cD c) ≠ .tup [] := fun e => by
      injection e with e
      exact h0 (List.map_eq_nil_iff.mp e)
    refine w_sret (w_ife (w_bin (w_var rfl (w_tup (w_evnil (w_ne_yes hne (ok_cD hc) (nobl_cD hc) rfl rfl (bl_i ⟨fun _ => ?_, fun z => nomatch z⟩)))))))
    refine w_tx (w_c (sx_i (w_comp (w_itSeq (w_var rfl (sq_t ⟨by rw [cD_len]; omega, ?_⟩))))))
    refine w_cmpF gk (fun i => D.str (gtx i)) (l := c) (fun i hi => ⟨_, rfl, eq_of_W fun t => w_call (w_evcons (w_var rfl (w_evnil (w_eq (gate_text_eq (hc i hi)) ⟨rfl, rfl⟩))))⟩) ?_
    rw [show c.map (fun i => D.str (gtx i)) = (wds c).map D.str from by unfold wds; rw [List.map_map]; rfl]
    have h2 := wds_sum hc
    refine w_jn (by rw [wds_len, len_sp]; omega) (nx_ret ⟨?_, rfl⟩)
    unfold ctx
    rw [if_neg h0]
theorem format_circuit_eq {c : List Nat} (hc : Gs c) (hl : c.length ≤ 20) : f_format_circuit [.tup (cD c)] = ret (.str (ctx c)) := by
  refine eq_of_W fun t => w_fn ?_
  rw [show slots0 1 [D.tup (cD c)] = [.val (.tup (cD c))] from rfl]
  unfold b_format_circuit
  refine w_seq (w_expr (w_call (w_evcons (w_var rfl (w_evnil (w_eq (check_circuit_eq hc hl) (nx_nx ?_)))))))
  exact w_sret (w_call (w_evcons (w_var rfl (w_evnil (w_eq (circuit_text_eq hc hl) (nx_ret ⟨rfl, rfl⟩))))))
theorem isS {z : Str} {S : Sl} {i : Nat} (e : S[i]? = some (.val (.str z))) : eUn (pIsi .str) (eVar i) S = ret (.bl true) := eq_of_W fun t => w_un (w_var e (w_isi rfl ⟨rfl, rfl⟩))
end BL
set_option Elab.async false
set_option linter.all false
set_option maxRecDepth 100000
set_option maxHeartbeats 4000000
namespace BL
open PySem PySem.Spec PyProof.Rows L2 BG
section
variable {S : Sl} {t : Tn} {Q : D → Tn → Prop}
theorem w_lenX {z : Str} (hl : z.length ≤ sizeLine) (h : Q (.int z.length) t) : W (bLen (.str z) t) Q := by
  show W ((if z.length ≤ sizeLine then ret (D.int z.length) else stuck) t) Q
  rw [if_pos hl]; exact h
theorem w_inS {c : Nat} {z : Str} (h : Q (.bl (decide (c ∈ TL.tl z))) t) : W (pInS (.str ⟨#[c]⟩) (.str z) t) Q := h
theorem w_intX {z : Str} {n : Int} (e : PySem.intText? z = some n) (hl : z.length ≤ 640) (h : Q (.int n) t) : W (bInt (.str z) t) Q := by
  show W ((match PySem.intText? z with | some n => if z.length ≤ 640 then ret (D.int n) else stuck | none => stuck) t) Q
  rw [e]
  show W ((if z.length ≤ 640 then ret (D.int n) else stuck) t) Q
  rw [if_pos hl]; exact h
end
def digs : Str := "01234567"
theorem tl_digs : TL.tl digs = [48, 49, 50, 51, 52, 53, 54, 55] := by with_unfolding_all rfl
def isDig (z : Str) : Bool := match TL.tl z with
  | [c] => decide (48 ≤ c ∧ c < 56)
  | _ => false
def valD (z : Str) : D := .int ((((TL.tl z).getD 0 0 : Nat) : Int) - 48)
theorem str_of_tl {z : Str} {c : Nat} (h : TL.tl z = [c]) : z = ⟨#[c]⟩ := TL.ext_tl h
theorem mem_digs (c : Nat) : decide (c ∈ TL.tl digs) = decide (48 ≤ c ∧ c < 56) := by
  rw [tl_digs]
  refine decide_eq_decide.mpr ?_
  simp only [List.mem_cons, List.not_mem_nil, or_false]
  omega
theorem int_dig : ∀ c, c < 56 → 48 ≤ c → PySem.intText? ⟨#[c]⟩ = some ((c : Int) - 48) := by decide +kernel
theorem is_dig_eq {S : Sl} {z : Str} {i : Nat} (e : S[i]? = some (.val (.str z))) (hl : z.length ≤ sizeLine) : (eAnd (eBin pEq (eUn bLen (eVar i)) (eC (.int 1))) (eBin pInS (eVar i) (eC (.str digs)))) S = ret (.bl (isDig z)) := by
  refine eq_of_W fun t => w_and (w_bin (w_un (w_var e (w_lenX hl (w_c (w_eqI (bl_i ⟨fun h => ?_, fun h => ?_⟩)))))))
  · have h := of_decide_eq_true h
    have h : (TL.tl z).length = 1 := by rw [← TL.len_tl]; omega
    obtain ⟨c, hc⟩ := List.length_eq_one_iff.mp h
    have ez := str_of_tl hc
    subst ez
    refine w_bin (w_var e (w_c (w_inS ⟨?_, rfl⟩)))
    rw [mem_digs]; rfl
  · have h := of_decide_eq_false h
    refine ⟨?_, rfl⟩
    congr 1
    unfold isDig
    split
    · rename_i c hc
      exact absurd (by rw [TL.len_tl, hc]; rfl) h
    · rfl
theorem int_eq {S : Sl} {z : Str} {i : Nat} (e : S[i]? = some (.val (.str z))) (h : isDig z = true) : (eUn bInt (eVar i)) S = ret (valD z) := by
  unfold isDig at h
  split at h
  · rename_i c hc
    have h := of_decide_eq_true h
    have ez := str_of_tl hc
    subst ez
    exact eq_of_W fun t => w_un (w_var e (w_intX (int_dig c h.2 h.1) (by show 1 ≤ 640; omega) ⟨rfl, rfl⟩))
  · cases h
theorem read_digits_all {zs : List Str} {S : Sl} (hn : zs.length ≤ sizeLine) (hl : ∀ z ∈ zs, z.length ≤ sizeLine) (e : S[0]? = some (.val (.lst (zs.map D.str)))) (hS : S = [.val (.lst (zs.map D.str)), .un]) : (eUn bAll (eComp [1] (itSeq (eVar 0)) (gN 1) (eC (.bl true)) (eAnd (eBin pEq (eUn bLen (eVar 1)) (eC (.int 1))) (eBin pInS (eVar 1) (eC (.str digs)))))) S = ret (.bl (zs.all isDig)) := by
  subst hS
  refine eq_of_W fun t => w_un (w_comp (w_itSeq (w_var rfl (sq_l ⟨by rw [List.length_map]; exact hn, ?_⟩))))
  refine w_cmpF D.str (fun z => D.bl (isDig z)) (l := zs) (fun z hz => ⟨_, rfl, is_dig_eq rfl (hl z hz)⟩) ?_
  refine w_allL (bools_map isDig zs) ⟨?_, rfl⟩
  rw [all_map]
theorem read_digits_yes {zs : List Str} (hn : zs.length ≤ sizeLine) (hl : ∀ z ∈ zs, z.length ≤ sizeLine) (h : zs.all isDig = true) : f_read_digits [.lst (zs.map D.str)] = ret (.tup (zs.map valD)) := by
  refine eq_of_W fun t => w_fn ?_
  rw [show slots0 2 [D.lst (zs.map D.str)] = [.val (.lst (zs.map D.str)), .un] from rfl]
  unfold b_read_digits
  refine w_seq (w_eq (rt_chk ((read_digits_all hn hl rfl rfl).trans (by rw [h]))) (nx_nx ?_))
  refine w_sret (w_un (w_comp (w_itSeq (w_var rfl (sq_l ⟨by rw [List.length_map]; exact hn, ?_⟩)))))
  exact w_cmpF D.str valD (l := zs) (fun z hz => ⟨_, rfl, int_eq rfl (List.all_eq_true.mp h z hz)⟩) (w_tupL (nx_ret ⟨rfl, rfl⟩))
theorem read_digits_no {zs : List Str} (hn : zs.length ≤ sizeLine) (hl : ∀ z ∈ zs, z.length ≤ sizeLine) (h : zs.all isDig = false) : f_read_digits [.lst (zs.map D.str)] = raise 8 := by
  refine rz_fn (rz_seq1 (rz_chk ?_))
  exact (read_digits_all (S := [.val (.lst (zs.map D.str)), .un]) hn hl rfl rfl).trans (by rw [h])
def dig (w : Nat) : Str := ⟨#[48 + w]⟩
theorem dig_int {w : Nat} (h : w < 10) : (toString ((w : Nat) : Int) : Str) = dig w := by
  refine TL.ext_tl ((TL.tl_num w).trans ?_)
  rw [TL.numL_lt h]; rfl
def xtx (ws : List Nat) : Str := ⟨(ws.map fun w => 48 + w).toArray⟩
theorem tl_xtx (ws : List Nat) : TL.tl (xtx ws) = ws.map fun w => 48 + w := rfl
theorem joinL_nil : ∀ ps : List (List Nat), TL.joinL [] ps = ps.flatten
  | [] => rfl
  | [p] => (List.append_nil p).symm
  | p :: q :: r => by
    show p ++ ([] ++ TL.joinL [] (q :: r)) = p ++ (q :: r).flatten
    rw [joinL_nil (q :: r)]; rfl
theorem join_dig (ws : List Nat) : Txt.join "" (ws.map dig) = xtx ws := by
  refine TL.ext_tl ?_
  rw [tl_txjoin, show TL.tl ("" : Str) = [] from by with_unfolding_all rfl, joinL_nil, tl_xtx, List.map_map]
  induction ws with
  | nil => rfl
  | cons w ws ih => show (48 + w) :: (ws.map (TL.tl ∘ dig)).flatten = _; rw [ih]; rfl
theorem asc_xtx {ws : List Nat} (h : IsX ws) : Asc (xtx ws) := fun n hn => by
  rw [tl_xtx] at hn
  obtain ⟨w, hw, rfl⟩ := List.mem_map.mp hn
  have := h.lt hw
  omega
theorem xtx_len (ws : List Nat) : (xtx ws).length = ws.length := by rw [TL.len_tl, tl_xtx, List.length_map]
theorem exchange_text_eq {ws : List Nat} (h : IsX ws) : f_exchange_text [.tup (iD ws)] = ret (.str (xtx ws)) := by
  have hsz := sizeL
  have h8 := h.len
  refine eq_of_W fun t => w_fn ?_
  rw [show slots0 2 [D.tup (iD ws)] = [.val (.tup (iD ws)), .un] from rfl]
  unfold b_exchange_text
  refine w_sret (w_tx (w_c (sx_i (w_comp (w_itSeq (w_var rfl (sq_t ⟨by rw [iD_len]; omega, ?_⟩)))))))
  refine w_cmpF (fun (w : Nat) => D.int (w : Int)) (fun w => D.str (dig w)) (l := ws) (fun w hw => ⟨_, rfl, eq_of_W fun t => w_un (w_var rfl (w_strI ?_ ⟨?_, rfl⟩))⟩) ?_
  · have := h.lt hw
    rw [Int.natAbs_natCast]
    exact Nat.lt_of_le_of_lt (Nat.log2_le_self w) (by omega)
  · rw [dig_int (by have := h.lt hw; omega)]
  · rw [show ws.map (fun w => D.str (dig w)) = (ws.map dig).map D.str from by rw [List.map_map]; rfl]
    have e1 : ((ws.map dig).map Str.length).sum = ws.length := by
      rw [List.map_map]
      clear h8 h hsz
      induction ws with
      | nil => rfl
      | cons w ws ih => rw [List.map_cons, List.sum_cons, ih, List.length_cons, show (Str.length ∘ dig) w = 1 from rfl]; omega
    refine w_jn (by rw [e1, List.length_map, h8, show ("" : Str).length = 0 from by with_unfolding_all rfl]; decide) (nx_ret ⟨?_, rfl⟩)
    rw [join_dig]
theorem format_exchange_eq {ws : List Nat} (h : IsX ws) : f_format_exchange [.tup (iD ws)] = ret (.str (xtx ws)) := by
  refine eq_of_W fun t => w_fn ?_
  rw [show slots0 1 [D.tup (iD ws)] = [.val (.tup (iD ws))] from rfl]
  unfold b_format_exchange
  refine w_seq (w_expr (w_call (w_evcons (w_var rfl (w_evnil (w_eq (check_exchange_yes h) (nx_nx ?_)))))))
  exact w_sret (w_call (w_evcons (w_var rfl (w_evnil (w_eq (exchange_text_eq h) (nx_ret ⟨rfl, rfl⟩))))))
theorem signs_xtx (ws : List Nat) : signsL (xtx ws) = ws.map dig := by
  unfold signsL
  show (TL.tl (xtx ws)).map _ = _
  rw [tl_xtx, List.map_map]; rfl
theorem dig_is {w : Nat} (h : w < 8) : isDig (dig w) = true := decide_eq_true (show 48 ≤ 48 + w ∧ 48 + w < 56 by omega)
theorem dig_val (w : Nat) : valD (dig w) = .int (w : Int) := by
  show D.int (((48 + w : Nat) : Int) - 48) = _
  congr 1
  omega
theorem parse_exchange_eq {ws : List Nat} (h : IsX ws) : f_parse_exchange [.str (xtx ws)] = ret (.tup (iD ws)) := by
  have hsz := sizeL
  have h8 := h.len
  refine eq_of_W fun t => w_fn ?_
  rw [show slots0 2 [D.str (xtx ws)] = [.val (.str (xtx ws)), .un] from rfl]
  unfold b_parse_exchange
  refine w_seq (w_eq (rt_chk (isS rfl)) (nx_nx ?_))
  refine w_seq (w_asg (w_call (w_evcons (w_un (w_var rfl (w_listS (by rw [xtx_len]; omega) (w_evnil ?_)))))))
  rw [signs_xtx]
  refine w_eq (read_digits_yes (by rw [List.length_map]; omega) (fun z hz => ?_) ?_) (nx_nx ?_)
  · obtain ⟨w, _, rfl⟩ := List.mem_map.mp hz
    show 1 ≤ sizeLine
    omega
  · rw [List.all_eq_true]
    intro z hz
    obtain ⟨w, hw, rfl⟩ := List.mem_map.mp hz
    exact dig_is (h.lt hw)
  · rw [show (ws.map dig).map valD = iD ws from by rw [List.map_map]; exact List.map_congr_left fun w _ => dig_val w]
    dsimp only [List.set]
    refine w_seq (w_eq (rt_chk (eq_of_W fun t => w_call (w_evcons (w_var rfl (w_evnil (w_eq (is_exchange_yes h) ⟨rfl, rfl⟩)))))) (nx_nx ?_))
    exact w_sret (w_var rfl (nx_ret ⟨rfl, rfl⟩))
theorem tl_br : TL.tl ("(" : Str) = [40] := by with_unfolding_all rfl
end BL
set_option Elab.async false
set_option linter.all false
set_option maxRecDepth 100000
set_option maxHeartbeats 4000000
namespace BL
open PySem PySem.Spec PyProof.Rows L2 BG
theorem spl_all {S : List Nat} : ∀ {l : List Nat} {k : Nat} {acc : List Nat}, (TL.spl S k acc l).length ≤ l.length + 1 ∧ ∀ p ∈ TL.spl S k acc l, p.length ≤ acc.length + l.length ∧ ∀ n ∈ p, n ∈ acc ∨ n ∈ l
  | [], k, acc => by
    rw [TL.spl_nil]
    refine ⟨Nat.le_refl _, fun p hp => ?_⟩
    have := List.mem_singleton.mp hp
    subst this
    exact ⟨Nat.le_refl _, fun n hn => .inl hn⟩
  | c :: r, 0, acc => by
    cases h : TL.pre S (c :: r) with
    | true =>
      rw [TL.spl_hit h]
      have ih := spl_all (S := S) (l := r) (k := S.length - 1) (acc := [])
      refine ⟨by rw [List.length_cons, List.length_cons]; omega, fun p hp => ?_⟩
      rcases List.mem_cons.mp hp with rfl | hp
      · exact ⟨Nat.le_add_right _ _, fun n hn => .inl hn⟩
      · obtain ⟨i1, i2⟩ := ih.2 p hp
        refine ⟨by rw [List.length_cons]; have : p.length ≤ 0 + r.length := i1; omega, fun n hn => ?_⟩
        rcases i2 n hn with h | h
        · cases h
        · exact .inr (List.mem_cons_of_mem _ h)
    | false =>
      rw [TL.spl_miss h]
      have ih := spl_all (S := S) (l := r) (k := 0) (acc := acc ++ [c])
      refine ⟨by rw [List.length_cons]; omega, fun p hp => ?_⟩
      obtain ⟨i1, i2⟩ := ih.2 p hp
      refine ⟨by rw [List.length_append] at i1; rw [List.length_cons]; have : [c].length = 1 := rfl; omega, fun n hn => ?_⟩
      rcases i2 n hn with h | h
      · rcases List.mem_append.mp h with h | h
        · exact .inl h
        · exact .inr (List.mem_singleton.mp h ▸ List.mem_cons_self ..)
      · exact .inr (List.mem_cons_of_mem _ h)
  | c :: r, k + 1, acc => by
    have ih := spl_all (S := S) (l := r) (k := k) (acc := acc)
    show (TL.spl S k acc r).length ≤ _ ∧ ∀ p ∈ TL.spl S k acc r, _
    refine ⟨by rw [List.length_cons]; omega, fun p hp => ?_⟩
    obtain ⟨i1, i2⟩ := ih.2 p hp
    exact ⟨by rw [List.length_cons]; omega, fun n hn => (i2 n hn).imp id fun h => List.mem_cons_of_mem _ h⟩
theorem split_len {x y : Str} (hy : TL.tl y ≠ []) (hk : y.cps.all (· < 256) = true) : (Txt.split x y).length ≤ x.length + 1 := by
  have e := TL.split_spl x y hy (TL.kind_ok hk)
  have h := (spl_all (S := TL.tl y) (l := TL.tl x) (k := 0) (acc := [])).1
  rw [← e, List.length_map, ← TL.len_tl] at h
  exact h
theorem split_part {x y z : Str} (hy : TL.tl y ≠ []) (hk : y.cps.all (· < 256) = true) (hz : z ∈ Txt.split x y) : z.length ≤ x.length ∧ (Asc x → Asc z) := by
  have e := TL.split_spl x y hy (TL.kind_ok hk)
  have h := (spl_all (S := TL.tl y) (l := TL.tl x) (k := 0) (acc := [])).2 (TL.tl z) (by rw [← e]; exact List.mem_map_of_mem hz)
  refine ⟨?_, fun ha n hn => ?_⟩
  · rw [TL.len_tl, TL.len_tl]
    have := h.1
    rw [show ([] : List Nat).length = 0 from rfl, Nat.zero_add] at this
    exact this
  · rcases h.2 n hn with h | h
    · cases h
    · exact ha n h
theorem asc_cut {z : Str} {lo hi : Option Int} (h : Asc z) : Asc (cutS z lo hi) := fun n hn => by
  have : n ∈ (z.cps.toList.drop (HT.sIx z.length 0 lo)).take (HT.sIx z.length z.length hi - HT.sIx z.length 0 lo) := hn
  exact h n (List.mem_of_mem_drop (List.mem_of_mem_take this))
theorem rz_asg {i : Nat} {e : Ex} {S : Sl} {c : Nat} (h : e S = raise c) : sAsg i e S = raise c := by unfold sAsg; rw [h]; rfl
theorem rt_asg {i : Nat} {e : Ex} {S : Sl} {d : D} (h : e S = ret d) : sAsg i e S = ret (.nx (S.set i (.val d))) := by unfold sAsg; rw [h]; rfl
theorem rz_sret {e : Ex} {S : Sl} {c : Nat} (h : e S = raise c) : sRet e S = raise c := by unfold sRet; rw [h]; rfl
theorem rt_sret {e : Ex} {S : Sl} {d : D} (h : e S = ret d) : sRet e S = ret (.ret d) := by unfold sRet; rw [h]; rfl
theorem rz_bin2 {op : D → D → M D} {a b : Ex} {S : Sl} {x : D} {c : Nat} (h1 : a S = ret x) (h2 : b S = raise c) : eBin op a b S = raise c := by unfold eBin; rw [h1, ret_bnd, h2]; rfl
theorem rz_call1 {F : Fn} {a : Ex} {S : Sl} {x : D} {c : Nat} (h1 : a S = ret x) (h2 : F [x] = raise c) : eCall F [a] S = raise c := by
  unfold eCall evs evs; rw [h1, ret_bnd, ret_bnd, ret_bnd, h2]
theorem rt_call1 {F : Fn} {a : Ex} {S : Sl} {x y : D} (h1 : a S = ret x) (h2 : F [x] = ret y) : eCall F [a] S = ret y := by
  unfold eCall evs evs; rw [h1, ret_bnd, ret_bnd, ret_bnd, h2]
theorem rt_fn {n : Nat} {body : Stm} {ds : List D} {d : D} (h : body (slots0 n ds) = ret (.ret d)) : fnOf n body ds = ret d := by unfold fnOf; rw [h]; rfl
theorem rt_seq {a b : Stm} {S S' : Sl} (h : a S = ret (.nx S')) : sSeq a b S = b S' := by unfold sSeq; rw [h]; rfl
theorem tl_opn : TL.tl ("(" : Str) = [40] := tl_br
theorem tl_com : TL.tl ("," : Str) = [44] := by with_unfolding_all rfl
theorem tl_cls : TL.tl (")" : Str) = [41] := by with_unfolding_all rfl
theorem asc_cls : Asc ")" := fun n hn => by rw [tl_cls] at hn; have := List.mem_singleton.mp hn; omega
theorem w_cutE {a : Ex} {lo hi : Option Ex} {S : Sl} {t : Tn} {Q : D → Tn → Prop} (h : W (a S t) fun x t1 => W (oEx lo S t1) fun l t2 => W (oEx hi S t2) fun u t3 => W (pCutS x l u t3) Q) : W (eCutS a lo hi S t) Q :=
  w_bnd (h.mono fun x t1 h => w_bnd (h.mono fun l t2 h => w_bnd h))
theorem w_cutS {z : Str} {lo hi : Option Int} {t : Tn} {Q : D → Tn → Prop} (hl : z.length ≤ sizeLine) (h : Q (.str (cutS z lo hi)) t) : W (pCutS (.str z) lo hi t) Q := by
  show W ((if z.length ≤ sizeLine then ret (D.str (cutS z lo hi)) else stuck) t) Q
  rw [if_pos hl]; exact h
/-- like a gate: a text and digits -/
def GL (d : D) : Prop := ∃ (p : Str) (ns : List Nat), Asc p ∧ (∀ n ∈ ns, n < 8) ∧ ns.length ≤ 600 ∧ d = .tup (.str p :: iD ns)
theorem digs_of : ∀ {zs : List Str}, zs.all isDig = true → ∃ ns : List Nat, zs.map valD = iD ns ∧ zs = ns.map dig ∧ ∀ n ∈ ns, n < 8
  | [], _ => ⟨[], rfl, rfl, fun n h => nomatch h⟩
  | z :: zs, h => by
    rw [List.all_cons, Bool.and_eq_true] at h
    obtain ⟨ns, e1, e2, e3⟩ := digs_of h.2
    have hz := h.1
    unfold isDig at hz
    split at hz
    · rename_i c hc
      have hz := of_decide_eq_true hz
      have ez : z = dig (c - 48) := by
        rw [str_of_tl hc]
        show (⟨#[c]⟩ : Str) = ⟨#[48 + (c - 48)]⟩
        rw [show 48 + (c - 48) = c by omega]
      refine ⟨(c - 48) :: ns, ?_, ?_, fun n hn => ?_⟩
      · rw [List.map_cons, e1, ez, dig_val]; rfl
      · rw [List.map_cons, ← e2, ← ez]
      · rcases List.mem_cons.mp hn with rfl | hn
        · omega
        · exact e3 n hn
    · cases hz
theorem read_gate_out {w : Str} (hw : Asc w) (hl : w.length ≤ 500) : f_read_gate [.str w] = raise 8 ∨ ∃ d, GL d ∧ f_read_gate [.str w] = ret d := by
  have hsz := sizeL
  have n1 : TL.tl ("(" : Str) ≠ [] := by rw [tl_opn]; simp
  have k1 : ("(" : Str).cps.all (· < 256) = true := by decide +kernel
  have n2 : TL.tl ("," : Str) ≠ [] := by rw [tl_com]; simp
  have k2 : ("," : Str).cps.all (· < 256) = true := by decide +kernel
  have a1 : (eTx pSpl (eVar 0) (eC (.str "("))) [.val (.str w), .un] = ret (.lst ((Txt.split w "(").map D.str)) := eq_of_W fun t => w_tx (w_var rfl (sx_i (w_c (w_spl ⟨by rw [TL.len_tl, tl_opn]; decide, by omega⟩ ⟨rfl, rfl⟩))))
  have b1 := rt_asg (i := 1) a1
  have hparts := fun z (hz : z ∈ Txt.split w "(") => split_part n1 k1 hz
  generalize Txt.split w "(" = parts at *
  dsimp only [List.set] at b1
  by_cases hp : parts.length = 2
  · obtain ⟨p0, p1, rfl⟩ : ∃ p0 p1, parts = [p0, p1] := by
      match parts, hp with
      | [p0, p1], _ => exact ⟨p0, p1, rfl⟩
    have l1 := (hparts p1 (by simp)).1
    have q0 := (hparts p0 (by simp)).2 hw
    have q1 := (hparts p1 (by simp)).2 hw
    generalize hS : ([.val (.str w), .val (.lst ([p0, p1].map D.str))] : Sl) = S at *
    have e1 : S[1]? = some (.val (.lst [.str p0, .str p1])) := by rw [← hS]; rfl
    have c1 : (eOr (eBin pNe (eUn bLen (eVar 1)) (eC (.int 2))) (eBin pNe (eCutS (eBin pIdx (eVar 1) (eC (.int 1))) (some (eUn pNeg (eC (.int 1)))) none) (eC (.str ")")))) S = ret (.bl (!PyData.eqv (D.str (cutS p1 (some (-1)) none)).py (D.str ")").py)) := eq_of_W fun t => by
      refine w_or (w_bin (w_un (w_var e1 (w_lenL (w_c (w_neI (bl_i ⟨fun _ => ?_, fun h => absurd (of_decide_eq_true h) (by simp)⟩)))))))
      exact w_bin (w_cutE (w_bin (w_var e1 (w_c (w_idxL (i := 1) rfl (w_oS (w_un (w_c (w_neg (in_i (w_oN (w_cutS (by omega) (w_c (w_neD (ok_str (asc_cut q1)) (ok_str asc_cls) ⟨rfl, rfl⟩))))))))))))))
    cases hc : (!PyData.eqv (D.str (cutS p1 (some (-1)) none)).py (D.str ")").py) with
    | true =>
      rw [hc] at c1
      exact .inl (rz_fn (rz_seq2 b1 (rz_seq1 (rz_if c1))))
    | false =>
      rw [hc] at c1
      have d1 := rt_if (a := sRaise 8) c1
      have ha : Asc (cutS p1 none (some (-1))) := asc_cut q1
      have hlc : (cutS p1 none (some (-1))).length ≤ p1.length := cutS_length _ _ _
      have f1 : (eTx pSpl (eCutS (eBin pIdx (eVar 1) (eC (.int 1))) none (some (eUn pNeg (eC (.int 1))))) (eC (.str ","))) S = ret (.lst ((Txt.split (cutS p1 none (some (-1))) ",").map D.str)) := eq_of_W fun t => by
        refine w_tx (w_cutE (w_bin (w_var e1 (w_c (w_idxL (i := 1) rfl (w_oN (w_oS (w_un (w_c (w_neg (in_i (w_cutS (by omega) (sx_i ?_)))))))))))))
        exact w_c (w_spl ⟨by rw [TL.len_tl, tl_com]; decide, by omega⟩ ⟨rfl, rfl⟩)
      have hlen := split_len (x := cutS p1 none (some (-1))) n2 k2
      have hpt := fun z (hz : z ∈ Txt.split (cutS p1 none (some (-1))) ",") => split_part n2 k2 hz
      generalize Txt.split (cutS p1 none (some (-1))) "," = zs at *
      have g1 : (eTup [(eBin pIdx (eVar 1) (eC (.int 0)))]) S = ret (.tup [.str p0]) := eq_of_W fun t => w_tup (w_evcons (w_bin (w_var e1 (w_c (w_idxL (i := 0) rfl (w_evnil ⟨rfl, rfl⟩))))))
      have hzl : ∀ z ∈ zs, z.length ≤ sizeLine := fun z hz => by
        have := (hpt z hz).1
        omega
      cases hd : zs.all isDig with
      | false => exact .inl (rz_fn (rz_seq2 b1 (rz_seq2 d1 (rz_sret (rz_bin2 g1 (rz_call1 f1 (read_digits_no (by omega) hzl hd)))))))
      | true =>
        obtain ⟨ns, en, ez, hn⟩ := digs_of hd
        have ln : ns.length = zs.length := by rw [ez, List.length_map]
        refine .inr ⟨.tup (.str p0 :: iD ns), ⟨p0, ns, q0, hn, by omega, rfl⟩, rt_fn ?_⟩
        show b_read_gate [.val (.str w), .un] = _
        unfold b_read_gate
        rw [rt_seq b1, rt_seq d1]
        refine rt_sret (eq_of_W fun t => w_bin (w_eq g1 (w_eq (rt_call1 f1 (read_digits_yes (by omega) hzl hd)) ?_)))
        rw [en]
        exact w_addT (by rw [iD_len]; show 1 + ns.length ≤ sizeLine; omega) ⟨rfl, rfl⟩
  · refine .inl (rz_fn (rz_seq2 b1 (rz_seq1 (rz_if (eq_of_W fun t => ?_)))))
    refine w_or (w_bin (w_un (w_var rfl (w_lenL (w_c (w_neI (bl_i ⟨fun h => ?_, fun _ => ⟨rfl, rfl⟩⟩)))))))
    rw [List.length_map] at h
    have h := Decidable.not_not.mp (of_decide_eq_false h)
    omega
end BL
set_option Elab.async false
set_option linter.all false
set_option maxRecDepth 100000
set_option maxHeartbeats 400000
namespace BL
open PySem PySem.Spec PyProof.Rows L2 BG
theorem w_ninK {p : D} {ds : List D} {t : Tn} {Q : D → Tn → Prop} (hp : okD p 60 = true) (hq : okA ds 60 = true) (h : Q (.bl (!inD p ds)) t) : W (pNotIn p (.tup ds) t) Q := by
  show W ((if okD p 60 = true ∧ okA ds 60 = true then ret (D.bl (!inD p ds)) else stuck) t) Q
  rw [if_pos ⟨hp, hq⟩]; exact h
def nms : List Str := ["both", "if", "not", "pick", "swap"]
def codes : List (Nat × List Nat) := [(0, [0, 1, 2]), (0, [0, 2, 1]), (0, [1, 2, 0]), (1, [0, 1]), (1, [0, 2]), (1, [1, 0]), (1, [1, 2]), (1, [2, 0]), (1, [2, 1]), (2, [0]), (2, [1]), (2, [2]), (3, [0, 1, 2]), (3, [1, 0, 2]), (3, [2, 0, 1]), (4, [0, 1]), (4, [0, 2]), (4, [1, 2])]
def glD (k : Nat) (l : List Nat) : D := .tup (.str (nms.getD k "") :: iD l)
def lns : List (List Nat) := [[], [0], [1], [2], [0, 1], [0, 2], [1, 0], [1, 2], [2, 0], [2, 1], [0, 1, 2], [0, 2, 1], [1, 0, 2], [1, 2, 0], [2, 0, 1], [2, 1, 0]]
def all5 : List (Nat × List Nat) := (List.range 5).flatMap fun k => lns.map fun l => (k, l)
theorem is_gate_tab : all5.map (fun p => f_is_gate [glD p.1 p.2]) = all5.map (fun p => ret (.bl (codes.contains p))) := by with_unfolding_all rfl
theorem codes_gk : (List.range 18).map (fun i => glD (codes.getD i (0, [])).1 (codes.getD i (0, [])).2) = (List.range 18).map gk := by with_unfolding_all rfl
theorem code_gts {p : Nat × List Nat} (h : codes.contains p = true) : glD p.1 p.2 ∈ gts := by
  have hm : p ∈ codes := List.contains_iff_mem.mp h
  obtain ⟨i, hi, rfl⟩ := List.getElem_of_mem hm
  have h18 : i < 18 := hi
  have e := map_eq_all codes_gk i (List.mem_range.mpr h18)
  have e2 : codes.getD i (0, []) = codes[i] := by rw [List.getD_eq_getElem?_getD, List.getElem?_eq_getElem hi]; rfl
  rw [e2] at e
  have m := gk_mem h18
  rw [← e] at m
  exact m
theorem is_gate_at {k : Nat} {ns : List Nat} (ha : (k, ns) ∈ all5) : f_is_gate [glD k ns] = ret (.bl (codes.contains (k, ns))) := by
  have e := map_eq_all is_gate_tab (k, ns) ha
  with_reducible exact e
theorem code_at {k : Nat} {ns : List Nat} (h : codes.contains (k, ns) = true) : glD k ns ∈ gts := by
  have e := code_gts h
  with_reducible exact e
theorem lns_all : ∀ {l : List Nat}, l.Nodup → (∀ n ∈ l, n < 3) → l ∈ lns := fun {l} nd h => by
  have h3 : l.length ≤ 3 := by
    have := nd_le 3 (l.map fun (n : Nat) => (n : Int)) (nodup_cast nd) fun k hk => by
      obtain ⟨n, hn, rfl⟩ := List.mem_map.mp hk
      have := h n hn
      omega
    rw [List.length_map] at this
    exact this
  match l, nd, h, h3 with
  | [], _, _, _ => decide
  | [a], _, h, _ =>
    have ha := h a (by simp)
    have : ∀ a, a < 3 → [a] ∈ lns := by decide
    exact this a ha
  | [a, b], nd, h, _ =>
    have ha := h a (by simp)
    have hb := h b (by simp)
    have : ∀ a, a < 3 → ∀ b, b < 3 → a ≠ b → [a, b] ∈ lns := by decide
    exact this a ha b hb fun e => by subst e; simp at nd
  | [a, b, c], nd, h, _ =>
    have ha := h a (by simp)
    have hb := h b (by simp)
    have hc := h c (by simp)
    have n1 : a ≠ b := fun e => by subst e; simp at nd
    have n2 : a ≠ c := fun e => by subst e; simp at nd
    have n3 : b ≠ c := fun e => by subst e; simp at nd
    have h1 : a = 0 ∨ a = 1 ∨ a = 2 := by omega
    have h2 : b = 0 ∨ b = 1 ∨ b = 2 := by omega
    have h3 : c = 0 ∨ c = 1 ∨ c = 2 := by omega
    rcases h1 with rfl | rfl | rfl <;> rcases h2 with rfl | rfl | rfl <;> rcases h3 with rfl | rfl | rfl <;> first
      | exact absurd rfl n1
      | exact absurd rfl n2
      | exact absurd rfl n3
      | decide
  | _ :: _ :: _ :: _ :: _, _, _, h3 =>
    simp only [List.length_cons] at h3
    omega
def kinds5 : List D := [.str "both", .str "if", .str "not", .str "pick", .str "swap"]
theorem in_kinds {p : Str} (h : inD (.str p) kinds5 = true) : ∃ k, k < 5 ∧ p = nms.getD k "" := by
  have h : (kinds5.any fun d => PyData.eqv d.py (D.str p).py) = true := h
  rw [List.any_eq_true] at h
  obtain ⟨d, hd, e⟩ := h
  have key : ∀ q : Str, PyData.eqv (D.str q).py (D.str p).py = true → q = p := fun q e => by
    have := (eqv_iff (p := .str q) (q := .str p) rfl rfl).mp e
    injection this
  simp only [kinds5, List.mem_cons, List.not_mem_nil, or_false] at hd
  rcases hd with rfl | rfl | rfl | rfl | rfl
  · exact ⟨0, by decide, (key _ e).symm⟩
  · exact ⟨1, by decide, (key _ e).symm⟩
  · exact ⟨2, by decide, (key _ e).symm⟩
  · exact ⟨3, by decide, (key _ e).symm⟩
  · exact ⟨4, by decide, (key _ e).symm⟩
theorem ok_kinds5 : okA kinds5 60 = true := by decide +kernel
theorem iD_btw (ns : List Nat) : (iD ns).all (btw 0 2) = ns.all fun n => decide (n < 3) := by
  unfold iD
  rw [List.all_map]
  congr 1
  funext n
  show (decide ((0 : Int) ≤ (n : Int)) && decide ((n : Int) ≤ 2)) = decide (n < 3)
  rw [decide_eq_true (by omega : (0 : Int) ≤ (n : Int)), Bool.true_and]
  exact decide_eq_decide.mpr ⟨fun h => by omega, fun h => by omega⟩
theorem is_gate_out {d : D} (h : GL d) : ∃ b, f_is_gate [d] = ret (.bl b) ∧ (b = true → d ∈ gts) := by
  obtain ⟨p, ns, hp, hn, hl, rfl⟩ := h
  have hsz := sizeL
  by_cases hk : inD (.str p) kinds5 = true
  · obtain ⟨k, k5, rfl⟩ := in_kinds hk
    by_cases hg : ns.Nodup ∧ ∀ n ∈ ns, n < 3
    · have hm := lns_all hg.1 hg.2
      have ha : (k, ns) ∈ all5 := List.mem_flatMap.mpr ⟨k, List.mem_range.mpr k5, List.mem_map.mpr ⟨ns, hm, rfl⟩⟩
      have e := is_gate_at ha
      have m := code_at (k := k) (ns := ns)
      unfold glD at e m
      exact ⟨_, e, m⟩
    · refine ⟨false, eq_of_W fun t => w_fn ?_, fun h => nomatch h⟩
      rw [show slots0 4 [D.tup (.str (nms.getD k "") :: iD ns)] = [.val (.tup (.str (nms.getD k "") :: iD ns)), .un, .un, .un] from rfl]
      unfold b_is_gate
      have hne : D.tup (.str (nms.getD k "") :: iD ns) ≠ .tup [] := fun e => by injection e with e; cases e
      have oks : okD (.str (nms.getD k "")) 59 = true := by
        have : ∀ k, k < 5 → okD (.str (nms.getD k "")) 59 = true := by decide +kernel
        exact this k k5
      have okt : okD (.tup (.str (nms.getD k "") :: iD ns)) 60 = true := okA_of (n := 59) fun d hd => by
        rcases List.mem_cons.mp hd with rfl | hd
        · exact oks
        · obtain ⟨w, _, rfl⟩ := mem_iD hd; rfl
      have nbt : nobl (.tup (.str (nms.getD k "") :: iD ns)) = true := noblA_of fun d hd => by
        rcases List.mem_cons.mp hd with rfl | hd
        · rfl
        · obtain ⟨w, _, rfl⟩ := mem_iD hd; rfl
      have e0 : ∀ S : Sl, S[0]? = some (.val (.tup (.str (nms.getD k "") :: iD ns))) → (eOr (eUn oNot (eUn (pIsi .tuple) (eVar 0))) (eOr (eBin pEq (eVar 0) (eTup [])) (eOr (eUn oNot (eUn (pIsi .str) (eBin pIdx (eVar 0) (eC (.int 0))))) (eBin pNotIn (eBin pIdx (eVar 0) (eC (.int 0))) (eC c_KINDS))))) S = ret (.bl false) := fun S e => eq_of_W fun t => by
        refine w_or (w_un (w_un (w_var e (w_isi rfl (w_not (bl_i ⟨fun _ => ?_, fun z => nomatch z⟩))))))
        refine w_or (w_bin (w_var e (w_tup (w_evnil (w_eqD okt rfl ?_)))))
        rw [Bool.eq_false_iff.mpr fun z => hne ((eqv_iff nbt rfl).mp z)]
        refine bl_i ⟨fun _ => ?_, fun z => nomatch z⟩
        refine w_or (w_un (w_un (w_bin (w_var e (w_c (w_idxT atI_zero (w_isi rfl (w_not (bl_i ⟨fun _ => ?_, fun z => nomatch z⟩)))))))))
        refine w_bin (w_bin (w_var e (w_c (w_idxT atI_zero (w_c (w_ninK (okD_le (by decide) oks) ok_kinds5 ⟨?_, rfl⟩))))))
        show D.bl (!inD (.str (nms.getD k "")) kinds5) = _
        rw [hk]; rfl
      refine w_seq (w_eq (rt_if (e0 _ rfl)) (nx_nx ?_))
      have hcut : cutD (.str (nms.getD k "") :: iD ns) (some 1) none = iD ns := by
        have := cutD_drop (ds := .str (nms.getD k "") :: iD ns) (k := 1) (by rw [List.length_cons]; omega)
        rw [show ((1 : Nat) : Int) = 1 from rfl] at this
        rw [this]; rfl
      refine w_seq (w_par (w_bin (w_var rfl (w_c (w_idxT atI_zero (w_slice (w_var rfl (w_oS (w_c (in_i (w_oN (w_slT ?_))))))))))))
      rw [hcut]
      refine nx_nx ?_
      dsimp only [List.set]
      refine w_seq (w_if (w_or (w_un (w_un (w_comp (w_itSeq (w_var rfl (sq_t ⟨by rw [iD_len]; omega, ?_⟩))))))))
      refine w_cmpF (fun (n : Nat) => D.int (n : Int)) (fun n => D.bl (btw 0 2 (.int (n : Int)))) (l := ns) (fun n hn => ⟨_, rfl, eq_of_W fun t => w_call (w_evcons (w_var rfl (w_evcons (w_c (w_evcons (w_c (w_evnil (w_eq (is_between_eq rfl) ⟨rfl, rfl⟩))))))))⟩) ?_
      refine w_allL (bools_map (fun (n : Nat) => btw 0 2 (.int (n : Int))) ns) ?_
      rw [all_map]
      have eb : (ns.all fun (n : Nat) => btw 0 2 (.int (n : Int))) = ns.all fun n => decide (n < 3) := by
        rw [← iD_btw]; unfold iD; rw [List.all_map]; rfl
      rw [eb]
      refine w_not ?_
      by_cases h3 : (ns.all fun n => decide (n < 3)) = true
      · rw [h3]
        have nnd : ¬ ns.Nodup := fun nd => hg ⟨nd, fun n hn => of_decide_eq_true (List.all_eq_true.mp h3 n hn)⟩
        refine bl_i ⟨fun _ => ?_, fun z => nomatch z⟩
        refine w_bin (w_un (w_var rfl (w_lenSet (intsD_iD ns) (by rw [List.length_map]; omega) (w_un (w_var rfl (w_lenT (w_neI ?_)))))))
        have nnc : ¬ (ns.map fun (n : Nat) => (n : Int)).Nodup := by
          intro z
          have z2 := List.pairwise_map.mp z
          refine nnd (z2.imp ?_)
          intro a b h e
          rw [e] at h
          exact h rfl
        have := ddp_dup nnc
        rw [List.length_map] at this
        rw [iD_len, decide_eq_true (by omega)]
        exact bl_i ⟨fun _ => w_sret (w_c (nx_ret (nx_ret ⟨rfl, rfl⟩))), fun z => nomatch z⟩
      · rw [Bool.eq_false_iff.mpr h3]
        exact bl_i ⟨(fun z => nomatch z), fun _ => bl_i ⟨fun _ => w_sret (w_c (nx_ret (nx_ret ⟨rfl, rfl⟩))), fun z => nomatch z⟩⟩
  · refine ⟨false, eq_of_W fun t => w_fn ?_, fun h => nomatch h⟩
    rw [show slots0 4 [D.tup (.str p :: iD ns)] = [.val (.tup (.str p :: iD ns)), .un, .un, .un] from rfl]
    unfold b_is_gate
    have hne : D.tup (.str p :: iD ns) ≠ .tup [] := fun e => by injection e with e; cases e
    have okt : okD (.tup (.str p :: iD ns)) 60 = true := okA_of (n := 59) fun d hd => by
      rcases List.mem_cons.mp hd with rfl | hd
      · exact ok_str hp
      · obtain ⟨w, _, rfl⟩ := mem_iD hd; rfl
    have nbt : nobl (.tup (.str p :: iD ns)) = true := noblA_of fun d hd => by
      rcases List.mem_cons.mp hd with rfl | hd
      · rfl
      · obtain ⟨w, _, rfl⟩ := mem_iD hd; rfl
    refine w_seq (w_if (w_or (w_un (w_un (w_var rfl (w_isi rfl (w_not (bl_i ⟨fun _ => ?_, fun z => nomatch z⟩))))))))
    refine w_or (w_bin (w_var rfl (w_tup (w_evnil (w_eqD okt rfl ?_)))))
    rw [Bool.eq_false_iff.mpr fun z => hne ((eqv_iff nbt rfl).mp z)]
    refine bl_i ⟨fun _ => ?_, fun z => nomatch z⟩
    refine w_or (w_un (w_un (w_bin (w_var rfl (w_c (w_idxT atI_zero (w_isi rfl (w_not (bl_i ⟨fun _ => ?_, fun z => nomatch z⟩)))))))))
    refine w_bin (w_bin (w_var rfl (w_c (w_idxT atI_zero (w_c (w_ninK (ok_str hp) ok_kinds5 ?_))))))
    show Bl _ (D.bl (!inD (.str p) kinds5)) _
    rw [Bool.eq_false_iff.mpr hk]
    exact bl_i ⟨fun _ => w_sret (w_c (nx_ret (nx_ret ⟨rfl, rfl⟩))), fun z => nomatch z⟩
end BL
set_option Elab.async false
set_option linter.all false
set_option maxRecDepth 100000
set_option maxHeartbeats 1000000
namespace K26
open PySem BG BL L2
def bhC : Stm := (sIf (eBin pNe (eRes resNm al12 (eCall f_parse_circuit [(eVar 1)])) (eTup [(eC (.str "text"))])) (sRet (eC (.bl false))) sNil)
def bhX : Stm := (sIf (eBin pNe (eRes resNm al12 (eCall f_parse_exchange [(eVar 1)])) (eTup [(eC (.str "text"))])) (sRet (eC (.bl false))) sNil)
theorem bhc_0 (a : SV) : bhC [a, .val (.str "")] = ret (.nx [a, .val (.str "")]) := by with_unfolding_all rfl
theorem bhc_1 (a : SV) : bhC [a, .val (.str "not")] = ret (.nx [a, .val (.str "not")]) := by with_unfolding_all rfl
theorem bhc_2 (a : SV) : bhC [a, .val (.str "not()")] = ret (.nx [a, .val (.str "not()")]) := by with_unfolding_all rfl
theorem bhc_3 (a : SV) : bhC [a, .val (.str "not(3)")] = ret (.nx [a, .val (.str "not(3)")]) := by with_unfolding_all rfl
theorem bhc_4 (a : SV) : bhC [a, .val (.str "not(0")] = ret (.nx [a, .val (.str "not(0")]) := by with_unfolding_all rfl
theorem bhc_5 (a : SV) : bhC [a, .val (.str "not(0))")] = ret (.nx [a, .val (.str "not(0))")]) := by with_unfolding_all rfl
theorem bhc_6 (a : SV) : bhC [a, .val (.str "not (0)")] = ret (.nx [a, .val (.str "not (0)")]) := by with_unfolding_all rfl
theorem bhc_7 (a : SV) : bhC [a, .val (.str "not(0) ")] = ret (.nx [a, .val (.str "not(0) ")]) := by with_unfolding_all rfl
theorem bhc_8 (a : SV) : bhC [a, .val (.str " not(0)")] = ret (.nx [a, .val (.str " not(0)")]) := by with_unfolding_all rfl
theorem bhc_9 (a : SV) : bhC [a, .val (.str "not(0)  not(0)")] = ret (.nx [a, .val (.str "not(0)  not(0)")]) := by with_unfolding_all rfl
theorem bhc_10 (a : SV) : bhC [a, .val (.str "not(00)")] = ret (.nx [a, .val (.str "not(00)")]) := by with_unfolding_all rfl
theorem bhc_11 (a : SV) : bhC [a, .val (.str "if(0,0)")] = ret (.nx [a, .val (.str "if(0,0)")]) := by with_unfolding_all rfl
theorem bhc_12 (a : SV) : bhC [a, .val (.str "if(0)")] = ret (.nx [a, .val (.str "if(0)")]) := by with_unfolding_all rfl
theorem bhc_13 (a : SV) : bhC [a, .val (.str "if(0, 1)")] = ret (.nx [a, .val (.str "if(0, 1)")]) := by with_unfolding_all rfl
theorem bhc_14 (a : SV) : bhC [a, .val (.str "swap(1,0)")] = ret (.nx [a, .val (.str "swap(1,0)")]) := by with_unfolding_all rfl
theorem bhc_15 (a : SV) : bhC [a, .val (.str "both(1,0,2)")] = ret (.nx [a, .val (.str "both(1,0,2)")]) := by with_unfolding_all rfl
theorem bhc_16 (a : SV) : bhC [a, .val (.str "- ")] = ret (.nx [a, .val (.str "- ")]) := by with_unfolding_all rfl
theorem bhc_17 (a : SV) : bhC [a, .val (.str "--")] = ret (.nx [a, .val (.str "--")]) := by with_unfolding_all rfl
theorem bhc_18 (a : SV) : bhC [a, .val (.str "or(0)")] = ret (.nx [a, .val (.str "or(0)")]) := by with_unfolding_all rfl
theorem bhc_19 (a : SV) : bhC [a, .val (.str "not(0),if(0,1)")] = ret (.nx [a, .val (.str "not(0),if(0,1)")]) := by with_unfolding_all rfl
theorem bhc_20 (a : SV) : bhC [a, .val (.str "not(0) not(0) not(0) not(0) not(0) not(0) not(0) not(0) not(0) not(0) not(0) not(0) not(0) not(0) not(0) not(0) not(0) not(0) not(0) not(0) not(0)")] = ret (.nx [a, .val (.str "not(0) not(0) not(0) not(0) not(0) not(0) not(0) not(0) not(0) not(0) not(0) not(0) not(0) not(0) not(0) not(0) not(0) not(0) not(0) not(0) not(0)")]) := by with_unfolding_all rfl
theorem bhc_21 (a : SV) : bhC [a, .val (.str "not(0)\n")] = ret (.nx [a, .val (.str "not(0)\n")]) := by with_unfolding_all rfl
theorem bhc_22 (a : SV) : bhC [a, .val (.str "(0)")] = ret (.nx [a, .val (.str "(0)")]) := by with_unfolding_all rfl
theorem bhc_23 (a : SV) : bhC [a, .val (.str "not((0)")] = ret (.nx [a, .val (.str "not((0)")]) := by with_unfolding_all rfl
theorem bhc_24 (a : SV) : bhC [a, .val (.non)] = ret (.nx [a, .val (.non)]) := by with_unfolding_all rfl
theorem bhc_25 (a : SV) : bhC [a, .val (.tup [])] = ret (.nx [a, .val (.tup [])]) := by with_unfolding_all rfl
theorem bhx_0 (a : SV) : bhX [a, .val (.str "")] = ret (.nx [a, .val (.str "")]) := by with_unfolding_all rfl
theorem bhx_1 (a : SV) : bhX [a, .val (.str "0123456")] = ret (.nx [a, .val (.str "0123456")]) := by with_unfolding_all rfl
theorem bhx_2 (a : SV) : bhX [a, .val (.str "012345677")] = ret (.nx [a, .val (.str "012345677")]) := by with_unfolding_all rfl
theorem bhx_3 (a : SV) : bhX [a, .val (.str "01234568")] = ret (.nx [a, .val (.str "01234568")]) := by with_unfolding_all rfl
theorem bhx_4 (a : SV) : bhX [a, .val (.str "0123456 7")] = ret (.nx [a, .val (.str "0123456 7")]) := by with_unfolding_all rfl
theorem bhx_5 (a : SV) : bhX [a, .val (.str "00000000")] = ret (.nx [a, .val (.str "00000000")]) := by with_unfolding_all rfl
theorem bhx_6 (a : SV) : bhX [a, .val (.non)] = ret (.nx [a, .val (.non)]) := by with_unfolding_all rfl
theorem bhx_7 (a : SV) : bhX [a, .val (.int 1234567)] = ret (.nx [a, .val (.int 1234567)]) := by with_unfolding_all rfl
theorem bhx_8 (a : SV) : bhX [a, .val (.str "0,1,2,3,4,5,6,7")] = ret (.nx [a, .val (.str "0,1,2,3,4,5,6,7")]) := by with_unfolding_all rfl
def odC : List D := [.str "", .str "not", .str "not()", .str "not(3)", .str "not(0", .str "not(0))", .str "not (0)", .str "not(0) ", .str " not(0)", .str "not(0)  not(0)", .str "not(00)", .str "if(0,0)", .str "if(0)", .str "if(0, 1)", .str "swap(1,0)", .str "both(1,0,2)", .str "- ", .str "--", .str "or(0)", .str "not(0),if(0,1)", .str "not(0) not(0) not(0) not(0) not(0) not(0) not(0) not(0) not(0) not(0) not(0) not(0) not(0) not(0) not(0) not(0) not(0) not(0) not(0) not(0) not(0)", .str "not(0)\n", .str "(0)", .str "not((0)", .non, .tup []]
def odX : List D := [.str "", .str "0123456", .str "012345677", .str "01234568", .str "0123456 7", .str "00000000", .non, .int 1234567, .str "0,1,2,3,4,5,6,7"]
theorem bhc_all (a : SV) : ∀ d ∈ odC, bhC [a, .val d] = ret (.nx [a, .val d]) := by unfold odC; exact (List.forall_mem_cons.mpr ⟨bhc_0 a, (List.forall_mem_cons.mpr ⟨bhc_1 a, (List.forall_mem_cons.mpr ⟨bhc_2 a, (List.forall_mem_cons.mpr ⟨bhc_3 a, (List.forall_mem_cons.mpr ⟨bhc_4 a, (List.forall_mem_cons.mpr ⟨bhc_5 a, (List.forall_mem_cons.mpr ⟨bhc_6 a, (List.forall_mem_cons.mpr ⟨bhc_7 a, (List.forall_mem_cons.mpr ⟨bhc_8 a, (List.forall_mem_cons.mpr ⟨bhc_9 a, (List.forall_mem_cons.mpr ⟨bhc_10 a, (List.forall_mem_cons.mpr ⟨bhc_11 a, (List.forall_mem_cons.mpr ⟨bhc_12 a, (List.forall_mem_cons.mpr ⟨bhc_13 a, (List.forall_mem_cons.mpr ⟨bhc_14 a, (List.forall_mem_cons.mpr ⟨bhc_15 a, (List.forall_mem_cons.mpr ⟨bhc_16 a, (List.forall_mem_cons.mpr ⟨bhc_17 a, (List.forall_mem_cons.mpr ⟨bhc_18 a, (List.forall_mem_cons.mpr ⟨bhc_19 a, (List.forall_mem_cons.mpr ⟨bhc_20 a, (List.forall_mem_cons.mpr ⟨bhc_21 a, (List.forall_mem_cons.mpr ⟨bhc_22 a, (List.forall_mem_cons.mpr ⟨bhc_23 a, (List.forall_mem_cons.mpr ⟨bhc_24 a, (List.forall_mem_cons.mpr ⟨bhc_25 a, (fun _ h => nomatch h)⟩)⟩)⟩)⟩)⟩)⟩)⟩)⟩)⟩)⟩)⟩)⟩)⟩)⟩)⟩)⟩)⟩)⟩)⟩)⟩)⟩)⟩)⟩)⟩)⟩)⟩)
theorem bhx_all (a : SV) : ∀ d ∈ odX, bhX [a, .val d] = ret (.nx [a, .val d]) := by unfold odX; exact (List.forall_mem_cons.mpr ⟨bhx_0 a, (List.forall_mem_cons.mpr ⟨bhx_1 a, (List.forall_mem_cons.mpr ⟨bhx_2 a, (List.forall_mem_cons.mpr ⟨bhx_3 a, (List.forall_mem_cons.mpr ⟨bhx_4 a, (List.forall_mem_cons.mpr ⟨bhx_5 a, (List.forall_mem_cons.mpr ⟨bhx_6 a, (List.forall_mem_cons.mpr ⟨bhx_7 a, (List.forall_mem_cons.mpr ⟨bhx_8 a, (fun _ h => nomatch h)⟩)⟩)⟩)⟩)⟩)⟩)⟩)⟩)⟩)
theorem forL_gN1 {body : Stm} {a : SV} : ∀ {l : List D} {x : SV}, (∀ d ∈ l, body [a, .val d] = ret (.nx [a, .val d])) → ∃ y, forL (gN 1) body l [a, x] = ret (.nx [a, y])
  | [], x, _ => ⟨x, rfl⟩
  | d :: l, x, h => by
    obtain ⟨y, e⟩ := forL_gN1 (l := l) (x := .val d) fun z hz => h z (List.mem_cons_of_mem _ hz)
    refine ⟨y, Eq.trans ?_ e⟩
    show bnd (calm (body [a, .val d])) _ = _
    rw [h d (List.mem_cons_self ..)]
    rfl
theorem sq_nx1 {a b : Stm} {S S' : Sl} (h : a S = ret (.nx S')) : sSeq a b S = b S' := by unfold sSeq; rw [h]; rfl
theorem sq_nx0 {a : Stm} {S : Sl} {l : List D} {it : Sl → M (List D)} {tg : Tg} (h : it S = ret l) : sFor it tg a S = forL tg a l S := by unfold sFor; rw [h]; rfl
theorem bh_1 : (sAsg 0 (eLst [(eC (.str "")), (eC (.str "not")), (eC (.str "not()")), (eC (.str "not(3)")), (eC (.str "not(0")), (eC (.str "not(0))")), (eC (.str "not (0)")), (eC (.str "not(0) ")), (eC (.str " not(0)"))])) [.un, .un] = ret (.nx [.val (.lst [.str "", .str "not", .str "not()", .str "not(3)", .str "not(0", .str "not(0))", .str "not (0)", .str "not(0) ", .str " not(0)"]), .un]) := by with_unfolding_all rfl
theorem bh_2 : (sAsg 0 (eBin pAdd (eVar 0) (eLst [(eC (.str "not(0)  not(0)")), (eC (.str "not(00)")), (eC (.str "if(0,0)")), (eC (.str "if(0)")), (eC (.str "if(0, 1)")), (eC (.str "swap(1,0)")), (eC (.str "both(1,0,2)")), (eC (.str "- "))]))) [.val (.lst [.str "", .str "not", .str "not()", .str "not(3)", .str "not(0", .str "not(0))", .str "not (0)", .str "not(0) ", .str " not(0)"]), .un] = ret (.nx [.val (.lst [.str "", .str "not", .str "not()", .str "not(3)", .str "not(0", .str "not(0))", .str "not (0)", .str "not(0) ", .str " not(0)", .str "not(0)  not(0)", .str "not(00)", .str "if(0,0)", .str "if(0)", .str "if(0, 1)", .str "swap(1,0)", .str "both(1,0,2)", .str "- "]), .un]) := by with_unfolding_all rfl
theorem bh_3 : (sAsg 0 (eBin pAdd (eVar 0) (eLst [(eC (.str "--")), (eC (.str "or(0)")), (eC (.str "not(0),if(0,1)")), (eTx pJn (eC (.str " ")) (eBin pMul (eLst [(eC (.str "not(0)"))]) (eC (.int 21)))), (eC (.str "not(0)\n"))]))) [.val (.lst [.str "", .str "not", .str "not()", .str "not(3)", .str "not(0", .str "not(0))", .str "not (0)", .str "not(0) ", .str " not(0)", .str "not(0)  not(0)", .str "not(00)", .str "if(0,0)", .str "if(0)", .str "if(0, 1)", .str "swap(1,0)", .str "both(1,0,2)", .str "- "]), .un] = ret (.nx [.val (.lst [.str "", .str "not", .str "not()", .str "not(3)", .str "not(0", .str "not(0))", .str "not (0)", .str "not(0) ", .str " not(0)", .str "not(0)  not(0)", .str "not(00)", .str "if(0,0)", .str "if(0)", .str "if(0, 1)", .str "swap(1,0)", .str "both(1,0,2)", .str "- ", .str "--", .str "or(0)", .str "not(0),if(0,1)", .str "not(0) not(0) not(0) not(0) not(0) not(0) not(0) not(0) not(0) not(0) not(0) not(0) not(0) not(0) not(0) not(0) not(0) not(0) not(0) not(0) not(0)", .str "not(0)\n"]), .un]) := by with_unfolding_all rfl
theorem bh_4 : (itSeq (eBin pAdd (eVar 0) (eLst [(eC (.str "(0)")), (eC (.str "not((0)")), (eC .non), (eTup [])]))) [.val (.lst [.str "", .str "not", .str "not()", .str "not(3)", .str "not(0", .str "not(0))", .str "not (0)", .str "not(0) ", .str " not(0)", .str "not(0)  not(0)", .str "not(00)", .str "if(0,0)", .str "if(0)", .str "if(0, 1)", .str "swap(1,0)", .str "both(1,0,2)", .str "- ", .str "--", .str "or(0)", .str "not(0),if(0,1)", .str "not(0) not(0) not(0) not(0) not(0) not(0) not(0) not(0) not(0) not(0) not(0) not(0) not(0) not(0) not(0) not(0) not(0) not(0) not(0) not(0) not(0)", .str "not(0)\n"]), .un] = ret odC := by with_unfolding_all rfl
theorem bh_5 (y : SV) : (itSeq (eTup [(eC (.str "")), (eC (.str "0123456")), (eC (.str "012345677")), (eC (.str "01234568")), (eC (.str "0123456 7")), (eC (.str "00000000")), (eC .non), (eC (.int 1234567)), (eC (.str "0,1,2,3,4,5,6,7"))])) [.val (.lst [.str "", .str "not", .str "not()", .str "not(3)", .str "not(0", .str "not(0))", .str "not (0)", .str "not(0) ", .str " not(0)", .str "not(0)  not(0)", .str "not(00)", .str "if(0,0)", .str "if(0)", .str "if(0, 1)", .str "swap(1,0)", .str "both(1,0,2)", .str "- ", .str "--", .str "or(0)", .str "not(0),if(0,1)", .str "not(0) not(0) not(0) not(0) not(0) not(0) not(0) not(0) not(0) not(0) not(0) not(0) not(0) not(0) not(0) not(0) not(0) not(0) not(0) not(0) not(0)", .str "not(0)\n"]), y] = ret odX := by with_unfolding_all rfl
theorem bh_6 (y : SV) : (sIf (eOr (eBin pNe (eCall f_parse_circuit [(eC (.str "if(0,1) not(2)"))]) (eTup [(eTup [(eC (.str "if")), (eC (.int 0)), (eC (.int 1))]), (eTup [(eC (.str "not")), (eC (.int 2))])])) (eBin pNe (eCall f_parse_circuit [(eC (.str "-"))]) (eTup []))) (sRet (eC (.bl false))) sNil) [.val (.lst [.str "", .str "not", .str "not()", .str "not(3)", .str "not(0", .str "not(0))", .str "not (0)", .str "not(0) ", .str " not(0)", .str "not(0)  not(0)", .str "not(00)", .str "if(0,0)", .str "if(0)", .str "if(0, 1)", .str "swap(1,0)", .str "both(1,0,2)", .str "- ", .str "--", .str "or(0)", .str "not(0),if(0,1)", .str "not(0) not(0) not(0) not(0) not(0) not(0) not(0) not(0) not(0) not(0) not(0) not(0) not(0) not(0) not(0) not(0) not(0) not(0) not(0) not(0) not(0)", .str "not(0)\n"]), y] = ret (.nx [.val (.lst [.str "", .str "not", .str "not()", .str "not(3)", .str "not(0", .str "not(0))", .str "not (0)", .str "not(0) ", .str " not(0)", .str "not(0)  not(0)", .str "not(00)", .str "if(0,0)", .str "if(0)", .str "if(0, 1)", .str "swap(1,0)", .str "both(1,0,2)", .str "- ", .str "--", .str "or(0)", .str "not(0),if(0,1)", .str "not(0) not(0) not(0) not(0) not(0) not(0) not(0) not(0) not(0) not(0) not(0) not(0) not(0) not(0) not(0) not(0) not(0) not(0) not(0) not(0) not(0)", .str "not(0)\n"]), y]) := by with_unfolding_all rfl
theorem bh_7 (y : SV) : (sRet (eAnd (eBin pEq (eCall f_parse_exchange [(eC (.str "76543210"))]) (eTup [(eC (.int 7)), (eC (.int 6)), (eC (.int 5)), (eC (.int 4)), (eC (.int 3)), (eC (.int 2)), (eC (.int 1)), (eC (.int 0))])) (eBin pEq (eCall f_format_circuit [(eTup [])]) (eC (.str "-"))))) [.val (.lst [.str "", .str "not", .str "not()", .str "not(3)", .str "not(0", .str "not(0))", .str "not (0)", .str "not(0) ", .str " not(0)", .str "not(0)  not(0)", .str "not(00)", .str "if(0,0)", .str "if(0)", .str "if(0, 1)", .str "swap(1,0)", .str "both(1,0,2)", .str "- ", .str "--", .str "or(0)", .str "not(0),if(0,1)", .str "not(0) not(0) not(0) not(0) not(0) not(0) not(0) not(0) not(0) not(0) not(0) not(0) not(0) not(0) not(0) not(0) not(0) not(0) not(0) not(0) not(0)", .str "not(0)\n"]), y] = ret (.ret (.bl true)) := by with_unfolding_all rfl
theorem by_hand_eq : f_law_by_hand [] = ret (.bl true) := by
  obtain ⟨y, e4⟩ := forL_gN1 (x := .un) (bhc_all (.val (.lst [.str "", .str "not", .str "not()", .str "not(3)", .str "not(0", .str "not(0))", .str "not (0)", .str "not(0) ", .str " not(0)", .str "not(0)  not(0)", .str "not(00)", .str "if(0,0)", .str "if(0)", .str "if(0, 1)", .str "swap(1,0)", .str "both(1,0,2)", .str "- ", .str "--", .str "or(0)", .str "not(0),if(0,1)", .str "not(0) not(0) not(0) not(0) not(0) not(0) not(0) not(0) not(0) not(0) not(0) not(0) not(0) not(0) not(0) not(0) not(0) not(0) not(0) not(0) not(0)", .str "not(0)\n"])))
  obtain ⟨z, e5⟩ := forL_gN1 (x := y) (bhx_all (.val (.lst [.str "", .str "not", .str "not()", .str "not(3)", .str "not(0", .str "not(0))", .str "not (0)", .str "not(0) ", .str " not(0)", .str "not(0)  not(0)", .str "not(00)", .str "if(0,0)", .str "if(0)", .str "if(0, 1)", .str "swap(1,0)", .str "both(1,0,2)", .str "- ", .str "--", .str "or(0)", .str "not(0),if(0,1)", .str "not(0) not(0) not(0) not(0) not(0) not(0) not(0) not(0) not(0) not(0) not(0) not(0) not(0) not(0) not(0) not(0) not(0) not(0) not(0) not(0) not(0)", .str "not(0)\n"])))
  unfold bhC at e4
  unfold bhX at e5
  show bnd (b_law_by_hand [.un, .un]) _ = _
  unfold b_law_by_hand
  rw [sq_nx1 bh_1, sq_nx1 bh_2, sq_nx1 bh_3, sq_nx1 ((sq_nx0 bh_4).trans e4), sq_nx1 ((sq_nx0 (bh_5 y)).trans e5), sq_nx1 (bh_6 z), bh_7 z]
  rfl
end K26
set_option Elab.async false
set_option linter.all false
set_option maxRecDepth 100000
set_option maxHeartbeats 1000000
namespace K26
open PySem BG BL L2
theorem cmpX_out {α : Type} {tg : Tg} {elt : Ex} {S : Sl} {P : D → Prop} {c : Nat} (f : α → D) : ∀ {l : List α}, (∀ x ∈ l, ∃ S', tg (f x) S = some S' ∧ (elt S' = raise c ∨ ∃ d, P d ∧ elt S' = ret d)) →
    cmpX tg (eC (.bl true)) elt S (l.map f) = raise c ∨ ∃ rs : List D, (∀ r ∈ rs, P r) ∧ rs.length = l.length ∧ cmpX tg (eC (.bl true)) elt S (l.map f) = BG.ret rs
  | [], _ => .inr ⟨[], fun r h => (nomatch h), rfl, rfl⟩
  | x :: l, h => by
    obtain ⟨S', e1, e2⟩ := h x (List.mem_cons_self ..)
    have e : cmpX tg (eC (.bl true)) elt S ((x :: l).map f) = bnd (elt S') fun r => bnd (cmpX tg (eC (.bl true)) elt S (l.map f)) fun rs => ret (r :: rs) := by
      rw [List.map_cons, cmpX, e1]; rfl
    rw [e]
    rcases e2 with e2 | ⟨d, hd, e2⟩
    · rw [e2]; exact .inl rfl
    · rw [e2, ret_bnd]
      rcases cmpX_out f (l := l) fun y hy => h y (List.mem_cons_of_mem _ hy) with ih | ⟨rs, i1, i2, ih⟩
      · rw [ih]; exact .inl rfl
      · rw [ih]
        refine .inr ⟨d :: rs, fun r hr => ?_, by rw [List.length_cons, List.length_cons, i2], rfl⟩
        rcases List.mem_cons.mp hr with rfl | hr
        · exact hd
        · exact i1 r hr
theorem rt_ife1 {c a b : Ex} {S : Sl} (h : c S = ret (.bl true)) : eIf c a b S = a S := by unfold eIf; rw [h]; rfl
theorem rt_ife0 {c a b : Ex} {S : Sl} (h : c S = ret (.bl false)) : eIf c a b S = b S := by unfold eIf; rw [h]; rfl
theorem rz_un {op : D → M D} {a : Ex} {S : Sl} {c : Nat} (h : a S = raise c) : eUn op a S = raise c := by unfold eUn; rw [h]; rfl
theorem compX_eq {vs : List Nat} {it : Sl → M (List D)} {tg : Tg} {cond elt : Ex} {S : Sl} {ds : List D} (h : it S = ret ds) (hl : ds.length ≤ sizeLine) : eCompX vs it tg cond elt S = bnd (cmpX tg cond elt (wipeS S vs) ds) fun rs => ret (.lst rs) := by
  unfold eCompX
  rw [h, ret_bnd, if_pos hl]
theorem isg_of (rs : List D) (h : ∀ r ∈ rs, GL r) : ∃ isg : D → Bool, ∀ d ∈ rs, f_is_gate [d] = ret (.bl (isg d)) ∧ (isg d = true → d ∈ gts) := by
  classical
  refine ⟨fun d => if q : GL d then Classical.choose (is_gate_out q) else false, fun d hd => ?_⟩
  have q := h d hd
  simp only [dif_pos q]
  exact Classical.choose_spec (is_gate_out q)
theorem parse_out {z : Str} (hz : Asc z) (hl : z.length ≤ 400) : f_parse_circuit [.str z] = raise 8 ∨ ∃ c, Gs c ∧ c.length ≤ 20 ∧ z = ctx c ∧ f_parse_circuit [.str z] = ret (.tup (cD c)) := by
  have hsz := sizeL
  have n1 : TL.tl (" " : Str) ≠ [] := by rw [tl_sp]; simp
  have k1 : (" " : Str).cps.all (· < 256) = true := by decide +kernel
  have ok := ok_str hz
  have a0 := rt_chk (c := 8) (isS (z := z) (S := [.val (.str z), .un, .un]) (i := 0) rfl)
  have a1 : (eIf (eBin pNe (eVar 0) (eC (.str "-"))) (eUn bTuple (eCompX [2] (itSeq (eTx pSpl (eVar 0) (eC (.str " ")))) (gN 2) (eC (.bl true)) (eCall f_read_gate [(eVar 2)]))) (eTup [])) [.val (.str z), .un, .un] = raise 8 ∨
      ∃ rs : List D, (∀ r ∈ rs, GL r) ∧ rs.length ≤ 401 ∧ (eIf (eBin pNe (eVar 0) (eC (.str "-"))) (eUn bTuple (eCompX [2] (itSeq (eTx pSpl (eVar 0) (eC (.str " ")))) (gN 2) (eC (.bl true)) (eCall f_read_gate [(eVar 2)]))) (eTup [])) [.val (.str z), .un, .un] = ret (.tup rs) := by
    by_cases hd : z = dash
    · have c0 : (eBin pNe (eVar 0) (eC (.str "-"))) [.val (.str z), .un, .un] = ret (.bl false) := eq_of_W fun t => w_bin (w_var rfl (w_c (w_ne_no (by rw [hd]; rfl) ok rfl ⟨rfl, rfl⟩)))
      refine .inr ⟨[], fun r h => (nomatch h), Nat.zero_le _, (rt_ife0 c0).trans rfl⟩
    · have hne : D.str z ≠ .str dash := fun e => by
        injection e with e
        exact hd e
      have c0 : (eBin pNe (eVar 0) (eC (.str "-"))) [.val (.str z), .un, .un] = ret (.bl true) := eq_of_W fun t => w_bin (w_var rfl (w_c (w_ne_yes hne ok rfl (ok_str asc_dash) rfl ⟨rfl, rfl⟩)))
      rw [rt_ife1 c0]
      have e1 : (eTx pSpl (eVar 0) (eC (.str " "))) [.val (.str z), .un, .un] = ret (.lst ((Txt.split z " ").map D.str)) := eq_of_W fun t => w_tx (w_var rfl (sx_i (w_c (w_spl ⟨by rw [len_sp]; decide, by omega⟩ ⟨rfl, rfl⟩))))
      have hlen := split_len (x := z) n1 k1
      have hpt := fun y (hy : y ∈ Txt.split z " ") => split_part n1 k1 hy
      generalize Txt.split z " " = ws at *
      have e2 : itSeq (eTx pSpl (eVar 0) (eC (.str " "))) [.val (.str z), .un, .un] = ret (ws.map D.str) := by
        unfold itSeq; rw [e1]; rfl
      have e3 := compX_eq (vs := [2]) (tg := gN 2) (cond := eC (.bl true)) (elt := eCall f_read_gate [(eVar 2)]) e2 (by rw [List.length_map]; omega)
      rcases cmpX_out (tg := gN 2) (elt := eCall f_read_gate [(eVar 2)]) (S := wipeS [.val (.str z), .un, .un] [2]) (P := GL) (c := 8) D.str (l := ws) (fun w hw => ⟨_, rfl, by
        have hp := hpt w hw
        rcases read_gate_out (hp.2 hz) (by omega) with r | ⟨d, g, r⟩
        · exact .inl (rz_call1 (x := .str w) rfl r)
        · exact .inr ⟨d, g, rt_call1 (x := .str w) rfl r⟩⟩) with r | ⟨rs, g1, g2, r⟩
      · rw [r] at e3
        exact .inl (rz_un (e3.trans rfl))
      · rw [r, ret_bnd] at e3
        refine .inr ⟨rs, g1, by omega, ?_⟩
        unfold eUn
        rw [e3]; rfl
  rcases a1 with a1 | ⟨rs, hg, hrl, a1⟩
  · exact .inl (rz_fn (rz_seq2 a0 (rz_seq1 (rz_asg a1))))
  · have b1 := rt_asg (i := 1) a1
    dsimp only [List.set] at b1
    obtain ⟨isg, hi⟩ := isg_of rs hg
    have hc := is_circuit_eq (ds := rs) isg (by omega) fun _ d hd => (hi d hd).1
    cases hb : (decide ((rs.length : Int) ≤ 20) && rs.all isg) with
    | false =>
      rw [hb] at hc
      refine .inl (rz_fn (rz_seq2 a0 (rz_seq2 b1 (rz_seq1 (rz_if (eq_of_W fun t => ?_))))))
      exact w_or (w_un (w_call (w_evcons (w_var rfl (w_evnil (w_eq hc (w_not (bl_i ⟨(fun z => nomatch z), fun _ => ⟨rfl, rfl⟩⟩))))))))
    | true =>
      rw [hb] at hc
      rw [Bool.and_eq_true] at hb
      have h20 := of_decide_eq_true hb.1
      obtain ⟨c, hgs, rfl⟩ := cD_of (cs := rs) fun r hr => (hi r hr).2 (List.all_eq_true.mp hb.2 r hr)
      rw [cD_len] at h20
      have h20 : c.length ≤ 20 := by omega
      have ct := circuit_text_eq hgs h20
      by_cases he : ctx c = z
      · refine .inr ⟨c, hgs, h20, he.symm, rt_fn ?_⟩
        show b_parse_circuit [.val (.str z), .un, .un] = _
        unfold b_parse_circuit
        rw [rt_seq a0, rt_seq b1]
        have d1 := rt_if (a := sRaise 8) (f := (eOr (eUn oNot (eCall f_is_circuit [(eVar 1)])) (eBin pNe (eCall f_circuit_text [(eVar 1)]) (eVar 0)))) (S := [.val (.str z), .val (.tup (cD c)), .un]) (eq_of_W fun t => by
          refine w_or (w_un (w_call (w_evcons (w_var rfl (w_evnil (w_eq hc (w_not (bl_i ⟨fun _ => ?_, fun z => nomatch z⟩))))))))
          exact w_bin (w_call (w_evcons (w_var rfl (w_evnil (w_eq ct (w_var rfl (w_ne_no (by rw [he]) (ok_str (asc_ctx hgs)) rfl ⟨rfl, rfl⟩))))))))
        rw [rt_seq d1]
        rfl
      · refine .inl (rz_fn (rz_seq2 a0 (rz_seq2 b1 (rz_seq1 (rz_if (eq_of_W fun t => ?_))))))
        refine w_or (w_un (w_call (w_evcons (w_var rfl (w_evnil (w_eq hc (w_not (bl_i ⟨fun _ => ?_, fun z => nomatch z⟩))))))))
        exact w_bin (w_call (w_evcons (w_var rfl (w_evnil (w_eq ct (w_var rfl (w_ne_yes (fun e => he (by injection e)) (ok_str (asc_ctx hgs)) rfl ok rfl ⟨rfl, rfl⟩)))))))
theorem is_exchange_out {ns : List Nat} (h : ∀ n ∈ ns, n < 8) (hx : ¬ IsX ns) : f_is_exchange [.tup (iD ns)] = ret (.bl false) := by
  by_cases h8 : ns.length = 8
  · have nnd : ¬ ns.Nodup := fun nd => hx (by
      have := perm_range nd (n := 8) h h8
      exact this)
    have e := is_exchange_eq (ds := iD ns) (by rw [iD_len]; exact h8) fun d hd => by
      obtain ⟨w, _, rfl⟩ := mem_iD hd; rfl
    rw [e]
    congr 2
    rw [Bool.and_eq_false_iff]
    refine .inr ?_
    rw [intsD_iD]
    have nnc : ¬ (ns.map fun (n : Nat) => (n : Int)).Nodup := by
      intro z
      have z2 := List.pairwise_map.mp z
      refine nnd (z2.imp ?_)
      intro a b h e
      rw [e] at h
      exact h rfl
    have := ddp_dup nnc
    rw [List.length_map] at this
    exact decide_eq_false (by omega)
  · exact is_exchange_len (by rw [iD_len]; exact h8)
theorem xtx_of {z : Str} {ns : List Nat} (h : signsL z = ns.map dig) : z = xtx ns := by
  refine TL.ext_tl ?_
  rw [tl_xtx]
  have e := congrArg (List.map fun s : Str => (TL.tl s).getD 0 0) h
  unfold signsL at e
  rw [List.map_map, List.map_map] at e
  rw [show TL.tl z = (z.cps.toList).map ((fun s : Str => (TL.tl s).getD 0 0) ∘ fun c => (⟨#[c]⟩ : Str)) from by
    rw [show ((fun s : Str => (TL.tl s).getD 0 0) ∘ fun c => (⟨#[c]⟩ : Str)) = id from by funext c; rfl, List.map_id]]
  rw [e]
  exact List.map_congr_left fun w _ => rfl
theorem parseX_out {z : Str} (hz : Asc z) (hl : z.length ≤ 400) : f_parse_exchange [.str z] = raise 8 ∨ ∃ ws, IsX ws ∧ z = xtx ws ∧ f_parse_exchange [.str z] = ret (.tup (iD ws)) := by
  have hsz := sizeL
  have a0 := rt_chk (c := 8) (isS (z := z) (S := [.val (.str z), .un]) (i := 0) rfl)
  have a1 : (eUn bListS (eVar 0)) [.val (.str z), .un] = ret (.lst ((signsL z).map D.str)) := eq_of_W fun t => w_un (w_var rfl (w_listS (by omega) ⟨rfl, rfl⟩))
  have ln : (signsL z).length = z.length := by
    unfold signsL
    rw [List.length_map]; rfl
  have hz1 : ∀ y ∈ signsL z, y.length ≤ sizeLine := fun y hy => by
    obtain ⟨c, _, rfl⟩ := List.mem_map.mp hy
    show 1 ≤ sizeLine
    omega
  cases hd : (signsL z).all isDig with
  | false => exact .inl (rz_fn (rz_seq2 a0 (rz_seq1 (rz_asg (rz_call1 a1 (read_digits_no (by omega) hz1 hd))))))
  | true =>
    obtain ⟨ns, e1, e2, e3⟩ := digs_of hd
    have b1 := rt_asg (i := 1) (rt_call1 a1 (read_digits_yes (by omega) hz1 hd))
    dsimp only [List.set] at b1
    rw [e1] at b1
    by_cases hx : IsX ns
    · refine .inr ⟨ns, hx, xtx_of e2, rt_fn ?_⟩
      show b_parse_exchange [.val (.str z), .un] = _
      unfold b_parse_exchange
      rw [rt_seq a0, rt_seq b1]
      have d1 := rt_chk (c := 8) (f := eCall f_is_exchange [(eVar 1)]) (S := [.val (.str z), .val (.tup (iD ns))]) (rt_call1 (x := .tup (iD ns)) rfl (is_exchange_yes hx))
      rw [rt_seq d1]
      rfl
    · exact .inl (rz_fn (rz_seq2 a0 (rz_seq2 b1 (rz_seq1 (rz_chk (rt_call1 (x := .tup (iD ns)) rfl (is_exchange_out e3 hx)))))))
theorem digits_eq {ws : List Nat} (h : IsX ws) : f_law_digits [.tup (iD ws)] = ret (.str (xtx ws)) := exchange_text_eq h
theorem item_tab (a b d : SV) : (List.range 18).map (fun i => (eBin pAdd (eBin pAdd (eBin pAdd (eBin pIdx (eVar 2) (eC (.int 0))) (eC (.str "("))) (eTx pJn (eC (.str ",")) (eComp [3] (itSeq (eSlice (eVar 2) (some (eC (.int 1))) none)) (gN 3) (eC (.bl true)) (eUn bStr (eVar 3))))) (eC (.str ")"))) [a, b, .val (gk i), d]) = (List.range 18).map (fun i => ret (.str (gtx i))) := by with_unfolding_all rfl
theorem ok_wds {c : List Nat} (h : Gs c) : okD (.lst ((wds c).map D.str)) 60 = true := okA_of (n := 59) fun d hd => by
  obtain ⟨z, hz, rfl⟩ := List.mem_map.mp hd
  exact ok_str (asc_wds h z hz)
theorem nobl_wds (c : List Nat) : nobl (.lst ((wds c).map D.str)) = true := noblA_of fun d hd => by
  obtain ⟨z, hz, rfl⟩ := List.mem_map.mp hd
  rfl
theorem wds_take {c : List Nat} {k i : Nat} (h : c[k]? = some i) : (wds (c.take k)).map D.str ++ [.str (gtx i)] = (wds (c.take (k + 1))).map D.str := by
  rw [List.take_succ, h]
  unfold wds
  rw [List.map_append, List.map_append]; rfl
theorem written_eq {c : List Nat} (hc : Gs c) (hl : c.length ≤ 20) : f_law_written [.tup (cD c)] = ret (.str (ctx c)) := by
  have hsz := sizeL
  refine eq_of_W fun t => w_fn ?_
  rw [show slots0 4 [D.tup (cD c)] = [.val (.tup (cD c)), .un, .un, .un] from rfl]
  unfold b_law_written
  refine w_seq (w_own (w_lst (w_evnil (ls_l (nx_nx ?_)))))
  dsimp only [List.set]
  with_reducible refine w_seq ?_
  with_reducible refine w_for ?_
  refine w_itSeq (w_var rfl (sq_t ?_))
  refine w_forI (fun k S t' => ∃ x2, S = [.val (.tup (cD c)), .own ((wds (c.take k)).map D.str), x2, .un] ∧ t' = t) (k := 0) ⟨_, rfl, rfl⟩ (fun k d hd S t' ⟨x2, hS, ht⟩ => ?_) fun S t' ⟨x2, hS, ht⟩ => ?_
  · subst hS ht
    rw [Nat.zero_add]
    obtain ⟨i, hi, rfl, hlt⟩ := cD_get hd
    have hi18 := hc i (List.mem_of_getElem? hi)
    refine ⟨_, rfl, ?_⟩
    dsimp only [List.set]
    have e := map_eq_all (item_tab (.val (.tup (cD c))) (.own ((wds (c.take k)).map D.str)) .un) i (List.mem_range.mpr hi18)
    refine w_app rfl (w_eq e ⟨by rw [List.length_map, wds_len, List.length_take]; omega, nx_nx ?_⟩)
    dsimp only [List.set]
    exact ⟨_, by rw [wds_take hi], rfl⟩
  · subst hS ht
    rw [cD_len, Nat.zero_add, List.take_length]
    refine nx_nx (w_sret ?_)
    by_cases h0 : c = []
    · refine w_ife (w_bin (w_peekO rfl (w_lst (w_evnil (w_ne_no (by rw [h0]; rfl) (ok_wds hc) (nobl_wds c) (bl_i ⟨(fun z => nomatch z), fun _ => w_c (nx_ret ⟨?_, rfl⟩)⟩))))))
      unfold ctx
      rw [if_pos h0]; rfl
    · have hne : D.lst ((wds c).map D.str) ≠ .lst [] := fun e => by
        injection e with e
        exact h0 (List.map_eq_nil_iff.mp (List.map_eq_nil_iff.mp e))
      have h2 := wds_sum hc
      refine w_ife (w_bin (w_peekO rfl (w_lst (w_evnil (w_ne_yes hne (ok_wds hc) (nobl_wds c) rfl rfl (bl_i ⟨fun _ => w_tx (w_c (sx_i (w_peekO rfl (w_jn ?_ (nx_ret ⟨?_, rfl⟩))))), fun z => nomatch z⟩))))))
      · rw [wds_len, len_sp]; omega
      · unfold ctx
        rw [if_neg h0]
section
variable {t : Tn} {Q : D → Tn → Prop}
theorem w_addS {a b : Str} (hl : a.length + b.length ≤ sizeLine) (h : Q (.str (a ++ b)) t) : W (pAdd (.str a) (.str b) t) Q := by
  show W ((if a.length + b.length ≤ sizeLine then ret (D.str (a ++ b)) else stuck) t) Q
  rw [if_pos hl]; exact h
theorem w_ixS {z : Str} {i : Int} {c : Nat} (hl : z.length ≤ sizeLine) (e : L2.atI (TL.tl z) i = some c) (h : Q (.str ⟨#[c]⟩) t) : W (pIxS (.str z) (.int i) t) Q := by
  show W ((if z.length ≤ sizeLine then match L2.atI (TL.tl z) i with | some c => ret (D.str ⟨#[c]⟩) | none => stuck else stuck) t) Q
  rw [if_pos hl, e]; exact h
end
theorem len_app (a b : Str) : (a ++ b).length = a.length + b.length := by rw [TL.len_tl, TL.tl_append, List.length_append, ← TL.len_tl, ← TL.len_tl]
def marks : Str := "0123(), -nif"
theorem tl_marks : TL.tl marks = [48, 49, 50, 51, 40, 41, 44, 32, 45, 110, 105, 102] := by with_unfolding_all rfl
theorem w_changed {ns : List Int} (hl : ns.length ≤ 63) {st : Sto} {z : Str} (hz : Asc z) (hn : z.length ≤ 100) {t : Tn} (ht : TOk st t) {Q : D → Tn → Prop}
    (q : ∀ z' t', Asc z' → z'.length ≤ 400 → TOk st t' → Q (.str z') t') : W (f_law_changed [.scr ns, .town, .str z] t) Q := by
  have hsz := sizeL
  unfold f_law_changed
  with_reducible refine w_fn ?_
  rw [show slots0 6 [D.scr ns, D.town, D.str z] = [.val (.scr ns), .val .town, .val (.str z), .un, .un, .un] from rfl]
  unfold b_law_changed
  refine w_seq (w_par (w_call (w_evcons (w_var rfl (w_evcons (w_var rfl (w_evcons (w_bin (w_un (w_var rfl (w_lenX (by omega) (w_c (w_addI (w_evnil ?_))))))))))))))
  refine w_draw hl ht (by omega) (by omega) fun a t1 a0 a1 ht1 => ?_
  refine w_bin (w_c (w_call (w_evcons (w_var rfl (w_evcons (w_var rfl (w_evcons (w_c (w_evnil ?_)))))))))
  refine w_draw hl ht1 (by decide) (by decide) fun m t2 m0 m1 ht2 => ?_
  obtain ⟨c, hc, ec, _⟩ := atI_of (xs := TL.tl marks) m0 (by rw [tl_marks]; exact m1)
  have hc : c < 128 := by
    rw [tl_marks] at hc
    simp only [List.mem_cons, List.not_mem_nil, or_false] at hc
    omega
  refine w_ixS (z := marks) (by rw [TL.len_tl, tl_marks, hsz]; decide) ec (nx_nx ?_)
  dsimp only [List.set]
  have hm : Asc ⟨#[c]⟩ := fun n hn => by
    have : n ∈ [c] := hn
    rw [List.mem_singleton.mp this]; exact hc
  have c1 := cutS_length z none (some a)
  have c2 := cutS_length z (some a) none
  have c3 := cutS_length z (some (a + 1)) none
  have k1 : Asc (cutS z none (some a)) := asc_cut hz
  have k2 : Asc (cutS z (some a) none) := asc_cut hz
  have k3 : Asc (cutS z (some (a + 1)) none) := asc_cut hz
  have lm : (⟨#[c]⟩ : Str).length = 1 := rfl
  refine w_seq (w_asg (w_lst (w_evcons (w_bin (w_bin (w_cutE (w_var rfl (w_oN (w_oS (w_var rfl (in_i (w_cutS (by omega) (w_var rfl (w_addS (by omega) ?_))))))))))))))
  refine w_cutE (w_var rfl (w_oS (w_var rfl (in_i (w_oN (w_cutS (by omega) (w_addS (by rw [len_app]; omega) ?_)))))))
  refine w_evcons (w_bin (w_cutE (w_var rfl (w_oN (w_oS (w_var rfl (in_i (w_cutS (by omega) ?_))))))))
  refine w_cutE (w_var rfl (w_oS (w_bin (w_var rfl (w_c (w_addI (in_i (w_oN (w_cutS (by omega) (w_addS (by omega) (w_evnil (nx_nx ?_))))))))))))
  dsimp only [List.set]
  refine w_sret (w_bin (w_bin (w_var rfl (w_lst (w_evcons (w_bin (w_bin (w_cutE (w_var rfl (w_oN (w_oS (w_var rfl (in_i (w_cutS (by omega) (w_var rfl (w_addS (by omega) ?_))))))))))))))))
  refine w_cutE (w_var rfl (w_oS (w_bin (w_var rfl (w_c (w_addI (in_i (w_oN (w_cutS (by omega) (w_addS (by rw [len_app]; omega) (w_evnil ?_)))))))))))
  refine w_addL (by show 2 + 1 ≤ sizeLine; omega) ?_
  refine w_call (w_evcons (w_var rfl (w_evcons (w_var rfl (w_evcons (w_c (w_evnil ?_)))))))
  refine w_draw hl ht2 (by decide) (by decide) fun r t3 r0 r1 ht3 => ?_
  rcases (by omega : r = 0 ∨ r = 1 ∨ r = 2) with rfl | rfl | rfl
  · exact w_idxL rfl (nx_ret (q _ _ ((k1.app hm).app k2) (by rw [len_app, len_app]; omega) ht3))
  · exact w_idxL rfl (nx_ret (q _ _ (k1.app k3) (by rw [len_app]; omega) ht3))
  · exact w_idxL rfl (nx_ret (q _ _ ((k1.app hm).app k3) (by rw [len_app, len_app]; omega) ht3))
theorem ok_txt : okD (.tup [.str "text"]) 60 = true := by decide +kernel
theorem ok_rets : okD (.str "returns") 59 = true := by decide +kernel
section
variable {F : Fn} {S : Sl}
theorem chk_no (h : S[10]? = some (.val (.tup [.str "text"]))) : (eAnd (eBin pNe (eVar 10) (eTup [(eC (.str "text"))])) (eOr (eBin pNe (eBin pIdx (eVar 10) (eC (.int 0))) (eC (.str "returns"))) (eBin pNe (eCall F [(eBin pIdx (eVar 10) (eC (.int 1)))]) (eVar 9)))) S = ret (.bl false) :=
  eq_of_W fun t => w_and (w_bin (w_var h (w_tup (w_evcons (w_c (w_evnil (w_ne_no rfl ok_txt rfl (bl_i ⟨(fun z => nomatch z), fun _ => ⟨rfl, rfl⟩⟩))))))))
theorem chk_yes {d : D} {z : Str} (hd : okD d 59 = true) (nd : nobl d = true) (hz : Asc z) (h : S[10]? = some (.val (.tup [.str "returns", d]))) (h9 : S[9]? = some (.val (.str z))) (hF : F [d] = ret (.str z)) :
    (eAnd (eBin pNe (eVar 10) (eTup [(eC (.str "text"))])) (eOr (eBin pNe (eBin pIdx (eVar 10) (eC (.int 0))) (eC (.str "returns"))) (eBin pNe (eCall F [(eBin pIdx (eVar 10) (eC (.int 1)))]) (eVar 9)))) S = ret (.bl false) := by
  have okt : okD (.tup [.str "returns", d]) 60 = true := okA_of (n := 59) fun x hx => by
    simp only [List.mem_cons, List.not_mem_nil, or_false] at hx
    rcases hx with rfl | rfl
    · exact ok_rets
    · exact hd
  have nbt : nobl (.tup [.str "returns", d]) = true := noblA_of fun x hx => by
    simp only [List.mem_cons, List.not_mem_nil, or_false] at hx
    rcases hx with rfl | rfl
    · rfl
    · exact nd
  have hne : D.tup [.str "returns", d] ≠ .tup [.str "text"] := fun e => by
    injection e with e
    injection e with _ e
    cases e
  refine eq_of_W fun t => ?_
  refine w_and (w_bin (w_var h (w_tup (w_evcons (w_c (w_evnil (w_ne_yes hne okt nbt ok_txt rfl (bl_i ⟨fun _ => ?_, fun z => nomatch z⟩))))))))
  refine w_or (w_bin (w_bin (w_var h (w_c (w_idxT atI_zero (w_c (w_ne_no rfl (okD_le (by decide) ok_rets) rfl (bl_i ⟨fun _ => ?_, fun z => nomatch z⟩))))))))
  exact w_bin (w_call (w_evcons (w_bin (w_var h (w_c (w_idxT (i := 1) rfl (w_evnil (w_eq hF (w_var h9 (w_ne_no rfl (ok_str hz) rfl ⟨rfl, rfl⟩))))))))))
end
theorem w_parse {z : Str} (hz : Asc z) (hl : z.length ≤ 400) {t : Tn} {Q : D → Tn → Prop} {S : Sl} (h9 : S[9]? = some (.val (.str z)))
    (q1 : Q (.tup [.str "text"]) t) (q2 : ∀ c, Gs c → c.length ≤ 20 → z = ctx c → Q (.tup [.str "returns", .tup (cD c)]) t) : W (eRes resNm al12 (eCall f_parse_circuit [(eVar 9)]) S t) Q := by
  refine w_resE (w_evcons (w_var h9 (w_evnil ?_)))
  rcases parse_out hz hl with e | ⟨c, hc, lc, ez, e⟩
  · exact w_rT e q1
  · exact w_rmR e (q2 c hc lc ez)
theorem w_parseX {z : Str} (hz : Asc z) (hl : z.length ≤ 400) {t : Tn} {Q : D → Tn → Prop} {S : Sl} (h9 : S[9]? = some (.val (.str z)))
    (q1 : Q (.tup [.str "text"]) t) (q2 : ∀ ws, IsX ws → z = xtx ws → Q (.tup [.str "returns", .tup (iD ws)]) t) : W (eRes resNm al12 (eCall f_parse_exchange [(eVar 9)]) S t) Q := by
  refine w_resE (w_evcons (w_var h9 (w_evnil ?_)))
  rcases parseX_out hz hl with e | ⟨ws, hx, ez, e⟩
  · exact w_rT e q1
  · exact w_rmR e (q2 ws hx ez)
theorem cmpX_ok {α : Type} {tg : Tg} {elt : Ex} {S : Sl} (f e : α → D) : ∀ {l : List α}, (∀ x ∈ l, ∃ S', tg (f x) S = some S' ∧ elt S' = ret (e x)) → cmpX tg (eC (.bl true)) elt S (l.map f) = BG.ret (l.map e)
  | [], _ => rfl
  | x :: l, h => by
    obtain ⟨S', e1, e2⟩ := h x (List.mem_cons_self ..)
    have ih := cmpX_ok (tg := tg) (elt := elt) (S := S) f e (l := l) fun y hy => h y (List.mem_cons_of_mem _ hy)
    have k : cmpX tg (eC (.bl true)) elt S ((x :: l).map f) = bnd (elt S') fun r => bnd (cmpX tg (eC (.bl true)) elt S (l.map f)) fun rs => ret (r :: rs) := by
      rw [List.map_cons, cmpX, e1]; rfl
    rw [k, e2, ret_bnd, ih]; rfl
theorem parse_own {c : List Nat} (hc : Gs c) (hl : c.length ≤ 20) : f_parse_circuit [.str (ctx c)] = ret (.tup (cD c)) := by
  have hsz := sizeL
  have hlen := len_ctx hc
  have ok := ok_str (asc_ctx hc)
  refine eq_of_W fun t => w_fn ?_
  rw [show slots0 3 [D.str (ctx c)] = [.val (.str (ctx c)), .un, .un] from rfl]
  unfold b_parse_circuit
  refine w_seq (w_eq (rt_chk (isS rfl)) (nx_nx ?_))
  refine w_seq (w_asg (W.mono (Q := fun d t' => d = .tup (cD c) ∧ t' = t) ?_ fun d t' ⟨e1, e2⟩ => nx_nx ?_))
  · by_cases h0 : c = []
    · have e : ctx c = dash := by unfold ctx; rw [if_pos h0]
      refine w_ife (w_bin (w_var rfl (w_c (w_ne_no (by rw [e]; rfl) ok rfl (bl_i ⟨(fun z => nomatch z), fun _ => w_tup (w_evnil ⟨by rw [h0]; rfl, rfl⟩)⟩)))))
    · have e : ctx c = Txt.join " " (wds c) := by unfold ctx; rw [if_neg h0]
      have hne : D.str (ctx c) ≠ .str dash := fun z => by
        injection z with z
        exact join_ne_dash hc h0 (by rw [← e]; exact z)
      refine w_ife (w_bin (w_var rfl (w_c (w_ne_yes hne ok rfl (ok_str asc_dash) rfl (bl_i ⟨fun _ => ?_, fun z => nomatch z⟩)))))
      have e1 : (eTx pSpl (eVar 0) (eC (.str " "))) [.val (.str (ctx c)), .un, .un] = ret (.lst ((wds c).map D.str)) := eq_of_W fun t => w_tx (w_var rfl (sx_i (w_c (w_spl ⟨by rw [len_sp]; decide, by omega⟩ ⟨by rw [e, split_wds hc h0], rfl⟩))))
      have e2 : itSeq (eTx pSpl (eVar 0) (eC (.str " "))) [.val (.str (ctx c)), .un, .un] = ret ((wds c).map D.str) := by
        unfold itSeq; rw [e1]; rfl
      have e3 := compX_eq (vs := [2]) (tg := gN 2) (cond := eC (.bl true)) (elt := eCall f_read_gate [(eVar 2)]) e2 (by rw [List.length_map, wds_len]; omega)
      have e4 : (wds c).map D.str = c.map (fun i => D.str (gtx i)) := by unfold wds; rw [List.map_map]; rfl
      have e5 := cmpX_ok (tg := gN 2) (elt := eCall f_read_gate [(eVar 2)]) (S := wipeS [.val (.str (ctx c)), .un, .un] [2]) (fun i => D.str (gtx i)) gk (l := c) fun i hi => ⟨_, rfl, rt_call1 (x := .str (gtx i)) rfl (read_gate_eq (hc i hi))⟩
      rw [e4, e5, ret_bnd] at e3
      exact w_un (w_eq e3 (w_tupL ⟨rfl, rfl⟩))
  subst e1 e2
  dsimp only [List.set]
  refine w_seq (w_if (w_or (w_un (w_call (w_evcons (w_var rfl (w_evnil (w_eq (is_circuit_yes (IsC.of hc hl)) (w_not (bl_i ⟨fun _ => ?_, fun z => nomatch z⟩))))))))))
  refine w_bin (w_call (w_evcons (w_var rfl (w_evnil (w_eq (circuit_text_eq hc hl) (w_var rfl (w_ne_no rfl ok rfl (bl_i ⟨(fun z => nomatch z), fun _ => w_nil (nx_nx ?_)⟩))))))))
  exact w_sret (w_var rfl (nx_ret ⟨rfl, rfl⟩))
theorem e1_eq {S : Sl} {c : List Nat} (hc : Gs c) (hl : c.length ≤ 20) (h3 : S[3]? = some (.val (.tup (cD c)))) (h5 : S[5]? = some (.val (.str (ctx c)))) : (eOr (eBin pNe (eCall f_format_circuit [(eVar 3)]) (eVar 5)) (eBin pNe (eCall f_parse_circuit [(eVar 5)]) (eVar 3))) S = ret (.bl false) := by
  refine eq_of_W fun t => ?_
  refine w_or (w_bin (w_call (w_evcons (w_var h3 (w_evnil (w_eq (format_circuit_eq hc hl) (w_var h5 (w_ne_no rfl (ok_str (asc_ctx hc)) rfl (bl_i ⟨fun _ => ?_, fun z => nomatch z⟩)))))))))
  exact w_bin (w_call (w_evcons (w_var h5 (w_evnil (w_eq (parse_own hc hl) (w_var h3 (w_ne_no rfl (ok_cD hc) (nobl_cD hc) ⟨rfl, rfl⟩)))))))
theorem e2_eq {S : Sl} {ws : List Nat} (hx : IsX ws) (h4 : S[4]? = some (.val (.tup (iD ws)))) (h6 : S[6]? = some (.val (.str (xtx ws)))) : (eOr (eBin pNe (eCall f_format_exchange [(eVar 4)]) (eVar 6)) (eBin pNe (eCall f_parse_exchange [(eVar 6)]) (eVar 4))) S = ret (.bl false) := by
  refine eq_of_W fun t => ?_
  refine w_or (w_bin (w_call (w_evcons (w_var h4 (w_evnil (w_eq (format_exchange_eq hx) (w_var h6 (w_ne_no rfl (ok_str (asc_xtx hx)) rfl (bl_i ⟨fun _ => ?_, fun z => nomatch z⟩)))))))))
  exact w_bin (w_call (w_evcons (w_var h6 (w_evnil (w_eq (parse_exchange_eq hx) (w_var h4 (w_ne_no rfl (ok_iD _) (nobl_iD _) ⟨rfl, rfl⟩)))))))
/-- a statement, then the rest, with what holds between -/
theorem w_cutI {a b : Stm} {S : Sl} {t : Tn} {Q : Fl → Tn → Prop} (I : Sl → Tn → Prop) (h : W (a S t) (Nx I fun _ _ => False)) (k : ∀ S' t', I S' t' → W (b S' t') Q) : W (sSeq a b S t) Q :=
  w_seq (W.mono h fun fl t' q => by
    cases fl with
    | nx S' => exact k S' t' q
    | ret d => exact q.elim)
theorem ok_cD59 {c : List Nat} (h : Gs c) : okD (.tup (cD c)) 59 = true := okA_of (n := 58) fun d hd => by
  obtain ⟨_, _, _, h1, _⟩ := gts_kind (cD_mem h d hd)
  exact okD_le (by decide) h1
theorem ok_iD59 (ws : List Nat) : okD (.tup (iD ws)) 59 = true := okA_of (n := 58) fun d hd => by
  obtain ⟨w, _, rfl⟩ := mem_iD hd; rfl
abbrev chkE (F : Fn) : Ex := (eAnd (eBin pNe (eVar 10) (eTup [(eC (.str "text"))])) (eOr (eBin pNe (eBin pIdx (eVar 10) (eC (.int 0))) (eC (.str "returns"))) (eBin pNe (eCall F [(eBin pIdx (eVar 10) (eC (.int 1)))]) (eVar 9))))
theorem fmt_none : f_format_circuit [.non] = raise 1 := rz_fn (rz_seq1 (rz_expr (rz_call1 (x := .non) rfl (check_circuit_no (is_circuit_no rfl)))))
theorem bad_circ : f_is_circuit [.tup [.tup [.str "not"]]] = ret (.bl false) := by with_unfolding_all rfl
theorem fmt_bad : f_format_circuit [.tup [.tup [.str "not"]]] = raise 1 := rz_fn (rz_seq1 (rz_expr (rz_call1 (x := .tup [.tup [.str "not"]]) rfl (check_circuit_no bad_circ))))
theorem fmt_short {ws : List Nat} (h : ws.length ≠ 8) : f_format_exchange [.tup (iD ws)] = raise 3 := rz_fn (rz_seq1 (rz_expr (rz_call1 (x := .tup (iD ws)) rfl (check_exchange_no (is_exchange_len (by rw [iD_len]; exact h))))))
theorem ok_ans : okD (.lst [.tup [.str "circuit"], .tup [.str "circuit"], .tup [.str "exchange"]]) 60 = true := by decide +kernel
theorem law_true (ns : List Int) (hl : ns.length ≤ 63) : ∃ t', f_law [.scr ns] (none, []) = some (.ok (.bl true) t') := by
  refine law_of ?_
  have hsz := sizeL
  unfold f_law
  with_reducible refine w_fn ?_
  rw [show slots0 11 [D.scr ns] = [.val (.scr ns), .un, .un, .un, .un, .un, .un, .un, .un, .un, .un] from rfl]
  unfold b_law
  refine w_seq (w_asg (w_call (w_evnil (w_lbegun (nx_nx ?_)))))
  dsimp only [List.set]
  with_reducible refine w_seq ?_
  with_reducible refine w_for ?_
  refine w_itR (w_c (in_i ⟨by decide, by decide, ?_⟩))
  refine w_forC (fun S t => ∃ st x2 x3 x4 x5 x6 x7 x8 x9 x10, S = [.val (.scr ns), .val .town, x2, x3, x4, x5, x6, x7, x8, x9, x10] ∧ TOk st t) ⟨_, _, _, _, _, _, _, _, _, _, rfl, .begun⟩ (fun k hk S t ⟨st, x2, x3, x4, x5, x6, x7, x8, x9, x10, hS, ht⟩ => ?_) fun S t ⟨st, x2, x3, x4, x5, x6, x7, x8, x9, x10, hS, ht⟩ => ?_
  · subst hS
    refine ⟨_, rfl, ?_⟩
    dsimp only [List.set]
    have ek : ∀ (S : Sl), (eTup [(eC (.str "both")), (eC (.str "if")), (eC (.str "not")), (eC (.str "pick")), (eC (.str "swap"))]) S = ret (.tup ks5) := fun _ => rfl
    refine w_seq (w_asg (w_call (w_evcons (w_var rfl (w_evcons (w_var rfl (w_evcons (w_eq (ek _) (w_evcons (w_c (w_evnil ?_)))))))))))
    refine w_circ5 hl ht (by decide) (by decide) fun c t1 hc lc ht1 => nx_nx ?_
    have lc : c.length ≤ 6 := lc
    dsimp only [List.set]
    refine w_seq (w_asg (w_call (w_evcons (w_var rfl (w_evcons (w_var rfl (w_evnil ?_)))))))
    refine w_exchange hl ht1 fun g t2 hg0 ht2 => nx_nx ?_
    have hg : IsX g := hg0
    dsimp only [List.set]
    refine w_seq (w_par (w_call (w_evcons (w_var rfl (w_evnil (w_eq (written_eq hc (by omega)) (w_call (w_evcons (w_var rfl (w_evnil (w_eq (digits_eq hg) (nx_nx ?_))))))))))))
    dsimp only [List.set]
    with_reducible refine w_seq ?_
    with_reducible refine w_eq (rt_if (e1_eq hc (by omega) rfl rfl)) (nx_nx ?_)
    with_reducible refine w_seq ?_
    with_reducible refine w_eq (rt_if (e2_eq hg rfl rfl)) (nx_nx ?_)
    have l1 := len_ctx hc
    have l2 := xtx_len g
    have l8 := hg.len
    with_reducible refine w_seq ?_
    with_reducible refine w_for ?_
    refine w_itR (w_c (in_i ⟨by decide, by decide, ?_⟩))
    refine w_forC (fun S t => ∃ y7 y9 y10, S = [.val (.scr ns), .val .town, .val k, .val (.tup (cD c)), .val (.tup (iD g)), .val (.str (ctx c)), .val (.str (xtx g)), y7, x8, y9, y10] ∧ TOk st t) ⟨_, _, _, rfl, ht2⟩ (fun j hj S t ⟨y7, y9, y10, hS, ht3⟩ => ?_) fun S t ⟨y7, y9, y10, hS, ht3⟩ => ?_
    · subst hS
      refine ⟨_, rfl, ?_⟩
      dsimp only [List.set]
      refine w_seq (w_asg (w_call (w_evcons (w_var rfl (w_evcons (w_var rfl (w_evcons (w_var rfl (w_evnil ?_)))))))))
      refine w_changed hl (asc_ctx hc) (by omega) ht3 fun z t4 hz lz ht4 => nx_nx ?_
      dsimp only [List.set]
      refine w_cutI (fun S t' => ∃ d, S = [.val (.scr ns), .val .town, .val k, .val (.tup (cD c)), .val (.tup (iD g)), .val (.str (ctx c)), .val (.str (xtx g)), .val j, x8, .val (.str z), .val d] ∧ TOk st t' ∧ chkE f_law_written S = ret (.bl false)) ?_ ?_
      · refine w_asg (w_parse hz lz rfl (nx_nx ⟨_, rfl, ht4, chk_no rfl⟩) fun c2 hc2 lc2 ez => nx_nx ⟨_, rfl, ht4, ?_⟩)
        subst ez
        exact chk_yes (ok_cD59 hc2) (nobl_cD hc2) hz rfl rfl (written_eq hc2 lc2)
      rintro S t5 ⟨d, rfl, ht5, hchk⟩
      with_reducible refine w_seq ?_
      with_reducible refine w_eq (rt_if hchk) (nx_nx ?_)
      refine w_seq (w_asg (w_call (w_evcons (w_var rfl (w_evcons (w_var rfl (w_evcons (w_var rfl (w_evnil ?_)))))))))
      refine w_changed hl (asc_xtx hg) (by omega) ht5 fun z2 t6 hz2 lz2 ht6 => nx_nx ?_
      dsimp only [List.set]
      refine w_cutI (fun S t' => ∃ d, S = [.val (.scr ns), .val .town, .val k, .val (.tup (cD c)), .val (.tup (iD g)), .val (.str (ctx c)), .val (.str (xtx g)), .val j, x8, .val (.str z2), .val d] ∧ TOk st t' ∧ chkE f_law_digits S = ret (.bl false)) ?_ ?_
      · refine w_asg (w_parseX hz2 lz2 rfl (nx_nx ⟨_, rfl, ht6, chk_no rfl⟩) fun ws hws ez => nx_nx ⟨_, rfl, ht6, ?_⟩)
        subst ez
        exact chk_yes (ok_iD59 _) (nobl_iD _) hz2 rfl rfl (digits_eq hws)
      rintro S t7 ⟨d2, rfl, ht7, hchk2⟩
      with_reducible refine w_eq (rt_if hchk2) (nx_nx ?_)
      exact ⟨_, _, _, rfl, ht7⟩
    · subst hS
      refine nx_nx ?_
      refine w_seq (w_own (w_lst (w_evcons (w_resE (w_evcons (w_c (w_evnil (w_rC fmt_none (w_evnil (ls_l (nx_nx ?_)))))))))))
      dsimp only [List.set]
      have ex : cutD (iD g) (some 1) none = iD (g.drop 1) := by
        have := cutD_drop (ds := iD g) (k := 1) (by rw [iD_len, hg.len]; decide)
        rw [show cutD (iD g) (some 1) none = (iD g).drop 1 from this]
        unfold iD; rw [List.map_drop]
      have es : ∀ S : Sl, (eTup [(eTup [(eC (.str "not"))])]) S = ret (.tup [.tup [.str "not"]]) := fun _ => rfl
      refine w_seq (w_app rfl (w_resE (w_evcons (w_eq (es _) (w_evnil (w_rC fmt_bad ⟨by rw [hsz]; decide, nx_nx ?_⟩))))))
      dsimp only [List.set]
      refine w_seq (w_app rfl (w_resE (w_evcons (w_slice (w_var rfl (w_oS (w_c (in_i (w_oN (w_slT (w_evnil ?_)))))))))))
      rw [ex]
      refine w_rX (fmt_short (by rw [List.length_drop]; omega)) ⟨by rw [hsz]; decide, nx_nx ?_⟩
      dsimp only [List.set]
      have el : ∀ S : Sl, (eLst [(eTup [(eC (.str "circuit"))]), (eTup [(eC (.str "circuit"))]), (eTup [(eC (.str "exchange"))])]) S = ret (.lst [.tup [.str "circuit"], .tup [.str "circuit"], .tup [.str "exchange"]]) := fun _ => rfl
      refine w_if (w_bin (w_peekO rfl (w_eq (el _) (w_ne_no rfl ok_ans rfl (bl_i ⟨(fun z => nomatch z), fun _ => w_nil (nx_nx ?_)⟩)))))
      exact ⟨st, _, _, _, _, _, _, _, _, _, rfl, ht3⟩
  · subst hS
    exact nx_nx (w_sret (w_call (w_evnil (w_eq by_hand_eq (nx_ret rfl)))))
end K26
set_option Elab.async false
set_option linter.all false
set_option maxRecDepth 100000
set_option maxHeartbeats 4000000
namespace K26
open PySem PySem.Spec PyProof.Rows L2 BG BL
theorem all_mk {l : PySem.W.OpenLaw} {w : World} {K : PySem.W.Frag} {h : Heap} {mg : Str → Option Value} {fa : Addr} (X : K.In h) (G : h.Ns mainGlobals mg) (hfa : mg "law" = some (.ref fa))
    {od_is_between an_is_between : Option Addr} {sl_is_between : Array (Option Value)} {oc_is_between kV_is_between dc_is_between pm_is_between ct_is_between : Value} {f_a_is_between : Addr}
    {cd_is_between : Value}
    {od_is_gate an_is_gate : Option Addr} {sl_is_gate : Array (Option Value)} {oc_is_gate kV_is_gate dc_is_gate pm_is_gate ct_is_gate : Value} {f_a_is_gate : Addr}
    {cd_is_gate : Value}
    {od_is_circuit an_is_circuit : Option Addr} {sl_is_circuit : Array (Option Value)} {oc_is_circuit kV_is_circuit dc_is_circuit pm_is_circuit ct_is_circuit : Value} {f_a_is_circuit : Addr}
    {cd_is_circuit : Value}
    {od_is_exchange an_is_exchange : Option Addr} {sl_is_exchange : Array (Option Value)} {oc_is_exchange kV_is_exchange dc_is_exchange pm_is_exchange ct_is_exchange : Value} {f_a_is_exchange : Addr}
    {cd_is_exchange : Value}
    {od_check_circuit an_check_circuit : Option Addr} {sl_check_circuit : Array (Option Value)} {oc_check_circuit kV_check_circuit dc_check_circuit pm_check_circuit ct_check_circuit : Value} {f_a_check_circuit : Addr}
    {cd_check_circuit : Value}
    {od_check_exchange an_check_exchange : Option Addr} {sl_check_exchange : Array (Option Value)} {oc_check_exchange kV_check_exchange dc_check_exchange pm_check_exchange ct_check_exchange : Value} {f_a_check_exchange : Addr}
    {cd_check_exchange : Value}
    {od_gate_text an_gate_text : Option Addr} {sl_gate_text : Array (Option Value)} {oc_gate_text kV_gate_text dc_gate_text pm_gate_text ct_gate_text : Value} {f_a_gate_text : Addr}
    {cd_gate_text : Value}
    {od_circuit_text an_circuit_text : Option Addr} {sl_circuit_text : Array (Option Value)} {oc_circuit_text kV_circuit_text dc_circuit_text pm_circuit_text ct_circuit_text : Value} {f_a_circuit_text : Addr}
    {cd_circuit_text : Value}
    {od_format_circuit an_format_circuit : Option Addr} {sl_format_circuit : Array (Option Value)} {oc_format_circuit kV_format_circuit dc_format_circuit pm_format_circuit ct_format_circuit : Value} {f_a_format_circuit : Addr}
    {cd_format_circuit : Value}
    {od_exchange_text an_exchange_text : Option Addr} {sl_exchange_text : Array (Option Value)} {oc_exchange_text kV_exchange_text dc_exchange_text pm_exchange_text ct_exchange_text : Value} {f_a_exchange_text : Addr}
    {cd_exchange_text : Value}
    {od_format_exchange an_format_exchange : Option Addr} {sl_format_exchange : Array (Option Value)} {oc_format_exchange kV_format_exchange dc_format_exchange pm_format_exchange ct_format_exchange : Value} {f_a_format_exchange : Addr}
    {cd_format_exchange : Value}
    {od_read_digits an_read_digits : Option Addr} {sl_read_digits : Array (Option Value)} {oc_read_digits kV_read_digits dc_read_digits pm_read_digits ct_read_digits : Value} {f_a_read_digits : Addr}
    {cd_read_digits : Value}
    {od_read_gate an_read_gate : Option Addr} {sl_read_gate : Array (Option Value)} {oc_read_gate kV_read_gate dc_read_gate pm_read_gate ct_read_gate : Value} {f_a_read_gate : Addr}
    {cd_read_gate : Value}
    {od_parse_circuit an_parse_circuit : Option Addr} {sl_parse_circuit : Array (Option Value)} {oc_parse_circuit kV_parse_circuit dc_parse_circuit pm_parse_circuit ct_parse_circuit : Value} {f_a_parse_circuit : Addr}
    {cd_parse_circuit : Value}
    {od_parse_exchange an_parse_exchange : Option Addr} {sl_parse_exchange : Array (Option Value)} {oc_parse_exchange kV_parse_exchange dc_parse_exchange pm_parse_exchange ct_parse_exchange : Value} {f_a_parse_exchange : Addr}
    {cd_parse_exchange : Value}
    {od_law_draw an_law_draw : Option Addr} {sl_law_draw : Array (Option Value)} {oc_law_draw kV_law_draw dc_law_draw pm_law_draw ct_law_draw : Value} {f_a_law_draw : Addr}
    {cd_law_draw : Value}
    {od_law_begun an_law_begun : Option Addr} {sl_law_begun : Array (Option Value)} {oc_law_begun kV_law_begun dc_law_begun pm_law_begun ct_law_begun : Value} {f_a_law_begun : Addr}
    {cd_law_begun : Value}
    {od_law_gates an_law_gates : Option Addr} {sl_law_gates : Array (Option Value)} {oc_law_gates kV_law_gates dc_law_gates pm_law_gates ct_law_gates : Value} {f_a_law_gates : Addr}
    {cd_law_gates : Value}
    {od_law_circuit an_law_circuit : Option Addr} {sl_law_circuit : Array (Option Value)} {oc_law_circuit kV_law_circuit dc_law_circuit pm_law_circuit ct_law_circuit : Value} {f_a_law_circuit : Addr}
    {cd_law_circuit : Value}
    {od_law_exchange an_law_exchange : Option Addr} {sl_law_exchange : Array (Option Value)} {oc_law_exchange kV_law_exchange dc_law_exchange pm_law_exchange ct_law_exchange : Value} {f_a_law_exchange : Addr}
    {cd_law_exchange : Value}
    {od_law_written an_law_written : Option Addr} {sl_law_written : Array (Option Value)} {oc_law_written kV_law_written dc_law_written pm_law_written ct_law_written : Value} {f_a_law_written : Addr}
    {cd_law_written : Value}
    {od_law_digits an_law_digits : Option Addr} {sl_law_digits : Array (Option Value)} {oc_law_digits kV_law_digits dc_law_digits pm_law_digits ct_law_digits : Value} {f_a_law_digits : Addr}
    {cd_law_digits : Value}
    {od_law_changed an_law_changed : Option Addr} {sl_law_changed : Array (Option Value)} {oc_law_changed kV_law_changed dc_law_changed pm_law_changed ct_law_changed : Value} {f_a_law_changed : Addr}
    {cd_law_changed : Value}
    {od_law_by_hand an_law_by_hand : Option Addr} {sl_law_by_hand : Array (Option Value)} {oc_law_by_hand kV_law_by_hand dc_law_by_hand pm_law_by_hand ct_law_by_hand : Value} {f_a_law_by_hand : Addr}
    {ca_law_by_hand P_law_by_hand : Addr}
    {oo_law_by_hand : Value} {ox_law_by_hand : Option Addr} {vs_law_by_hand : Array Value} {so_law_by_hand : Array (Option Value)}
    {od_law an_law : Option Addr} {sl_law : Array (Option Value)} {oc_law kV_law dc_law pm_law ct_law : Value} {f_a_law : Addr}
    {ca_law P_law : Addr}
    {oo_law : Value} {ox_law : Option Addr} {vs_law : Array Value} {so_law : Array (Option Value)}
    {od_law_result an_law_result : Option Addr} {sl_law_result : Array (Option Value)} {oc_law_result kV_law_result dc_law_result pm_law_result ct_law_result : Value} {f_a_law_result : Addr}
    {cd_law_result : Value}
    {a_cKINDS : Addr} {n_cKINDS : Nat} {sl_cKINDS : Array (Option Value)} {t0_KINDS t1_KINDS t2_KINDS t3_KINDS t4_KINDS : Tok}
    {t_cLONGEST : Tok}
    {a_GE : Addr}
    {a_eInvalidGate : Addr}
    {a_eInvalidWord : Addr}
    {a_eInvalidLines : Addr}
    {a_eInvalidKinds : Addr}
    {a_eInvalidFunction : Addr}
    {a_eInvalidAnswers : Addr}
    {a_eTooMany : Addr}
    {a_eEmpty : Addr}
    {a_eNothingToUndo : Addr}
    {a_eInvalidCircuit : Addr}
    {a_eInvalidExchange : Addr}
    {a_eInvalidText : Addr}
    (a_is_between : PySem.W.nsIn K mainGlobals "is_between" = some (some (.ref f_a_is_between)))
    (l_is_between : K.lookup f_a_is_between = some ⟨oc_is_between, od_is_between, .func (PySem.W.fnOf "is_between" "is_between" (defArgs s_is_between) (defBody s_is_between) (defScope s_is_between) .none kV_is_between dc_is_between pm_is_between an_is_between cd_is_between ct_is_between), sl_is_between⟩)
    (c_is_between : PySem.W.codeIn K cd_is_between "is_between" = true)
    (k_is_between : PySem.W.keepIn K (.ref f_a_is_between) = true)
    (a_is_gate : PySem.W.nsIn K mainGlobals "is_gate" = some (some (.ref f_a_is_gate)))
    (l_is_gate : K.lookup f_a_is_gate = some ⟨oc_is_gate, od_is_gate, .func (PySem.W.fnOf "is_gate" "is_gate" (defArgs s_is_gate) (defBody s_is_gate) (defScope s_is_gate) .none kV_is_gate dc_is_gate pm_is_gate an_is_gate cd_is_gate ct_is_gate), sl_is_gate⟩)
    (c_is_gate : PySem.W.codeIn K cd_is_gate "is_gate" = true)
    (k_is_gate : PySem.W.keepIn K (.ref f_a_is_gate) = true)
    (a_is_circuit : PySem.W.nsIn K mainGlobals "is_circuit" = some (some (.ref f_a_is_circuit)))
    (l_is_circuit : K.lookup f_a_is_circuit = some ⟨oc_is_circuit, od_is_circuit, .func (PySem.W.fnOf "is_circuit" "is_circuit" (defArgs s_is_circuit) (defBody s_is_circuit) (defScope s_is_circuit) .none kV_is_circuit dc_is_circuit pm_is_circuit an_is_circuit cd_is_circuit ct_is_circuit), sl_is_circuit⟩)
    (c_is_circuit : PySem.W.codeIn K cd_is_circuit "is_circuit" = true)
    (k_is_circuit : PySem.W.keepIn K (.ref f_a_is_circuit) = true)
    (a_is_exchange : PySem.W.nsIn K mainGlobals "is_exchange" = some (some (.ref f_a_is_exchange)))
    (l_is_exchange : K.lookup f_a_is_exchange = some ⟨oc_is_exchange, od_is_exchange, .func (PySem.W.fnOf "is_exchange" "is_exchange" (defArgs s_is_exchange) (defBody s_is_exchange) (defScope s_is_exchange) .none kV_is_exchange dc_is_exchange pm_is_exchange an_is_exchange cd_is_exchange ct_is_exchange), sl_is_exchange⟩)
    (c_is_exchange : PySem.W.codeIn K cd_is_exchange "is_exchange" = true)
    (k_is_exchange : PySem.W.keepIn K (.ref f_a_is_exchange) = true)
    (a_check_circuit : PySem.W.nsIn K mainGlobals "check_circuit" = some (some (.ref f_a_check_circuit)))
    (l_check_circuit : K.lookup f_a_check_circuit = some ⟨oc_check_circuit, od_check_circuit, .func (PySem.W.fnOf "check_circuit" "check_circuit" (defArgs s_check_circuit) (defBody s_check_circuit) (defScope s_check_circuit) .none kV_check_circuit dc_check_circuit pm_check_circuit an_check_circuit cd_check_circuit ct_check_circuit), sl_check_circuit⟩)
    (c_check_circuit : PySem.W.codeIn K cd_check_circuit "check_circuit" = true)
    (k_check_circuit : PySem.W.keepIn K (.ref f_a_check_circuit) = true)
    (a_check_exchange : PySem.W.nsIn K mainGlobals "check_exchange" = some (some (.ref f_a_check_exchange)))
    (l_check_exchange : K.lookup f_a_check_exchange = some ⟨oc_check_exchange, od_check_exchange, .func (PySem.W.fnOf "check_exchange" "check_exchange" (defArgs s_check_exchange) (defBody s_check_exchange) (defScope s_check_exchange) .none kV_check_exchange dc_check_exchange pm_check_exchange an_check_exchange cd_check_exchange ct_check_exchange), sl_check_exchange⟩)
    (c_check_exchange : PySem.W.codeIn K cd_check_exchange "check_exchange" = true)
    (k_check_exchange : PySem.W.keepIn K (.ref f_a_check_exchange) = true)
    (a_gate_text : PySem.W.nsIn K mainGlobals "gate_text" = some (some (.ref f_a_gate_text)))
    (l_gate_text : K.lookup f_a_gate_text = some ⟨oc_gate_text, od_gate_text, .func (PySem.W.fnOf "gate_text" "gate_text" (defArgs s_gate_text) (defBody s_gate_text) (defScope s_gate_text) .none kV_gate_text dc_gate_text pm_gate_text an_gate_text cd_gate_text ct_gate_text), sl_gate_text⟩)
    (c_gate_text : PySem.W.codeIn K cd_gate_text "gate_text" = true)
    (k_gate_text : PySem.W.keepIn K (.ref f_a_gate_text) = true)
    (a_circuit_text : PySem.W.nsIn K mainGlobals "circuit_text" = some (some (.ref f_a_circuit_text)))
    (l_circuit_text : K.lookup f_a_circuit_text = some ⟨oc_circuit_text, od_circuit_text, .func (PySem.W.fnOf "circuit_text" "circuit_text" (defArgs s_circuit_text) (defBody s_circuit_text) (defScope s_circuit_text) .none kV_circuit_text dc_circuit_text pm_circuit_text an_circuit_text cd_circuit_text ct_circuit_text), sl_circuit_text⟩)
    (c_circuit_text : PySem.W.codeIn K cd_circuit_text "circuit_text" = true)
    (k_circuit_text : PySem.W.keepIn K (.ref f_a_circuit_text) = true)
    (a_format_circuit : PySem.W.nsIn K mainGlobals "format_circuit" = some (some (.ref f_a_format_circuit)))
    (l_format_circuit : K.lookup f_a_format_circuit = some ⟨oc_format_circuit, od_format_circuit, .func (PySem.W.fnOf "format_circuit" "format_circuit" (defArgs s_format_circuit) (defBody s_format_circuit) (defScope s_format_circuit) .none kV_format_circuit dc_format_circuit pm_format_circuit an_format_circuit cd_format_circuit ct_format_circuit), sl_format_circuit⟩)
    (c_format_circuit : PySem.W.codeIn K cd_format_circuit "format_circuit" = true)
    (k_format_circuit : PySem.W.keepIn K (.ref f_a_format_circuit) = true)
    (a_exchange_text : PySem.W.nsIn K mainGlobals "exchange_text" = some (some (.ref f_a_exchange_text)))
    (l_exchange_text : K.lookup f_a_exchange_text = some ⟨oc_exchange_text, od_exchange_text, .func (PySem.W.fnOf "exchange_text" "exchange_text" (defArgs s_exchange_text) (defBody s_exchange_text) (defScope s_exchange_text) .none kV_exchange_text dc_exchange_text pm_exchange_text an_exchange_text cd_exchange_text ct_exchange_text), sl_exchange_text⟩)
    (c_exchange_text : PySem.W.codeIn K cd_exchange_text "exchange_text" = true)
    (k_exchange_text : PySem.W.keepIn K (.ref f_a_exchange_text) = true)
    (a_format_exchange : PySem.W.nsIn K mainGlobals "format_exchange" = some (some (.ref f_a_format_exchange)))
    (l_format_exchange : K.lookup f_a_format_exchange = some ⟨oc_format_exchange, od_format_exchange, .func (PySem.W.fnOf "format_exchange" "format_exchange" (defArgs s_format_exchange) (defBody s_format_exchange) (defScope s_format_exchange) .none kV_format_exchange dc_format_exchange pm_format_exchange an_format_exchange cd_format_exchange ct_format_exchange), sl_format_exchange⟩)
    (c_format_exchange : PySem.W.codeIn K cd_format_exchange "format_exchange" = true)
    (k_format_exchange : PySem.W.keepIn K (.ref f_a_format_exchange) = true)
    (a_read_digits : PySem.W.nsIn K mainGlobals "read_digits" = some (some (.ref f_a_read_digits)))
    (l_read_digits : K.lookup f_a_read_digits = some ⟨oc_read_digits, od_read_digits, .func (PySem.W.fnOf "read_digits" "read_digits" (defArgs s_read_digits) (defBody s_read_digits) (defScope s_read_digits) .none kV_read_digits dc_read_digits pm_read_digits an_read_digits cd_read_digits ct_read_digits), sl_read_digits⟩)
    (c_read_digits : PySem.W.codeIn K cd_read_digits "read_digits" = true)
    (k_read_digits : PySem.W.keepIn K (.ref f_a_read_digits) = true)
    (a_read_gate : PySem.W.nsIn K mainGlobals "read_gate" = some (some (.ref f_a_read_gate)))
    (l_read_gate : K.lookup f_a_read_gate = some ⟨oc_read_gate, od_read_gate, .func (PySem.W.fnOf "read_gate" "read_gate" (defArgs s_read_gate) (defBody s_read_gate) (defScope s_read_gate) .none kV_read_gate dc_read_gate pm_read_gate an_read_gate cd_read_gate ct_read_gate), sl_read_gate⟩)
    (c_read_gate : PySem.W.codeIn K cd_read_gate "read_gate" = true)
    (k_read_gate : PySem.W.keepIn K (.ref f_a_read_gate) = true)
    (a_parse_circuit : PySem.W.nsIn K mainGlobals "parse_circuit" = some (some (.ref f_a_parse_circuit)))
    (l_parse_circuit : K.lookup f_a_parse_circuit = some ⟨oc_parse_circuit, od_parse_circuit, .func (PySem.W.fnOf "parse_circuit" "parse_circuit" (defArgs s_parse_circuit) (defBody s_parse_circuit) (defScope s_parse_circuit) .none kV_parse_circuit dc_parse_circuit pm_parse_circuit an_parse_circuit cd_parse_circuit ct_parse_circuit), sl_parse_circuit⟩)
    (c_parse_circuit : PySem.W.codeIn K cd_parse_circuit "parse_circuit" = true)
    (k_parse_circuit : PySem.W.keepIn K (.ref f_a_parse_circuit) = true)
    (a_parse_exchange : PySem.W.nsIn K mainGlobals "parse_exchange" = some (some (.ref f_a_parse_exchange)))
    (l_parse_exchange : K.lookup f_a_parse_exchange = some ⟨oc_parse_exchange, od_parse_exchange, .func (PySem.W.fnOf "parse_exchange" "parse_exchange" (defArgs s_parse_exchange) (defBody s_parse_exchange) (defScope s_parse_exchange) .none kV_parse_exchange dc_parse_exchange pm_parse_exchange an_parse_exchange cd_parse_exchange ct_parse_exchange), sl_parse_exchange⟩)
    (c_parse_exchange : PySem.W.codeIn K cd_parse_exchange "parse_exchange" = true)
    (k_parse_exchange : PySem.W.keepIn K (.ref f_a_parse_exchange) = true)
    (a_law_draw : PySem.W.nsIn K mainGlobals "_law_draw" = some (some (.ref f_a_law_draw)))
    (l_law_draw : K.lookup f_a_law_draw = some ⟨oc_law_draw, od_law_draw, .func (PySem.W.fnOf "_law_draw" "_law_draw" (defArgs s_law_draw) (defBody s_law_draw) (defScope s_law_draw) .none kV_law_draw dc_law_draw pm_law_draw an_law_draw cd_law_draw ct_law_draw), sl_law_draw⟩)
    (c_law_draw : PySem.W.codeIn K cd_law_draw "_law_draw" = true)
    (k_law_draw : PySem.W.keepIn K (.ref f_a_law_draw) = true)
    (a_law_begun : PySem.W.nsIn K mainGlobals "_law_begun" = some (some (.ref f_a_law_begun)))
    (l_law_begun : K.lookup f_a_law_begun = some ⟨oc_law_begun, od_law_begun, .func (PySem.W.fnOf "_law_begun" "_law_begun" (defArgs s_law_begun) (defBody s_law_begun) (defScope s_law_begun) .none kV_law_begun dc_law_begun pm_law_begun an_law_begun cd_law_begun ct_law_begun), sl_law_begun⟩)
    (c_law_begun : PySem.W.codeIn K cd_law_begun "_law_begun" = true)
    (k_law_begun : PySem.W.keepIn K (.ref f_a_law_begun) = true)
    (a_law_gates : PySem.W.nsIn K mainGlobals "_law_gates" = some (some (.ref f_a_law_gates)))
    (l_law_gates : K.lookup f_a_law_gates = some ⟨oc_law_gates, od_law_gates, .func (PySem.W.fnOf "_law_gates" "_law_gates" (defArgs s_law_gates) (defBody s_law_gates) (defScope s_law_gates) .none kV_law_gates dc_law_gates pm_law_gates an_law_gates cd_law_gates ct_law_gates), sl_law_gates⟩)
    (c_law_gates : PySem.W.codeIn K cd_law_gates "_law_gates" = true)
    (k_law_gates : PySem.W.keepIn K (.ref f_a_law_gates) = true)
    (a_law_circuit : PySem.W.nsIn K mainGlobals "_law_circuit" = some (some (.ref f_a_law_circuit)))
    (l_law_circuit : K.lookup f_a_law_circuit = some ⟨oc_law_circuit, od_law_circuit, .func (PySem.W.fnOf "_law_circuit" "_law_circuit" (defArgs s_law_circuit) (defBody s_law_circuit) (defScope s_law_circuit) .none kV_law_circuit dc_law_circuit pm_law_circuit an_law_circuit cd_law_circuit ct_law_circuit), sl_law_circuit⟩)
    (c_law_circuit : PySem.W.codeIn K cd_law_circuit "_law_circuit" = true)
    (k_law_circuit : PySem.W.keepIn K (.ref f_a_law_circuit) = true)
    (a_law_exchange : PySem.W.nsIn K mainGlobals "_law_exchange" = some (some (.ref f_a_law_exchange)))
    (l_law_exchange : K.lookup f_a_law_exchange = some ⟨oc_law_exchange, od_law_exchange, .func (PySem.W.fnOf "_law_exchange" "_law_exchange" (defArgs s_law_exchange) (defBody s_law_exchange) (defScope s_law_exchange) .none kV_law_exchange dc_law_exchange pm_law_exchange an_law_exchange cd_law_exchange ct_law_exchange), sl_law_exchange⟩)
    (c_law_exchange : PySem.W.codeIn K cd_law_exchange "_law_exchange" = true)
    (k_law_exchange : PySem.W.keepIn K (.ref f_a_law_exchange) = true)
    (a_law_written : PySem.W.nsIn K mainGlobals "_law_written" = some (some (.ref f_a_law_written)))
    (l_law_written : K.lookup f_a_law_written = some ⟨oc_law_written, od_law_written, .func (PySem.W.fnOf "_law_written" "_law_written" (defArgs s_law_written) (defBody s_law_written) (defScope s_law_written) .none kV_law_written dc_law_written pm_law_written an_law_written cd_law_written ct_law_written), sl_law_written⟩)
    (c_law_written : PySem.W.codeIn K cd_law_written "_law_written" = true)
    (k_law_written : PySem.W.keepIn K (.ref f_a_law_written) = true)
    (a_law_digits : PySem.W.nsIn K mainGlobals "_law_digits" = some (some (.ref f_a_law_digits)))
    (l_law_digits : K.lookup f_a_law_digits = some ⟨oc_law_digits, od_law_digits, .func (PySem.W.fnOf "_law_digits" "_law_digits" (defArgs s_law_digits) (defBody s_law_digits) (defScope s_law_digits) .none kV_law_digits dc_law_digits pm_law_digits an_law_digits cd_law_digits ct_law_digits), sl_law_digits⟩)
    (c_law_digits : PySem.W.codeIn K cd_law_digits "_law_digits" = true)
    (k_law_digits : PySem.W.keepIn K (.ref f_a_law_digits) = true)
    (a_law_changed : PySem.W.nsIn K mainGlobals "_law_changed" = some (some (.ref f_a_law_changed)))
    (l_law_changed : K.lookup f_a_law_changed = some ⟨oc_law_changed, od_law_changed, .func (PySem.W.fnOf "_law_changed" "_law_changed" (defArgs s_law_changed) (defBody s_law_changed) (defScope s_law_changed) .none kV_law_changed dc_law_changed pm_law_changed an_law_changed cd_law_changed ct_law_changed), sl_law_changed⟩)
    (c_law_changed : PySem.W.codeIn K cd_law_changed "_law_changed" = true)
    (k_law_changed : PySem.W.keepIn K (.ref f_a_law_changed) = true)
    (a_law_by_hand : PySem.W.nsIn K mainGlobals "_law_by_hand" = some (some (.ref f_a_law_by_hand)))
    (l_law_by_hand : K.lookup f_a_law_by_hand = some ⟨oc_law_by_hand, od_law_by_hand, .func (PySem.W.fnOf "_law_by_hand" "_law_by_hand" (defArgs s_law_by_hand) (defBody s_law_by_hand) (defScope s_law_by_hand) .none kV_law_by_hand dc_law_by_hand pm_law_by_hand an_law_by_hand (.ref ca_law_by_hand) ct_law_by_hand), sl_law_by_hand⟩)
    (c_law_by_hand : PySem.W.codeIn K (.ref ca_law_by_hand) "_law_by_hand" = true)
    (k_law_by_hand : PySem.W.keepIn K (.ref f_a_law_by_hand) = true)
    (g_law_by_hand : K.lookup ca_law_by_hand = some ⟨oo_law_by_hand, ox_law_by_hand, .fields vs_law_by_hand, so_law_by_hand⟩)
    (v_law_by_hand : vs_law_by_hand[11]? = some (.ref P_law_by_hand))
    (n_law_by_hand : K.lookup P_law_by_hand = none)
    (tb_law_by_hand : PySem.W.tabIn K "_law_by_hand" = some (ca_law_by_hand, P_law_by_hand) → PySem.W.CodeHd h ca_law_by_hand P_law_by_hand ∧ h.get? P_law_by_hand = some (PySem.W.tabObj #[]))
    (a_law : PySem.W.nsIn K mainGlobals "law" = some (some (.ref f_a_law)))
    (l_law : K.lookup f_a_law = some ⟨oc_law, od_law, .func (PySem.W.fnOf "law" "law" (defArgs s_law) (defBody s_law) (defScope s_law) .none kV_law dc_law pm_law an_law (.ref ca_law) ct_law), sl_law⟩)
    (c_law : PySem.W.codeIn K (.ref ca_law) "law" = true)
    (k_law : PySem.W.keepIn K (.ref f_a_law) = true)
    (g_law : K.lookup ca_law = some ⟨oo_law, ox_law, .fields vs_law, so_law⟩)
    (v_law : vs_law[11]? = some (.ref P_law))
    (n_law : K.lookup P_law = none)
    (tb_law : PySem.W.tabIn K "law" = some (ca_law, P_law) → PySem.W.CodeHd h ca_law P_law ∧ h.get? P_law = some (PySem.W.tabObj #[]))
    (a_law_result : PySem.W.nsIn K mainGlobals "_law_result" = some (some (.ref f_a_law_result)))
    (l_law_result : K.lookup f_a_law_result = some ⟨oc_law_result, od_law_result, .func (PySem.W.fnOf "_law_result" "_law_result" (defArgs s_law_result) (defBody s_law_result) (defScope s_law_result) .none kV_law_result dc_law_result pm_law_result an_law_result cd_law_result ct_law_result), sl_law_result⟩)
    (c_law_result : PySem.W.codeIn K cd_law_result "_law_result" = true)
    (k_law_result : PySem.W.keepIn K (.ref f_a_law_result) = true)
    (ne_law_by_hand_law : P_law_by_hand ≠ P_law)
    (z_len : PySem.W.nsIn K mainGlobals "len" = some none)
    (z_all : PySem.W.nsIn K mainGlobals "all" = some none)
    (z_any : PySem.W.nsIn K mainGlobals "any" = some none)
    (z_sum : PySem.W.nsIn K mainGlobals "sum" = some none)
    (z_sorted : PySem.W.nsIn K mainGlobals "sorted" = some none)
    (z_min : PySem.W.nsIn K mainGlobals "min" = some none)
    (z_max : PySem.W.nsIn K mainGlobals "max" = some none)
    (z_isinstance : PySem.W.nsIn K mainGlobals "isinstance" = some none)
    (z_tuple : PySem.W.nsIn K mainGlobals "tuple" = some none)
    (z_list : PySem.W.nsIn K mainGlobals "list" = some none)
    (z_int : PySem.W.nsIn K mainGlobals "int" = some none)
    (z_bool : PySem.W.nsIn K mainGlobals "bool" = some none)
    (z_str : PySem.W.nsIn K mainGlobals "str" = some none)
    (z_range : PySem.W.nsIn K mainGlobals "range" = some none)
    (z_set : PySem.W.nsIn K mainGlobals "set" = some none)
    (z_enumerate : PySem.W.nsIn K mainGlobals "enumerate" = some none)
    (z_zip : PySem.W.nsIn K mainGlobals "zip" = some none)
    (z_dict : PySem.W.nsIn K mainGlobals "dict" = some none)
    (z_abs : PySem.W.nsIn K mainGlobals "abs" = some none)
    (a_cKINDS_ : PySem.W.nsIn K mainGlobals "KINDS" = some (some (.ref a_cKINDS)))
    (l_cKINDS : K.lookup a_cKINDS = some ⟨.type "tuple", none, .seq #[.str "both" t0_KINDS, .str "if" t1_KINDS, .str "not" t2_KINDS, .str "pick" t3_KINDS, .str "swap" t4_KINDS] n_cKINDS, sl_cKINDS⟩)
    (a_cLONGEST_ : PySem.W.nsIn K mainGlobals "LONGEST" = some (some (.int 20 t_cLONGEST)))
    (a_GE_ : PySem.W.nsIn K mainGlobals "GateError" = some (some (.ref a_GE)))
    (z_ValueError : PySem.W.nsIn K mainGlobals "ValueError" = some none)
    (a_eInvalidGate_ : PySem.W.nsIn K mainGlobals "InvalidGate" = some (some (.ref a_eInvalidGate)))
    (a_eInvalidWord_ : PySem.W.nsIn K mainGlobals "InvalidWord" = some (some (.ref a_eInvalidWord)))
    (a_eInvalidLines_ : PySem.W.nsIn K mainGlobals "InvalidLines" = some (some (.ref a_eInvalidLines)))
    (a_eInvalidKinds_ : PySem.W.nsIn K mainGlobals "InvalidKinds" = some (some (.ref a_eInvalidKinds)))
    (a_eInvalidFunction_ : PySem.W.nsIn K mainGlobals "InvalidFunction" = some (some (.ref a_eInvalidFunction)))
    (a_eInvalidAnswers_ : PySem.W.nsIn K mainGlobals "InvalidAnswers" = some (some (.ref a_eInvalidAnswers)))
    (a_eTooMany_ : PySem.W.nsIn K mainGlobals "TooMany" = some (some (.ref a_eTooMany)))
    (a_eEmpty_ : PySem.W.nsIn K mainGlobals "Empty" = some (some (.ref a_eEmpty)))
    (a_eNothingToUndo_ : PySem.W.nsIn K mainGlobals "NothingToUndo" = some (some (.ref a_eNothingToUndo)))
    (a_eInvalidCircuit_ : PySem.W.nsIn K mainGlobals "InvalidCircuit" = some (some (.ref a_eInvalidCircuit)))
    (x_eInvalidCircuit : PySem.W.excIn K a_eInvalidCircuit [.type "ValueError", .type "Exception", .type "BaseException", .type "object"] "ValueError.__new__" = true)
    (k_eInvalidCircuit : PySem.W.keepIn K (.ref a_eInvalidCircuit) = true)
    (b_eInvalidCircuit : PySem.W.subIn K (.ref a_eInvalidCircuit) (.type "BaseException") = true)
    (t_eInvalidCircuit : PySem.W.typeIn K (.ref a_eInvalidCircuit) = some (.type "type"))
    (a_eInvalidExchange_ : PySem.W.nsIn K mainGlobals "InvalidExchange" = some (some (.ref a_eInvalidExchange)))
    (x_eInvalidExchange : PySem.W.excIn K a_eInvalidExchange [.type "ValueError", .type "Exception", .type "BaseException", .type "object"] "ValueError.__new__" = true)
    (k_eInvalidExchange : PySem.W.keepIn K (.ref a_eInvalidExchange) = true)
    (b_eInvalidExchange : PySem.W.subIn K (.ref a_eInvalidExchange) (.type "BaseException") = true)
    (t_eInvalidExchange : PySem.W.typeIn K (.ref a_eInvalidExchange) = some (.type "type"))
    (a_eInvalidText_ : PySem.W.nsIn K mainGlobals "InvalidText" = some (some (.ref a_eInvalidText)))
    (x_eInvalidText : PySem.W.excIn K a_eInvalidText [.type "ValueError", .type "Exception", .type "BaseException", .type "object"] "ValueError.__new__" = true)
    (k_eInvalidText : PySem.W.keepIn K (.ref a_eInvalidText) = true)
    (b_eInvalidText : PySem.W.subIn K (.ref a_eInvalidText) (.type "BaseException") = true)
    (t_eInvalidText : PySem.W.typeIn K (.ref a_eInvalidText) = some (.type "type"))
    (exok : excOk K a_GE (fun c => match c with | 0 => a_eInvalidGate | 1 => a_eInvalidCircuit | 2 => a_eInvalidWord | 3 => a_eInvalidExchange | 4 => a_eInvalidLines | 5 => a_eInvalidKinds | 6 => a_eInvalidFunction | 7 => a_eInvalidAnswers | 8 => a_eInvalidText | 9 => a_eTooMany | 10 => a_eEmpty | 11 => a_eNothingToUndo | _ => 0) = true) :
    LamX.LawAtS l w K (L2.CX l.prog w) 8 63 "script" mg fa h := by
  have e := hfa.symm.trans (PySem.W.mg_of X G a_law)
  cases e
  have M : Mg K w mg ⟨[(P_law_by_hand, "_law_by_hand" ++ ".<locals>." ++ "<lambda>"), (P_law, "law" ++ ".<locals>." ++ "<lambda>")], (fun c => match c with | 0 => a_eInvalidGate | 1 => a_eInvalidCircuit | 2 => a_eInvalidWord | 3 => a_eInvalidExchange | 4 => a_eInvalidLines | 5 => a_eInvalidKinds | 6 => a_eInvalidFunction | 7 => a_eInvalidAnswers | 8 => a_eInvalidText | 9 => a_eTooMany | 10 => a_eEmpty | 11 => a_eNothingToUndo | _ => 0), K, 0⟩ := ⟨⟨PySem.W.mg_none_of X G z_len, PySem.W.mg_none_of X G z_all, PySem.W.mg_none_of X G z_any, PySem.W.mg_none_of X G z_sum, PySem.W.mg_none_of X G z_sorted, PySem.W.mg_none_of X G z_min, PySem.W.mg_none_of X G z_max, PySem.W.mg_none_of X G z_isinstance, PySem.W.mg_none_of X G z_tuple, PySem.W.mg_none_of X G z_list, PySem.W.mg_none_of X G z_int, PySem.W.mg_none_of X G z_bool, PySem.W.mg_none_of X G z_str, PySem.W.mg_none_of X G z_range, PySem.W.mg_none_of X G z_set, PySem.W.mg_none_of X G z_enumerate, PySem.W.mg_none_of X G z_zip, PySem.W.mg_none_of X G z_dict, PySem.W.mg_none_of X G z_abs⟩, rfl, ⟨_, PySem.W.mg_of X G a_cKINDS_, fun g => .tup (xs := [.str "both", .str "if", .str "not", .str "pick", .str "swap"]) (.inr ⟨_, _, _, l_cKINDS, rfl, rfl, Nat.le_of_ble_eq_true rfl, (.cons ⟨_, rfl⟩ (.cons ⟨_, rfl⟩ (.cons ⟨_, rfl⟩ (.cons ⟨_, rfl⟩ (.cons ⟨_, rfl⟩ .nil))))), rfl⟩) (.cons (.str _) (.cons (.str _) (.cons (.str _) (.cons (.str _) (.cons (.str _) .nil)))))⟩, ⟨_, PySem.W.mg_of X G a_cLONGEST_⟩, ⟨PySem.W.mg_of X G a_eInvalidCircuit_, x_eInvalidCircuit, k_eInvalidCircuit, b_eInvalidCircuit, t_eInvalidCircuit⟩, ⟨PySem.W.mg_of X G a_eInvalidExchange_, x_eInvalidExchange, k_eInvalidExchange, b_eInvalidExchange, t_eInvalidExchange⟩, ⟨PySem.W.mg_of X G a_eInvalidText_, x_eInvalidText, k_eInvalidText, b_eInvalidText, t_eInvalidText⟩⟩
  have R : ResF K mg ⟨[(P_law_by_hand, "_law_by_hand" ++ ".<locals>." ++ "<lambda>"), (P_law, "law" ++ ".<locals>." ++ "<lambda>")], (fun c => match c with | 0 => a_eInvalidGate | 1 => a_eInvalidCircuit | 2 => a_eInvalidWord | 3 => a_eInvalidExchange | 4 => a_eInvalidLines | 5 => a_eInvalidKinds | 6 => a_eInvalidFunction | 7 => a_eInvalidAnswers | 8 => a_eInvalidText | 9 => a_eTooMany | 10 => a_eEmpty | 11 => a_eNothingToUndo | _ => 0), K, 0⟩ := ⟨⟨_, _, _, _, _, _, _, _, _, _, _, PySem.W.mg_of X G a_law_result, k_law_result, l_law_result, c_law_result, PySem.W.mg_of X G a_GE_, exok⟩, PySem.W.mg_of X G a_eInvalidGate_, PySem.W.mg_of X G a_eInvalidCircuit_, PySem.W.mg_of X G a_eInvalidWord_, PySem.W.mg_of X G a_eInvalidExchange_, PySem.W.mg_of X G a_eInvalidLines_, PySem.W.mg_of X G a_eInvalidKinds_, PySem.W.mg_of X G a_eInvalidFunction_, PySem.W.mg_of X G a_eInvalidAnswers_, PySem.W.mg_of X G a_eInvalidText_, PySem.W.mg_of X G a_eTooMany_, PySem.W.mg_of X G a_eEmpty_, PySem.W.mg_of X G a_eNothingToUndo_, PySem.W.mg_none_of X G z_ValueError⟩
  have tb_law_by_hand := tb_law_by_hand (tabIn_of a_law_by_hand l_law_by_hand rfl g_law_by_hand v_law_by_hand)
  have tb_law := tb_law (tabIn_of a_law l_law rfl g_law v_law)
  refine ⟨PySem.W.fnOf "law" "law" (defArgs s_law) (defBody s_law) (defScope s_law) .none kV_law dc_law pm_law an_law (.ref ca_law) ct_law, [(ca_law_by_hand, P_law_by_hand), (ca_law, P_law)], spLawT K [(P_law_by_hand, "_law_by_hand" ++ ".<locals>." ++ "<lambda>"), (P_law, "law" ++ ".<locals>." ++ "<lambda>")], (List.forall_mem_cons.mpr ⟨tb_law_by_hand.2, (List.forall_mem_cons.mpr ⟨tb_law.2, (fun _ z => nomatch z)⟩)⟩), (List.forall_mem_cons.mpr ⟨n_law_by_hand, (List.forall_mem_cons.mpr ⟨n_law, (fun _ z => nomatch z)⟩)⟩), (List.forall_mem_cons.mpr ⟨tb_law_by_hand.1, (List.forall_mem_cons.mpr ⟨tb_law.1, (fun _ z => nomatch z)⟩)⟩), fun s v => .of_eq rfl, fun H a ns hl _ hT hS => ⟨a, ns, rfl, hS, hl, ?_, fun _ => rfl⟩, fun base _ _ TB => ?_⟩
  · exact (List.forall_mem_cons.mpr ⟨LamX.TabS.nil (hT _ (.head _)), (List.forall_mem_cons.mpr ⟨LamX.TabS.nil (hT _ (.tail _ (.head _))), (fun _ z => nomatch z)⟩)⟩)
  have Lm_law_by_hand : LamD base mg ⟨[(P_law_by_hand, "_law_by_hand" ++ ".<locals>." ++ "<lambda>"), (P_law, "law" ++ ".<locals>." ++ "<lambda>")], (fun c => match c with | 0 => a_eInvalidGate | 1 => a_eInvalidCircuit | 2 => a_eInvalidWord | 3 => a_eInvalidExchange | 4 => a_eInvalidLines | 5 => a_eInvalidKinds | 6 => a_eInvalidFunction | 7 => a_eInvalidAnswers | 8 => a_eInvalidText | 9 => a_eTooMany | 10 => a_eEmpty | 11 => a_eNothingToUndo | _ => 0), K, 0⟩ "_law_by_hand" ca_law_by_hand := ⟨P_law_by_hand, TB _ (.head _), (.head _), fun p hp e => by
    simp only [List.mem_cons, List.not_mem_nil, or_false] at hp
    rcases hp with rfl | rfl
    · exact rfl
    · exact absurd (Eq.symm e) ne_law_by_hand_law⟩
  have Lm_law : LamD base mg ⟨[(P_law_by_hand, "_law_by_hand" ++ ".<locals>." ++ "<lambda>"), (P_law, "law" ++ ".<locals>." ++ "<lambda>")], (fun c => match c with | 0 => a_eInvalidGate | 1 => a_eInvalidCircuit | 2 => a_eInvalidWord | 3 => a_eInvalidExchange | 4 => a_eInvalidLines | 5 => a_eInvalidKinds | 6 => a_eInvalidFunction | 7 => a_eInvalidAnswers | 8 => a_eInvalidText | 9 => a_eTooMany | 10 => a_eEmpty | 11 => a_eNothingToUndo | _ => 0), K, 0⟩ "law" ca_law := ⟨P_law, TB _ (.tail _ (.head _)), (.tail _ (.head _)), fun p hp e => by
    simp only [List.mem_cons, List.not_mem_nil, or_false] at hp
    rcases hp with rfl | rfl
    · exact absurd e ne_law_by_hand_law
    · exact rfl⟩
  have F_is_between := fun_mk (st := s_is_between) l_is_between c_is_between k_is_between
  have o_is_between := ok_is_between (P := l.prog) (w := w) (base := base) M F_is_between 
  have fd_is_between := Fd.of o_is_between (PySem.W.mg_of X G a_is_between) F_is_between.kp (F_is_between.binds (ps := ["value", "low", "high"]) fun _ _ _ _ _ _ us hl => match us, hl with | [_, _, _], _ => rfl)
  have F_is_gate := fun_mk (st := s_is_gate) l_is_gate c_is_gate k_is_gate
  have o_is_gate := ok_is_gate (P := l.prog) (w := w) (base := base) M F_is_gate fd_is_between
  have fd_is_gate := Fd.of o_is_gate (PySem.W.mg_of X G a_is_gate) F_is_gate.kp (F_is_gate.binds (ps := ["value"]) fun _ _ _ _ _ _ us hl => match us, hl with | [_], _ => rfl)
  have F_is_circuit := fun_mk (st := s_is_circuit) l_is_circuit c_is_circuit k_is_circuit
  have o_is_circuit := ok_is_circuit (P := l.prog) (w := w) (base := base) M F_is_circuit fd_is_gate
  have fd_is_circuit := Fd.of o_is_circuit (PySem.W.mg_of X G a_is_circuit) F_is_circuit.kp (F_is_circuit.binds (ps := ["value"]) fun _ _ _ _ _ _ us hl => match us, hl with | [_], _ => rfl)
  have F_is_exchange := fun_mk (st := s_is_exchange) l_is_exchange c_is_exchange k_is_exchange
  have o_is_exchange := ok_is_exchange (P := l.prog) (w := w) (base := base) M F_is_exchange fd_is_between
  have fd_is_exchange := Fd.of o_is_exchange (PySem.W.mg_of X G a_is_exchange) F_is_exchange.kp (F_is_exchange.binds (ps := ["value"]) fun _ _ _ _ _ _ us hl => match us, hl with | [_], _ => rfl)
  have F_check_circuit := fun_mk (st := s_check_circuit) l_check_circuit c_check_circuit k_check_circuit
  have o_check_circuit := ok_check_circuit (P := l.prog) (w := w) (base := base) M F_check_circuit fd_is_circuit
  have fd_check_circuit := Fd.of o_check_circuit (PySem.W.mg_of X G a_check_circuit) F_check_circuit.kp (F_check_circuit.binds (ps := ["circuit"]) fun _ _ _ _ _ _ us hl => match us, hl with | [_], _ => rfl)
  have F_check_exchange := fun_mk (st := s_check_exchange) l_check_exchange c_check_exchange k_check_exchange
  have o_check_exchange := ok_check_exchange (P := l.prog) (w := w) (base := base) M F_check_exchange fd_is_exchange
  have fd_check_exchange := Fd.of o_check_exchange (PySem.W.mg_of X G a_check_exchange) F_check_exchange.kp (F_check_exchange.binds (ps := ["exchange"]) fun _ _ _ _ _ _ us hl => match us, hl with | [_], _ => rfl)
  have F_gate_text := fun_mk (st := s_gate_text) l_gate_text c_gate_text k_gate_text
  have o_gate_text := ok_gate_text (P := l.prog) (w := w) (base := base) M F_gate_text 
  have fd_gate_text := Fd.of o_gate_text (PySem.W.mg_of X G a_gate_text) F_gate_text.kp (F_gate_text.binds (ps := ["gate"]) fun _ _ _ _ _ _ us hl => match us, hl with | [_], _ => rfl)
  have F_circuit_text := fun_mk (st := s_circuit_text) l_circuit_text c_circuit_text k_circuit_text
  have o_circuit_text := ok_circuit_text (P := l.prog) (w := w) (base := base) M F_circuit_text fd_gate_text
  have fd_circuit_text := Fd.of o_circuit_text (PySem.W.mg_of X G a_circuit_text) F_circuit_text.kp (F_circuit_text.binds (ps := ["circuit"]) fun _ _ _ _ _ _ us hl => match us, hl with | [_], _ => rfl)
  have F_format_circuit := fun_mk (st := s_format_circuit) l_format_circuit c_format_circuit k_format_circuit
  have o_format_circuit := ok_format_circuit (P := l.prog) (w := w) (base := base) M F_format_circuit fd_check_circuit fd_circuit_text
  have fd_format_circuit := Fd.of o_format_circuit (PySem.W.mg_of X G a_format_circuit) F_format_circuit.kp (F_format_circuit.binds (ps := ["circuit"]) fun _ _ _ _ _ _ us hl => match us, hl with | [_], _ => rfl)
  have fk0_format_circuit := FdK.of (n := 0) (ks := ["circuit"]) o_format_circuit (PySem.W.mg_of X G a_format_circuit) F_format_circuit.kp rfl (F_format_circuit.kb fun _ _ _ _ _ _ us ws h1 h2 => match us, ws, h1, h2 with | [], [_], _, _ => rfl)
  have F_exchange_text := fun_mk (st := s_exchange_text) l_exchange_text c_exchange_text k_exchange_text
  have o_exchange_text := ok_exchange_text (P := l.prog) (w := w) (base := base) M F_exchange_text 
  have fd_exchange_text := Fd.of o_exchange_text (PySem.W.mg_of X G a_exchange_text) F_exchange_text.kp (F_exchange_text.binds (ps := ["exchange"]) fun _ _ _ _ _ _ us hl => match us, hl with | [_], _ => rfl)
  have F_format_exchange := fun_mk (st := s_format_exchange) l_format_exchange c_format_exchange k_format_exchange
  have o_format_exchange := ok_format_exchange (P := l.prog) (w := w) (base := base) M F_format_exchange fd_check_exchange fd_exchange_text
  have fk0_format_exchange := FdK.of (n := 0) (ks := ["exchange"]) o_format_exchange (PySem.W.mg_of X G a_format_exchange) F_format_exchange.kp rfl (F_format_exchange.kb fun _ _ _ _ _ _ us ws h1 h2 => match us, ws, h1, h2 with | [], [_], _, _ => rfl)
  have fd_format_exchange := Fd.of o_format_exchange (PySem.W.mg_of X G a_format_exchange) F_format_exchange.kp (F_format_exchange.binds (ps := ["exchange"]) fun _ _ _ _ _ _ us hl => match us, hl with | [_], _ => rfl)
  have F_read_digits := fun_mk (st := s_read_digits) l_read_digits c_read_digits k_read_digits
  have o_read_digits := ok_read_digits (P := l.prog) (w := w) (base := base) M F_read_digits 
  have fd_read_digits := Fd.of o_read_digits (PySem.W.mg_of X G a_read_digits) F_read_digits.kp (F_read_digits.binds (ps := ["words"]) fun _ _ _ _ _ _ us hl => match us, hl with | [_], _ => rfl)
  have F_read_gate := fun_mk (st := s_read_gate) l_read_gate c_read_gate k_read_gate
  have o_read_gate := ok_read_gate (P := l.prog) (w := w) (base := base) M F_read_gate fd_read_digits
  have fd_read_gate := Fd.of o_read_gate (PySem.W.mg_of X G a_read_gate) F_read_gate.kp (F_read_gate.binds (ps := ["word"]) fun _ _ _ _ _ _ us hl => match us, hl with | [_], _ => rfl)
  have F_parse_circuit := fun_mk (st := s_parse_circuit) l_parse_circuit c_parse_circuit k_parse_circuit
  have o_parse_circuit := ok_parse_circuit (P := l.prog) (w := w) (base := base) M F_parse_circuit fd_read_gate fd_is_circuit fd_circuit_text
  have fd_parse_circuit := Fd.of o_parse_circuit (PySem.W.mg_of X G a_parse_circuit) F_parse_circuit.kp (F_parse_circuit.binds (ps := ["text"]) fun _ _ _ _ _ _ us hl => match us, hl with | [_], _ => rfl)
  have fk0_parse_circuit := FdK.of (n := 0) (ks := ["text"]) o_parse_circuit (PySem.W.mg_of X G a_parse_circuit) F_parse_circuit.kp rfl (F_parse_circuit.kb fun _ _ _ _ _ _ us ws h1 h2 => match us, ws, h1, h2 with | [], [_], _, _ => rfl)
  have F_parse_exchange := fun_mk (st := s_parse_exchange) l_parse_exchange c_parse_exchange k_parse_exchange
  have o_parse_exchange := ok_parse_exchange (P := l.prog) (w := w) (base := base) M F_parse_exchange fd_read_digits fd_is_exchange
  have fd_parse_exchange := Fd.of o_parse_exchange (PySem.W.mg_of X G a_parse_exchange) F_parse_exchange.kp (F_parse_exchange.binds (ps := ["text"]) fun _ _ _ _ _ _ us hl => match us, hl with | [_], _ => rfl)
  have fk0_parse_exchange := FdK.of (n := 0) (ks := ["text"]) o_parse_exchange (PySem.W.mg_of X G a_parse_exchange) F_parse_exchange.kp rfl (F_parse_exchange.kb fun _ _ _ _ _ _ us ws h1 h2 => match us, ws, h1, h2 with | [], [_], _, _ => rfl)
  have F_law_draw := fun_mk (st := s_law_draw) l_law_draw c_law_draw k_law_draw
  have o_law_draw := ok_law_draw (P := l.prog) (w := w) (base := base) M F_law_draw 
  have fd_law_draw := Fd.of o_law_draw (PySem.W.mg_of X G a_law_draw) F_law_draw.kp (F_law_draw.binds (ps := ["script", "town", "many"]) fun _ _ _ _ _ _ us hl => match us, hl with | [_, _, _], _ => rfl)
  have F_law_begun := fun_mk (st := s_law_begun) l_law_begun c_law_begun k_law_begun
  have o_law_begun := ok_law_begun (P := l.prog) (w := w) (base := base) M F_law_begun 
  have fd_law_begun := Fd.of o_law_begun (PySem.W.mg_of X G a_law_begun) F_law_begun.kp (F_law_begun.binds (ps := []) fun _ _ _ _ _ _ us hl => match us, hl with | [], _ => rfl)
  have F_law_gates := fun_mk (st := s_law_gates) l_law_gates c_law_gates k_law_gates
  have o_law_gates := ok_law_gates (P := l.prog) (w := w) (base := base) M F_law_gates 
  have fd_law_gates := Fd.of o_law_gates (PySem.W.mg_of X G a_law_gates) F_law_gates.kp (F_law_gates.binds (ps := []) fun _ _ _ _ _ _ us hl => match us, hl with | [], _ => rfl)
  have F_law_circuit := fun_mk (st := s_law_circuit) l_law_circuit c_law_circuit k_law_circuit
  have o_law_circuit := ok_law_circuit (P := l.prog) (w := w) (base := base) M F_law_circuit fd_law_gates fd_law_draw
  have fd_law_circuit := Fd.of o_law_circuit (PySem.W.mg_of X G a_law_circuit) F_law_circuit.kp (F_law_circuit.binds (ps := ["script", "town", "kinds", "most"]) fun _ _ _ _ _ _ us hl => match us, hl with | [_, _, _, _], _ => rfl)
  have F_law_exchange := fun_mk (st := s_law_exchange) l_law_exchange c_law_exchange k_law_exchange
  have o_law_exchange := ok_law_exchange (P := l.prog) (w := w) (base := base) M F_law_exchange fd_law_draw
  have fd_law_exchange := Fd.of o_law_exchange (PySem.W.mg_of X G a_law_exchange) F_law_exchange.kp (F_law_exchange.binds (ps := ["script", "town"]) fun _ _ _ _ _ _ us hl => match us, hl with | [_, _], _ => rfl)
  have F_law_written := fun_mk (st := s_law_written) l_law_written c_law_written k_law_written
  have o_law_written := ok_law_written (P := l.prog) (w := w) (base := base) M F_law_written 
  have fd_law_written := Fd.of o_law_written (PySem.W.mg_of X G a_law_written) F_law_written.kp (F_law_written.binds (ps := ["circuit_here"]) fun _ _ _ _ _ _ us hl => match us, hl with | [_], _ => rfl)
  have F_law_digits := fun_mk (st := s_law_digits) l_law_digits c_law_digits k_law_digits
  have o_law_digits := ok_law_digits (P := l.prog) (w := w) (base := base) M F_law_digits 
  have fd_law_digits := Fd.of o_law_digits (PySem.W.mg_of X G a_law_digits) F_law_digits.kp (F_law_digits.binds (ps := ["exchange_here"]) fun _ _ _ _ _ _ us hl => match us, hl with | [_], _ => rfl)
  have F_law_changed := fun_mk (st := s_law_changed) l_law_changed c_law_changed k_law_changed
  have o_law_changed := ok_law_changed (P := l.prog) (w := w) (base := base) M F_law_changed fd_law_draw
  have fd_law_changed := Fd.of o_law_changed (PySem.W.mg_of X G a_law_changed) F_law_changed.kp (F_law_changed.binds (ps := ["script", "town", "text_here"]) fun _ _ _ _ _ _ us hl => match us, hl with | [_, _, _], _ => rfl)
  have F_law_by_hand := fun_mk (st := s_law_by_hand) l_law_by_hand c_law_by_hand k_law_by_hand
  have o_law_by_hand := ok_law_by_hand (P := l.prog) (w := w) (base := base) M l_law_by_hand c_law_by_hand R Lm_law_by_hand fd_parse_circuit fd_parse_exchange fd_format_circuit
  have fd_law_by_hand := Fd.of o_law_by_hand (PySem.W.mg_of X G a_law_by_hand) F_law_by_hand.kp (F_law_by_hand.binds (ps := []) fun _ _ _ _ _ _ us hl => match us, hl with | [], _ => rfl)
  have F_law := fun_mk (st := s_law) l_law c_law k_law
  have o_law := ok_law (P := l.prog) (w := w) (base := base) M l_law c_law R Lm_law fd_law_begun fd_law_circuit fd_law_exchange fd_law_written fd_law_digits fk0_format_circuit fk0_parse_circuit fk0_format_exchange fk0_parse_exchange fd_law_changed fd_law_by_hand fd_parse_circuit fd_parse_exchange fd_format_circuit fd_format_exchange
  exact o_law.imp (law_impT (C := ⟨[(P_law_by_hand, "_law_by_hand" ++ ".<locals>." ++ "<lambda>"), (P_law, "law" ++ ".<locals>." ++ "<lambda>")], (fun c => match c with | 0 => a_eInvalidGate | 1 => a_eInvalidCircuit | 2 => a_eInvalidWord | 3 => a_eInvalidExchange | 4 => a_eInvalidLines | 5 => a_eInvalidKinds | 6 => a_eInvalidFunction | 7 => a_eInvalidAnswers | 8 => a_eInvalidText | 9 => a_eTooMany | 10 => a_eEmpty | 11 => a_eNothingToUndo | _ => 0), K, 0⟩) law_true)
end K26
open PySem PySem.W PyProof.Rows
set_option maxHeartbeats 0 in
theorem PySem.Challenge.cw_backgates_k26_texts_holds : PySem.Challenge.rw_backgates_k26_texts.Holds := by
  w_on; o_law; k_head; (case hw => w_witness2)
  k_fill
  refine BG.walk_ofTab (l := PySem.Challenge.rw_backgates_k26_texts) (n := 63) (k := 8) (x := "script") (CX := fun w => L2.CX PySem.Challenge.rw_backgates_k26_texts.prog w) rfl (by decide) rfl ⟨rfl, by decide, by decide⟩ (fun w h Y => by first | exact PySem.W.kIn_of Y | exact PySem.W.km_in_of Y) ?F (fun _ _ _ _ _ h => BG.cx_no h)
  case F =>
    intro w mg fa h Y KX G hmg hTab
    refine' K26.all_mk KX G hmg ?a_is_between ?l_is_between ?c_is_between ?k_is_between ?a_is_gate ?l_is_gate ?c_is_gate ?k_is_gate ?a_is_circuit ?l_is_circuit ?c_is_circuit ?k_is_circuit ?a_is_exchange ?l_is_exchange ?c_is_exchange ?k_is_exchange ?a_check_circuit ?l_check_circuit ?c_check_circuit ?k_check_circuit ?a_check_exchange ?l_check_exchange ?c_check_exchange ?k_check_exchange ?a_gate_text ?l_gate_text ?c_gate_text ?k_gate_text ?a_circuit_text ?l_circuit_text ?c_circuit_text ?k_circuit_text ?a_format_circuit ?l_format_circuit ?c_format_circuit ?k_format_circuit ?a_exchange_text ?l_exchange_text ?c_exchange_text ?k_exchange_text ?a_format_exchange ?l_format_exchange ?c_format_exchange ?k_format_exchange ?a_read_digits ?l_read_digits ?c_read_digits ?k_read_digits ?a_read_gate ?l_read_gate ?c_read_gate ?k_read_gate ?a_parse_circuit ?l_parse_circuit ?c_parse_circuit ?k_parse_circuit ?a_parse_exchange ?l_parse_exchange ?c_parse_exchange ?k_parse_exchange ?a_law_draw ?l_law_draw ?c_law_draw ?k_law_draw ?a_law_begun ?l_law_begun ?c_law_begun ?k_law_begun ?a_law_gates ?l_law_gates ?c_law_gates ?k_law_gates ?a_law_circuit ?l_law_circuit ?c_law_circuit ?k_law_circuit ?a_law_exchange ?l_law_exchange ?c_law_exchange ?k_law_exchange ?a_law_written ?l_law_written ?c_law_written ?k_law_written ?a_law_digits ?l_law_digits ?c_law_digits ?k_law_digits ?a_law_changed ?l_law_changed ?c_law_changed ?k_law_changed ?a_law_by_hand ?l_law_by_hand ?c_law_by_hand ?k_law_by_hand ?g_law_by_hand ?v_law_by_hand ?n_law_by_hand ?tb_law_by_hand ?a_law ?l_law ?c_law ?k_law ?g_law ?v_law ?n_law ?tb_law ?a_law_result ?l_law_result ?c_law_result ?k_law_result ?ne_law_by_hand_law ?z_len ?z_all ?z_any ?z_sum ?z_sorted ?z_min ?z_max ?z_isinstance ?z_tuple ?z_list ?z_int ?z_bool ?z_str ?z_range ?z_set ?z_enumerate ?z_zip ?z_dict ?z_abs ?a_cKINDS_ ?l_cKINDS ?a_cLONGEST_ ?a_GE_ ?z_ValueError ?a_eInvalidGate_ ?a_eInvalidWord_ ?a_eInvalidLines_ ?a_eInvalidKinds_ ?a_eInvalidFunction_ ?a_eInvalidAnswers_ ?a_eTooMany_ ?a_eEmpty_ ?a_eNothingToUndo_ ?a_eInvalidCircuit_ ?x_eInvalidCircuit ?k_eInvalidCircuit ?b_eInvalidCircuit ?t_eInvalidCircuit ?a_eInvalidExchange_ ?x_eInvalidExchange ?k_eInvalidExchange ?b_eInvalidExchange ?t_eInvalidExchange ?a_eInvalidText_ ?x_eInvalidText ?k_eInvalidText ?b_eInvalidText ?t_eInvalidText ?exok
    (case a_is_between => k_is); (case l_is_between => k_is); (case c_is_between => k_is); (case k_is_between => k_is); (case a_is_gate => k_is); (case l_is_gate => k_is); (case c_is_gate => k_is); (case k_is_gate => k_is); (case a_is_circuit => k_is); (case l_is_circuit => k_is); (case c_is_circuit => k_is); (case k_is_circuit => k_is); (case a_is_exchange => k_is); (case l_is_exchange => k_is); (case c_is_exchange => k_is); (case k_is_exchange => k_is); (case a_check_circuit => k_is); (case l_check_circuit => k_is); (case c_check_circuit => k_is); (case k_check_circuit => k_is); (case a_check_exchange => k_is); (case l_check_exchange => k_is); (case c_check_exchange => k_is); (case k_check_exchange => k_is); (case a_gate_text => k_is); (case l_gate_text => k_is); (case c_gate_text => k_is); (case k_gate_text => k_is); (case a_circuit_text => k_is); (case l_circuit_text => k_is); (case c_circuit_text => k_is); (case k_circuit_text => k_is); (case a_format_circuit => k_is); (case l_format_circuit => k_is); (case c_format_circuit => k_is); (case k_format_circuit => k_is); (case a_exchange_text => k_is); (case l_exchange_text => k_is); (case c_exchange_text => k_is); (case k_exchange_text => k_is); (case a_format_exchange => k_is); (case l_format_exchange => k_is); (case c_format_exchange => k_is); (case k_format_exchange => k_is); (case a_read_digits => k_is); (case l_read_digits => k_is); (case c_read_digits => k_is); (case k_read_digits => k_is); (case a_read_gate => k_is); (case l_read_gate => k_is); (case c_read_gate => k_is); (case k_read_gate => k_is); (case a_parse_circuit => k_is); (case l_parse_circuit => k_is); (case c_parse_circuit => k_is); (case k_parse_circuit => k_is); (case a_parse_exchange => k_is); (case l_parse_exchange => k_is); (case c_parse_exchange => k_is); (case k_parse_exchange => k_is); (case a_law_draw => k_is); (case l_law_draw => k_is); (case c_law_draw => k_is); (case k_law_draw => k_is); (case a_law_begun => k_is); (case l_law_begun => k_is); (case c_law_begun => k_is); (case k_law_begun => k_is); (case a_law_gates => k_is); (case l_law_gates => k_is); (case c_law_gates => k_is); (case k_law_gates => k_is); (case a_law_circuit => k_is); (case l_law_circuit => k_is); (case c_law_circuit => k_is); (case k_law_circuit => k_is); (case a_law_exchange => k_is); (case l_law_exchange => k_is); (case c_law_exchange => k_is); (case k_law_exchange => k_is); (case a_law_written => k_is); (case l_law_written => k_is); (case c_law_written => k_is); (case k_law_written => k_is); (case a_law_digits => k_is); (case l_law_digits => k_is); (case c_law_digits => k_is); (case k_law_digits => k_is); (case a_law_changed => k_is); (case l_law_changed => k_is); (case c_law_changed => k_is); (case k_law_changed => k_is); (case a_law_by_hand => k_is); (case l_law_by_hand => k_is); (case c_law_by_hand => k_is); (case k_law_by_hand => k_is); (case g_law_by_hand => k_is); (case v_law_by_hand => rfl); (case n_law_by_hand => kernel_rfl); (case tb_law_by_hand => exact hTab _ _ _ (by decide +kernel)); (case a_law => k_is); (case l_law => k_is); (case c_law => k_is); (case k_law => k_is); (case g_law => k_is); (case v_law => rfl); (case n_law => kernel_rfl); (case tb_law => exact hTab _ _ _ (by decide +kernel)); (case a_law_result => k_is); (case l_law_result => k_is); (case c_law_result => k_is); (case k_law_result => k_is); (case ne_law_by_hand_law => decide); (case z_len => k_is); (case z_all => k_is); (case z_any => k_is); (case z_sum => k_is); (case z_sorted => k_is); (case z_min => k_is); (case z_max => k_is); (case z_isinstance => k_is); (case z_tuple => k_is); (case z_list => k_is); (case z_int => k_is); (case z_bool => k_is); (case z_str => k_is); (case z_range => k_is); (case z_set => k_is); (case z_enumerate => k_is); (case z_zip => k_is); (case z_dict => k_is); (case z_abs => k_is); (case a_cKINDS_ => k_is); (case l_cKINDS => k_is); (case a_cLONGEST_ => k_is); (case a_GE_ => k_is); (case z_ValueError => k_is); (case a_eInvalidGate_ => k_is); (case a_eInvalidWord_ => k_is); (case a_eInvalidLines_ => k_is); (case a_eInvalidKinds_ => k_is); (case a_eInvalidFunction_ => k_is); (case a_eInvalidAnswers_ => k_is); (case a_eTooMany_ => k_is); (case a_eEmpty_ => k_is); (case a_eNothingToUndo_ => k_is); (case a_eInvalidCircuit_ => k_is); (case x_eInvalidCircuit => k_exc); (case k_eInvalidCircuit => k_is); (case b_eInvalidCircuit => k_is); (case t_eInvalidCircuit => k_is); (case a_eInvalidExchange_ => k_is); (case x_eInvalidExchange => k_exc); (case k_eInvalidExchange => k_is); (case b_eInvalidExchange => k_is); (case t_eInvalidExchange => k_is); (case a_eInvalidText_ => k_is); (case x_eInvalidText => k_exc); (case k_eInvalidText => k_is); (case b_eInvalidText => k_is); (case t_eInvalidText => k_is); (case exok => kernel_rfl)
