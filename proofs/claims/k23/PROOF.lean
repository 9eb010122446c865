import PyProof.Rows.All
import Wide.All
import OpenK.AllK
import Wide.FinOn
import HandS.ForMost
import HandS.ForExc
import HandS.IsInst
import HandS.TupAny
import HandS.TupMul
import HandS.Deep
import HandS.Zip
import HandS.Conv
import HandS.SetFor
import HandS.Lambda
import KE.SortData
import HandS.Set
import HandS.Iter
import KE.KExcIs
import HandS.EndTab
import KE.KNest
import KE.GoesMore
import KE.DataFind
import KE.KIndexOf
import HandS.Style
import HandS.Strs
import HandS.More
import HandS.TupSets
import HandS.Sort
import KE.KDictWalk
import KE.KDictKeyed
import KE.KDictDisplayH
import KE.KDictCopyH
import HandS.TupLen
import KE.DataMinMax
import HandS.CallLocal
import HandS.FStr
import HandS.OwnEq
import HandS.MakeKwOnly
import HandS.Codes
import KE.KFmtOwn
import PySem.Challenge.RW_backgates_k23_sessions
set_option Elab.async false
set_option linter.all false
set_option maxRecDepth 100000
set_option maxHeartbeats 4000000
namespace BG
open PySem PySem.Spec PyProof.Rows L2
/-- a new tuple, its object kept -/
abbrev NewT (H : Hp) (Q : VK) (xs : List V) : Prop := ∀ p ob, H p = none → Obj.dict ob = none → Obj.cls ob = .type "tuple" → Q (.ref p) (upd H p (.frz ob (.tup xs)))
section
variable {X : Cx} {pins : List (Addr × Obj)} {σ : L2.St} {H : Hp} {s : Shared}
theorem newT_laid {xs : List V} {us : List Value} {Q : VK} {h1 : Heap} {tk : Nat} (I1 : Inv X pins σ H { s with heap := h1, toks := tk }) (r : Vals xs us) (z : xs.length ≤ sizeLine) (q : NewT H Q xs) :
    EP X pins σ Q (.ref h1.objs.size) { s with heap := h1.push { cls := .type "tuple", data := .seq us.toArray }, toks := tk } := by
  have gt : (h1.push { cls := .type "tuple", data := .seq us.toArray }).get? h1.objs.size = some { cls := .type "tuple", data := .seq us.toArray } := Heap.get?_push_size _ rfl
  refine ⟨.ref h1.objs.size, upd H h1.objs.size (.frz { cls := .type "tuple", data := .seq us.toArray } (.tup xs)), ?_, rfl, q _ _ (I1.hok.fresh (Nat.le_refl _)) rfl rfl⟩
  exact I1.laid (a := h1.objs.size) (t' := tk) (fun b u e => Heap.get?_push_of_some _ e) (Nat.le_refl _) ⟨gt, z, us, r, ⟨_, gt, rfl, _, rfl⟩⟩
end
section
variable {X : Cx}
def tTupN (t : TA) : TE := fun σ H Q => t σ H fun xs H1 => xs.length ≤ sizeLine ∧ NewT H1 Q xs
theorem pe_tupN {es : List Expr} {t : TA} {x1} {pos : Pos} (h : PA X es t) : PE X (.Tuple es x1 pos) (tTupN t) := ⟨fun pins s σ H Q I hq =>
  wpAny_Tuple_spliced (thn (h.run pos pins s σ H _ I hq) fun us s1 ⟨xs, H1, I1, r, z, q⟩ => ⟨r.length ▸ z, newT_laid (s := s1) (h1 := s1.heap) (tk := s1.toks) I1 r z q⟩)⟩
def rCatN (K : PySem.W.Frag) : R2 := fun x y H Q => ∃ a b xs ys, x = .ref a ∧ y = .ref b ∧ SqT K H a xs ∧ SqT K H b ys ∧ xs.length + ys.length ≤ sizeLine ∧
  (xs = [] → Q (.ref b) H) ∧ (xs ≠ [] → ys = [] → Q (.ref a) H) ∧ (xs ≠ [] → ys ≠ [] → NewT H Q (xs ++ ys))
theorem op_catN : OpR X (binaryOp .Add) (rCatN X.K) := fun pins s σ H x y v u Q I rx ry h => by
  obtain ⟨a, b, xs, ys, rfl, rfl, ha, hb, hz, q0, q1, q2⟩ := h
  cases rx; cases ry
  obtain ⟨us, r1, p1, _⟩ := I.tuple ha
  obtain ⟨ws, r2, p2, _⟩ := I.tuple hb
  by_cases hx : xs = []
  · subst hx
    cases r1
    exact L2.cat_tup0 p1 p2 ⟨.ref b, H, I, rfl, q0 rfl⟩
  · refine HT.cat_tup p1 p2 (fun z => hx (r1.nil_iff.mp z)) (fun z => ⟨.ref a, H, I, rfl, q1 hx (r2.nil_iff.mp z)⟩) (fun z => ?_) (by rw [← r1.length, ← r2.length]; exact hz)
    exact newT_laid (s := s) (h1 := s.heap) (tk := s.toks) I (r1.append r2) (by rw [List.length_append]; exact hz) (q2 hx fun e => z (r2.nil_iff.mpr e))
def rSlN (K : PySem.W.Frag) : V → Option Int → Option Int → Hp → VK → Prop := fun x lo hi H Q => ∃ a xs, x = .ref a ∧ SqT K H a xs ∧
  (HT.sIx xs.length 0 lo = 0 ∧ HT.sIx xs.length xs.length hi = xs.length → Q (.ref a) H) ∧ (¬ (HT.sIx xs.length 0 lo = 0 ∧ HT.sIx xs.length xs.length hi = xs.length) → NewT H Q (cutV xs lo hi))
theorem sl_tupN : SlR X (rSlN X.K) := fun pins s σ H x v vl vu lo hi sl Q I rx hs pl pu h => by
  obtain ⟨a, xs, rfl, hx, q1, q2⟩ := h
  cases rx
  obtain ⟨us, r, ht, hz⟩ := I.tuple hx
  have el : us.toArray.size = xs.length := by rw [List.size_toArray, r.length]
  refine ⟨"tuple", _, PyProof.Rows.slot_tuple_getitem.lookup, ht.typeIs, ?_⟩
  by_cases hw : HT.sIx xs.length 0 lo = 0 ∧ HT.sIx xs.length xs.length hi = xs.length
  · exact L2.getItem_tuple_whole ht hs pl pu (by rw [el]; exact hw) ⟨.ref a, H, I, rfl, q1 hw⟩
  · refine HT.getItem_tuple_cut ht hs pl pu (by rw [el]; exact hw) ?_ (by rw [el]; exact hz)
    rw [el]
    exact newT_laid (s := s) (h1 := s.heap) (tk := s.toks) I ((r.drop (HT.sIx xs.length 0 lo)).take (HT.sIx xs.length xs.length hi - HT.sIx xs.length 0 lo)) (Nat.le_trans (cutV_length xs lo hi) hz) (q2 hw)
theorem call_tupN : CallR X (.type "tuple") (fun xs H Q => ∃ p ys, xs = [.ref p] ∧ ((SqL X.K H p ys ∧ NewT H Q ys) ∨ (SqT X.K H p ys ∧ Q (.ref p) H))) := fun pins s σ H xs us Q I r h => by
  obtain ⟨p, ys, rfl, h⟩ := h
  obtain ⟨u, rfl, ru⟩ := vals1 r
  cases ru
  rcases h with ⟨hq, q⟩ | ⟨hq, q⟩
  · obtain ⟨ws, rw', pl, hz⟩ := I.list hq
    have el := rw'.length
    refine call_tuple_list pl.isList (fun h' kp => ?_) (by simp only [List.size_toArray] <;> omega)
    have I1 : Inv X pins σ H { s with heap := h' } := I.kept (t' := s.toks) kp
    exact newT_laid (s := s) (h1 := h') (tk := s.toks) I1 rw' hz q
  · obtain ⟨ws, _, pt, _⟩ := I.tuple hq
    exact call_tuple_same pt ⟨.ref p, H, I, rfl, q⟩
def rRepN (K : PySem.W.Frag) : R2 := fun x y H Q => ∃ l k xs, x = .ref l ∧ y = .int k ∧ SqT K H l xs ∧ xs ≠ [] ∧ 2 ≤ k ∧ k ≤ 1000 ∧ xs.length ≤ 1000 ∧ NewT H Q (List.replicate k.toNat xs).flatten
theorem op_repN : OpR X (binaryOp .Mult) (rRepN X.K) := fun pins s σ H x y v u Q I rx ry h => by
  obtain ⟨l, k, xs, rfl, rfl, hT, hne, h1, h2, hz, q⟩ := h
  cases rx
  obtain ⟨tok, rfl⟩ := ry
  obtain ⟨us, r, ⟨⟨cl, dd, dt, slt⟩, ho, hcl, m, hdt⟩, hs⟩ := I.tuple hT
  have ecl : cl = .type "tuple" := hcl
  have edt : dt = .seq us.toArray m := hdt
  subst ecl edt
  have el : us.length = xs.length := r.length.symm
  have es : us.toArray.size = xs.length := by rw [List.size_toArray, el]
  have emp : us.toArray.isEmpty = false := by
    cases us with
    | nil => exact absurd (List.eq_nil_of_length_eq_zero el.symm) hne
    | cons _ _ => rfl
  have small : ((us.toArray.size : Nat) : Int) * k ≤ 1000000 := by
    rw [es]
    exact Int.le_trans (Int.mul_le_mul_of_nonneg_right (show ((xs.length : Nat) : Int) ≤ 1000 by omega) (by omega)) (by omega)
  have wide : k.toNat * xs.length ≤ 1000 * 1000 := Nat.mul_le_mul (by omega) hz
  have fl : (List.replicate k.toNat us).flatten.length ≤ sizeLine := by rw [PyProof.Rows.lm_len_rep_flat, el, sizeLine_eq]; omega
  have b0 : (decide (k < -(2 ^ 63)) || decide (k ≥ 2 ^ 63)) = false := by simp; omega
  have b1 : (us.toArray.isEmpty || k == 1) = false := by rw [emp]; simp; omega
  have b2 : (decide (k ≤ 0) || us.toArray.isEmpty) = false := by rw [emp]; simp; omega
  have b4 : Builtin.Tuple.tupleTooMany (((us.toArray.size : Nat) : Int) * k) = false := by unfold Builtin.Tuple.tupleTooMany; rw [sizeLine_eq]; exact decide_eq_false (by omega)
  have fin := newT_laid (s := s) (h1 := s.heap) (tk := s.toks) I (r.rep k.toNat) (by rw [PyProof.Rows.lm_len_rep_flat, sizeLine_eq]; omega) q
  rw [← size_rep] at fin
  exact wpAny_binaryOp_repeat_ref (T := "tuple") (U := "int") (by decide) ⟨_, ho, rfl⟩ (fun s' => typeIs_int s' k tok) noFill_tuple_mul F.fills_int_mul F.slot_int_rmul repeat_tuple F.slot_int_index.lookup
    (call_meets F.slot_int_rmul (typeIs_int s k tok) F.entry_int_rmul (F.args_int_rmul_2 _ _) (int_rmul_tuple k tok l us.toArray m dd slt)
      ⟨ho, rfl, ⟨_, ho, rfl⟩, call_meets F.slot_tuple_mul ⟨_, ho, rfl⟩ F.entry_tuple_mul (F.args_tuple_mul_2 _ _) (tuple_mulW l us.toArray m dd slt k tok b0 b1 b2 (by omega) b4 (by rw [size_rep, List.size_toArray]; exact fl)) ⟨ho, fin⟩⟩)
end
end BG
set_option Elab.async false
set_option linter.all false
set_option maxRecDepth 100000
set_option maxHeartbeats 4000000
namespace BG
open PySem PySem.Spec PyProof.Rows L2
/-- a value as data: nothing of the heap -/
inductive D where
  | non | bl (b : Bool) | int (i : Int) | str (x : Str) | tup (xs : List D) | lst (xs : List D) | town | scr (ns : List Int) | dct (ks : List Key) (ds : List D) | dTT (ks : List (List Int)) (ds : List D) | hnd (n : Nat)
/-- what may be changed, by its number: a dict with tuples as keys, a list, an instance of the own class -/
inductive Ob where
  | td (ks : List (List Int × D)) | li (ds : List D) | ins (fs : List (Str × D))
/-- the objects, each with the number of its changes -/
abbrev Sto := List (Ob × Nat)
/-- the state: the draws' count and rests (none: not begun); the objects that may be changed -/
abbrev Tn := Option (Int × List (Int × Int)) × Sto
inductive Out (α : Type) where
  | ok (a : α) (t : Tn)
  | exc (c : Nat) (t : Tn)
abbrev M (α : Type) := Tn → Option (Out α)
section
variable {α β : Type}
def ret (a : α) : M α := fun t => some (.ok a t)
def bnd (m : M α) (f : α → M β) : M β := fun t => match m t with
  | some (.ok a t') => f a t'
  | some (.exc c t') => some (.exc c t')
  | none => none
def raise (c : Nat) : M α := fun t => some (.exc c t)
def stuck : M α := fun _ => none
/-- what raises is stuck -/
def calm (m : M α) : M α := fun t => match m t with
  | some (.ok a t') => some (.ok a t')
  | _ => none
theorem bnd_ok {m : M α} {f : α → M β} {t t' : Tn} {a : α} (h : m t = some (.ok a t')) : bnd m f t = f a t' := by
  unfold bnd; rw [h]
theorem bnd_exc {m : M α} {f : α → M β} {t t' : Tn} {c : Nat} (h : m t = some (.exc c t')) : bnd m f t = some (.exc c t') := by
  unfold bnd; rw [h]
theorem ret_bnd (a : α) (f : α → M β) : bnd (ret a) f = f a := rfl
end
/-- a slot: nothing, a value, a list of its own that may be changed -/
inductive SV where
  | un | val (d : D) | own (ds : List D) | dic (ks : List (Key × D)) | raw (v : V) | exn (c : Addr) | dcT (ks : List (List Int × D))
/-- an exception's object of the class cls -/
def ExK (cls : Value) (a : Addr) : HO := .ext fun h => ∃ (oe : Obj) (vs : Array Value), h.get? a = some oe ∧ oe.cls = cls ∧ oe.dict = none ∧ oe.data = .fields vs
/-- an object of one's own -/
def isOw : SV → Bool
  | .own _ => true
  | .dic _ => true
  | .dcT _ => true
  | _ => false
abbrev Sl := List SV
/-- what is frozen; the addresses of the draws' dicts -/
structure G where
  Fz : Hp
  tw : Option (Addr × Addr)
  ad : List Addr
  lg : Nat → Nat → Option HO
def G.isTw (g : G) (b : Addr) : Prop := (∃ p, g.tw = some p ∧ (b = p.1 ∨ b = p.2)) ∨ b ∈ g.ad
/-- the draws' dicts and the objects stay where they are -/
structure TwLe (g g' : G) : Prop where
  t : ∀ p, g.tw = some p → g'.tw = some p
  a : ∀ (n : Nat) (b : Addr), g.ad[n]? = some b → g'.ad[n]? = some b
  l : ∀ (n v : Nat) (o : HO), g.lg n v = some o → g'.lg n v = some o
theorem TwLe.refl (g : G) : TwLe g g := ⟨fun _ h => h, fun _ _ h => h, fun _ _ _ h => h⟩
theorem TwLe.trans {g g1 g2 : G} (x : TwLe g g1) (y : TwLe g1 g2) : TwLe g g2 := ⟨fun p h => y.t p (x.t p h), fun n b h => y.a n b (x.a n b h), fun n v o h => y.l n v o (x.l n v o h)⟩
theorem TwLe.of {g : G} {F : Hp} : TwLe g ⟨F, g.tw, g.ad, g.lg⟩ := ⟨fun _ h => h, fun _ _ h => h, fun _ _ _ h => h⟩
/-- a tuple whose object holds no dict -/
def SqN (K : PySem.W.Frag) (H : Hp) (a : Addr) (xs : List V) : Prop :=
  (∃ o, H a = some (.frz o (.tup xs)) ∧ o.dict = none ∧ o.cls = .type "tuple") ∨
    ∃ (o : Obj) (its : Array Value) (n : Nat), K.lookup a = some o ∧ o.cls = .type "tuple" ∧ o.data = .seq its n ∧ its.size ≤ sizeLine ∧ Vals xs its.toList ∧ o.dict = none
theorem SqN.t {K : PySem.W.Frag} {H : Hp} {a : Addr} {xs : List V} (h : SqN K H a xs) : SqT K H a xs := by
  rcases h with ⟨o, h, _⟩ | ⟨o, its, n, h1, h2, h3, h4, h5, _⟩
  · exact .inl (.inr ⟨o, h⟩)
  · exact .inr ⟨o, its, n, h1, h2, h3, h4, h5⟩
theorem SqN.mono {K : PySem.W.Frag} {H H' : Hp} {a : Addr} {xs : List V} (e : Same H H') (h : SqN K H a xs) : SqN K H' a xs := by
  rcases h with ⟨o, h, q⟩ | h
  · exact .inl ⟨o, e _ _ h, q⟩
  · exact .inr h
/-- a dict whose keys are tuples of ints, by its raw entries: key, the key's address, value -/
def thI (k : List Int) : Int := reduceHash (Builtin.Tuple.tupleHashOf (k.map hashInt))
/-- the epoch, and the entries -/
abbrev DL := Nat × List (List Int × Addr × V)
def DkP (p : Addr) (L : DL) (h : Heap) : Prop := ∃ o es us, h.get? p = some o ∧ o.ExactDict ∧ o.data = .dict es L.1 ∧ Vals (L.2.map (·.2.2)) us ∧ es.toList = (L.2.zip us).map (fun q => (⟨thI q.1.1, .ref q.1.2.1, q.2⟩ : DictEntry)) ∧ (p == sysModules) = false
def DkO (p : Addr) (L : DL) : HO := .ext (DkP p L)
mutual
inductive Rp (K : PySem.W.Frag) (g : G) : V → D → Prop
  | non : Rp K g .non .non
  | bl (b : Bool) : Rp K g (.bl b) (.bl b)
  | int (i : Int) : Rp K g (.int i) (.int i)
  | str (x : Str) : Rp K g (.str x) (.str x)
  | tup {a : Addr} {xs : List V} {ds : List D} : SqN K g.Fz a xs → RpA K g xs ds → Rp K g (.ref a) (.tup ds)
  | lst {a : Addr} {xs : List V} {ds : List D} : g.Fz a = some (.lst xs) → RpA K g xs ds → Rp K g (.ref a) (.lst ds)
  | town {a b : Addr} : g.tw = some (a, b) → Rp K g (.ref a) .town
  | scr {a : Addr} {ns : List Int} : SqL K g.Fz a (ns.map V.int) → Rp K g (.ref a) (.scr ns)
  | dct {a : Addr} {o : Obj} {ks : List Key} {vs : List V} {ds : List D} : g.Fz a = some (.frz o (.dK (ks.zip vs))) → ks.length = vs.length → RpA K g vs ds → Rp K g (.ref a) (.dct ks ds)
  | dTT {a : Addr} {L : DL} {ks : List (List Int)} {ds : List D} : g.Fz a = some (DkO a L) → L.2.map (·.1) = ks → ks.Nodup → (∀ x ∈ L.2, SqN K g.Fz x.2.1 (x.1.map V.int)) → RpA K g (L.2.map (·.2.2)) ds → Rp K g (.ref a) (.dTT ks ds)
  | hnd {a : Addr} {n : Nat} : g.ad[n]? = some a → Rp K g (.ref a) (.hnd n)
inductive RpA (K : PySem.W.Frag) (g : G) : List V → List D → Prop
  | nil : RpA K g [] []
  | cons {v : V} {vs : List V} {d : D} {ds : List D} : Rp K g v d → RpA K g vs ds → RpA K g (v :: vs) (d :: ds)
end
theorem Same.tseq {K : PySem.W.Frag} {H H' : Hp} {a : Addr} {xs : List V} (e : Same H H') (h : SqT K H a xs) : SqT K H' a xs := by
  rcases h with (h | ⟨o, h⟩) | h
  · exact .inl (.inl (e _ _ h))
  · exact .inl (.inr ⟨o, e _ _ h⟩)
  · exact .inr h
section
variable {K : PySem.W.Frag} {g g' : G}
mutual
theorem Rp.mono (f : Same g.Fz g'.Fz) (tw : TwLe g g') : ∀ {d : D} {v : V}, Rp K g v d → Rp K g' v d
  | .non, _, h => by cases h; exact .non
  | .bl b, _, h => by cases h; exact .bl b
  | .int i, _, h => by cases h; exact .int i
  | .str x, _, h => by cases h; exact .str x
  | .tup ds, _, h => by cases h with | tup s a => exact .tup (s.mono f) (RpA.mono f tw a)
  | .lst ds, _, h => by cases h with | lst s a => exact .lst (f _ _ s) (RpA.mono f tw a)
  | .town, _, h => by cases h with | town e => exact .town (tw.t _ e)
  | .scr ns, _, h => by cases h with | scr e => exact .scr (f.seq e)
  | .dct ks ds, _, h => by cases h with | dct e l a => exact .dct (f _ _ e) l (RpA.mono f tw a)
  | .dTT ks ds, _, h => by cases h with | dTT e l n k a => exact .dTT (f _ _ e) l n (fun x hx => (k x hx).mono f) (RpA.mono f tw a)
  | .hnd n, _, h => by cases h with | hnd e => exact .hnd (tw.a _ _ e)
theorem RpA.mono (f : Same g.Fz g'.Fz) (tw : TwLe g g') : ∀ {ds : List D} {vs : List V}, RpA K g vs ds → RpA K g' vs ds
  | [], _, h => by cases h; exact .nil
  | d :: ds, _, h => by cases h with | cons a b => exact .cons (Rp.mono f tw a) (RpA.mono f tw b)
end
theorem RpA.length : ∀ {ds : List D} {vs : List V}, RpA K g vs ds → vs.length = ds.length
  | [], _, h => by cases h; rfl
  | d :: ds, _, h => by cases h with | cons a b => rw [List.length_cons, List.length_cons, RpA.length b]
theorem RpA.get : ∀ {ds : List D} {vs : List V} {i : Nat} {d : D}, RpA K g vs ds → ds[i]? = some d → ∃ v, vs[i]? = some v ∧ Rp K g v d
  | [], _, _, _, h, e => by simp at e
  | d :: ds, _, 0, _, h, e => by
    cases h with
    | cons a b =>
      have e' : d = _ := Option.some.inj e
      subst e'
      exact ⟨_, rfl, a⟩
  | d :: ds, _, i + 1, _, h, e => by
    cases h with
    | cons a b =>
      obtain ⟨v, h1, h2⟩ := RpA.get (i := i) b e
      exact ⟨v, h1, h2⟩
theorem RpA.app : ∀ {ds es : List D} {vs ws : List V}, RpA K g vs ds → RpA K g ws es → RpA K g (vs ++ ws) (ds ++ es)
  | [], _, _, _, h, q => by cases h; exact q
  | d :: ds, _, _, _, h, q => by cases h with | cons a b => exact .cons a (RpA.app b q)
theorem RpA.one {v : V} {d : D} (h : Rp K g v d) : RpA K g [v] [d] := .cons h .nil
theorem RpA.take : ∀ {ds : List D} {vs : List V} (n : Nat), RpA K g vs ds → RpA K g (vs.take n) (ds.take n)
  | _, _, 0, _ => .nil
  | [], _, n + 1, h => by cases h; exact .nil
  | d :: ds, _, n + 1, h => by cases h with | cons a b => exact .cons a (RpA.take n b)
theorem RpA.drop : ∀ {ds : List D} {vs : List V} (n : Nat), RpA K g vs ds → RpA K g (vs.drop n) (ds.drop n)
  | _, _, 0, h => h
  | [], _, n + 1, h => by cases h; exact .nil
  | d :: ds, _, n + 1, h => by cases h with | cons a b => exact RpA.drop n b
theorem RpA.set {v : V} {d : D} (r : Rp K g v d) : ∀ {ds : List D} {vs : List V} (n : Nat), RpA K g vs ds → RpA K g (vs.set n v) (ds.set n d)
  | [], _, _, h => by cases h; exact .nil
  | _ :: ds, _, 0, h => by cases h with | cons a b => exact .cons r b
  | _ :: ds, _, n + 1, h => by cases h with | cons a b => exact .cons a (RpA.set r n b)
theorem RpA.rep {ds : List D} {vs : List V} (h : RpA K g vs ds) : ∀ k : Nat, RpA K g (List.replicate k vs).flatten (List.replicate k ds).flatten
  | 0 => .nil
  | k + 1 => by
    rw [List.replicate_succ, List.replicate_succ, List.flatten_cons, List.flatten_cons]
    exact h.app (RpA.rep h k)
theorem RpA.dropLast {ds : List D} {vs : List V} (h : RpA K g vs ds) : RpA K g vs.dropLast ds.dropLast := by
  rw [List.dropLast_eq_take, List.dropLast_eq_take, h.length]
  exact h.take _
end
/-- something is tracked there, and it is no table -/
def Nt (H : Hp) (b : Addr) : Prop := ∃ o, H b = some o ∧ ∀ ps, o ≠ .tbl ps
theorem Nt.no {H : Hp} {b : Addr} (h : H b = none) : ¬ Nt H b := fun ⟨o, e, _⟩ => by rw [h] at e; cases e
/-- a step: what was frozen stays, what stood stays (but the draws' dicts, the objects and the tables) -/
structure Stp (g : G) (H : Hp) (g' : G) (H' : Hp) : Prop where
  fz : Same g.Fz g'.Fz
  tw : TwLe g g'
  twn : (g.tw = none → ∀ a b, g'.tw = some (a, b) → ¬ Nt H a ∧ ¬ Nt H b) ∧ ∀ a ∈ g'.ad, a ∈ g.ad ∨ ¬ Nt H a
  frm : ∀ b o, H b = some o → ¬ g.isTw b → (∀ ps, o ≠ .tbl ps) → H' b = some o
  thr : ∀ b, Nt H b → Nt H' b
  new : ∀ b, Nt H b → g'.Fz b = g.Fz b
theorem Twn.refl (g : G) (H : Hp) : (g.tw = none → ∀ a b, g.tw = some (a, b) → ¬ Nt H a ∧ ¬ Nt H b) ∧ ∀ a ∈ g.ad, a ∈ g.ad ∨ ¬ Nt H a := ⟨fun h a b e => (by rw [h] at e; cases e), fun _ h => .inl h⟩
theorem Stp.refl (g : G) (H : Hp) : Stp g H g H := ⟨fun _ _ h => h, .refl g, Twn.refl g H, fun _ _ h _ _ => h, fun _ h => h, fun _ _ => rfl⟩
theorem isTw_back {g g1 : G} {H : Hp} {c : Addr} (tw : TwLe g g1) (twn : (g.tw = none → ∀ a b, g1.tw = some (a, b) → ¬ Nt H a ∧ ¬ Nt H b) ∧ ∀ a ∈ g1.ad, a ∈ g.ad ∨ ¬ Nt H a) (h : Nt H c) (n : ¬ g.isTw c) : ¬ g1.isTw c := fun z => by
  rcases z with ⟨p, hp, q⟩ | z
  · cases h1 : g.tw with
    | some p' =>
      have := tw.t p' h1
      rw [hp] at this
      cases this
      exact n (.inl ⟨p, h1, q⟩)
    | none =>
      obtain ⟨z1, z2⟩ := twn.1 h1 p.1 p.2 hp
      rcases q with q | q
      · exact z1 (by rw [← q]; exact h)
      · exact z2 (by rw [← q]; exact h)
  · exact (twn.2 c z).elim (fun k => n (.inr k)) fun k => k h
theorem Stp.trans {g g1 g2 : G} {H H1 H2 : Hp} (a : Stp g H g1 H1) (b : Stp g1 H1 g2 H2) : Stp g H g2 H2 where
  fz := a.fz.trans b.fz
  tw := a.tw.trans b.tw
  twn := ⟨fun h x y e => by
    cases h1 : g1.tw with
    | none =>
      obtain ⟨p, q⟩ := b.twn.1 h1 x y e
      exact ⟨fun z => p (a.thr x z), fun z => q (a.thr y z)⟩
    | some p =>
      have e2 := b.tw.t p h1
      rw [e] at e2
      cases e2
      exact a.twn.1 h x y h1, fun x hx => (b.twn.2 x hx).elim (a.twn.2 x) fun k => .inr fun z => k (a.thr x z)⟩
  frm := fun c o h n t => b.frm c o (a.frm c o h n t) (isTw_back a.tw a.twn ⟨o, h, t⟩ n) t
  thr := fun c h => b.thr c (a.thr c h)
  new := fun c h => (b.new c (a.thr c h)).trans (a.new c h)
theorem Rp.stp {K : PySem.W.Frag} {g g' : G} {H H' : Hp} {v : V} {d : D} (s : Stp g H g' H') (h : Rp K g v d) : Rp K g' v d := h.mono s.fz s.tw
theorem RpA.stp {K : PySem.W.Frag} {g g' : G} {H H' : Hp} {v : List V} {d : List D} (s : Stp g H g' H') (h : RpA K g v d) : RpA K g' v d := h.mono s.fz s.tw
def TownOk (g : G) (H : Hp) : Option (Int × List (Int × Int)) → Prop
  | none => g.tw = none
  | some (c, rs) => ∃ a b, g.tw = some (a, b) ∧ a ≠ b ∧ H a = some (.dK [(.inr "count", .int c), (.inr "rests", .ref b)]) ∧ H b = some (.dK (rs.map fun p => (Sum.inl p.1, V.int p.2)))
/-- constants of a row: the tables of code objects; the addresses of the exceptions' classes; the written part; the addresses of own classes -/
structure Cn where
  T : List (Addr × Str)
  ex : Nat → Addr
  K : PySem.W.Frag
  cl : Addr
structure RpD (K : PySem.W.Frag) (g : G) (L : DL) (ks : List (List Int × D)) : Prop where
  keys : L.2.map (·.1) = ks.map (·.1)
  nd : (L.2.map (·.1)).Nodup
  kt : ∀ x ∈ L.2, Rp K g (.ref x.2.1) (.tup (x.1.map D.int))
  vs : RpA K g (L.2.map (·.2.2)) (ks.map (·.2))
theorem RpD.mono {K : PySem.W.Frag} {g g' : G} {L : DL} {ks : List (List Int × D)} (f : Same g.Fz g'.Fz) (tw : TwLe g g') (r : RpD K g L ks) : RpD K g' L ks := ⟨r.keys, r.nd, fun x hx => (r.kt x hx).mono f tw, r.vs.mono f tw⟩
/-- attributes -/
def RpI (K : PySem.W.Frag) (g : G) : List (Str × V) → List (Str × D) → Prop
  | [], [] => True
  | (x, v) :: r, (y, d) :: q => x = y ∧ Rp K g v d ∧ RpI K g r q
  | _, _ => False
theorem RpI.mono {K : PySem.W.Frag} {g g' : G} (f : Same g.Fz g'.Fz) (tw : TwLe g g') : ∀ {fv : List (Str × V)} {fs : List (Str × D)}, RpI K g fv fs → RpI K g' fv fs
  | [], [], _ => trivial
  | (x, v) :: r, (y, d) :: q, ⟨h1, h2, h3⟩ => ⟨h1, h2.mono f tw, RpI.mono f tw h3⟩
/-- an object stands at its address -/
def ObOk (C : Cn) (g : G) (H : Hp) (a : Addr) : Ob → Prop
  | .td ks => ∃ L, H a = some (DkO a L) ∧ RpD C.K g L ks
  | .li ds => ∃ vs, H a = some (.lst vs) ∧ RpA C.K g vs ds
  | .ins fs => ∃ dx fv, H a = some (.ins C.cl dx fv) ∧ RpI C.K g fv fs
structure StOk (C : Cn) (g : G) (H : Hp) (st : Sto) : Prop where
  len : g.ad.length = st.length
  nd : g.ad.Nodup
  ok : ∀ (n : Nat) (a : Addr) (o : Ob × Nat), g.ad[n]? = some a → st[n]? = some o → ObOk C g H a o.1
  lg : ∀ (n : Nat) (a : Addr) (o : Ob × Nat), g.ad[n]? = some a → st[n]? = some o → H a = g.lg n o.2
  nw : ∀ (n : Nat) (o : Ob × Nat), st[n]? = some o → ∀ v, o.2 < v → g.lg n v = none
  no : ∀ n v, st.length ≤ n → g.lg n v = none
theorem DkO_tbl {p : Addr} {L : DL} : ∀ ps, DkO p L ≠ .tbl ps := fun _ z => by unfold DkO at z; cases z
theorem ObOk.at {C : Cn} {g : G} {H : Hp} {a : Addr} {o : Ob} (h : ObOk C g H a o) : ∃ ho, H a = some ho ∧ (∀ ps, ho ≠ .tbl ps) ∧ (∀ kvs, ho ≠ .dK kvs) ∧ (∀ ob u, ho ≠ .frz ob u) := by
  cases o with
  | td ks => obtain ⟨L, h, _⟩ := h; exact ⟨_, h, DkO_tbl, (fun _ z => by unfold DkO at z; cases z), (fun _ _ z => by unfold DkO at z; cases z)⟩
  | li ds => obtain ⟨L, h, _⟩ := h; exact ⟨_, h, (fun _ z => nomatch z), (fun _ z => nomatch z), (fun _ _ z => nomatch z)⟩
  | ins fs => obtain ⟨dx, vs, h, _⟩ := h; exact ⟨_, h, (fun _ z => nomatch z), (fun _ z => nomatch z), (fun _ _ z => nomatch z)⟩
theorem ObOk.keep {C : Cn} {g g' : G} {H H' : Hp} {a : Addr} {o : Ob} (h : ObOk C g H a o) (f : Same g.Fz g'.Fz) (tw : TwLe g g') (e : ∀ ho, H a = some ho → H' a = some ho) : ObOk C g' H' a o := by
  cases o with
  | td ks => obtain ⟨L, h, r⟩ := h; exact ⟨L, e _ h, r.mono f tw⟩
  | li ds => obtain ⟨L, h, r⟩ := h; exact ⟨L, e _ h, r.mono f tw⟩
  | ins fs => obtain ⟨dx, vs, h, r⟩ := h; exact ⟨dx, vs, e _ h, r.mono f tw⟩
theorem StOk.get {C : Cn} {g : G} {H : Hp} {st : Sto} (s : StOk C g H st) {a : Addr} (h : a ∈ g.ad) : ∃ (n : Nat) (o : Ob × Nat), g.ad[n]? = some a ∧ st[n]? = some o ∧ ObOk C g H a o.1 := by
  obtain ⟨n, hn, e⟩ := List.getElem_of_mem h
  have h2 : n < st.length := by rw [← s.len]; exact hn
  have e1 : g.ad[n]? = some a := by rw [List.getElem?_eq_getElem hn, e]
  exact ⟨n, st[n], e1, List.getElem?_eq_getElem h2, s.ok n a _ e1 (List.getElem?_eq_getElem h2)⟩
theorem StOk.keep {C : Cn} {g g' : G} {H H' : Hp} {st : Sto} (s : StOk C g H st) (f : Same g.Fz g'.Fz) (tw : TwLe g g') (ea : g'.ad = g.ad ∧ g'.lg = g.lg) (e : ∀ a ∈ g.ad, ∀ ho, H a = some ho → H' a = some ho) : StOk C g' H' st where
  len := by rw [ea.1]; exact s.len
  nd := by rw [ea.1]; exact s.nd
  ok := fun n a o h1 h2 => by
    rw [ea.1] at h1
    exact (s.ok n a o h1 h2).keep f tw (e a (List.mem_of_getElem? h1))
  lg := fun n a o h1 h2 => by
    rw [ea.1] at h1
    obtain ⟨ho, h3, _⟩ := (s.ok n a o h1 h2).at
    rw [ea.2, ← s.lg n a o h1 h2, h3]
    exact e a (List.mem_of_getElem? h1) ho h3
  nw := by rw [ea.2]; exact s.nw
  no := by rw [ea.2]; exact s.no
theorem StOk.frz {C : Cn} {g : G} {H : Hp} {st : Sto} {F : Hp} (s : StOk C g H st) (f : Same g.Fz F) : StOk C ⟨F, g.tw, g.ad, g.lg⟩ H st := s.keep f .of ⟨rfl, rfl⟩ fun _ _ _ h => h
structure Wf (C : Cn) (g : G) (H : Hp) (t : Tn) : Prop where
  fz : Same g.Fz H
  tw : TownOk g H t.1 ∧ StOk C g H t.2
  ntw : ∀ b, g.isTw b → g.Fz b = none
  tab : LamX.Tabs C.T H
  nft : ∀ b ps, g.Fz b ≠ some (.tbl ps)
theorem nft_upd {F : Hp} {p : Addr} {o : HO} (h : ∀ b ps, F b ≠ some (.tbl ps)) (ho : ∀ ps, o ≠ .tbl ps) : ∀ b ps, upd F p o b ≠ some (.tbl ps) := fun b ps e => by
  by_cases hb : b = p
  · rw [hb, upd_same] at e; exact ho ps (Option.some.inj e)
  · rw [upd_ne hb] at e; exact h b ps e
/-- something stands there -/
theorem Wf.twd {C : Cn} {g : G} {H : Hp} {t : Tn} (w : Wf C g H t) {b : Addr} (h : g.isTw b) : ∃ o, H b = some o ∧ (∀ ps, o ≠ .tbl ps) ∧ (∀ ob u, o ≠ .frz ob u) := by
  rcases h with ⟨p, hp, q⟩ | h
  · obtain ⟨t, st⟩ := t
    cases t with
    | none => rw [show g.tw = none from w.tw.1] at hp; cases hp
    | some cr =>
      obtain ⟨a, c, e, _, h1, h2⟩ := w.tw.1
      rw [hp] at e
      cases e
      rcases q with q | q
      · exact ⟨HO.dK _, by rw [q]; exact h1, (fun _ z => nomatch z), (fun _ _ z => nomatch z)⟩
      · exact ⟨HO.dK _, by rw [q]; exact h2, (fun _ z => nomatch z), (fun _ _ z => nomatch z)⟩
  · obtain ⟨n, o, _, _, ok⟩ := w.tw.2.get h
    obtain ⟨ho, h1, h2, _, h3⟩ := ok.at
    exact ⟨ho, h1, h2, h3⟩
theorem Wf.ntN {C : Cn} {g : G} {H : Hp} {t : Tn} (w : Wf C g H t) {b : Addr} (h : H b = none) : ¬ g.isTw b := fun z => by
  obtain ⟨kvs, e, _⟩ := w.twd z
  rw [h] at e; cases e
theorem Wf.fzN {C : Cn} {g : G} {H : Hp} {t : Tn} (w : Wf C g H t) {b : Addr} (h : H b = none) : g.Fz b = none := by
  cases z : g.Fz b with
  | none => rfl
  | some o => rw [w.fz b o z] at h; cases h
/-- a dict's pairs -/
def RpK (K : PySem.W.Frag) (g : G) (vs : List (Key × V)) (ks : List (Key × D)) : Prop := vs.map (·.1) = ks.map (·.1) ∧ RpA K g (vs.map (·.2)) (ks.map (·.2))
theorem heap_size : ∀ n : Nat, ∃ h : Heap, h.objs.size = n
  | 0 => ⟨{ objs := #[] }, rfl⟩
  | n + 1 => by
    obtain ⟨h, e⟩ := heap_size n
    exact ⟨h.push { cls := .none, data := .fields #[] }, by rw [Heap.size_push, e]⟩
/-- an exception's object is no dict -/
theorem exk_ne {cls : Value} {p : Addr} {L : DL} (e : ExK cls p = DkO p L) : False := by
  obtain ⟨h, e1⟩ := heap_size p
  have at_ : (h.push { cls := cls, data := .fields #[] }).get? p = some { cls := cls, data := .fields #[] } := by
    have := Heap.get?_push_size h (o := { cls := cls, data := .fields #[] }) rfl
    rw [e1] at this; exact this
  unfold ExK DkO at e
  injection e with e
  have k : (fun h : Heap => ∃ (oe : Obj) (vs : Array Value), h.get? p = some oe ∧ oe.cls = cls ∧ oe.dict = none ∧ oe.data = .fields vs) (h.push { cls := cls, data := .fields #[] }) := ⟨_, _, at_, rfl, rfl, rfl⟩
  rw [e] at k
  obtain ⟨o, es, us, ho, _, hd, _⟩ := k
  rw [at_] at ho
  cases ho
  cases hd
/-- what a slot tells -/
def SVok (K : PySem.W.Frag) (g : G) (H : Hp) : SV → Option (Option V) → Prop
  | .un, _ => True
  | .val d, o => ∃ v, o = some (some v) ∧ Rp K g v d
  | .own ds, o => ∃ p vs, o = some (some (.ref p)) ∧ H p = some (.lst vs) ∧ RpA K g vs ds ∧ g.Fz p = none ∧ ¬ g.isTw p
  | .dic ks, o => ∃ p vs, o = some (some (.ref p)) ∧ H p = some (.dK vs) ∧ RpK K g vs ks ∧ g.Fz p = none ∧ ¬ g.isTw p
  | .raw v, o => o = some (some v)
  | .exn c, o => ∃ p, o = some (some (.ref p)) ∧ H p = some (ExK (.ref c) p)
  | .dcT ks, o => ∃ p L, o = some (some (.ref p)) ∧ H p = some (DkO p L) ∧ RpD K g L ks ∧ g.Fz p = none ∧ ¬ g.isTw p
/-- the slots -/
structure SL (K : PySem.W.Frag) (g : G) (H : Hp) (σ : L2.St) (S : Sl) : Prop where
  len : σ.length = S.length
  ok : ∀ (i : Nat) x, S[i]? = some x → SVok K g H x σ[i]?
  dis : ∀ (i j : Nat) p x y, S[i]? = some x → S[j]? = some y → isOw x = true → isOw y = true → σ[i]? = some (some (.ref p)) → σ[j]? = some (some (.ref p)) → i = j
section
variable {K : PySem.W.Frag} {g : G} {H : Hp} {σ : L2.St} {S : Sl}
theorem SL.val (s : SL K g H σ S) (i : Nat) (d : D) (e : S[i]? = some (.val d)) : ∃ v, σ[i]? = some (some v) ∧ Rp K g v d := s.ok i _ e
theorem SL.own (s : SL K g H σ S) (i : Nat) (ds : List D) (e : S[i]? = some (.own ds)) : ∃ p vs, σ[i]? = some (some (.ref p)) ∧ H p = some (.lst vs) ∧ RpA K g vs ds ∧ g.Fz p = none ∧ ¬ g.isTw p := s.ok i _ e
theorem SL.dic (s : SL K g H σ S) (i : Nat) (ks : List (Key × D)) (e : S[i]? = some (.dic ks)) : ∃ p vs, σ[i]? = some (some (.ref p)) ∧ H p = some (.dK vs) ∧ RpK K g vs ks ∧ g.Fz p = none ∧ ¬ g.isTw p := s.ok i _ e
theorem SL.dcT (s : SL K g H σ S) (i : Nat) (ks : List (List Int × D)) (e : S[i]? = some (.dcT ks)) : ∃ p L, σ[i]? = some (some (.ref p)) ∧ H p = some (DkO p L) ∧ RpD K g L ks ∧ g.Fz p = none ∧ ¬ g.isTw p := s.ok i _ e
theorem SL.raw (s : SL K g H σ S) (i : Nat) (v : V) (e : S[i]? = some (.raw v)) : σ[i]? = some (some v) := s.ok i _ e
/-- the address of an object of one's own, and that it is there -/
theorem SL.ow (s : SL K g H σ S) {i : Nat} {x : SV} (e : S[i]? = some x) (h : isOw x = true) : ∃ p o, σ[i]? = some (some (.ref p)) ∧ H p = some o ∧ g.Fz p = none ∧ ∀ ps, o ≠ .tbl ps := by
  cases x with
  | own ds => obtain ⟨p, vs, h1, h2, h3, h4, _⟩ := s.own i ds e; exact ⟨p, _, h1, h2, h4, fun _ z => nomatch z⟩
  | dic ks => obtain ⟨p, vs, h1, h2, h3, h4, h5⟩ := s.dic i ks e; exact ⟨p, _, h1, h2, h4, fun _ z => nomatch z⟩
  | dcT ks => obtain ⟨p, L, h1, h2, h3, h4, _⟩ := s.dcT i ks e; exact ⟨p, _, h1, h2, h4, DkO_tbl⟩
  | _ => cases h
/-- a slot is set -/
theorem SL.put (s : SL K g H σ S) {i : Nat} {x : SV} {o : Option V} (hx : SVok K g H x (some o)) (hd : isOw x = true → ∀ p, o = some (.ref p) → ∀ (j : Nat) y, S[j]? = some y → isOw y = true → σ[j]? = some (some (.ref p)) → j = i) : SL K g H (σ.set i o) (S.set i x) where
  len := by rw [List.length_set, List.length_set]; exact s.len
  ok := fun j y e => by
    by_cases h : i = j
    · subst h
      by_cases hl : i < S.length
      · rw [List.getElem?_set_self hl] at e
        cases e
        rw [List.getElem?_set_self (by rw [s.len]; exact hl)]
        exact hx
      · rw [List.getElem?_eq_none (by rw [List.length_set]; omega)] at e; cases e
    · rw [List.getElem?_set_ne h] at e ⊢
      exact s.ok j y e
  dis := fun j k q y z e1 e2 o1 o2 e3 e4 => by
    have lt : ∀ {m} {y : SV}, (S.set i x)[m]? = some y → m < S.length := fun {m y} e => by
      obtain ⟨h, _⟩ := List.getElem?_eq_some_iff.mp e
      rw [List.length_set] at h
      exact h
    by_cases h1 : i = j
    · by_cases h2 : i = k
      · exact h1.symm.trans h2
      · subst h1
        have l1 := lt e1
        rw [List.getElem?_set_self l1] at e1
        rw [List.getElem?_set_self (by rw [s.len]; exact l1)] at e3
        cases e1
        rw [List.getElem?_set_ne h2] at e2 e4
        cases e3
        exact (hd o1 q rfl k z e2 o2 e4).symm
    · by_cases h2 : i = k
      · subst h2
        have l2 := lt e2
        rw [List.getElem?_set_self l2] at e2
        rw [List.getElem?_set_self (by rw [s.len]; exact l2)] at e4
        cases e2
        rw [List.getElem?_set_ne h1] at e1 e3
        cases e4
        exact hd o2 q rfl j y e1 o1 e3
      · rw [List.getElem?_set_ne h1] at e1 e3
        rw [List.getElem?_set_ne h2] at e2 e4
        exact s.dis j k q y z e1 e2 o1 o2 e3 e4
end
theorem RpK.stp {K : PySem.W.Frag} {g g' : G} {H H' : Hp} {vs : List (Key × V)} {ks : List (Key × D)} (r : RpK K g vs ks) (p : Stp g H g' H') : RpK K g' vs ks := ⟨r.1, r.2.stp p⟩
theorem Stp.ntw {g g' : G} {H H' : Hp} {b : Addr} {o : HO} (p : Stp g H g' H') (h : H b = some o) (n : ¬ g.isTw b) (nt : ∀ ps, o ≠ .tbl ps) : ¬ g'.isTw b := isTw_back p.tw p.twn ⟨o, h, nt⟩ n
theorem RpD.stp {K : PySem.W.Frag} {g g' : G} {H H' : Hp} {L : DL} {ks : List (List Int × D)} (r : RpD K g L ks) (p : Stp g H g' H') : RpD K g' L ks := r.mono p.fz p.tw
/-- an exception's object is none that may be changed -/
theorem Wf.ntX {C : Cn} {g : G} {H : Hp} {t : Tn} (w : Wf C g H t) {b : Addr} {c : Value} (h : H b = some (ExK c b)) : ¬ g.isTw b := fun z => by
  rcases z with ⟨p, hp, q⟩ | z
  · obtain ⟨t, st⟩ := t
    cases t with
    | none => rw [show g.tw = none from w.tw.1] at hp; cases hp
    | some cr =>
      obtain ⟨a, c, e, _, h1, h2⟩ := w.tw.1
      rw [hp] at e
      cases e
      rcases q with q | q
      · rw [q, h1] at h; unfold ExK at h; cases h
      · rw [q, h2] at h; unfold ExK at h; cases h
  · obtain ⟨n, ⟨o, vn⟩, _, _, ok⟩ := w.tw.2.get z
    cases o with
    | td ks => obtain ⟨L, h1, _⟩ := ok; rw [h] at h1; exact exk_ne (Option.some.inj h1)
    | li ds => obtain ⟨L, h1, _⟩ := ok; rw [h] at h1; unfold ExK at h1; cases h1
    | ins fs => obtain ⟨dx, vs, h1, _⟩ := ok; rw [h] at h1; unfold ExK at h1; cases h1
theorem SL.stp {K : PySem.W.Frag} {C : Cn} {g g' : G} {H H' : Hp} {t : Tn} {σ : L2.St} {S : Sl} (s : SL K g H σ S) (w : Wf C g H t) (p : Stp g H g' H') : SL K g' H' σ S where
  len := s.len
  ok := fun i x e => by
    have h := s.ok i x e
    cases x with
    | un => trivial
    | val d => obtain ⟨v, h1, h2⟩ := h; exact ⟨v, h1, h2.stp p⟩
    | own ds =>
      obtain ⟨a, vs, h1, h2, h3, h4, h5⟩ := h
      exact ⟨a, vs, h1, p.frm _ _ h2 h5 (fun _ z => nomatch z), h3.stp p, by rw [p.new a ⟨_, h2, fun _ z => nomatch z⟩]; exact h4, p.ntw h2 h5 (fun _ z => nomatch z)⟩
    | dic ks =>
      obtain ⟨a, vs, h1, h2, h3, h4, h5⟩ := h
      exact ⟨a, vs, h1, p.frm _ _ h2 h5 (fun _ z => nomatch z), h3.stp p, by rw [p.new a ⟨_, h2, fun _ z => nomatch z⟩]; exact h4, p.ntw h2 h5 (fun _ z => nomatch z)⟩
    | dcT ks =>
      obtain ⟨a, L, h1, h2, h3, h4, h5⟩ := h
      exact ⟨a, L, h1, p.frm _ _ h2 h5 DkO_tbl, h3.stp p, by rw [p.new a ⟨_, h2, DkO_tbl⟩]; exact h4, p.ntw h2 h5 DkO_tbl⟩
    | raw v => exact h
    | exn c =>
      obtain ⟨p0, h1, h2⟩ := h
      exact ⟨p0, h1, p.frm _ _ h2 (w.ntX h2) (fun _ z => by unfold ExK at z; cases z)⟩
  dis := s.dis
/-- what is wanted behind -/
def Post {α : Type} (C : Cn) (E : XK) (g : G) (H : Hp) (Rok : α → Tn → G → Hp → Prop) : Option (Out α) → Prop
  | none => False
  | some (.ok a t') => ∀ g' H', Stp g H g' H' → Wf C g' H' t' → Rok a t' g' H'
  | some (.exc c t') => ∀ g' H', Stp g H g' H' → Wf C g' H' t' → E (.ref (C.ex c)) none H'
section
variable {α β : Type} {C : Cn} {E : XK} {g g1 : G} {H H1 : Hp} {Rok : α → Tn → G → Hp → Prop}
theorem Post.stp {r : Option (Out α)} (h : Post C E g H Rok r) (s : Stp g H g1 H1) : Post C E g1 H1 Rok r := by
  cases r with
  | none => exact h
  | some o =>
    cases o with
    | ok a t' => exact fun g' H' s' w => h g' H' (s.trans s') w
    | exc c t' => exact fun g' H' s' w => h g' H' (s.trans s') w
theorem Post.imp {r : Option (Out α)} {Rok' : α → Tn → G → Hp → Prop} (h : Post C E g H Rok r) (f : ∀ a t' g' H', Stp g H g' H' → Wf C g' H' t' → Rok a t' g' H' → Rok' a t' g' H') : Post C E g H Rok' r := by
  cases r with
  | none => exact h
  | some o =>
    cases o with
    | ok a t' => exact fun g' H' s' w => f a t' g' H' s' w (h g' H' s' w)
    | exc c t' => exact h
theorem Post.bnd {Rok : β → Tn → G → Hp → Prop} {m : M α} {k : α → M β} {t : Tn} (h : Post C E g H Rok (bnd m k t)) : Post C E g H (fun a t1 g1 H1 => Post C E g1 H1 Rok (k a t1)) (m t) := by
  unfold BG.bnd at h
  cases e : m t with
  | none => rw [e] at h; exact h
  | some o =>
    rw [e] at h
    cases o with
    | ok a t' => exact fun g' H' s' w => Post.stp h s'
    | exc c t' => exact h
theorem postRet {a : α} {t : Tn} (h : Post C E g H Rok (ret a t)) (w : Wf C g H t) : Rok a t g H := h g H (.refl g H) w
theorem Post.calm {m : M α} {t : Tn} (h : Post C E g H Rok (calm m t)) (E' : XK) : Post C E' g H Rok (m t) := by
  unfold BG.calm at h
  cases e : m t with
  | none => rw [e] at h; exact h.elim
  | some o =>
    rw [e] at h
    cases o with
    | ok a t' => exact h
    | exc c t' => exact h.elim
end
/-- the weak relation: data, or a list of one's own -/
def RpW (K : PySem.W.Frag) (g : G) (H : Hp) (v : V) (d : D) : Prop := Rp K g v d ∨ ∃ p vs ds, d = .lst ds ∧ v = .ref p ∧ H p = some (.lst vs) ∧ RpA K g vs ds ∧ ¬ g.isTw p
theorem RpW.stp {K : PySem.W.Frag} {C : Cn} {g g' : G} {H H' : Hp} {t : Tn} {v : V} {d : D} (w : Wf C g H t) (s : Stp g H g' H') (h : RpW K g H v d) : RpW K g' H' v d := by
  rcases h with h | ⟨p, vs, ds, e1, e2, e3, e4, e5⟩
  · exact .inl (h.stp s)
  · exact .inr ⟨p, vs, ds, e1, e2, s.frm _ _ e3 e5 (fun _ z => nomatch z), e4.stp s, s.ntw e3 e5 (fun _ z => nomatch z)⟩
/-- a list that was just made -/
def RpF (K : PySem.W.Frag) (H0 : Hp) (g : G) (H : Hp) (v : V) (d : D) : Prop := ∃ p vs ds, d = .lst ds ∧ v = .ref p ∧ ¬ Nt H0 p ∧ H p = some (.lst vs) ∧ RpA K g vs ds ∧ g.Fz p = none ∧ ¬ g.isTw p
abbrev Ex := Sl → M D
def tE (K : PySem.W.Frag) (C : Cn) (E : XK) (f : Ex) : TE := fun σ H Q => ∃ g S t, Wf C g H t ∧ SL K g H σ S ∧ Post C E g H (fun d _ g' H' => ∀ v, Rp K g' v d → Q v H') (f S t)
def tW (K : PySem.W.Frag) (C : Cn) (E : XK) (f : Ex) : TE := fun σ H Q => ∃ g S t, Wf C g H t ∧ SL K g H σ S ∧ Post C E g H (fun d _ g' H' => ∀ v, RpW K g' H' v d → Q v H') (f S t)
def tF (K : PySem.W.Frag) (C : Cn) (E : XK) (f : Ex) : TE := fun σ H Q => ∃ g S t, Wf C g H t ∧ SL K g H σ S ∧ Post C E g H (fun d _ g' H' => ∀ v, RpF K H g' H' v d → Q v H') (f S t)
def tT (K : PySem.W.Frag) (C : Cn) (E : XK) (f : Ex) : TT := fun σ H Q => ∃ g S t, Wf C g H t ∧ SL K g H σ S ∧ Post C E g H (fun d _ g' H' => ∃ b, d = .bl b ∧ Q b H') (f S t)
def tAs (K : PySem.W.Frag) (C : Cn) (E : XK) (f : Sl → M (List D)) : TA := fun σ H Q => ∃ g S t, Wf C g H t ∧ SL K g H σ S ∧ Post C E g H (fun ds _ g' H' => ∀ vs, RpA K g' vs ds → Q vs H') (f S t)
abbrev CE (X : Cx) (C : Cn) (E : XK) (e : Expr) (f : Ex) : Prop := PE X e (tE X.K C E f)
abbrev CW (X : Cx) (C : Cn) (E : XK) (e : Expr) (f : Ex) : Prop := PE X e (tW X.K C E f)
abbrev CF (X : Cx) (C : Cn) (E : XK) (e : Expr) (f : Ex) : Prop := PE X e (tF X.K C E f)
abbrev CT (X : Cx) (C : Cn) (E : XK) (e : Expr) (f : Ex) : Prop := PT X e (tT X.K C E f)
abbrev CA (X : Cx) (C : Cn) (E : XK) (es : List Expr) (f : Sl → M (List D)) : Prop := PA X es (tAs X.K C E f)
theorem PE.imp {X : Cx} {e : Expr} {t t' : TE} (h : PE X e t) (f : ∀ σ H Q, t' σ H Q → t σ H Q) : PE X e t' := ⟨fun pins s σ H Q I q => h.run pins s σ H Q I (f σ H Q q)⟩
theorem PT.imp {X : Cx} {e : Expr} {t t' : TT} (h : PT X e t) (f : ∀ σ H Q, t' σ H Q → t σ H Q) : PT X e t' := ⟨fun pins s σ H Q I q => h.run pins s σ H Q I (f σ H Q q)⟩
theorem PA.imp {X : Cx} {e : List Expr} {t t' : TA} (h : PA X e t) (f : ∀ σ H Q, t' σ H Q → t σ H Q) : PA X e t' := ⟨fun pos pins s σ H Q I q => h.run pos pins s σ H Q I (f σ H Q q)⟩
theorem PS.imp {X : Cx} {e : Stmt} {t t' : TS} (h : PS X e t) (f : ∀ D σ H, t' D σ H → t D σ H) : PS X e t' := ⟨fun pins s σ H D I q => h.run pins s σ H D I (f D σ H q)⟩
theorem PSs.imp {X : Cx} {e : List Stmt} {t t' : TS} (h : PSs X e t) (f : ∀ D σ H, t' D σ H → t D σ H) : PSs X e t' := ⟨fun pins s σ H D I q => h.run pins s σ H D I (f D σ H q)⟩
section
variable {X : Cx} {C : Cn} {E : XK} {e : Expr} {f : Ex}
theorem e2w (h : CE X C E e f) : CW X C E e f := PE.imp h fun σ H Q ⟨g, S, t, w, s, p⟩ => ⟨g, S, t, w, s, p.imp fun d t' g' H' _ _ q v r => q v (.inl r)⟩
/-- the list that was just made is frozen -/
theorem Rp.frz {K : PySem.W.Frag} {g0 g : G} {H0 H : Hp} {t : Tn} {v : V} {d : D} (r : RpF K H0 g H v d) (s : Stp g0 H0 g H) (w : Wf C g H t) : ∃ g', Stp g0 H0 g' H ∧ Wf C g' H t ∧ Rp K g' v d := by
  obtain ⟨p, vs, ds, rfl, rfl, e0, e1, ra, e2, e3⟩ := r
  have sm : Same g.Fz (upd g.Fz p (.lst vs)) := fun b o h => by
    rw [upd_ne (ne_of_none h e2)]; exact h
  refine ⟨⟨upd g.Fz p (.lst vs), g.tw, g.ad, g.lg⟩, ⟨s.fz.trans sm, s.tw.trans .of, s.twn, s.frm, s.thr, fun b h => ?_⟩, ⟨fun b o h => ?_, ⟨w.tw.1, w.tw.2.frz sm⟩, fun b h => ?_, w.tab, nft_upd w.nft fun _ z => by cases z⟩, ?_⟩
  · have nb : b ≠ p := fun z => e0 (by rw [← z]; exact h)
    show upd g.Fz p (.lst vs) b = _
    rw [upd_ne nb]
    exact s.new b h
  · have h : upd g.Fz p (.lst vs) b = some o := h
    by_cases hb : b = p
    · rw [hb, upd_same] at h
      cases h
      rw [hb]; exact e1
    · rw [upd_ne hb] at h
      exact w.fz b o h
  · have nb : b ≠ p := fun z => e3 (by rw [← z]; exact h)
    show upd g.Fz p (.lst vs) b = _
    rw [upd_ne nb]
    exact w.ntw b h
  · exact .lst upd_same (RpA.mono (g' := ⟨upd g.Fz p (.lst vs), g.tw, g.ad, g.lg⟩) sm .of ra)
theorem f2e (h : CF X C E e f) : CE X C E e f := PE.imp h fun σ H Q ⟨g, S, t, w, s, p⟩ => by
  refine ⟨g, S, t, w, s, ?_⟩
  cases r : f S t with
  | none => rw [r] at p; exact p
  | some o =>
    rw [r] at p
    cases o with
    | exc c t' => exact p
    | ok d t' =>
      intro g' H' s' w' v rf
      obtain ⟨g2, s2, w2, r2⟩ := Rp.frz rf s' w'
      exact p g2 H' s2 w2 v r2
theorem f2w (h : CF X C E e f) : CW X C E e f := e2w (f2e h)
end
theorem RpW.lst {K : PySem.W.Frag} {C : Cn} {g : G} {H : Hp} {t : Tn} {v : V} {ds : List D} (w : Wf C g H t) (h : RpW K g H v (.lst ds)) : ∃ p vs, v = .ref p ∧ H p = some (.lst vs) ∧ RpA K g vs ds := by
  rcases h with h | ⟨p, vs, ds', e1, e2, e3, e4, _⟩
  · cases h with
    | lst a b => exact ⟨_, _, rfl, w.fz _ _ a, b⟩
  · cases e1
    exact ⟨p, vs, e2, e3, e4⟩
theorem RpW.tup {K : PySem.W.Frag} {C : Cn} {g : G} {H : Hp} {t : Tn} {v : V} {ds : List D} (w : Wf C g H t) (h : RpW K g H v (.tup ds)) : ∃ p vs, v = .ref p ∧ SqT K H p vs ∧ RpA K g vs ds := by
  rcases h with h | ⟨p, vs, ds', e1, e2, e3, e4⟩
  · cases h with
    | tup a b => exact ⟨_, _, rfl, Same.tseq w.fz a.t, b⟩
  · cases e1
theorem RpW.int {K : PySem.W.Frag} {g : G} {H : Hp} {v : V} {i : Int} (h : RpW K g H v (.int i)) : v = .int i := by
  rcases h with h | ⟨p, vs, ds', e1, e2, e3, e4⟩
  · cases h; rfl
  · cases e1
theorem RpW.str {K : PySem.W.Frag} {g : G} {H : Hp} {v : V} {i : Str} (h : RpW K g H v (.str i)) : v = .str i := by
  rcases h with h | ⟨p, vs, ds', e1, e2, e3, e4⟩
  · cases h; rfl
  · cases e1
theorem RpW.bl {K : PySem.W.Frag} {g : G} {H : Hp} {v : V} {i : Bool} (h : RpW K g H v (.bl i)) : v = .bl i := by
  rcases h with h | ⟨p, vs, ds', e1, e2, e3, e4⟩
  · cases h; rfl
  · cases e1
theorem RpW.non {K : PySem.W.Frag} {g : G} {H : Hp} {v : V} (h : RpW K g H v .non) : v = .non := by
  rcases h with h | ⟨p, vs, ds', e1, e2, e3, e4⟩
  · cases h; rfl
  · cases e1
/-- an operand, then what follows -/
theorem tE.seq {K : PySem.W.Frag} {C : Cn} {E : XK} {fa : Ex} {k : Sl → D → M D} {σ : L2.St} {H : Hp} {Q Q1 : VK} (h : tE K C E (fun S => bnd (fa S) (k S)) σ H Q)
    (f : ∀ g S t x d H1, Wf C g H1 t → SL K g H1 σ S → Rp K g x d → Post C E g H1 (fun d _ g' H' => ∀ v, Rp K g' v d → Q v H') (k S d t) → Q1 x H1) : tE K C E fa σ H Q1 := by
  obtain ⟨g, S, t, w, s, p⟩ := h
  exact ⟨g, S, t, w, s, p.bnd.imp fun d t' g' H' st w' q v r => f g' S t' v d H' w' (s.stp w st) r q⟩
theorem tW.seq {K : PySem.W.Frag} {C : Cn} {E : XK} {fa : Ex} {k : Sl → D → M D} {σ : L2.St} {H : Hp} {Q Q1 : VK} (h : tE K C E (fun S => bnd (fa S) (k S)) σ H Q)
    (f : ∀ g S t x d H1, Wf C g H1 t → SL K g H1 σ S → RpW K g H1 x d → Post C E g H1 (fun d _ g' H' => ∀ v, Rp K g' v d → Q v H') (k S d t) → Q1 x H1) : tW K C E fa σ H Q1 := by
  obtain ⟨g, S, t, w, s, p⟩ := h
  exact ⟨g, S, t, w, s, p.bnd.imp fun d t' g' H' st w' q v r => f g' S t' v d H' w' (s.stp w st) r q⟩
/-- a new object laid, tracked, not frozen -/
theorem Stp.lay {C : Cn} {g : G} {H : Hp} {t : Tn} {p : Addr} {o : HO} (w : Wf C g H t) (hp : H p = none) : Stp g H g (upd H p o) :=
  ⟨fun _ _ h => h, .refl g, Twn.refl g H, fun b o' h _ _ => (by rw [upd_ne (ne_of_none h hp)]; exact h), fun b ⟨o', h, n⟩ => ⟨o', by rw [upd_ne (ne_of_none h hp)]; exact h, n⟩, fun _ _ => rfl⟩
theorem TownOk.ext {g : G} {H H' : Hp} {t : Option (Int × List (Int × Int))} (h : TownOk g H t) (e : ∀ b kvs, H b = some (.dK kvs) → (∃ p, g.tw = some p ∧ (b = p.1 ∨ b = p.2)) → H' b = some (.dK kvs)) : TownOk g H' t := by
  cases t with
  | none => exact h
  | some cr =>
    obtain ⟨a, b, e1, e2, e3, e4⟩ := h
    exact ⟨a, b, e1, e2, e _ _ e3 ⟨_, e1, .inl rfl⟩, e _ _ e4 ⟨_, e1, .inr rfl⟩⟩
theorem Wf.lay {C : Cn} {g : G} {H : Hp} {t : Tn} {p : Addr} {o : HO} (w : Wf C g H t) (hp : H p = none) : Wf C g (upd H p o) t where
  fz := fun b o' h => by rw [upd_ne (ne_of_none (w.fz b o' h) hp)]; exact w.fz b o' h
  tw := ⟨w.tw.1.ext fun b kvs h _ => by rw [upd_ne (ne_of_none h hp)]; exact h, w.tw.2.keep (fun _ _ h => h) (.refl g) ⟨rfl, rfl⟩ fun a _ ho h => by rw [upd_ne (ne_of_none h hp)]; exact h⟩
  ntw := w.ntw
  tab := w.tab.ext fun b o' h => by rw [upd_ne (ne_of_none h hp)]; exact h
  nft := w.nft
/-- .. frozen: a tuple -/
theorem layT {K : PySem.W.Frag} {C : Cn} {g : G} {H : Hp} {t : Tn} {p : Addr} {vs : List V} {ds : List D} {ob : Obj} (w : Wf C g H t) (hp : H p = none) (hd : ob.dict = none) (hc : ob.cls = .type "tuple") (r : RpA K g vs ds) :
    ∃ g', Stp g H g' (upd H p (.frz ob (.tup vs))) ∧ Wf C g' (upd H p (.frz ob (.tup vs))) t ∧ Rp K g' (.ref p) (.tup ds) := by
  have f0 : g.Fz p = none := w.fzN hp
  have sm : Same g.Fz (upd g.Fz p (.frz ob (.tup vs))) := fun b o h => by
    rw [upd_ne (ne_of_none h f0)]; exact h
  have s1 := Stp.lay (o := HO.frz ob (.tup vs)) w hp
  have w1 := Wf.lay (o := HO.frz ob (.tup vs)) w hp
  refine ⟨⟨upd g.Fz p (.frz ob (.tup vs)), g.tw, g.ad, g.lg⟩, ⟨sm, .of, s1.twn, s1.frm, s1.thr, fun b h => ?_⟩, ⟨fun b o h => ?_, ⟨w1.tw.1, w1.tw.2.frz sm⟩, fun b h => ?_, w1.tab, nft_upd w1.nft fun _ z => by cases z⟩, ?_⟩
  · have nb : b ≠ p := fun z => Nt.no hp (by rw [← z]; exact h)
    show upd g.Fz p (.frz ob (.tup vs)) b = _
    rw [upd_ne nb]
  · have h : upd g.Fz p (.frz ob (.tup vs)) b = some o := h
    by_cases hb : b = p
    · rw [hb, upd_same] at h
      cases h
      rw [hb]; exact upd_same
    · rw [upd_ne hb] at h
      exact w1.fz b o h
  · have nb : b ≠ p := fun z => w.ntN hp (by rw [← z]; exact h)
    show upd g.Fz p (.frz ob (.tup vs)) b = _
    rw [upd_ne nb]
    exact w.ntw b h
  · exact .tup (.inl ⟨ob, upd_same, hd, hc⟩) (RpA.mono (g' := ⟨upd g.Fz p (.frz ob (.tup vs)), g.tw, g.ad, g.lg⟩) sm .of r)
/-- a new list, not frozen yet -/
theorem layL {K : PySem.W.Frag} {C : Cn} {g : G} {H : Hp} {t : Tn} {p : Addr} {vs : List V} {ds : List D} (w : Wf C g H t) (hp : H p = none) (r : RpA K g vs ds) : RpF K H g (upd H p (.lst vs)) (.ref p) (.lst ds) :=
  ⟨p, vs, ds, rfl, rfl, Nt.no hp, upd_same, r, w.fzN hp, w.ntN hp⟩
/-- neither frozen nor one of the objects -/
def Fre (g : G) (p : Addr) : Prop := g.Fz p = none ∧ ¬ g.isTw p
theorem Fre.stp {g g' : G} {H H' : Hp} {p : Addr} {o : HO} (f : Fre g p) (s : Stp g H g' H') (h : H p = some o) (n : ∀ ps, o ≠ .tbl ps) : Fre g' p := ⟨by rw [s.new p ⟨o, h, n⟩]; exact f.1, s.ntw h f.2 n⟩
theorem Wf.fre {C : Cn} {g : G} {H : Hp} {t : Tn} (w : Wf C g H t) {p : Addr} (h : H p = none) : Fre g p := ⟨w.fzN h, w.ntN h⟩
end BG
set_option Elab.async false
set_option linter.all false
set_option maxRecDepth 100000
set_option maxHeartbeats 4000000
namespace BG
open PySem PySem.Spec PyProof.Rows L2
def eVar (i : Nat) : Ex := fun S => match S[i]? with
  | some (.val d) => ret d
  | _ => stuck
def ePeek (i : Nat) : Ex := fun S => match S[i]? with
  | some (.val d) => ret d
  | some (.own ds) => ret (.lst ds)
  | _ => stuck
def eC (d : D) : Ex := fun _ => ret d
def eBin (op : D → D → M D) (a b : Ex) : Ex := fun S => bnd (a S) fun x => bnd (b S) fun y => op x y
def eUn (op : D → M D) (a : Ex) : Ex := fun S => bnd (a S) fun x => op x
def evs : List Ex → Sl → M (List D)
  | [], _ => ret []
  | f :: fs, S => bnd (f S) fun d => bnd (evs fs S) fun ds => ret (d :: ds)
def eTup (fs : List Ex) : Ex := fun S => bnd (evs fs S) fun ds => ret (.tup ds)
def eLst (fs : List Ex) : Ex := fun S => bnd (evs fs S) fun ds => ret (.lst ds)
def eAnd (a b : Ex) : Ex := fun S => bnd (a S) fun x => match x with
  | .bl true => b S
  | .bl false => ret (.bl false)
  | _ => stuck
def eOr (a b : Ex) : Ex := fun S => bnd (a S) fun x => match x with
  | .bl true => ret (.bl true)
  | .bl false => b S
  | _ => stuck
def oNot (x : D) : M D := match x with
  | .bl b => ret (.bl (!b))
  | _ => stuck
def eIf (c a b : Ex) : Ex := fun S => bnd (c S) fun x => match x with
  | .bl true => a S
  | .bl false => b S
  | _ => stuck
theorem evs_length : ∀ {fs : List Ex} {S : Sl} {t t' : Tn} {ds : List D}, evs fs S t = some (.ok ds t') → ds.length = fs.length
  | [], _, _, _, ds, h => by
    have h : some (Out.ok ([] : List D) _) = some (Out.ok ds _) := h
    cases h; rfl
  | f :: fs, S, t, t', ds, h => by
    unfold evs bnd at h
    cases e : f S t with
    | none => rw [e] at h; cases h
    | some o =>
      rw [e] at h
      cases o with
      | exc c t1 => cases h
      | ok d t1 =>
        cases e2 : evs fs S t1 with
        | none => simp only [e2] at h; cases h
        | some o2 =>
          simp only [e2] at h
          cases o2 with
          | exc c t2 => cases h
          | ok ds2 t2 =>
            have h : some (Out.ok (d :: ds2) t2) = some (Out.ok ds t') := h
            cases h
            rw [List.length_cons, List.length_cons, evs_length e2]
section
variable {α : Type} {C : Cn} {E : XK} {g : G} {H : Hp} {Rok Rok' : α → Tn → G → Hp → Prop}
theorem Post.impE {r : Option (Out α)} (h : Post C E g H Rok r) (f : ∀ a t', r = some (.ok a t') → ∀ g' H', Stp g H g' H' → Wf C g' H' t' → Rok a t' g' H' → Rok' a t' g' H') : Post C E g H Rok' r := by
  cases r with
  | none => exact h
  | some o =>
    cases o with
    | ok a t' => exact fun g' H' s' w => f a t' rfl g' H' s' w (h g' H' s' w)
    | exc c t' => exact h
end
section
variable {X : Cx} {C : Cn} {E : XK}
theorem ce_var (i : Nat) {x : Str} {pos : Pos} (hN : X.N[i]? = some x := by rfl) (hv : Vis X.env.scope x := by first | exact Or.inl rfl | exact Or.inr (Or.inl rfl) | exact Or.inr (Or.inr rfl)) (hd : (x == ("__debug__" : Str)) = false := by decide)
    (hcd : (x == ("__classdict__" : Str)) = false := by decide) : CE X C E (.Name x pos) (eVar i) := by
  refine PE.imp (pe_var hN hv hd hcd) fun σ H Q ⟨g, S, t, w, s, p⟩ => ?_
  unfold eVar at p
  cases e : S[i]? with
  | none => rw [e] at p; exact p.elim
  | some sv =>
    rw [e] at p
    cases sv with
    | un => exact p.elim
    | own ds => exact p.elim
    | dic ks => exact p.elim
    | dcT ks => exact p.elim
    | raw v => exact p.elim
    | exn v => exact p.elim
    | val d =>
      obtain ⟨v, h1, h2⟩ := s.val i d e
      exact ⟨v, h1, postRet p w v h2⟩
theorem cw_peek (i : Nat) {x : Str} {pos : Pos} (hN : X.N[i]? = some x := by rfl) (hv : Vis X.env.scope x := by first | exact Or.inl rfl | exact Or.inr (Or.inl rfl) | exact Or.inr (Or.inr rfl)) (hd : (x == ("__debug__" : Str)) = false := by decide)
    (hcd : (x == ("__classdict__" : Str)) = false := by decide) : CW X C E (.Name x pos) (ePeek i) := by
  refine PE.imp (pe_var hN hv hd hcd) fun σ H Q ⟨g, S, t, w, s, p⟩ => ?_
  unfold ePeek at p
  cases e : S[i]? with
  | none => rw [e] at p; exact p.elim
  | some sv =>
    rw [e] at p
    cases sv with
    | un => exact p.elim
    | dic ks => exact p.elim
    | dcT ks => exact p.elim
    | raw v => exact p.elim
    | exn v => exact p.elim
    | own ds =>
      obtain ⟨a, vs, h1, h2, h3, h4⟩ := s.own i ds e
      exact ⟨_, h1, postRet p w _ (.inr ⟨a, vs, ds, rfl, rfl, h2, h3, h4.2⟩)⟩
    | val d =>
      obtain ⟨v, h1, h2⟩ := s.val i d e
      exact ⟨v, h1, postRet p w v (.inl h2)⟩
theorem ce_int {i j pos} : CE X C E (.Constant (.int i) j pos) (eC (.int i)) := PE.imp pe_int fun σ H Q ⟨g, S, t, w, s, p⟩ => postRet p w _ (.int i)
theorem ce_bl {i j pos} : CE X C E (.Constant (.bool i) j pos) (eC (.bl i)) := PE.imp pe_bl fun σ H Q ⟨g, S, t, w, s, p⟩ => postRet p w _ (.bl i)
theorem ce_non {j pos} : CE X C E (.Constant .none j pos) (eC .non) := PE.imp pe_non fun σ H Q ⟨g, S, t, w, s, p⟩ => postRet p w _ .non
theorem ce_str {x j pos} : CE X C E (.Constant (.str x) j pos) (eC (.str x)) := PE.imp pe_str fun σ H Q ⟨g, S, t, w, s, p⟩ => postRet p w _ (.str x)
/-- a module's constant: its value in the written part -/
theorem ce_glob {x : Str} {v : V} {u : Value} {d : D} {pos : Pos} (hm : X.mg x = some u) (hr : RelV v u) (r : ∀ g, Rp X.K g v d) (hg : Gl X x := by rfl) (hd : (x == ("__debug__" : Str)) = false := by decide) : CE X C E (.Name x pos) (eC d) :=
  PE.imp (pe_glob hg hm hr hd) fun σ H Q ⟨g, S, t, w, s, p⟩ => postRet p w _ (r g)
/-- two operands by values: a law of an operation -/
def rD (K : PySem.W.Frag) (C : Cn) (E : XK) (prim : D → D → M D) : R2 := fun x y H Q => ∃ g t p q, Wf C g H t ∧ RpW K g H x p ∧ RpW K g H y q ∧ Post C E g H (fun d _ g' H' => ∀ v, Rp K g' v d → Q v H') (prim p q t)
abbrev BinOk (X : Cx) (C : Cn) (E : XK) (f : Value → Value → Sem Value) (prim : D → D → M D) : Prop := OpR X f (rD X.K C E prim)
theorem OpR.imp {f : Value → Value → Sem Value} {r r' : R2} (h : OpR X f r) (i : ∀ x y H Q, r' x y H Q → r x y H Q) : OpR X f r' := fun pins s σ H x y v u Q I rx ry q => h pins s σ H x y v u Q I rx ry (i x y H Q q)
theorem tW.two {prim : D → D → M D} {fa fb : Ex} {σ : L2.St} {H : Hp} {Q : VK} (h : tE X.K C E (eBin prim fa fb) σ H Q) : tOp (rD X.K C E prim) (tW X.K C E fa) (tW X.K C E fb) σ H Q := by
  refine tW.seq h fun g S t x d H1 w s rx p1 => ?_
  exact ⟨g, S, t, w, s, p1.bnd.imp fun d2 t2 g2 H2 st w2 q v r2 => ⟨g2, t2, d, d2, w2, rx.stp w st, r2, q⟩⟩
theorem ce_bin {op : Operator} {prim : D → D → M D} {a b : Expr} {fa fb : Ex} {pos : Pos} (ho : BinOk X C E (binaryOp op) prim) (ha : CW X C E a fa) (hb : CW X C E b fb) : CE X C E (.BinOp a op b pos) (eBin prim fa fb) :=
  PE.imp (pe_op ho ha hb) fun σ H Q h => tW.two h
theorem ce_cmp {op : CmpOp} {prim : D → D → M D} {a b : Expr} {fa fb : Ex} {pos : Pos} (ho : BinOk X C E (compareOp op) prim) (ha : CW X C E a fa) (hb : CW X C E b fb) (hm : behindInMarks op b = false := by rfl) :
    CE X C E (.Compare a [op] [b] pos) (eBin prim fa fb) := PE.imp (pe_cmpR ho ha hb hm) fun σ H Q h => tW.two h
theorem tT.tE {f : Ex} {σ : L2.St} {H : Hp} {Q : Bool → Hp → Prop} (h : tT X.K C E f σ H Q) : tE X.K C E f σ H (fun x H' => ∃ k, x = .bl k ∧ Q k H') := by
  obtain ⟨g, S, t, w, s, p⟩ := h
  exact ⟨g, S, t, w, s, p.imp fun d t' g' H' _ _ ⟨b, e, q⟩ v r => by
    subst e
    cases r
    exact ⟨b, rfl, q⟩⟩
theorem ct_cmp {op : CmpOp} {prim : D → D → M D} {a b : Expr} {fa fb : Ex} {pos : Pos} (ho : BinOk X C E (compareOp op) prim) (ha : CW X C E a fa) (hb : CW X C E b fb) (hm : behindInMarks op b = false := by rfl) :
    CT X C E (.Compare a [op] [b] pos) (eBin prim fa fb) := PT.imp (pt_cmpR ho ha hb hm) fun σ H Q h => tW.two (tT.tE h)
/-- any expression that gives a bool, as a test -/
theorem ct_val {e : Expr} {f : Ex} (h : CE X C E e f) (he : ∀ whole, isTrue e X.env whole = (do let v ← whole; standAt e.pos; holding [v] (truthy v)) := by intro _; rfl) : CT X C E e f :=
  PT.imp (pt_val h he) fun σ H Q h => tT.tE h
theorem tE.and {fa fb : Ex} {σ : L2.St} {H : Hp} {Q : VK} (h : tE X.K C E (eAnd fa fb) σ H Q) : tAndV (tE X.K C E fa) (tE X.K C E fb) σ H Q := by
  refine tE.seq h fun g S t x d H1 w s rx p1 => ?_
  cases d with
  | bl b =>
    cases rx
    refine ⟨b, rfl, ?_⟩
    cases b with
    | true => exact iteT ⟨g, S, t, w, s, p1⟩
    | false => exact iteF (postRet p1 w _ (.bl false))
  | _ => exact p1.elim
theorem tE.or {fa fb : Ex} {σ : L2.St} {H : Hp} {Q : VK} (h : tE X.K C E (eOr fa fb) σ H Q) : tOrV (tE X.K C E fa) (tE X.K C E fb) σ H Q := by
  refine tE.seq h fun g S t x d H1 w s rx p1 => ?_
  cases d with
  | bl b =>
    cases rx
    refine ⟨b, rfl, ?_⟩
    cases b with
    | false => exact iteF ⟨g, S, t, w, s, p1⟩
    | true => exact iteT (postRet p1 w _ (.bl true))
  | _ => exact p1.elim
theorem ce_one {op} {a : Expr} {f : Ex} {pos : Pos} (h : CE X C E a f) : CE X C E (.BoolOp op [a] pos) f := pe_one h
theorem ce_and {a b : Expr} {rest : List Expr} {fa fb : Ex} {pos : Pos} (ha : CE X C E a fa) (hb : CE X C E (.BoolOp .And (b :: rest) pos) fb) : CE X C E (.BoolOp .And (a :: b :: rest) pos) (eAnd fa fb) := PE.imp (pe_and ha hb) fun σ H Q h => tE.and h
theorem ce_or {a b : Expr} {rest : List Expr} {fa fb : Ex} {pos : Pos} (ha : CE X C E a fa) (hb : CE X C E (.BoolOp .Or (b :: rest) pos) fb) : CE X C E (.BoolOp .Or (a :: b :: rest) pos) (eOr fa fb) := PE.imp (pe_or ha hb) fun σ H Q h => tE.or h
theorem ce_not {a : Expr} {fa : Ex} {pos : Pos} (ha : CE X C E a fa) : CE X C E (.UnaryOp .Not a pos) (eUn oNot fa) := PE.imp (pe_not ha) fun σ H Q h => by
  refine tE.seq h fun g S t x d H1 w s rx p1 => ?_
  cases d with
  | bl b =>
    cases rx
    exact ⟨b, rfl, postRet p1 w _ (.bl _)⟩
  | _ => exact p1.elim
/-- a test, then what follows -/
theorem tT.seq {fa : Ex} {k : D → M D} {σ : L2.St} {H : Hp} {Rr : D → Tn → G → Hp → Prop} {Q1 : Bool → Hp → Prop} {g : G} {S : Sl} {t : Tn} (w : Wf C g H t) (s : SL X.K g H σ S) (p : Post C E g H Rr (bnd (fa S) k t)) (nb : ∀ d t, (∀ b, d ≠ .bl b) → k d t = none)
    (f : ∀ g t b H1, Wf C g H1 t → SL X.K g H1 σ S → Post C E g H1 Rr (k (.bl b) t) → Q1 b H1) : tT X.K C E fa σ H Q1 := by
  refine ⟨g, S, t, w, s, p.bnd.imp fun d t' g' H' st w' q => ?_⟩
  by_cases h : ∃ b, d = .bl b
  · obtain ⟨b, rfl⟩ := h
    exact ⟨b, rfl, f g' t' b H' w' (s.stp w st) q⟩
  · have q : Post C E g' H' Rr (k d t') := q
    rw [nb d t' (fun b z => h ⟨b, z⟩)] at q
    exact q.elim
theorem cw_and {a b : Expr} {rest : List Expr} {fa fb : Ex} {pos : Pos} (ha : CT X C E a fa) (hb : PW X (.BoolOp .And (b :: rest) pos) (tT X.K C E fb)) : PW X (.BoolOp .And (a :: b :: rest) pos) (tT X.K C E (eAnd fa fb)) := by
  refine ⟨fun wh pins s σ H Q I h => (pw_and ha hb).run wh pins s σ H Q I ?_⟩
  obtain ⟨g, S, t, w, sl, p⟩ := h
  refine tT.seq (k := fun x => match x with | .bl true => fb S | .bl false => ret (.bl false) | _ => stuck) w sl p (fun d t h => ?_) fun g t b H1 w s p => ?_
  · cases d <;> first | rfl | exact absurd rfl (h _)
  · cases b with
    | true => exact iteT ⟨g, S, t, w, s, p⟩
    | false =>
      obtain ⟨b, e, q⟩ := postRet p w
      cases e
      exact iteF q
theorem cw_or {a b : Expr} {rest : List Expr} {fa fb : Ex} {pos : Pos} (ha : CT X C E a fa) (hb : PW X (.BoolOp .Or (b :: rest) pos) (tT X.K C E fb)) : PW X (.BoolOp .Or (a :: b :: rest) pos) (tT X.K C E (eOr fa fb)) := by
  refine ⟨fun wh pins s σ H Q I h => (pw_or ha hb).run wh pins s σ H Q I ?_⟩
  obtain ⟨g, S, t, w, sl, p⟩ := h
  refine tT.seq (k := fun x => match x with | .bl true => ret (.bl true) | .bl false => fb S | _ => stuck) w sl p (fun d t h => ?_) fun g t b H1 w s p => ?_
  · cases d <;> first | rfl | exact absurd rfl (h _)
  · cases b with
    | false => exact iteF ⟨g, S, t, w, s, p⟩
    | true =>
      obtain ⟨b, e, q⟩ := postRet p w
      cases e
      exact iteT q
theorem ct_w {e : Expr} {f : Ex} (h : PW X e (tT X.K C E f)) : CT X C E e f := h.pt
theorem ct_not {a : Expr} {fa : Ex} {pos : Pos} (ha : CT X C E a fa) : CT X C E (.UnaryOp .Not a pos) (eUn oNot fa) := PT.imp (pt_not ha) fun σ H Q h => by
  obtain ⟨g, S, t, w, sl, p⟩ := h
  refine tT.seq (k := oNot) w sl p (fun d t h => ?_) fun g t b H1 w s p => ?_
  · cases d <;> first | rfl | exact absurd rfl (h _)
  · obtain ⟨b, e, q⟩ := postRet p w
    cases e
    exact q
theorem ce_if {c a b : Expr} {fc fa fb : Ex} {pos : Pos} (hc : CT X C E c fc) (ha : CE X C E a fa) (hb : CE X C E b fb) : CE X C E (.IfExp c a b pos) (eIf fc fa fb) := PE.imp (pe_ifExp hc ha hb) fun σ H Q h => by
  obtain ⟨g, S, t, w, sl, p⟩ := h
  refine tT.seq (k := fun x => match x with | .bl true => fa S | .bl false => fb S | _ => stuck) w sl p (fun d t h => ?_) fun g t b H1 w s p => ?_
  · cases d <;> first | rfl | exact absurd rfl (h _)
  · cases b with
    | true => exact iteT ⟨g, S, t, w, s, p⟩
    | false => exact iteF ⟨g, S, t, w, s, p⟩
theorem ca_nil : CA X C E [] (evs []) := PA.imp pa_nil fun σ H Q ⟨g, S, t, w, s, p⟩ => postRet p w _ .nil
theorem ca_cons {e : Expr} {es : List Expr} {f : Ex} {fs : List Ex} (ha : CE X C E e f) (hr : CA X C E es (evs fs)) (hs : starEach (e :: es) X.env = (false, eval e X.env) :: starEach es X.env := by rfl) : CA X C E (e :: es) (evs (f :: fs)) :=
  PA.imp (pa_cons ha hr hs) fun σ H Q ⟨g, S, t, w, s, p⟩ => ⟨g, S, t, w, s, p.bnd.imp fun d t1 g1 H1 st1 w1 q v r => ⟨g1, S, t1, w1, s.stp w st1, q.bnd.imp fun ds t2 g2 H2 st2 w2 q2 vs rs => postRet q2 w2 _ (.cons (r.stp st2) rs)⟩⟩
theorem Post.evs {fs : List Ex} {S : Sl} {t : Tn} {g : G} {H : Hp} {Rok : List D → Tn → G → Hp → Prop} (p : Post C E g H Rok (evs fs S t)) : Post C E g H (fun ds t' g' H' => ds.length = fs.length ∧ Rok ds t' g' H') (evs fs S t) :=
  p.impE fun a t' e g' H' _ _ r => ⟨evs_length e, r⟩
theorem ce_tup {es : List Expr} {fs : List Ex} {x1} {pos : Pos} (h : CA X C E es (evs fs)) (hl : fs.length ≤ sizeLine := by decide) : CE X C E (.Tuple es x1 pos) (eTup fs) := PE.imp (pe_tupN h) fun σ H Q ⟨g, S, t, w, s, p⟩ =>
  ⟨g, S, t, w, s, (Post.evs p.bnd).imp fun ds t1 g1 H1 st1 w1 ⟨el, q⟩ vs rs => ⟨by rw [rs.length, el]; exact hl, fun a ob ha hd hcl => by
    obtain ⟨g2, s2, w2, r2⟩ := layT w1 ha hd hcl rs
    exact q g2 _ s2 w2 _ r2⟩⟩
theorem cf_lst {es : List Expr} {fs : List Ex} {pos : Pos} (h : CA X C E es (evs fs)) (hl : fs.length ≤ sizeLine := by decide) : CF X C E (.List es pos) (eLst fs) := PE.imp (pe_lst h) fun σ H Q ⟨g, S, t, w, s, p⟩ =>
  ⟨g, S, t, w, s, (Post.evs p.bnd).imp fun ds t1 g1 H1 st1 w1 ⟨el, q⟩ vs rs => ⟨by rw [rs.length, el]; exact hl, fun a ha => by
    obtain ⟨p', vs', ds', e1, e2, e3, e4, e5, e6⟩ := layL (H := H1) w1 ha rs
    have h0 : ¬ Nt H a := fun z => Nt.no ha (st1.thr a z)
    exact q g1 _ (Stp.lay w1 ha) (Wf.lay w1 ha) _ ⟨a, vs, ds, rfl, rfl, h0, upd_same, rs, w1.fzN ha, w1.ntN ha⟩⟩⟩
end
end BG
set_option Elab.async false
set_option linter.all false
set_option maxRecDepth 100000
set_option maxHeartbeats 4000000
namespace BG
open PySem PySem.Spec PyProof.Rows L2
mutual
def D.py : D → PyData
  | .non => .none
  | .bl b => .bool b
  | .int i => .int i
  | .str x => .str x
  | .tup xs => .tuple (pyA xs)
  | .lst xs => .list (pyA xs)
  | .town => .none
  | .scr _ => .none
  | .dct _ _ => .none
  | .dTT _ _ => .none
  | .hnd _ => .none
def pyA : List D → List PyData
  | [] => []
  | d :: ds => d.py :: pyA ds
end
mutual
def okD : D → Nat → Bool
  | .non, _ => true
  | .bl _, _ => true
  | .int _, _ => true
  | .str x, _ => PyData.strOk x
  | .tup xs, n => match n with
    | 0 => false
    | m + 1 => okA xs m
  | .lst xs, n => match n with
    | 0 => false
    | m + 1 => okA xs m
  | .town, _ => false
  | .scr _, _ => false
  | .dct _ _, _ => false
  | .dTT _ _, _ => false
  | .hnd _, _ => false
def okA : List D → Nat → Bool
  | [], _ => true
  | d :: ds, n => okD d n && okA ds n
end
theorem pyA_map : ∀ ds : List D, pyA ds = ds.map D.py
  | [] => rfl
  | d :: ds => by rw [pyA, List.map_cons, pyA_map ds]
theorem okA_all : ∀ (ds : List D) (n : Nat), okA ds n = ds.all fun d => okD d n
  | [], _ => rfl
  | d :: ds, n => by rw [okA, List.all_cons, okA_all ds n]
mutual
theorem okD_lay : ∀ (d : D) (n : Nat), okD d n = true → d.py.canLay0 = true ∧ d.py.depth ≤ n
  | .non, _, _ => by rw [D.py]; exact ⟨rfl, Nat.zero_le _⟩
  | .bl _, _, _ => by rw [D.py]; exact ⟨rfl, Nat.zero_le _⟩
  | .int _, _, _ => by rw [D.py]; exact ⟨rfl, Nat.zero_le _⟩
  | .str x, _, h => by rw [D.py]; exact ⟨h, Nat.zero_le _⟩
  | .tup xs, 0, h => by cases h
  | .tup xs, n + 1, h => by
    obtain ⟨a, b⟩ := okA_lay xs n h
    rw [D.py]
    exact ⟨a, Nat.succ_le_succ b⟩
  | .lst xs, 0, h => by cases h
  | .lst xs, n + 1, h => by
    obtain ⟨a, b⟩ := okA_lay xs n h
    rw [D.py]
    exact ⟨a, Nat.succ_le_succ b⟩
  | .town, _, h => by cases h
  | .scr _, _, h => by cases h
  | .dct _ _, _, h => by cases h
  | .dTT _ _, _, h => by cases h
  | .hnd _, _, h => by cases h
theorem okA_lay : ∀ (ds : List D) (n : Nat), okA ds n = true → PyData.canLayAll0 (pyA ds) = true ∧ PyData.depthAll (pyA ds) ≤ n
  | [], _, _ => ⟨rfl, Nat.zero_le _⟩
  | d :: ds, n, h => by
    have h : (okD d n && okA ds n) = true := h
    rw [Bool.and_eq_true] at h
    obtain ⟨a1, a2⟩ := okD_lay d n h.1
    obtain ⟨b1, b2⟩ := okA_lay ds n h.2
    refine ⟨?_, ?_⟩
    · show (d.py.canLay0 && PyData.canLayAll0 (pyA ds)) = true
      rw [a1, b1]; rfl
    · show max d.py.depth (PyData.depthAll (pyA ds)) ≤ n
      exact Nat.max_le.mpr ⟨a2, b2⟩
end
theorem shaped_of {d : D} {n : Nat} (h : okD d n = true) (hn : n ≤ 64) : SeqAt.shaped d.py = true := by
  obtain ⟨a, b⟩ := okD_lay d n h
  unfold SeqAt.shaped
  rw [a, decide_eq_true (Nat.le_trans b hn)]; rfl
section
variable {K : PySem.W.Frag} {C : Cn} {g : G} {H : Hp} {t : Tn}
mutual
theorem Rp.dp (w : Wf C g H t) : ∀ {d : D} {v : V} {n : Nat}, Rp K g v d → okD d n = true → Dp K H v d.py
  | .non, _, _, h, _ => by cases h; rw [D.py]; exact .non
  | .bl b, _, _, h, _ => by cases h; rw [D.py]; exact .bl b
  | .int i, _, _, h, _ => by cases h; rw [D.py]; exact .int i
  | .str x, _, _, h, _ => by cases h; rw [D.py]; exact .str x
  | .tup ds, _, 0, h, o => by cases o
  | .tup ds, _, n + 1, h, o => by
    cases h with
    | tup s a => rw [D.py]; exact .tup (Same.tseq w.fz s.t) (RpA.dp w a o)
  | .lst ds, _, 0, h, o => by cases o
  | .lst ds, _, n + 1, h, o => by
    cases h with
    | lst s a => rw [D.py]; exact .lst (.inl (.inl (w.fz _ _ s))) (RpA.dp w a o)
  | .town, _, _, h, o => by cases o
  | .scr _, _, _, h, o => by cases o
  | .dct _ _, _, _, h, o => by cases o
  | .dTT _ _, _, _, h, o => by cases o
  | .hnd _, _, _, h, o => by cases o
theorem RpA.dp (w : Wf C g H t) : ∀ {ds : List D} {vs : List V} {n : Nat}, RpA K g vs ds → okA ds n = true → DpAll K H vs (pyA ds)
  | [], _, _, h, _ => by cases h; exact .nil
  | d :: ds, _, n, h, o => by
    have o : (okD d n && okA ds n) = true := o
    rw [Bool.and_eq_true] at o
    cases h with
    | cons a b => exact .cons (Rp.dp w a o.1) (RpA.dp w b o.2)
end
theorem RpW.dp (w : Wf C g H t) {d : D} {v : V} {n : Nat} (h : RpW K g H v d) (o : okD d n = true) : Dp K H v d.py := by
  rcases h with h | ⟨p, vs, ds, rfl, rfl, e3, e4, _⟩
  · exact h.dp w o
  · cases n with
    | zero => cases o
    | succ n => rw [D.py]; exact .lst (.inl (.inl e3)) (e4.dp w o)
end
section
variable {K : PySem.W.Frag} {C : Cn} {E : XK} {g : G} {H : Hp} {t : Tn} {Q : VK}
abbrev PostQ (K : PySem.W.Frag) (C : Cn) (E : XK) (g : G) (H : Hp) (Q : VK) (r : Option (Out D)) : Prop := Post C E g H (fun d _ g' H' => ∀ v, Rp K g' v d → Q v H') r
theorem pRetV {d : D} {v : V} (p : PostQ K C E g H Q (ret d t)) (w : Wf C g H t) (r : Rp K g v d) : Q v H := postRet p w v r
theorem pRetT {ds : List D} {vs : List V} (p : PostQ K C E g H Q (ret (.tup ds) t)) (w : Wf C g H t) (r : RpA K g vs ds) : NewT H Q vs := fun a ob ha hd hcl => by
  obtain ⟨g2, s2, w2, r2⟩ := layT w ha hd hcl r
  exact p g2 _ s2 w2 _ r2
theorem pRetL {ds : List D} {vs : List V} (p : PostQ K C E g H Q (ret (.lst ds) t)) (w : Wf C g H t) (r : RpA K g vs ds) (a : Addr) (ha : H a = none) : Q (.ref a) (upd H a (.lst vs)) := by
  obtain ⟨g2, s2, w2, r2⟩ := Rp.frz (layL w ha r) (Stp.lay w ha) (Wf.lay w ha)
  exact p g2 _ s2 w2 _ r2
end
def pAdd : D → D → M D
  | .int i, .int j => ret (.int (i + j))
  | .str x, .str y => if x.length + y.length ≤ sizeLine then ret (.str (x ++ y)) else stuck
  | .tup xs, .tup ys => if xs.length + ys.length ≤ sizeLine then ret (.tup (xs ++ ys)) else stuck
  | .lst xs, .lst ys => if xs.length + ys.length ≤ sizeLine then ret (.lst (xs ++ ys)) else stuck
  | _, _ => stuck
def pSub : D → D → M D
  | .int i, .int j => ret (.int (i - j))
  | _, _ => stuck
def pMul : D → D → M D
  | .int i, .int j => if -(2 ^ 64) < i ∧ i < 2 ^ 64 then ret (.int (i * j)) else stuck
  | .tup xs, .int k => if xs ≠ [] ∧ 2 ≤ k ∧ k ≤ 1000 ∧ xs.length ≤ 1000 then ret (.tup (List.replicate k.toNat xs).flatten) else stuck
  | .lst xs, .int k => if 0 ≤ k ∧ k ≤ 1000 ∧ xs.length ≤ 1000 then ret (.lst (List.replicate k.toNat xs).flatten) else stuck
  | _, _ => stuck
def pMod : D → D → M D
  | .int i, .int j => if 0 < j then ret (.int (i % j)) else stuck
  | _, _ => stuck
def pDiv : D → D → M D
  | .int i, .int j => if 0 < j ∧ j < 1073741824 then ret (.int (i / j)) else stuck
  | _, _ => stuck
def pXor : D → D → M D
  | .int i, .int j => ret (.int (Builtin.bitXor i j))
  | _, _ => stuck
def pEq (p q : D) : M D := if okD p 60 = true ∧ okD q 60 = true then ret (.bl (PyData.eqv p.py q.py)) else stuck
def pNe (p q : D) : M D := if okD p 60 = true ∧ okD q 60 = true then ret (.bl (!PyData.eqv p.py q.py)) else stuck
def pLt : D → D → M D
  | .int i, .int j => ret (.bl (decide (i < j)))
  | .str i, .str j => ret (.bl (decide (i.cps.toList < j.cps.toList)))
  | _, _ => stuck
def pLe : D → D → M D
  | .int i, .int j => ret (.bl (decide (i ≤ j)))
  | _, _ => stuck
def pGt : D → D → M D
  | .int i, .int j => ret (.bl (decide (j < i)))
  | _, _ => stuck
def pGe : D → D → M D
  | .int i, .int j => ret (.bl (decide (j ≤ i)))
  | _, _ => stuck
def inD (p : D) (ds : List D) : Bool := ds.any fun d => PyData.eqv d.py p.py
def pIn : D → D → M D
  | p, .tup ds => if okD p 60 = true ∧ okA ds 60 = true then ret (.bl (inD p ds)) else stuck
  | p, .lst ds => if okD p 60 = true ∧ okA ds 60 = true then ret (.bl (inD p ds)) else stuck
  | _, _ => stuck
def pNotIn : D → D → M D
  | p, .tup ds => if okD p 60 = true ∧ okA ds 60 = true then ret (.bl (!inD p ds)) else stuck
  | p, .lst ds => if okD p 60 = true ∧ okA ds 60 = true then ret (.bl (!inD p ds)) else stuck
  | _, _ => stuck
def isN : D → Bool
  | .non => true
  | _ => false
def pIs : D → D → M D
  | p, .non => ret (.bl (isN p))
  | _, _ => stuck
def pIsNot : D → D → M D
  | p, .non => ret (.bl (!isN p))
  | _, _ => stuck
section
variable {X : Cx} {C : Cn} {E : XK}
theorem bin_add : BinOk X C E (binaryOp .Add) pAdd := OpR.imp (op_add.or (op_add_str.or (op_catN.or op_cat))) fun x y H Q ⟨g, t, p, q, w, rx, ry, h⟩ => by
  cases p with
  | int i =>
    cases q with
    | int j => exact .inl ⟨i, j, rx.int, ry.int, pRetV h w (.int _)⟩
    | _ => exact h.elim
  | str i =>
    cases q with
    | str j =>
      have h : PostQ X.K C E g H Q ((if i.length + j.length ≤ sizeLine then ret (.str (i ++ j)) else stuck) t) := h
      split at h
      · exact .inr (.inl ⟨i, j, rx.str, ry.str, by assumption, pRetV h w (.str _)⟩)
      · exact h.elim
    | _ => exact h.elim
  | tup xs =>
    cases q with
    | tup ys =>
      have h : PostQ X.K C E g H Q ((if xs.length + ys.length ≤ sizeLine then ret (.tup (xs ++ ys)) else stuck) t) := h
      split at h
      · obtain ⟨a, vs, rfl, e1, r1⟩ := rx.tup w
        obtain ⟨b, us, rfl, e2, r2⟩ := ry.tup w
        refine .inr (.inr (.inl ⟨a, b, vs, us, rfl, rfl, e1, e2, by rw [r1.length, r2.length]; assumption, fun z => ?_, fun z z2 => ?_, fun _ _ => pRetT h w (r1.app r2)⟩))
        · subst z
          have e0 : xs = [] := List.eq_nil_of_length_eq_zero r1.length.symm
          subst e0
          rcases ry with ry | ⟨_, _, _, z, _⟩
          · exact pRetV h w ry
          · cases z
        · subst z2
          have e0 : ys = [] := List.eq_nil_of_length_eq_zero r2.length.symm
          subst e0
          rw [List.append_nil] at h
          rcases rx with rx | ⟨_, _, _, z, _⟩
          · exact pRetV h w rx
          · cases z
      · exact h.elim
    | _ => exact h.elim
  | lst xs =>
    cases q with
    | lst ys =>
      have h : PostQ X.K C E g H Q ((if xs.length + ys.length ≤ sizeLine then ret (.lst (xs ++ ys)) else stuck) t) := h
      split at h
      · obtain ⟨a, vs, rfl, e1, r1⟩ := rx.lst w
        obtain ⟨b, us, rfl, e2, r2⟩ := ry.lst w
        exact .inr (.inr (.inr ⟨a, b, vs, us, rfl, rfl, e1, e2, by rw [r1.length, r2.length]; assumption, fun p hp => pRetL h w (r1.app r2) p hp⟩))
      · exact h.elim
    | _ => exact h.elim
  | _ => cases q <;> exact h.elim
theorem bin_sub : BinOk X C E (binaryOp .Sub) pSub := OpR.imp op_sub fun x y H Q ⟨g, t, p, q, w, rx, ry, h⟩ => by
  cases p <;> cases q <;> first | exact ⟨_, _, rx.int, ry.int, pRetV h w (.int _)⟩ | exact h.elim
theorem bin_mod : BinOk X C E (binaryOp .Mod) pMod := OpR.imp op_mod fun x y H Q ⟨g, t, p, q, w, rx, ry, h⟩ => by
  cases p <;> cases q <;> first | exact h.elim | skip
  rename_i i j
  have h : PostQ X.K C E g H Q ((if 0 < j then ret (.int (i % j)) else stuck) t) := h
  split at h
  · exact ⟨_, _, rx.int, ry.int, by assumption, pRetV h w (.int _)⟩
  · exact h.elim
theorem bin_div : BinOk X C E (binaryOp .FloorDiv) pDiv := OpR.imp op_fdiv fun x y H Q ⟨g, t, p, q, w, rx, ry, h⟩ => by
  cases p <;> cases q <;> first | exact h.elim | skip
  rename_i i j
  have h : PostQ X.K C E g H Q ((if 0 < j ∧ j < 1073741824 then ret (.int (i / j)) else stuck) t) := h
  split at h
  · exact ⟨_, _, rx.int, ry.int, by assumption, pRetV h w (.int _)⟩
  · exact h.elim
theorem bin_xor : BinOk X C E (binaryOp .BitXor) pXor := OpR.imp op_xor fun x y H Q ⟨g, t, p, q, w, rx, ry, h⟩ => by
  cases p <;> cases q <;> first | exact ⟨_, _, rx.int, ry.int, pRetV h w (.int _)⟩ | exact h.elim
theorem bin_mul : BinOk X C E (binaryOp .Mult) pMul := OpR.imp (op_mul.or (op_repN.or op_rep)) fun x y H Q ⟨g, t, p, q, w, rx, ry, h⟩ => by
  cases p with
  | int i =>
    cases q with
    | int j =>
      have h : PostQ X.K C E g H Q ((if -(2 ^ 64) < i ∧ i < 2 ^ 64 then ret (.int (i * j)) else stuck) t) := h
      split at h
      · exact .inl ⟨i, j, rx.int, ry.int, .inl (by assumption), pRetV h w (.int _)⟩
      · exact h.elim
    | _ => exact h.elim
  | tup xs =>
    cases q with
    | int k =>
      have h : PostQ X.K C E g H Q ((if xs ≠ [] ∧ 2 ≤ k ∧ k ≤ 1000 ∧ xs.length ≤ 1000 then ret (.tup (List.replicate k.toNat xs).flatten) else stuck) t) := h
      split at h
      · rename_i hc
        obtain ⟨a, vs, rfl, e1, r1⟩ := rx.tup w
        refine .inr (.inl ⟨a, k, vs, rfl, ry.int, e1, fun z => hc.1 ?_, hc.2.1, hc.2.2.1, by rw [r1.length]; exact hc.2.2.2, pRetT h w (r1.rep _)⟩)
        subst z
        exact List.eq_nil_of_length_eq_zero r1.length.symm
      · exact h.elim
    | _ => exact h.elim
  | lst xs =>
    cases q with
    | int k =>
      have h : PostQ X.K C E g H Q ((if 0 ≤ k ∧ k ≤ 1000 ∧ xs.length ≤ 1000 then ret (.lst (List.replicate k.toNat xs).flatten) else stuck) t) := h
      split at h
      · rename_i hc
        obtain ⟨a, vs, rfl, e1, r1⟩ := rx.lst w
        refine .inr (.inr ⟨a, k, vs, rfl, ry.int, e1, by omega, by omega, ?_, fun p hp => pRetL h w (r1.rep _) p hp⟩)
        rw [r1.length, sizeLine_eq]
        have a1 : xs.length * k.toNat ≤ 1000 * 1000 := Nat.mul_le_mul hc.2.2 (by omega)
        omega
      · exact h.elim
    | _ => exact h.elim
  | _ => cases q <;> exact h.elim
theorem bin_eq (hu : X.A.units + 64 < cLine) : BinOk X C E (compareOp .Eq) pEq := OpR.imp (op_eqD hu) fun x y H Q ⟨g, t, p, q, w, rx, ry, h⟩ => by
  unfold pEq at h
  split at h
  · rename_i hc
    exact ⟨p.py, q.py, rx.dp w hc.1, ry.dp w hc.2, shaped_of hc.1 (by decide), shaped_of hc.2 (by decide), pRetV h w (.bl _)⟩
  · exact h.elim
theorem bin_ne (hu : X.A.units + 64 < cLine) : BinOk X C E (compareOp .NotEq) pNe := OpR.imp (op_neD hu) fun x y H Q ⟨g, t, p, q, w, rx, ry, h⟩ => by
  unfold pNe at h
  split at h
  · rename_i hc
    exact ⟨p.py, q.py, rx.dp w hc.1, ry.dp w hc.2, shaped_of hc.1 (by decide), shaped_of hc.2 (by decide), pRetV h w (.bl _)⟩
  · exact h.elim
theorem bin_lt : BinOk X C E (compareOp .Lt) pLt := OpR.imp (op_lt.or op_lt_str) fun x y H Q ⟨g, t, p, q, w, rx, ry, h⟩ => by
  cases p <;> cases q <;> first | exact h.elim | exact .inl ⟨_, _, rx.int, ry.int, pRetV h w (.bl _)⟩ | exact .inr ⟨_, _, rx.str, ry.str, pRetV h w (.bl _)⟩
theorem bin_le : BinOk X C E (compareOp .LtE) pLe := OpR.imp op_le fun x y H Q ⟨g, t, p, q, w, rx, ry, h⟩ => by
  cases p <;> cases q <;> first | exact h.elim | exact ⟨_, _, rx.int, ry.int, pRetV h w (.bl _)⟩
theorem bin_ge : BinOk X C E (compareOp .GtE) pGe := OpR.imp op_ge fun x y H Q ⟨g, t, p, q, w, rx, ry, h⟩ => by
  cases p <;> cases q <;> first | exact h.elim | exact ⟨_, _, rx.int, ry.int, pRetV h w (.bl _)⟩
/-- in, of data at any depth -/
def rInA (K : PySem.W.Frag) (neg : Bool) : R2 := fun x y H Q => ∃ d ds, Dp K H x d ∧ (Dp K H y (.list ds) ∨ Dp K H y (.tuple ds)) ∧ SeqAt.shaped d = true ∧ PyData.canLayAll0 ds = true ∧ Q (.bl (if neg then !(ds.any fun z => PyData.eqv z d) else (ds.any fun z => PyData.eqv z d))) H
theorem op_inA (hu : X.A.units + 65 < cLine) : OpR X (compareOp .In) (rInA X.K false) := by
  intro pins s σ H x y v u Q I rx ry h
  obtain ⟨d, ds, hd, he, sd, se, q⟩ := h
  obtain ⟨as, r1⟩ := Dp.reads I d x v hd rx
  rcases he with he | he
  · obtain ⟨bs, r2⟩ := Dp.reads I (.list ds) y u he ry
    exact SeqAt.in_list_reads r2 r1 se (SeqAt.canLay_of_shaped sd) (PyProof.Rows.room_in_shaped sd hu) ⟨.bl _, H, I, rfl, q⟩
  · obtain ⟨bs, r2⟩ := Dp.reads I (.tuple ds) y u he ry
    exact SeqAt.in_tuple_reads r2 r1 se (SeqAt.canLay_of_shaped sd) (PyProof.Rows.room_in_shaped sd hu) ⟨.bl _, H, I, rfl, q⟩
theorem op_notInA (hu : X.A.units + 65 < cLine) : OpR X (compareOp .NotIn) (rInA X.K true) := by
  intro pins s σ H x y v u Q I rx ry h
  obtain ⟨d, ds, hd, he, sd, se, q⟩ := h
  obtain ⟨as, r1⟩ := Dp.reads I d x v hd rx
  rcases he with he | he
  · obtain ⟨bs, r2⟩ := Dp.reads I (.list ds) y u he ry
    exact SeqAt.notIn_list_reads r2 r1 se (SeqAt.canLay_of_shaped sd) (PyProof.Rows.room_in_shaped sd hu) ⟨.bl _, H, I, rfl, q⟩
  · obtain ⟨bs, r2⟩ := Dp.reads I (.tuple ds) y u he ry
    exact SeqAt.notIn_tuple_reads r2 r1 se (SeqAt.canLay_of_shaped sd) (PyProof.Rows.room_in_shaped sd hu) ⟨.bl _, H, I, rfl, q⟩
theorem any_py (p : D) (ds : List D) : ((pyA ds).any fun z => PyData.eqv z p.py) = inD p ds := by
  rw [pyA_map, List.any_map]; rfl
theorem okA_up : ∀ {ds : List D} {n : Nat}, okA ds n = true → okD (.tup ds) (n + 1) = true ∧ okD (.lst ds) (n + 1) = true := fun h => ⟨h, h⟩
theorem bin_in (hu : X.A.units + 65 < cLine) : BinOk X C E (compareOp .In) pIn := OpR.imp (op_inA hu) fun x y H Q ⟨g, t, p, q, w, rx, ry, h⟩ => by
  cases q with
  | tup ds =>
    have h : PostQ X.K C E g H Q ((if okD p 60 = true ∧ okA ds 60 = true then ret (.bl (inD p ds)) else stuck) t) := h
    split at h
    · rename_i hc
      exact ⟨p.py, pyA ds, rx.dp w hc.1, .inr (by have := ry.dp w (okA_up hc.2).1; rw [D.py] at this; exact this), shaped_of hc.1 (by decide), (okA_lay ds 60 hc.2).1, by rw [any_py]; exact pRetV h w (.bl _)⟩
    · exact h.elim
  | lst ds =>
    have h : PostQ X.K C E g H Q ((if okD p 60 = true ∧ okA ds 60 = true then ret (.bl (inD p ds)) else stuck) t) := h
    split at h
    · rename_i hc
      exact ⟨p.py, pyA ds, rx.dp w hc.1, .inl (by have := ry.dp w (okA_up hc.2).2; rw [D.py] at this; exact this), shaped_of hc.1 (by decide), (okA_lay ds 60 hc.2).1, by rw [any_py]; exact pRetV h w (.bl _)⟩
    · exact h.elim
  | _ => cases p <;> exact h.elim
theorem bin_notIn (hu : X.A.units + 65 < cLine) : BinOk X C E (compareOp .NotIn) pNotIn := OpR.imp (op_notInA hu) fun x y H Q ⟨g, t, p, q, w, rx, ry, h⟩ => by
  cases q with
  | tup ds =>
    have h : PostQ X.K C E g H Q ((if okD p 60 = true ∧ okA ds 60 = true then ret (.bl (!inD p ds)) else stuck) t) := h
    split at h
    · rename_i hc
      exact ⟨p.py, pyA ds, rx.dp w hc.1, .inr (by have := ry.dp w (okA_up hc.2).1; rw [D.py] at this; exact this), shaped_of hc.1 (by decide), (okA_lay ds 60 hc.2).1, by rw [any_py]; exact pRetV h w (.bl _)⟩
    · exact h.elim
  | lst ds =>
    have h : PostQ X.K C E g H Q ((if okD p 60 = true ∧ okA ds 60 = true then ret (.bl (!inD p ds)) else stuck) t) := h
    split at h
    · rename_i hc
      exact ⟨p.py, pyA ds, rx.dp w hc.1, .inl (by have := ry.dp w (okA_up hc.2).2; rw [D.py] at this; exact this), shaped_of hc.1 (by decide), (okA_lay ds 60 hc.2).1, by rw [any_py]; exact pRetV h w (.bl _)⟩
    · exact h.elim
  | _ => cases p <;> exact h.elim
end
end BG
set_option Elab.async false
set_option linter.all false
set_option maxRecDepth 100000
set_option maxHeartbeats 4000000
namespace BG
open PySem PySem.Spec PyProof.Rows L2
def pIdx : D → D → M D
  | .tup ds, .int i => match atI ds i with
    | some d => ret d
    | none => stuck
  | .lst ds, .int i => match atI ds i with
    | some d => ret d
    | none => stuck
  | .scr ns, .int i => match atI ns i with
    | some n => ret (.int n)
    | none => stuck
  | _, _ => stuck
theorem RpW.scr {K : PySem.W.Frag} {C : Cn} {g : G} {H : Hp} {t : Tn} {v : V} {ns : List Int} (w : Wf C g H t) (h : RpW K g H v (.scr ns)) : ∃ p, v = .ref p ∧ SqL K H p (ns.map V.int) := by
  rcases h with h | ⟨p, vs, ds', e1, e2, e3, e4⟩
  · cases h with
    | scr a => exact ⟨_, rfl, Same.seq w.fz a⟩
  · cases e1
theorem RpA.atI {K : PySem.W.Frag} {g : G} {vs : List V} {ds : List D} {i : Int} {d : D} (r : RpA K g vs ds) (h : atI ds i = some d) : ∃ v, L2.atI vs i = some v ∧ Rp K g v d := by
  unfold L2.atI at h ⊢
  rw [r.length]
  cases e : ixN ds.length i with
  | none => rw [e] at h; cases h
  | some j =>
    rw [e] at h
    exact r.get h
section
variable {X : Cx} {C : Cn} {E : XK}
theorem IxR.imp {r r' : R2} (h : IxR X r) (i : ∀ x y H Q, r' x y H Q → r x y H Q) : IxR X r' := fun value slice pins s σ H x y v u Q I rx ry q => h value slice pins s σ H x y v u Q I rx ry (i x y H Q q)
theorem ix_D : IxR X (rD X.K C E pIdx) := IxR.imp (ix_list.or ix_tup) fun x y H Q ⟨g, t, p, q, w, rx, ry, h⟩ => by
  cases p with
  | tup ds =>
    cases q with
    | int i =>
      have h : PostQ X.K C E g H Q ((match L2.atI ds i with | some d => ret d | none => stuck) t) := h
      obtain ⟨a, vs, rfl, e1, r1⟩ := rx.tup w
      cases e : L2.atI ds i with
      | none => rw [e] at h; exact h.elim
      | some d =>
        rw [e] at h
        obtain ⟨v, e2, r2⟩ := r1.atI e
        exact .inr ⟨a, vs, i, v, rfl, ry.int, e1, e2, pRetV h w r2⟩
    | _ => exact h.elim
  | lst ds =>
    cases q with
    | int i =>
      have h : PostQ X.K C E g H Q ((match L2.atI ds i with | some d => ret d | none => stuck) t) := h
      obtain ⟨a, vs, rfl, e1, r1⟩ := rx.lst w
      cases e : L2.atI ds i with
      | none => rw [e] at h; exact h.elim
      | some d =>
        rw [e] at h
        obtain ⟨v, e2, r2⟩ := r1.atI e
        exact .inl ⟨a, vs, i, v, rfl, ry.int, .of e1, e2, pRetV h w r2⟩
    | _ => exact h.elim
  | scr ns =>
    cases q with
    | int i =>
      have h : PostQ X.K C E g H Q ((match L2.atI ns i with | some n => ret (D.int n) | none => stuck) t) := h
      obtain ⟨a, rfl, e1⟩ := rx.scr w
      cases e : L2.atI ns i with
      | none => rw [e] at h; exact h.elim
      | some n =>
        rw [e] at h
        refine .inl ⟨a, _, i, .int n, rfl, ry.int, e1, ?_, pRetV h w (Rp.int n)⟩
        unfold L2.atI at e ⊢
        rw [List.length_map]
        cases z : ixN ns.length i with
        | none => rw [z] at e; cases e
        | some j =>
          rw [z] at e
          have e : ns[j]? = some n := e
          show (ns.map V.int)[j]? = some (.int n)
          rw [List.getElem?_map, e]; rfl
    | _ => exact h.elim
  | _ => cases q <;> exact h.elim
theorem ce_ix {a b : Expr} {fa fb : Ex} {pos : Pos} (ha : CW X C E a fa) (hb : CW X C E b fb) (hs : PlainIx b := by exact fun _ _ => rfl) : CE X C E (.Subscript a b pos) (eBin pIdx fa fb) := PE.imp (pe_ix ix_D ha hb hs) fun σ H Q h => tW.two h
def oEx (o : Option Ex) (S : Sl) : M (Option Int) := match o with
  | none => ret none
  | some f => bnd (f S) fun d => match d with
    | .int i => ret (some i)
    | _ => stuck
def cutD (ds : List D) (lo hi : Option Int) : List D := (ds.drop (HT.sIx ds.length 0 lo)).take (HT.sIx ds.length ds.length hi - HT.sIx ds.length 0 lo)
def pSlice (x : D) (lo hi : Option Int) : M D := match x with
  | .tup ds => ret (.tup (cutD ds lo hi))
  | .lst ds => ret (.lst (cutD ds lo hi))
  | _ => stuck
def eSlice (a : Ex) (lo hi : Option Ex) : Ex := fun S => bnd (a S) fun x => bnd (oEx lo S) fun l => bnd (oEx hi S) fun h => pSlice x l h
def tOp1 (K : PySem.W.Frag) (C : Cn) (E : XK) (o : Option Ex) : TO := fun σ H Q => ∃ g S t, Wf C g H t ∧ SL K g H σ S ∧ Post C E g H (fun d _ g' H' => Q d H') (oEx o S t)
theorem PO.imp {e : Option Expr} {t t' : TO} (h : PO X e t) (f : ∀ σ H Q, t' σ H Q → t σ H Q) : PO X e t' := ⟨fun pins s σ H Q I q => h.run pins s σ H Q I (f σ H Q q)⟩
theorem co_none : PO X none (tOp1 X.K C E none) := PO.imp po_none fun σ H Q ⟨g, S, t, w, s, p⟩ => postRet p w
theorem co_some {e : Expr} {f : Ex} (h : CE X C E e f) : PO X (some e) (tOp1 X.K C E (some f)) := PO.imp (po_some h) fun σ H Q ⟨g, S, t, w, s, p⟩ => ⟨g, S, t, w, s, p.bnd.imp fun d t1 g1 H1 st1 w1 q v r => by
  cases d with
  | int i => cases r; exact ⟨i, rfl, postRet q w1⟩
  | _ => exact q.elim⟩
theorem RpA.cut {K : PySem.W.Frag} {g : G} {vs : List V} {ds : List D} (r : RpA K g vs ds) (lo hi : Option Int) : RpA K g (cutV vs lo hi) (cutD ds lo hi) := by
  unfold cutV cutD
  rw [r.length]
  exact (r.drop _).take _
theorem ce_slice {a : Expr} {lo hi : Option Expr} {fa : Ex} {fl fh : Option Ex} {p2 pos : Pos} (ha : CW X C E a fa) (hl : PO X lo (tOp1 X.K C E fl)) (hh : PO X hi (tOp1 X.K C E fh)) : CE X C E (.Subscript a (.Slice lo hi none p2) pos) (eSlice fa fl fh) := by
  refine PE.imp (pe_slice (sl_tupN.or sl_list) ha hl hh) fun σ H Q h => ?_
  refine tW.seq h fun g S t x d H1 w s rx p1 => ?_
  refine ⟨g, S, t, w, s, p1.bnd.imp fun l t2 g2 H2 st2 w2 q2 => ?_⟩
  refine ⟨g2, S, t2, w2, s.stp w st2, q2.bnd.imp fun hh t3 g3 H3 st3 w3 q3 => ?_⟩
  have rx3 := (rx.stp w st2).stp w2 st3
  cases d with
  | tup ds =>
    obtain ⟨b, vs, rfl, e1, r1⟩ := rx3.tup w3
    refine .inl ⟨b, vs, rfl, e1, fun hw => ?_, fun _ => pRetT q3 w3 (r1.cut l hh)⟩
    have e : cutD ds l hh = ds := by
      unfold cutD
      rw [r1.length] at hw
      rw [hw.1, hw.2, List.drop_zero, Nat.sub_zero, List.take_length]
    have q3 : PostQ X.K C E g3 H3 Q (ret (.tup (cutD ds l hh)) t3) := q3
    rw [e] at q3
    rcases rx3 with rx3 | ⟨_, _, _, z, _⟩
    · exact pRetV q3 w3 rx3
    · cases z
  | lst ds =>
    obtain ⟨b, vs, rfl, e1, r1⟩ := rx3.lst w3
    exact .inr ⟨b, vs, rfl, .of e1, fun p hp => pRetL q3 w3 (r1.cut l hh) p hp⟩
  | _ => exact q3.elim
end
def c1D (K : PySem.W.Frag) (C : Cn) (E : XK) (prim : D → M D) : List V → Hp → VK → Prop := fun xs H Q => ∃ x g t d, xs = [x] ∧ Wf C g H t ∧ RpW K g H x d ∧ PostQ K C E g H Q (prim d t)
section
variable {X : Cx} {C : Cn} {E : XK}
theorem CallR.imp {f : Value} {r r' : List V → Hp → VK → Prop} (h : CallR X f r) (i : ∀ xs H Q, r' xs H Q → r xs H Q) : CallR X f r' := fun pins s σ H xs us Q I rs q => h pins s σ H xs us Q I rs (i xs H Q q)
theorem tW.call1 {prim : D → M D} {f : Ex} {σ : L2.St} {H : Hp} {Q : VK} (h : tE X.K C E (eUn prim f) σ H Q) : tCB (c1D X.K C E prim) (tCons (tW X.K C E f) tNil) σ H Q :=
  tW.seq h fun g S t x d H1 w s rx p1 => ⟨x, g, t, d, rfl, w, rx, p1⟩
theorem ce_callB1 {prim : D → M D} {id : String} {x : Str} {e : Expr} {f : Ex} {p pos : Pos} (hc : CallR X (.builtin id) (c1D X.K C E prim)) (hm : X.mg x = none) (hv : bootBuiltins x = some (.builtin id)) (ha : CW X C E e f) (hg : Gl X x := by rfl)
    (hn : x ≠ "__name__" := by decide) (hdb : (x == ("__debug__" : Str)) = false := by decide) (hs : starEach [e] X.env = (false, eval e X.env) :: starEach [] X.env := by rfl) (hp : (backTo pos (starEach [] X.env)).any (·.1) = false := by rfl) :
    CE X C E (.Call (.Name x p) [e] [] pos) (eUn prim f) := PE.imp (pe_callB hc hg hm hv (pa_cons ha pa_nil hs) hn hdb hs hp) fun σ H Q h => tW.call1 h
theorem ce_callTy1 {prim : D → M D} {T : String} {x : Str} {e : Expr} {f : Ex} {p pos : Pos} (hc : CallR X (.type T) (c1D X.K C E prim)) (hm : X.mg x = none) (hv : bootBuiltins x = some (.type T)) (ha : CW X C E e f) (hg : Gl X x := by rfl)
    (hn : x ≠ "__name__" := by decide) (hdb : (x == ("__debug__" : Str)) = false := by decide) (hs : starEach [e] X.env = (false, eval e X.env) :: starEach [] X.env := by rfl) (hp : (backTo pos (starEach [] X.env)).any (·.1) = false := by rfl) :
    CE X C E (.Call (.Name x p) [e] [] pos) (eUn prim f) := PE.imp (pe_callTy hc hg hm hv (pa_cons ha pa_nil hs) hn hdb hs hp) fun σ H Q h => tW.call1 h
def bLen : D → M D
  | .tup ds => ret (.int ds.length)
  | .lst ds => ret (.int ds.length)
  | .str z => if z.length ≤ sizeLine then ret (.int z.length) else stuck
  | .scr ns => ret (.int ns.length)
  | _ => stuck
def bools : List D → Option (List Bool)
  | [] => some []
  | .bl b :: ds => (bools ds).map (b :: ·)
  | _ => none
def intsD : List D → Option (List Int)
  | [] => some []
  | .int b :: ds => (intsD ds).map (b :: ·)
  | _ => none
def bAll : D → M D
  | .lst ds => match bools ds with
    | some bs => ret (.bl (bs.all id))
    | none => stuck
  | _ => stuck
def bTuple : D → M D
  | .lst ds => ret (.tup ds)
  | .tup ds => ret (.tup ds)
  | _ => stuck
def bList : D → M D
  | .lst ds => ret (.lst ds)
  | .tup ds => ret (.lst ds)
  | _ => stuck
theorem RpA.bools {K : PySem.W.Frag} {g : G} : ∀ {ds : List D} {vs : List V} {bs : List Bool}, RpA K g vs ds → bools ds = some bs → vs = bs.map V.bl
  | [], _, bs, h, e => by cases h; cases e; rfl
  | .bl b :: ds, _, bs, h, e => by
    cases h with
    | cons a r =>
      cases a
      have e : (BG.bools ds).map (b :: ·) = some bs := e
      cases z : BG.bools ds with
      | none => rw [z] at e; cases e
      | some cs =>
        rw [z] at e
        cases e
        rw [RpA.bools r z]; rfl
  | .non :: _, _, _, _, e => by cases e
  | .int _ :: _, _, _, _, e => by cases e
  | .str _ :: _, _, _, _, e => by cases e
  | .tup _ :: _, _, _, _, e => by cases e
  | .lst _ :: _, _, _, _, e => by cases e
  | .town :: _, _, _, _, e => by cases e
  | .scr _ :: _, _, _, _, e => by cases e
  | .dct _ _ :: _, _, _, _, e => by cases e
  | .dTT _ _ :: _, _, _, _, e => by cases e
  | .hnd _ :: _, _, _, _, e => by cases e
theorem RpA.intsD {K : PySem.W.Frag} {g : G} : ∀ {ds : List D} {vs : List V} {bs : List Int}, RpA K g vs ds → intsD ds = some bs → vs = bs.map V.int
  | [], _, bs, h, e => by cases h; cases e; rfl
  | .int b :: ds, _, bs, h, e => by
    cases h with
    | cons a r =>
      cases a
      have e : (BG.intsD ds).map (b :: ·) = some bs := e
      cases z : BG.intsD ds with
      | none => rw [z] at e; cases e
      | some cs =>
        rw [z] at e
        cases e
        rw [RpA.intsD r z]; rfl
  | .non :: _, _, _, _, e => by cases e
  | .bl _ :: _, _, _, _, e => by cases e
  | .str _ :: _, _, _, _, e => by cases e
  | .tup _ :: _, _, _, _, e => by cases e
  | .lst _ :: _, _, _, _, e => by cases e
  | .town :: _, _, _, _, e => by cases e
  | .scr _ :: _, _, _, _, e => by cases e
  | .dct _ _ :: _, _, _, _, e => by cases e
  | .dTT _ _ :: _, _, _, _, e => by cases e
  | .hnd _ :: _, _, _, _, e => by cases e
theorem cr_len : CallR X (.builtin "len") (c1D X.K C E bLen) := CallR.imp (call_len_seq.or call_len_str) fun xs H Q ⟨x, g, t, d, ex, w, a, h⟩ => by
  subst ex
  cases d with
  | tup ds =>
    obtain ⟨p, vs, rfl, e1, r1⟩ := a.tup w
    exact .inl ⟨p, vs, rfl, .inr e1, by rw [r1.length]; exact pRetV h w (.int _)⟩
  | lst ds =>
    obtain ⟨p, vs, rfl, e1, r1⟩ := a.lst w
    exact .inl ⟨p, vs, rfl, .inl (.of e1), by rw [r1.length]; exact pRetV h w (.int _)⟩
  | str z =>
    have h : PostQ X.K C E g H Q ((if z.length ≤ sizeLine then ret (.int z.length) else stuck) t) := h
    split at h
    · exact .inr ⟨z, by rw [a.str], by assumption, pRetV h w (.int _)⟩
    · exact h.elim
  | scr ns =>
    obtain ⟨p, rfl, e1⟩ := a.scr w
    exact .inl ⟨p, _, rfl, .inl e1, by rw [List.length_map]; exact pRetV h w (.int _)⟩
  | _ => exact h.elim
theorem cr_allD (hc : X.calm = true) : CallR X (.builtin "all") (c1D X.K C E bAll) := CallR.imp (cr_all hc) fun xs H Q ⟨x, g, t, d, ex, w, a, h⟩ => by
  subst ex
  cases d with
  | lst ds =>
    obtain ⟨p, vs, rfl, e1, r1⟩ := a.lst w
    have h : PostQ X.K C E g H Q ((match bools ds with | some bs => ret (D.bl (bs.all id)) | none => stuck) t) := h
    cases z : bools ds with
    | none => rw [z] at h; exact h.elim
    | some bs =>
      rw [z] at h
      exact ⟨p, bs, rfl, .of (by rw [e1, r1.bools z]), pRetV h w (Rp.bl _)⟩
  | _ => exact h.elim
theorem cr_tuple : CallR X (.type "tuple") (c1D X.K C E bTuple) := CallR.imp call_tupN fun xs H Q ⟨x, g, t, d, ex, w, a, h⟩ => by
  subst ex
  cases d with
  | lst ds =>
    obtain ⟨p, vs, rfl, e1, r1⟩ := a.lst w
    exact ⟨p, vs, rfl, .inl ⟨.of e1, pRetT h w r1⟩⟩
  | tup ds =>
    obtain ⟨p, vs, rfl, e1, r1⟩ := a.tup w
    rcases a with a | ⟨_, _, _, z, _⟩
    · exact ⟨p, vs, rfl, .inr ⟨e1, pRetV h w a⟩⟩
    · cases z
  | _ => exact h.elim
theorem Stp.back {g g1 : G} {H H1 : Hp} (s : Stp g H g1 H1) {l : Addr} (h : H1 l = none) : ¬ Nt H l := fun z => Nt.no h (s.thr l z)
theorem Stp.backN {g g1 : G} {H H1 : Hp} (s : Stp g H g1 H1) {l : Addr} (h : ¬ Nt H1 l) : ¬ Nt H l := fun z => h (s.thr l z)
/-- list(x) to be changed -/
theorem cf_list {x : Str} {e : Expr} {f : Ex} {p pos : Pos} (hm : X.mg x = none) (hv : bootBuiltins x = some (.type "list")) (ha : CW X C E e f) (hg : Gl X x := by rfl)
    (hn : x ≠ "__name__" := by decide) (hdb : (x == ("__debug__" : Str)) = false := by decide) (hs : starEach [e] X.env = (false, eval e X.env) :: starEach [] X.env := by rfl) (hp : (backTo pos (starEach [] X.env)).any (·.1) = false := by rfl) :
    CF X C E (.Call (.Name x p) [e] [] pos) (eUn bList f) := by
  refine PE.imp (pe_callTy call_list_of hg hm hv (pa_cons ha pa_nil hs) hn hdb hs hp) fun σ H Q ⟨g, S, t, w, s, p⟩ => ?_
  refine ⟨g, S, t, w, s, p.bnd.imp fun d t1 g1 H1 st1 w1 q v r => ?_⟩
  have key : ∀ {es us}, d = .lst es ∨ d = .tup es → RpA X.K g1 us es → ∀ l, H1 l = none → Q (.ref l) (upd H1 l (.lst us)) := fun {es us} hds ra l hl => by
    have q : Post C E g1 H1 (fun d _ g' H' => ∀ v, RpF X.K H g' H' v d → Q v H') (ret (.lst es) t1) := by
      rcases hds with rfl | rfl <;> exact q
    exact q g1 _ (Stp.lay w1 hl) (Wf.lay w1 hl) _ ⟨l, us, es, rfl, rfl, st1.back hl, upd_same, ra, w1.fzN hl, w1.ntN hl⟩
  cases d with
  | lst ds =>
    obtain ⟨p, vs, rfl, e1, r1⟩ := r.lst w1
    exact ⟨p, vs, rfl, .inl (.of e1), key (.inl rfl) r1⟩
  | tup ds =>
    obtain ⟨p, vs, rfl, e1, r1⟩ := r.tup w1
    exact ⟨p, vs, rfl, .inr e1, key (.inr rfl) r1⟩
  | _ => exact q.elim
end
inductive Ty where
  | tuple | int | bool | str
def Ty.name : Ty → String
  | .tuple => "tuple" | .int => "int" | .bool => "bool" | .str => "str"
def isTy : Ty → D → Option Bool
  | _, .town => none
  | _, .scr _ => none
  | _, .dct _ _ => none
  | _, .dTT _ _ => none
  | _, .hnd _ => none
  | .tuple, .tup _ => some true
  | .int, .int _ => some true
  | .int, .bl _ => some true
  | .bool, .bl _ => some true
  | .str, .str _ => some true
  | _, _ => some false
def pIsi (T : Ty) (d : D) : M D := match isTy T d with
  | some b => ret (.bl b)
  | none => stuck
def tyN : D → Option String
  | .non => some "NoneType" | .bl _ => some "bool" | .int _ => some "int" | .str _ => some "str" | .tup _ => some "tuple" | .lst _ => some "list" | _ => none
theorem tyX_of {K : PySem.W.Frag} {C : Cn} {g : G} {H : Hp} {t : Tn} (w : Wf C g H t) {v : V} {d : D} {n : String} (r : RpW K g H v d) (h : tyN d = some n) : TyX K H v (.type n) := by
  cases d with
  | non => cases h; rw [r.non]; exact .base .non
  | bl b => cases h; rw [r.bl]; exact .base (.bl b)
  | int i => cases h; rw [r.int]; exact .base (.int i)
  | str x => cases h; rw [r.str]; exact .base (.str x)
  | tup ds =>
    cases h
    obtain ⟨p, vs, rfl, e1, r1⟩ := r.tup w
    rcases e1 with (e1 | ⟨o, e1⟩) | ⟨o, its, n, e1, c, _⟩
    · exact .base (.tup e1)
    · exact .fTuple e1
    · exact .kTuple e1 c
  | lst ds =>
    cases h
    obtain ⟨p, vs, rfl, e1, r1⟩ := r.lst w
    exact .base (.lst e1)
  | town => cases h
  | scr _ => cases h
  | dct _ _ => cases h
  | dTT _ _ => cases h
  | hnd _ => cases h
theorem kit_isi {K : PySem.W.Frag} {T : Ty} {d : D} {b : Bool} (h : isTy T d = some b) : ∃ n, tyN d = some n ∧ PySem.W.kitOne K (.type n) (.type T.name) = some b := by
  cases T <;> cases d <;> first | cases h; done | (cases h; exact ⟨_, rfl, kit_ty (by decide +kernel)⟩)
section
variable {X : Cx} {C : Cn} {E : XK}
theorem ce_isi (T : Ty) {a : Expr} {fa : Ex} {x : Str} {p q pos : Pos} (hm : X.mg "isinstance" = none) (hmT : X.mg x = none) (hv : bootBuiltins x = some (.type T.name)) (ha : CW X C E a fa) (hg : Gl X "isinstance" := by rfl) (hgT : Gl X x := by rfl)
    (hvi : bootBuiltins "isinstance" = some (.builtin "isinstance") := by decide +kernel) (hn : x ≠ "__name__" := by decide) (hdb : (x == ("__debug__" : Str)) = false := by decide)
    (hs : starEach [a, .Name x q] X.env = (false, eval a X.env) :: starEach [.Name x q] X.env := by rfl) (hs2 : starEach [.Name x q] X.env = (false, eval (.Name x q) X.env) :: starEach [] X.env := by rfl) (hp : (backTo pos (starEach [.Name x q] X.env)).any (·.1) = false := by rfl) :
    CE X C E (.Call (.Name "isinstance" p) [a, .Name x q] [] pos) (eUn (pIsi T) fa) := by
  refine PE.imp (pe_callB call_isi hg hm hvi (pa_cons ha (pa_cons (pe_bltn (v := .ty T.name) hgT hmT hv rfl hn hdb) pa_nil hs2) hs) (by decide) (by decide) hs hp) fun σ H Q h => ?_
  refine tW.seq h fun g S t x d H1 w s rx p1 => ?_
  have p1 : PostQ X.K C E g H1 Q ((match isTy T d with | some b => ret (D.bl b) | none => stuck) t) := p1
  cases e : isTy T d with
  | none => rw [e] at p1; exact p1.elim
  | some b =>
    rw [e] at p1
    obtain ⟨n, e1, e2⟩ := kit_isi (K := X.K) e
    exact ⟨x, .ty T.name, .type n, .type T.name, b, rfl, .ty _, tyX_of w rx e1, e2, pRetV p1 w (Rp.bl b)⟩
/-- -n, a written number -/
def pNeg : D → M D
  | .int i => ret (.int (-i))
  | _ => stuck
theorem ce_neg {a : Expr} {fa : Ex} {pos : Pos} (ha : CE X C E a fa) : CE X C E (.UnaryOp .USub a pos) (eUn pNeg fa) := PE.imp (pe_un un_neg ha) fun σ H Q h => by
  refine tE.seq h fun g S t x d H1 w s rx p1 => ?_
  cases d with
  | int i => cases rx; exact ⟨i, rfl, pRetV p1 w (.int _)⟩
  | _ => exact p1.elim
/-- a < b < c -/
def eChain (o1 o2 : D → D → M D) (a b c : Ex) : Ex := fun S => bnd (a S) fun x => bnd (b S) fun y => bnd (o1 x y) fun z => match z with
  | .bl true => bnd (c S) fun u => o2 y u
  | .bl false => ret (.bl false)
  | _ => stuck
theorem ce_chain {op op' : CmpOp} {o1 o2 : D → D → M D} {a b c : Expr} {fa fb fc : Ex} {pos : Pos} (ho : BinOk X C E (compareOp op) o1) (ho' : BinOk X C E (compareOp op') o2) (ha : CW X C E a fa) (hb : CW X C E b fb) (hc : CW X C E c fc)
    (hm : lastMarks [op, op'] [b, c] = false := by rfl) : CE X C E (.Compare a [op, op'] [b, c] pos) (eChain o1 o2 fa fb fc) := by
  refine PE.imp (pe_chain ho ho' ha hb hc hm) fun σ H Q h => ?_
  refine tW.seq h fun g S t x d H1 w s rx p1 => ?_
  refine ⟨g, S, t, w, s, p1.bnd.imp fun d2 t2 g2 H2 st2 w2 q2 v r2 => ?_⟩
  have rx2 := rx.stp w st2
  have s2 := s.stp w st2
  refine ⟨g2, t2, d, d2, w2, rx2, r2, q2.bnd.imp fun z t3 g3 H3 st3 w3 q3 u ru => ?_⟩
  have r3 := r2.stp w2 st3
  have s3 := s2.stp w2 st3
  cases z with
  | bl k =>
    cases ru
    refine ⟨k, rfl, ?_⟩
    cases k with
    | true => exact iteT ⟨g3, S, t3, w3, s3, q3.bnd.imp fun d4 t4 g4 H4 st4 w4 q4 v4 r4 => ⟨g4, t4, d2, d4, w4, r3.stp w3 st4, r4, q4⟩⟩
    | false => exact iteF (pRetV q3 w3 (.bl false))
  | _ => exact q3.elim
end
abbrev Fn := List D → M D
/-- the promise of a def that is read as F -/
def spF (K : PySem.W.Frag) (C : Cn) (n : Nat) (F : Fn) : Sp := fun vs H Q E => ∃ g ds t, RpA K g vs ds ∧ Wf C g H t ∧ vs.length = n ∧ PostQ K C E g H Q (F ds t)
def eCall (F : Fn) (fs : List Ex) : Ex := fun S => bnd (evs fs S) fun ds => F ds
/-- a def as it stands in the module -/
structure Fd (P : Program) (w : World) (K : PySem.W.Frag) (mg : Str → Option Value) (base : Heap) (C : Cn) (k : Nat) (x : Str) (n : Nat) (F : Fn) : Prop where
  ex : ∃ f fd ps, FnOk P w K mg base (L2.CX P w) k f fd ps (spF K C n F) ∧ mg x = some (.ref f) ∧ PySem.W.keepIn K (.ref f) = true ∧ Binds K fd ps []
section
variable {X : Cx} {C : Cn} {E : XK}
theorem ce_call {k j : Nat} {x : Str} {F : Fn} {e : Expr} {es : List Expr} {fs : List Ex} {p pos : Pos} (hf : Fd X.prog X.w X.K X.mg X.base C k x fs.length F) (hr : Room j X.A) (hk : k ≤ j) (hx : Passes (L2.CX X.prog X.w) X E) (ha : CA X C E (e :: es) (evs fs)) (hg : Gl X x := by rfl)
    (hn : (x == ("__debug__" : Str)) = false := by decide) (hs : starEach (e :: es) X.env = (false, eval e X.env) :: starEach es X.env := by rfl) (hp : (backTo pos (starEach es X.env)).any (·.1) = false := by rfl) : CE X C E (.Call (.Name x p) (e :: es) [] pos) (eCall F fs) := by
  obtain ⟨f, fd, ps, F', hm, hkp, hb⟩ := hf.ex
  refine PE.imp (pe_call F' (hr.mono hk) hg hm hkp hb .nil hx ha hn hs hp) fun σ H Q ⟨g, S, t, w, s, p⟩ => ?_
  exact ⟨g, S, t, w, s, (Post.evs p.bnd).imp fun ds t1 g1 H1 st1 w1 ⟨el, q⟩ vs rs => ⟨g1, ds, t1, by rw [List.append_nil]; exact rs, w1, by rw [List.append_nil, rs.length, el], q⟩⟩
theorem ce_call0 {k j : Nat} {x : Str} {F : Fn} {p pos : Pos} (hf : Fd X.prog X.w X.K X.mg X.base C k x 0 F) (hr : Room j X.A) (hk : k ≤ j) (hx : Passes (L2.CX X.prog X.w) X E) (hg : Gl X x := by rfl) (hn : (x == ("__debug__" : Str)) = false := by decide) : CE X C E (.Call (.Name x p) [] [] pos) (eCall F []) := by
  obtain ⟨f, fd, ps, F', hm, hkp, hb⟩ := hf.ex
  refine PE.imp (pe_call0 F' (hr.mono hk) hg hm hkp hb .nil hx hn) fun σ H Q ⟨g, S, t, w, s, p⟩ => ?_
  exact ⟨g, [], t, .nil, w, rfl, p⟩
end
end BG
set_option Elab.async false
set_option linter.all false
set_option maxRecDepth 100000
set_option maxHeartbeats 4000000
namespace BG
open PySem PySem.Spec PyProof.Rows L2
theorem bnd_assoc {α β γ : Type} (m : M α) (f : α → M β) (k : β → M γ) : bnd (bnd m f) k = bnd m fun a => bnd (f a) k := by
  funext t
  unfold bnd
  cases m t with
  | none => rfl
  | some o => cases o <;> rfl
/-- as Post.bnd, the start kept -/
theorem Post.bnd0 {α β : Type} {C : Cn} {E : XK} {g : G} {H : Hp} {Rok : β → Tn → G → Hp → Prop} {m : M α} {k : α → M β} {t : Tn} (h : Post C E g H Rok (BG.bnd m k t)) : Post C E g H (fun a t1 _ _ => Post C E g H Rok (k a t1)) (m t) := by
  unfold BG.bnd at h
  cases e : m t with
  | none => rw [e] at h; exact h
  | some o =>
    rw [e] at h
    cases o with
    | ok a t' => exact fun g' H' s' w => h
    | exc c t' => exact h
theorem SL.set {K : PySem.W.Frag} {g : G} {H : Hp} {σ : L2.St} {S : Sl} {i : Nat} {v : V} {d : D} (s : SL K g H σ S) (r : Rp K g v d) : SL K g H (σ.set i (some v)) (S.set i (.val d)) := s.put ⟨v, rfl, r⟩ (fun h => nomatch h)
def wipeS (S : Sl) : List Nat → Sl
  | [] => S
  | v :: vs => (wipeS S vs).set v .un
theorem SL.un {K : PySem.W.Frag} {g : G} {H : Hp} {σ : L2.St} {S : Sl} {i : Nat} (s : SL K g H σ S) (o : Option V) : SL K g H (σ.set i o) (S.set i .un) := s.put trivial (fun h => nomatch h)
theorem SL.wipe {K : PySem.W.Frag} {g : G} {H : Hp} {σ : L2.St} {S : Sl} (s : SL K g H σ S) : ∀ vs : List Nat, SL K g H (wipe σ vs) (wipeS S vs)
  | [] => s
  | v :: vs => (SL.wipe s vs).un none
theorem wipe_in {σ : L2.St} {j : Nat} : ∀ {vs : List Nat}, j ∈ vs → j < σ.length → (wipe σ vs)[j]? = some none
  | [], h, _ => by cases h
  | v :: vs, h, hl => by
    unfold wipe
    by_cases e : v = j
    · subst e
      rw [List.getElem?_set_self (by rw [wipe_length]; exact hl)]
    · rw [List.getElem?_set_ne e]
      exact wipe_in ((List.mem_cons.mp h).resolve_left fun z => e z.symm) hl
/-- what differs at wiped places alone is wiped to the same -/
theorem wipe_eq {σ σ2 : L2.St} {vs : List Nat} (hl : σ2.length = σ.length) (h : ∀ j : Nat, j ∉ vs → σ2[j]? = (L2.wipe σ vs)[j]?) : L2.wipe σ2 vs = L2.wipe σ vs := by
  apply List.ext_getElem?
  intro j
  by_cases hj : j ∈ vs
  · by_cases hlt : j < σ.length
    · rw [wipe_in hj hlt, wipe_in hj (by omega)]
    · rw [List.getElem?_eq_none (by rw [wipe_length]; omega), List.getElem?_eq_none (by rw [wipe_length]; omega)]
  · rw [wipe_out hj, h j hj]
theorem set_ow {S : Sl} {i m : Nat} {d : D} {x : SV} (e : (S.set i (.val d))[m]? = some x) (h : isOw x = true) : i ≠ m := fun z => by
  subst z
  by_cases hl : i < S.length
  · rw [List.getElem?_set_self hl] at e; cases e; cases h
  · rw [List.getElem?_eq_none (by rw [List.length_set]; omega)] at e; cases e
abbrev Tg := D → Sl → Option Sl
def gN (i : Nat) : Tg := fun d S => some (S.set i (.val d))
def gP (i j : Nat) : Tg := fun d S => match d with
  | .tup [a, b] => some ((S.set i (.val a)).set j (.val b))
  | _ => none
def tG (K : PySem.W.Frag) (C : Cn) (is : List Nat) (f : Tg) : TG := fun v σ H Q => ∃ g S t d S', Wf C g H t ∧ SL K g H σ S ∧ Rp K g v d ∧ f d S = some S' ∧ ∀ σ', SL K g H σ' S' → σ'.length = σ.length → (∀ j : Nat, j ∉ is → σ'[j]? = σ[j]?) → (∀ (j : Nat) x, S'[j]? = some x → isOw x = true → S[j]? = some x ∧ σ'[j]? = σ[j]?) → Q σ' H
abbrev CG (X : Cx) (C : Cn) (is : List Nat) (tg : Expr) (f : Tg) : Prop := PG X tg (tG X.K C is f)
theorem PG.imp {X : Cx} {e : Expr} {t t' : TG} (h : PG X e t) (f : ∀ v σ H Q, t' v σ H Q → t v σ H Q) : PG X e t' := ⟨fun pins s σ H v u Q I r q => h.run pins s σ H v u Q I r (f v σ H Q q)⟩
section
variable {X : Cx} {C : Cn} {E : XK}
theorem cg_name (i : Nat) {x : Str} {pos : Pos} (hN : X.N.Nodup) (hi : X.N[i]? = some x := by rfl) (hx : Loc X.env.scope x := by first | exact .inl rfl | exact .inr rfl) (hf : X.fn x = true ∨ X.env.scope.names.lookup x = some .local := by first | exact .inl rfl | exact .inr rfl | assumption) : CG X C [i] (.Name x pos) (gN i) :=
  PG.imp (pg_name hN hi hx hf) fun v σ H Q ⟨g, S, t, d, S', w, s, r, e, q⟩ => by
    cases e
    refine q _ (s.set r) (by rw [List.length_set]) (fun j hj => ?_) fun j ds e ho => ?_
    · rw [List.getElem?_set_ne fun z => hj (by rw [z]; exact List.mem_singleton.mpr rfl)]
    · have n := set_ow e ho
      rw [List.getElem?_set_ne n] at e
      exact ⟨e, by rw [List.getElem?_set_ne n]⟩
theorem cg_pair (i j : Nat) {x y : Str} {p1 p2 pos : Pos} {k : Nat} (hN : X.N.Nodup) (hc : X.calm = true := by rfl) (hi : X.N[i]? = some x := by rfl) (hj : X.N[j]? = some y := by rfl) (hx : Loc X.env.scope x := by first | exact .inl rfl | exact .inr rfl) (hy : Loc X.env.scope y := by first | exact .inl rfl | exact .inr rfl)
    (hf : X.fn x = true ∨ X.env.scope.names.lookup x = some .local := by first | exact .inl rfl | exact .inr rfl | assumption) (hf2 : X.fn y = true ∨ X.env.scope.names.lookup y = some .local := by first | exact .inl rfl | exact .inr rfl | assumption) :
    CG X C [i, j] (.Tuple [.Name x p1, .Name y p2] k pos) (gP i j) :=
  PG.imp (pg_tup hc (pgs_cons (pg_name (i := i) hN hi hx hf) (pgs_cons (pg_name (i := j) hN hj hy hf2) pgs_nil rfl) rfl) rfl rfl) fun v σ H Q ⟨g, S, t, d, S', w, s, r, e, q⟩ => by
    cases d with
    | tup ds =>
      match ds, e with
      | [a, b], e =>
        cases e
        cases r with
        | tup sq ra =>
          cases ra with
          | cons r1 ra =>
            cases ra with
            | cons r2 ra =>
              cases ra
              refine ⟨_, _, rfl, Same.tseq w.fz sq.t, rfl, _, _, rfl, _, _, rfl, rfl, q _ ((s.set r1).set r2) (by rw [List.length_set, List.length_set]) (fun m hm => ?_) fun m ds e ho => ?_⟩
              · rw [List.getElem?_set_ne fun z => hm (by rw [z]; simp), List.getElem?_set_ne fun z => hm (by rw [z]; simp)]
              · have n := set_ow e ho
                rw [List.getElem?_set_ne n] at e
                have n2 := set_ow e ho
                rw [List.getElem?_set_ne n2] at e
                exact ⟨e, by rw [List.getElem?_set_ne n, List.getElem?_set_ne n2]⟩
    | _ => cases e
end
def Yl (K : PySem.W.Frag) (g : G) (H : Hp) (x : V) (H' : Hp) (d : D) : Prop := (H' = H ∧ Rp K g x d) ∨ ∃ T vs ds, x = .ref T ∧ H T = none ∧ (∃ ob, H' = upd H T (.frz ob (.tup vs)) ∧ ob.dict = none ∧ ob.cls = .type "tuple") ∧ d = .tup ds ∧ RpA K g vs ds
def WalkD (K : PySem.W.Frag) (B : Hp) (J : It) (ds : List D) (g : G) : Prop := ∀ i H, Same B H → (∀ d, ds[i]? = some d → J.go i H ∧ ∀ x H', J.yld i H x H' → Yl K g H x H' d) ∧ (ds.length ≤ i → J.stop i H)
def Kp (C : Cn) (g : G) (H : Hp) (B : Hp) : Prop := ∀ g2 H2 t2, Stp g H g2 H2 → Wf C g2 H2 t2 → Same B H2
/-- strict: what is walked is frozen -/
def tI (K : PySem.W.Frag) (C : Cn) (E : XK) (f : Sl → M (List D)) : TI := fun σ H R => ∃ g S t, Wf C g H t ∧ SL K g H σ S ∧ Post C E g H (fun ds _ g' H' => ∀ J, WalkD K g'.Fz J ds g' → R J H') (f S t)
def tIW (K : PySem.W.Frag) (C : Cn) (E : XK) (f : Sl → M (List D)) : TI := fun σ H R => ∃ g S t, Wf C g H t ∧ SL K g H σ S ∧ Post C E g H (fun ds _ g' H' => ∀ J B, Kp C g' H' B → WalkD K B J ds g' → R J H') (f S t)
abbrev CI (X : Cx) (C : Cn) (E : XK) (tg it : Expr) (f : Sl → M (List D)) : Prop := PI X tg it (tI X.K C E f)
abbrev CIW (X : Cx) (C : Cn) (E : XK) (tg it : Expr) (f : Sl → M (List D)) : Prop := PI X tg it (tIW X.K C E f)
theorem PI.imp {X : Cx} {tg e : Expr} {t t' : TI} (h : PI X tg e t) (f : ∀ σ H Q, t' σ H Q → t σ H Q) : PI X tg e t' := ⟨fun pins s σ H Q I q => h.run pins s σ H Q I (f σ H Q q)⟩
/-- the items of a list or tuple -/
def itSeq (f : Ex) : Sl → M (List D) := fun S => bnd (f S) fun d => match d with
  | .tup ds => ret ds
  | .lst ds => ret ds
  | _ => stuck
def itRange1 (f : Ex) : Sl → M (List D) := fun S => bnd (f S) fun d => match d with
  | .int j => if -(2 ^ 62) ≤ j ∧ j < 2 ^ 62 then ret ((List.range j.toNat).map fun (i : Nat) => .int ((0 : Int) + (i : Int))) else stuck
  | _ => stuck
theorem walkL {K : PySem.W.Frag} {g : G} {B : Hp} {a : Addr} {vs : List V} {ds : List D} (h : B a = some (.lst vs)) (r : RpA K g vs ds) : WalkD K B (Itl K a) ds g := fun i H sm => by
  have sq : SqL K H a vs := .of (sm _ _ h)
  refine ⟨fun d e => ?_, fun hl => ⟨vs, sq, by rw [r.length]; exact hl⟩⟩
  obtain ⟨v, e1, r1⟩ := r.get e
  refine ⟨⟨vs, v, sq, e1⟩, fun x H' ⟨e2, e3⟩ => .inl ⟨e2, ?_⟩⟩
  have := e3 vs sq
  rw [e1] at this
  cases this
  exact r1
theorem walkT {K : PySem.W.Frag} {g : G} {B : Hp} {a : Addr} {vs : List V} {ds : List D} (h : SqT K B a vs) (r : RpA K g vs ds) : WalkD K B (Itt K a) ds g := fun i H sm => by
  have sq : SqT K H a vs := Same.tseq sm h
  refine ⟨fun d e => ?_, fun hl => ⟨vs, sq, by rw [r.length]; exact hl⟩⟩
  obtain ⟨v, e1, r1⟩ := r.get e
  refine ⟨⟨vs, v, sq, e1⟩, fun x H' ⟨e2, e3⟩ => .inl ⟨e2, ?_⟩⟩
  have := e3 vs sq
  rw [e1] at this
  cases this
  exact r1
theorem walkR {K : PySem.W.Frag} {g : G} {B : Hp} {a : Int} {n : Nat} : WalkD K B (Itr a n) ((List.range n).map fun (i : Nat) => D.int (a + (i : Int))) g := fun i H sm => by
  refine ⟨fun d e => ?_, fun hl => by rw [List.length_map, List.length_range] at hl; exact hl⟩
  rw [List.getElem?_map] at e
  cases z : (List.range n)[i]? with
  | none => rw [z] at e; cases e
  | some m =>
    rw [z] at e
    cases e
    obtain ⟨h1, h2⟩ := List.getElem?_eq_some_iff.mp z
    rw [List.getElem_range] at h2
    subst h2
    rw [List.length_range] at h1
    refine ⟨h1, fun x H' ⟨e2, e3⟩ => .inl ⟨e2, ?_⟩⟩
    subst e3
    exact .int _
section
variable {X : Cx} {C : Cn} {E : XK} {tg : Expr}
/-- a list or a tuple that is walked -/
theorem pi_seq {l : Expr} {tl : TE} (hl : PE X l tl) : PI X tg l (fun σ H R => tl σ H fun x H1 => ∃ a, x = .ref a ∧ ((∃ xs, SqL X.K H1 a xs ∧ R (Itl X.K a) H1) ∨ (∃ xs, SqT X.K H1 a xs ∧ R (Itt X.K a) H1))) := by
  refine ⟨fun pins s σ H R I h => ?_⟩
  refine thn (hl.run pins s σ H _ I h) fun v s1 ⟨x, H1, I1, r1, q1⟩ => ?_
  obtain ⟨a, e, h2⟩ := q1
  subst e
  cases r1
  rcases h2 with ⟨xs, hq, q⟩ | ⟨xs, hq, q⟩
  · obtain ⟨its, rv, p, hz⟩ := I1.list hq
    refine wpAny_pyIter_list p.isList ?_
    refine ⟨s1.heap.objs.size, [s1.heap.objs.size], _, _, H1, rfl, I1.kept (t' := s1.toks) fun b o e => Heap.get?_push_of_some _ e, turn_list a _, ⟨_, Heap.get?_push_size _ rfl, rfl, rfl⟩, fun b hb => ?_, q⟩
    have e : b = s1.heap.objs.size := by simpa using hb
    subst e
    exact I1.fpOk (Nat.le_refl _) (I1.hok.fresh (Nat.le_refl _))
  · obtain ⟨its, rv, p, hz⟩ := I1.tuple hq
    refine wpAny_pyIter_tuple (show s1.heap.IsTuple a its.toArray from p) ?_
    refine ⟨s1.heap.objs.size, [s1.heap.objs.size], _, _, H1, rfl, I1.kept (t' := s1.toks) fun b o e => Heap.get?_push_of_some _ e, turn_tuple a _, ⟨_, Heap.get?_push_size _ rfl, rfl, rfl⟩, fun b hb => ?_, q⟩
    have e : b = s1.heap.objs.size := by simpa using hb
    subst e
    exact I1.fpOk (Nat.le_refl _) (I1.hok.fresh (Nat.le_refl _))
theorem ci_seq {l : Expr} {f : Ex} (h : CE X C E l f) : CI X C E tg l (itSeq f) := PI.imp (pi_seq h) fun σ H R ⟨g, S, t, w, s, p⟩ => ⟨g, S, t, w, s, p.bnd.imp fun d t1 g1 H1 st1 w1 q v r => by
  cases d with
  | tup ds =>
    cases r with
    | tup sq ra => exact ⟨_, rfl, .inr ⟨_, Same.tseq w1.fz sq.t, postRet q w1 _ (walkT sq.t ra)⟩⟩
  | lst ds =>
    cases r with
    | lst sq ra => exact ⟨_, rfl, .inl ⟨_, .of (w1.fz _ _ sq), postRet q w1 _ (walkL sq ra)⟩⟩
  | _ => exact q.elim⟩
theorem ciw_seq {l : Expr} {f : Ex} (h : CW X C E l f) : CIW X C E tg l (itSeq f) := PI.imp (pi_seq h) fun σ H R ⟨g, S, t, w, s, p⟩ => ⟨g, S, t, w, s, p.bnd.imp fun d t1 g1 H1 st1 w1 q v r => by
  cases d with
  | tup ds =>
    rcases r with r | ⟨_, _, _, z, _⟩
    · cases r with
      | tup sq ra => exact ⟨_, rfl, .inr ⟨_, Same.tseq w1.fz sq.t, postRet q w1 _ g1.Fz (fun g2 H2 t2 s2 w2 => s2.fz.trans w2.fz) (walkT sq.t ra)⟩⟩
    · cases z
  | lst ds =>
    obtain ⟨a, vs, rfl, e1, r1, kept⟩ : ∃ a vs, v = .ref a ∧ H1 a = some (.lst vs) ∧ RpA X.K g1 vs ds ∧ ∀ g2 H2 t2, Stp g1 H1 g2 H2 → Wf C g2 H2 t2 → H2 a = some (.lst vs) := by
      rcases r with r | ⟨p, vs, ds', z1, z2, z3, z4, z5⟩
      · cases r with
        | lst a b => exact ⟨_, _, rfl, w1.fz _ _ a, b, fun g2 H2 t2 s2 w2 => w2.fz _ _ (s2.fz _ _ a)⟩
      · cases z1
        exact ⟨p, vs, z2, z3, z4, fun g2 H2 t2 s2 w2 => s2.frm _ _ z3 z5 (fun _ z => nomatch z)⟩
    refine ⟨_, rfl, .inl ⟨_, .of e1, postRet q w1 _ (fun b => if b = a then some (.lst vs) else none) (fun g2 H2 t2 s2 w2 b o e => ?_) (walkL (vs := vs) (by rw [if_pos rfl]) r1)⟩⟩
    have e : (if b = a then some (HO.lst vs) else none) = some o := e
    by_cases hb : b = a
    · rw [if_pos hb] at e
      cases e
      rw [hb]
      exact kept g2 H2 t2 s2 w2
    · rw [if_neg hb] at e; cases e
  | _ => exact q.elim⟩
theorem ci_w {l : Expr} {f : Sl → M (List D)} (h : CI X C E tg l f) : CIW X C E tg l f := PI.imp h fun σ H R ⟨g, S, t, w, s, p⟩ => ⟨g, S, t, w, s, p.imp fun ds t1 g1 H1 st1 w1 q J wk => q J g1.Fz (fun g2 H2 t2 s2 w2 => s2.fz.trans w2.fz) wk⟩
theorem ci_range1 {a : Expr} {f : Ex} {p pos : Pos} (hm : X.mg "range" = none) (ha : CE X C E a f) (hg : Gl X "range" := by rfl) (hs : starEach [a] X.env = (false, eval a X.env) :: starEach [] X.env := by rfl) : CI X C E tg (.Call (.Name "range" p) [a] [] pos) (itRange1 f) :=
  PI.imp (pi_range1 hg hm (pa_cons ha pa_nil hs) hs) fun σ H R ⟨g, S, t, w, s, p⟩ => ⟨g, S, t, w, s, p.bnd.imp fun d t1 g1 H1 st1 w1 q v r => by
    cases d with
    | int j =>
      cases r
      have q : Post C E g1 H1 (fun ds _ g' H' => ∀ J, WalkD X.K g'.Fz J ds g' → R J H') ((if -(2 ^ 62) ≤ j ∧ j < 2 ^ 62 then ret ((List.range j.toNat).map fun (i : Nat) => D.int ((0 : Int) + (i : Int))) else stuck) t1) := q
      split at q
      · rename_i hc
        exact ⟨j, rfl, hc.1, hc.2, postRet q w1 _ walkR⟩
      · exact q.elim
    | _ => exact q.elim⟩
end
/-- an object of one's own is changed -/
theorem SL.updX {K : PySem.W.Frag} {g : G} {H : Hp} {σ : L2.St} {S : Sl} {i : Nat} {a : Addr} {x y : SV} {o : HO} (s : SL K g H σ S) (e : S[i]? = some x) (ox : isOw x = true) (h1 : σ[i]? = some (some (.ref a))) (oy : isOw y = true) (hy : SVok K g (upd H a o) y (some (some (.ref a)))) : SL K g (upd H a o) σ (S.set i y) where
  len := by rw [List.length_set]; exact s.len
  ok := fun j z e2 => by
    by_cases hj : i = j
    · subst hj
      obtain ⟨hl, _⟩ := List.getElem?_eq_some_iff.mp e
      rw [List.getElem?_set_self hl] at e2
      cases e2
      rw [h1]; exact hy
    · rw [List.getElem?_set_ne hj] at e2
      have h := s.ok j z e2
      cases z with
      | own ds =>
        obtain ⟨b, us, k1, k2, k3, k4⟩ := h
        have nb : b ≠ a := fun z => hj (s.dis i j a x _ e e2 ox rfl h1 (by rw [← z]; exact k1))
        exact ⟨b, us, k1, by rw [upd_ne nb]; exact k2, k3, k4⟩
      | dic ks =>
        obtain ⟨b, us, k1, k2, k3⟩ := h
        have nb : b ≠ a := fun z => hj (s.dis i j a x _ e e2 ox rfl h1 (by rw [← z]; exact k1))
        exact ⟨b, us, k1, by rw [upd_ne nb]; exact k2, k3⟩
      | dcT ks =>
        obtain ⟨b, us, k1, k2, k3⟩ := h
        have nb : b ≠ a := fun z => hj (s.dis i j a x _ e e2 ox rfl h1 (by rw [← z]; exact k1))
        exact ⟨b, us, k1, by rw [upd_ne nb]; exact k2, k3⟩
      | un => exact h
      | val d => exact h
      | raw v => exact h
      | exn c =>
        obtain ⟨b, k1, k2⟩ := h
        refine ⟨b, k1, ?_⟩
        obtain ⟨p0, o0, q1, q2, _⟩ := s.ow e ox
        rw [h1] at q1
        cases q1
        have nb : b ≠ a := fun z => by
          cases x with
          | own ds => obtain ⟨p1, vs1, r1, r2, _⟩ := s.own i ds e; rw [h1] at r1; cases r1; rw [← z, k2] at r2; unfold ExK at r2; cases r2
          | dic ks => obtain ⟨p1, vs1, r1, r2, _⟩ := s.dic i ks e; rw [h1] at r1; cases r1; rw [← z, k2] at r2; unfold ExK at r2; cases r2
          | dcT ks => obtain ⟨p1, L1, r1, r2, _⟩ := s.dcT i ks e; rw [h1] at r1; cases r1; rw [← z, k2] at r2; exact exk_ne (Option.some.inj r2)
          | _ => cases ox
        rw [upd_ne nb]; exact k2
  dis := fun j k p z1 z2 e1 e2 o1 o2 e3 e4 => by
    have at_ : ∀ {m : Nat} {z : SV}, (S.set i y)[m]? = some z → isOw z = true → ∃ z', S[m]? = some z' ∧ isOw z' = true := fun {m z} e2 oz => by
      by_cases hj : i = m
      · subst hj; exact ⟨x, e, ox⟩
      · rw [List.getElem?_set_ne hj] at e2
        exact ⟨z, e2, oz⟩
    obtain ⟨d1, e1, o1⟩ := at_ e1 o1
    obtain ⟨d2, e2, o2⟩ := at_ e2 o2
    exact s.dis j k p d1 d2 e1 e2 o1 o2 e3 e4
/-- a list that is not frozen is changed -/
theorem Wf.updL {C : Cn} {g : G} {H : Hp} {t : Tn} {p : Addr} {xs ys : List V} (w : Wf C g H t) (hp : H p = some (.lst xs)) (fp : Fre g p) : Wf C g (upd H p (.lst ys)) t where
  fz := fun b o' h => by
    rw [upd_ne (ne_of_none h fp.1)]
    exact w.fz b o' h
  tw := ⟨w.tw.1.ext fun b kvs h _ => by rw [upd_ne (ne_of h hp (fun z => nomatch z))]; exact h, w.tw.2.keep (fun _ _ h => h) (.refl g) ⟨rfl, rfl⟩ fun a ha ho h => by rw [upd_ne fun z => fp.2 (.inr (by rw [← z]; exact ha))]; exact h⟩
  ntw := w.ntw
  nft := w.nft
  tab := fun q hq => by
    obtain ⟨ps, h1, h2, h3⟩ := w.tab q hq
    refine ⟨ps, by rw [upd_ne (ne_of h1 hp (fun z => nomatch z))]; exact h1, h2, fun pos cv e => ?_⟩
    obtain ⟨c, e1, e2⟩ := h3 pos cv e
    exact ⟨c, e1, by rw [upd_ne (ne_of e2 hp (fun z => by unfold LamX.CodeO at z; cases z))]; exact e2⟩
def cmpL (tg : Tg) (cond elt : Ex) (S : Sl) : List D → M (List D)
  | [] => ret []
  | d :: ds => match tg d S with
    | none => stuck
    | some S' => bnd (calm (cond S')) fun b => match b with
      | .bl true => bnd (calm (elt S')) fun r => bnd (cmpL tg cond elt S ds) fun rs => ret (r :: rs)
      | .bl false => cmpL tg cond elt S ds
      | _ => stuck
def eComp (vs : List Nat) (it : Sl → M (List D)) (tg : Tg) (cond elt : Ex) : Ex := fun S => bnd (it S) fun ds => if ds.length ≤ sizeLine then bnd (cmpL tg cond elt (wipeS S vs) ds) fun rs => ret (.lst rs) else stuck
abbrev CTs (X : Cx) (C : Cn) (E : XK) (ifs : List Expr) (f : Ex) : Prop := PTs X ifs (tT X.K C E f)
theorem PTs.imp {X : Cx} {e : List Expr} {t t' : TT} (h : PTs X e t) (f : ∀ σ H Q, t' σ H Q → t σ H Q) : PTs X e t' := ⟨fun pins s σ H Q I q => h.run pins s σ H Q I (f σ H Q q)⟩
section
variable {X : Cx} {C : Cn} {E : XK}
theorem cts_nil : CTs X C E [] (eC (.bl true)) := PTs.imp pts_nil fun σ H Q ⟨g, S, t, w, s, p⟩ => by
  obtain ⟨b, e, q⟩ := postRet p w
  cases e
  exact q
theorem cts_one {c : Expr} {f : Ex} (h : CT X C E c f) : CTs X C E [c] f := pts_one h
/-- a list that is built at D: a step leaves it -/
theorem Yl.stp {K : PySem.W.Frag} {g g1 : G} {H H' : Hp} {t : Tn} {x : V} {d : D} (h : Yl K g1 H x H' d) (f : Same g1.Fz g.Fz) (tw : TwLe g1 g) (w : Wf C g H t) : ∃ g', Stp g H g' H' ∧ Wf C g' H' t ∧ Rp K g' x d ∧ ∀ b, H b ≠ none → H' b = H b := by
  rcases h with ⟨rfl, r⟩ | ⟨T, vs, ds, rfl, hT, ⟨ob, rfl, od, oc⟩, rfl, ra⟩
  · exact ⟨g, .refl _ _, w, r.mono f tw, fun _ _ => rfl⟩
  · obtain ⟨g2, s2, w2, r2⟩ := layT w hT od oc (ra.mono f tw)
    refine ⟨g2, s2, w2, r2, fun b hb => ?_⟩
    rw [upd_ne fun z => hb (by rw [z]; exact hT)]
theorem tF.lc {own : List (Str × Nat)} {is : List Nat} {fi : Sl → M (List D)} {ft : Tg} {fc fe : Ex} {σ : L2.St} {H : Hp} {Q : VK} (hv : ∀ i ∈ is, i ∈ own.map (·.2)) (h : tF X.K C E (eComp (own.map (·.2)) fi ft fc fe) σ H Q) :
    tLc (tIW X.K C E fi) (tG X.K C is ft) (tT X.K C E0 fc) (tE X.K C E0 fe) (own.map (·.2)) σ H Q := by
  obtain ⟨g, S, t, w, s, p⟩ := h
  refine ⟨g, S, t, w, s, p.bnd.imp fun ds t1 g1 H1 st1 w1 q J B kp wk => ?_⟩
  have q : Post C E g1 H1 (fun d _ g' H' => ∀ v, RpF X.K H g' H' v d → Q v H') ((if ds.length ≤ sizeLine then bnd (cmpL ft fc fe (wipeS S (own.map (·.2))) ds) fun rs => ret (BG.D.lst rs) else stuck) t1) := q
  split at q
  case isFalse => exact q.elim
  rename_i hsz
  intro La hD
  have s1 := s.stp w st1
  refine ⟨fun i m Hk => m = ds.length - i ∧ i ≤ ds.length ∧ ∃ gk tk av ad, Stp g1 H1 gk Hk ∧ Wf C gk Hk tk ∧ Hk La = some (.lst av) ∧ Fre gk La ∧ RpA X.K gk av ad ∧ ad.length ≤ i ∧
    Post C E g1 H1 (fun d _ g' H' => ∀ v, RpF X.K H g' H' v d → Q v H') (bnd (cmpL ft fc fe (wipeS S (own.map (·.2))) (ds.drop i)) (fun rs => ret (BG.D.lst (ad ++ rs))) tk), ⟨ds.length, by simp, Nat.zero_le _, g1, t1, [], [], Stp.lay w1 hD, Wf.lay w1 hD, upd_same, w1.fre hD, .nil, Nat.zero_le _, ?_⟩, ?_⟩
  · rw [List.drop_zero]
    exact q
  rintro i m Hk ⟨rfl, hi', gk, tk, av, ad, stk, wk', eD, fD, ra, hal, pk⟩
  obtain ⟨wgo, wstop⟩ := wk i Hk (kp gk Hk tk stk wk')
  by_cases hlt : i < ds.length
  · have ed : ds[i]? = some ds[i] := List.getElem?_eq_getElem hlt
    obtain ⟨go, yl⟩ := wgo _ ed
    have edr : ds.drop i = ds[i] :: ds.drop (i + 1) := List.drop_eq_getElem_cons hlt
    rw [edr] at pk
    refine .inr ⟨go, fun Hn => ∃ gn tn bv bd, Stp g1 H1 gn Hn ∧ Wf C gn Hn tn ∧ Hn La = some (.lst bv) ∧ Fre gn La ∧ RpA X.K gn bv bd ∧ bd.length ≤ i + 1 ∧
      Post C E g1 H1 (fun d _ g' H' => ∀ v, RpF X.K H g' H' v d → Q v H') (bnd (cmpL ft fc fe (wipeS S (own.map (·.2))) (ds.drop (i + 1))) (fun rs => ret (BG.D.lst (bd ++ rs))) tn), fun H' hn => ⟨_, Nat.sub_lt_sub_left hlt (Nat.lt_succ_self i), rfl, hlt, hn⟩, fun x H' hy => ?_⟩
    obtain ⟨g3, st3, w3, r3, kp3⟩ := (yl x H' hy).stp stk.fz stk.tw wk'
    have st13 : Stp g1 H1 g3 H' := stk.trans st3
    have eD3 : H' La = some (.lst av) := by rw [kp3 La (by rw [eD]; exact fun z => nomatch z)]; exact eD
    have fD3 : Fre g3 La := fD.stp st3 eD (fun _ z => nomatch z)
    have ra3 := ra.stp st3
    have sl3 : SL X.K g3 H' (L2.wipe σ (own.map (·.2))) (wipeS S (own.map (·.2))) := (s1.stp w1 st13).wipe _
    have pk : Post C E g1 H1 (fun d _ g' H' => ∀ v, RpF X.K H g' H' v d → Q v H') (bnd (match ft ds[i] (wipeS S (own.map (·.2))) with
      | none => stuck
      | some S' => bnd (calm (fc S')) fun b => match b with
        | .bl true => bnd (calm (fe S')) fun r => bnd (cmpL ft fc fe (wipeS S (own.map (·.2))) (ds.drop (i + 1))) fun rs => ret (r :: rs)
        | .bl false => cmpL ft fc fe (wipeS S (own.map (·.2))) (ds.drop (i + 1))
        | _ => stuck) (fun rs => ret (BG.D.lst (ad ++ rs))) tk) := pk
    cases eft : ft ds[i] (wipeS S (own.map (·.2))) with
    | none => rw [eft] at pk; exact pk.elim
    | some S' =>
      rw [eft] at pk
      refine ⟨g3, _, tk, _, S', w3, sl3, r3, eft, fun σ2 sl2 hl2 hout _ => ⟨wipe_eq (by rw [hl2, wipe_length]) fun j hj => hout j fun z => hj (hv j z), ?_⟩⟩
      have pk : Post C E g1 H1 (fun d _ g' H' => ∀ v, RpF X.K H g' H' v d → Q v H') (bnd (bnd (calm (fc S')) fun b => match b with
        | .bl true => bnd (calm (fe S')) fun r => bnd (cmpL ft fc fe (wipeS S (own.map (·.2))) (ds.drop (i + 1))) fun rs => ret (r :: rs)
        | .bl false => cmpL ft fc fe (wipeS S (own.map (·.2))) (ds.drop (i + 1))
        | _ => stuck) (fun rs => ret (BG.D.lst (ad ++ rs))) tk) := pk
      rw [bnd_assoc] at pk
      have pc := (Post.calm pk.bnd0 E0).stp st13
      refine ⟨g3, S', tk, w3, sl2, pc.imp fun b tb gb Hb stb wb qb => ?_⟩
      have st1b := st13.trans stb
      have eDb : Hb La = some (.lst av) := stb.frm _ _ eD3 fD3.2 (fun _ z => nomatch z)
      have fDb : Fre gb La := fD3.stp stb eD3 (fun _ z => nomatch z)
      have rab := ra3.stp stb
      cases b with
      | bl b =>
        refine ⟨b, rfl, ?_⟩
        cases b with
        | false => exact iteF ⟨gb, tb, av, ad, st1b, wb, eDb, fDb, rab, Nat.le_succ_of_le hal, qb⟩
        | true =>
          refine iteT ?_
          have qb : Post C E g1 H1 (fun d _ g' H' => ∀ v, RpF X.K H g' H' v d → Q v H') (bnd (bnd (calm (fe S')) fun r => bnd (cmpL ft fc fe (wipeS S (own.map (·.2))) (ds.drop (i + 1))) fun rs => ret (r :: rs)) (fun rs => ret (BG.D.lst (ad ++ rs))) tb) := qb
          rw [bnd_assoc] at qb
          have pe := (Post.calm qb.bnd0 E0).stp st1b
          refine ⟨gb, S', tb, wb, sl2.stp w3 stb, pe.imp fun r tr gr Hr str wr qr y ry => ?_⟩
          have eDr : Hr La = some (.lst av) := str.frm _ _ eDb fDb.2 (fun _ z => nomatch z)
          have fDr : Fre gr La := fDb.stp str eDb (fun _ z => nomatch z)
          have rar := rab.stp str
          have st1r := st1b.trans str
          have hH1D : H1 La = none := hD
          refine ⟨av, eDr, ?_, gr, tr, av ++ [y], ad ++ [r], ⟨st1r.fz, st1r.tw, st1r.twn, fun b o e1 e2 e3 => ?_, fun b e1 => ?_, st1r.new⟩, ?_, upd_same, fDr, rar.app (.one ry), by rw [List.length_append]; exact Nat.succ_le_succ hal, ?_⟩
          · rw [rar.length]
            exact Nat.lt_of_lt_of_le (Nat.lt_of_le_of_lt hal hlt) hsz
          · rw [upd_ne (ne_of_none e1 hH1D)]
            exact st1r.frm b o e1 e2 e3
          · by_cases hb : b = La
            · exact ⟨_, by rw [hb]; exact upd_same, fun _ z => by cases z⟩
            · obtain ⟨o', e', n'⟩ := st1r.thr b e1
              exact ⟨o', by rw [upd_ne hb]; exact e', n'⟩
          · exact wr.updL eDr fDr
          · rw [bnd_assoc] at qr
            have er : (fun rs => ret (BG.D.lst (ad ++ [r] ++ rs))) = (fun rs => bnd (ret (r :: rs)) fun rs => ret (BG.D.lst (ad ++ rs))) := by
              funext rs
              rw [ret_bnd, List.append_assoc]; rfl
            rw [er]
            exact qr
      | _ => exact qb.elim
  · have e : i = ds.length := by omega
    subst e
    refine .inl ⟨wstop (Nat.le_refl _), ?_⟩
    rw [List.drop_length] at pk
    have pk : Post C E g1 H1 (fun d _ g' H' => ∀ v, RpF X.K H g' H' v d → Q v H') (ret (BG.D.lst (ad ++ [])) tk) := pk
    rw [List.append_nil] at pk
    exact pk gk Hk stk wk' _ ⟨La, av, ad, rfl, rfl, st1.back hD, eD, ra, fD⟩
theorem cf_comp {elt tg iter : Expr} {ifs : List Expr} {scope : Scope} {own : List (Str × Nat)} {pos : Pos} {is : List Nat} {fi : Sl → M (List D)} {ft : Tg} {fc fe : Ex} (hc : X.calm = true) (hN : X.N.Nodup) (hi : CIW X C E tg iter fi) (ok : BlkOk X.N X.env.scope scope own) (hv : ∀ i ∈ is, i ∈ own.map (·.2))
    (hg : ∀ (s : Shared) (H : Hp) (Ca : Addr) (cl : List (Str × Addr)) (fp : List Addr), CG (X.blk s H scope (compEnvC scope cl Ca X.env) fp) C is tg ft) (ht : ∀ (s : Shared) (H : Hp) (Ca : Addr) (cl : List (Str × Addr)) (fp : List Addr), CTs (X.blk s H scope (compEnvC scope cl Ca X.env) fp) C E0 ifs fc)
    (he : ∀ (s : Shared) (H : Hp) (Ca : Addr) (cl : List (Str × Addr)) (fp : List Addr), CE (X.blk s H scope (compEnvC scope cl Ca X.env) fp) C E0 elt fe) (hs : ∀ x, foldedSetIterable iter X.env x = pure x := by intro _; rfl) :
    CF X C E (.ListComp elt [⟨tg, iter, ifs, 0⟩] scope pos) (eComp (own.map (·.2)) fi ft fc fe) := by
  exact PE.imp (pe_lc (te := tE X.K C E0 fe) (g := tG X.K C is ft) (tt := tT X.K C E0 fc) hc hN hi ok hg ht he hs) fun σ H Q h => tF.lc hv h
end
end BG
set_option Elab.async false
set_option linter.all false
set_option maxRecDepth 100000
set_option maxHeartbeats 4000000
namespace BG
open PySem PySem.Spec PyProof.Rows L2
inductive Fl where
  | nx (S : Sl)
  | ret (d : D)
abbrev Stm := Sl → M Fl
def OwnF (H0 : Hp) (σ : L2.St) (S : Sl) : Prop := ∀ (j : Nat) x p, S[j]? = some x → isOw x = true → σ[j]? = some (some (.ref p)) → ¬ Nt H0 p
/-- what is frozen stays frozen -/
structure Gw (g g' : G) : Prop where
  fz : Same g.Fz g'.Fz
  tw : TwLe g g'
theorem Gw.refl (g : G) : Gw g g := ⟨fun _ _ h => h, .refl g⟩
theorem Gw.trans {g g1 g2 : G} (a : Gw g g1) (b : Gw g1 g2) : Gw g g2 := ⟨a.fz.trans b.fz, a.tw.trans b.tw⟩
theorem Stp.gw {g g' : G} {H H' : Hp} (s : Stp g H g' H') : Gw g g' := ⟨s.fz, s.tw⟩
/-- what follows a statement -/
def Rs (K : PySem.W.Frag) (H0 : Hp) (gs : G) (De : Ends) : Fl → Tn → G → Hp → Prop
  | .nx S', _, g', H' => ∀ σ', Gw gs g' → SL K g' H' σ' S' → OwnF H0 σ' S' → De.nx σ' H'
  | .ret d, _, g', H' => ∀ v, Gw gs g' → Rp K g' v d → De.rt v H'
def tS (K : PySem.W.Frag) (C : Cn) (E : XK) (f : Stm) : TS := fun De σ H => ∃ g0 H0 gs g S t, Stp g0 H0 g H ∧ Gw gs g ∧ Wf C g H t ∧ SL K g H σ S ∧ OwnF H0 σ S ∧ Post C E g0 H0 (Rs K H0 gs De) (f S t)
abbrev CS (X : Cx) (C : Cn) (E : XK) (st : Stmt) (f : Stm) : Prop := PS X st (tS X.K C E f)
abbrev CSs (X : Cx) (C : Cn) (E : XK) (st : List Stmt) (f : Stm) : Prop := PSs X st (tS X.K C E f)
def sNil : Stm := fun S => ret (.nx S)
def sSeq (a b : Stm) : Stm := fun S => bnd (a S) fun fl => match fl with
  | .nx S' => b S'
  | .ret d => ret (.ret d)
def sAsg (i : Nat) (e : Ex) : Stm := fun S => bnd (e S) fun d => ret (.nx (S.set i (.val d)))
def sOwn (i : Nat) (e : Ex) : Stm := fun S => bnd (e S) fun d => match d with
  | .lst ds => ret (.nx (S.set i (.own ds)))
  | _ => stuck
def sAsgG (tg : Tg) (e : Ex) : Stm := fun S => bnd (e S) fun d => match tg d S with
  | some S' => ret (.nx S')
  | none => stuck
def sPar (i j : Nat) (a b : Ex) : Stm := fun S => bnd (a S) fun x => bnd (b S) fun y => ret (.nx ((S.set i (.val x)).set j (.val y)))
def sParO (i j : Nat) (a b : Ex) : Stm := fun S => bnd (a S) fun x => bnd (b S) fun y => match y with
  | .lst ds => ret (.nx ((S.set i (.val x)).set j (.own ds)))
  | _ => stuck
def sApp (i : Nat) (e : Ex) : Stm := fun S => match S[i]? with
  | some (.own _) => bnd (e S) fun d => match S[i]? with
    | some (.own ds) => if ds.length < sizeLine then ret (.nx (S.set i (.own (ds ++ [d])))) else stuck
    | _ => stuck
  | _ => stuck
def sExt (i : Nat) (e : Ex) : Stm := fun S => match S[i]? with
  | some (.own _) => bnd (e S) fun d => match S[i]?, d with
    | some (.own ds), .lst es => if ds.length + es.length ≤ sizeLine then ret (.nx (S.set i (.own (ds ++ es)))) else stuck
    | _, _ => stuck
  | _ => stuck
def sPut (i : Nat) (k e : Ex) : Stm := fun S => match S[i]? with
  | some (.own _) => bnd (e S) fun d => bnd (k S) fun n => match S[i]?, n with
    | some (.own ds), .int n => match ixN ds.length n with
      | some j => ret (.nx (S.set i (.own (ds.set j d))))
      | none => stuck
    | _, _ => stuck
  | _ => stuck
def sExpr (e : Ex) : Stm := fun S => bnd (e S) fun _ => ret (.nx S)
def sIf (c : Ex) (a b : Stm) : Stm := fun S => bnd (c S) fun d => match d with
  | .bl true => a S
  | .bl false => b S
  | _ => stuck
def sRet (e : Ex) : Stm := fun S => bnd (e S) fun d => ret (.ret d)
def sFrz (i : Nat) (a : Stm) : Stm := fun S => match S[i]? with
  | some (.own ds) => a (S.set i (.val (.lst ds)))
  | _ => a S
def sRaise (c : Nat) : Stm := fun _ => raise c
def forL (tg : Tg) (body : Stm) : List D → Stm
  | [], S => ret (.nx S)
  | d :: ds, S => match tg d S with
    | none => stuck
    | some S' => bnd (calm (body S')) fun fl => match fl with
      | .nx S'' => forL tg body ds S''
      | .ret v => ret (.ret v)
def sFor (it : Sl → M (List D)) (tg : Tg) (body : Stm) : Stm := fun S => bnd (calm (it S)) fun ds => forL tg body ds S
section
variable {K : PySem.W.Frag} {C : Cn} {E : XK}
theorem OwnF.set {H0 : Hp} {σ : L2.St} {S : Sl} {i : Nat} {v : V} {d : D} (h : OwnF H0 σ S) : OwnF H0 (σ.set i (some v)) (S.set i (.val d)) := fun j ds p e1 ox e2 => by
  have n := set_ow e1 ox
  rw [List.getElem?_set_ne n] at e1 e2
  exact h j ds p e1 ox e2
theorem OwnF.keep {H0 : Hp} {σ σ' : L2.St} {S S' : Sl} (h : OwnF H0 σ S) (k : ∀ (j : Nat) x, S'[j]? = some x → isOw x = true → S[j]? = some x ∧ σ'[j]? = σ[j]?) : OwnF H0 σ' S' := fun j ds p e1 ox e2 => by
  obtain ⟨a, b⟩ := k j ds e1 ox
  rw [b] at e2
  exact h j ds p a ox e2
/-- an expression within a statement -/
theorem tS.ex {f : Ex} {k : D → M Fl} {σ : L2.St} {H : Hp} {De : Ends} {g0 gs g : G} {H0 : Hp} {S : Sl} {t : Tn} {Q : VK} (st : Stp g0 H0 g H) (gr : Gw gs g) (w : Wf C g H t) (s : SL K g H σ S) (p : Post C E g0 H0 (Rs K H0 gs De) (bnd (f S) k t))
    (h : ∀ d t1 g1 H1 v, Stp g H g1 H1 → Stp g0 H0 g1 H1 → Gw gs g1 → Wf C g1 H1 t1 → SL K g1 H1 σ S → Rp K g1 v d → Post C E g0 H0 (Rs K H0 gs De) (k d t1) → Q v H1) : tE K C E f σ H Q :=
  ⟨g, S, t, w, s, (p.bnd0.stp st).imp fun d t1 g1 H1 st1 w1 q v r => h d t1 g1 H1 v st1 (st.trans st1) (gr.trans st1.gw) w1 (s.stp w st1) r q⟩
theorem tS.exW {f : Ex} {k : D → M Fl} {σ : L2.St} {H : Hp} {De : Ends} {g0 gs g : G} {H0 : Hp} {S : Sl} {t : Tn} {Q : VK} (st : Stp g0 H0 g H) (gr : Gw gs g) (w : Wf C g H t) (s : SL K g H σ S) (p : Post C E g0 H0 (Rs K H0 gs De) (bnd (f S) k t))
    (h : ∀ d t1 g1 H1 v, Stp g H g1 H1 → Stp g0 H0 g1 H1 → Gw gs g1 → Wf C g1 H1 t1 → SL K g1 H1 σ S → RpW K g1 H1 v d → Post C E g0 H0 (Rs K H0 gs De) (k d t1) → Q v H1) : tW K C E f σ H Q :=
  ⟨g, S, t, w, s, (p.bnd0.stp st).imp fun d t1 g1 H1 st1 w1 q v r => h d t1 g1 H1 v st1 (st.trans st1) (gr.trans st1.gw) w1 (s.stp w st1) r q⟩
theorem tS.exF {f : Ex} {k : D → M Fl} {σ : L2.St} {H : Hp} {De : Ends} {g0 gs g : G} {H0 : Hp} {S : Sl} {t : Tn} {Q : VK} (st : Stp g0 H0 g H) (gr : Gw gs g) (w : Wf C g H t) (s : SL K g H σ S) (p : Post C E g0 H0 (Rs K H0 gs De) (bnd (f S) k t))
    (h : ∀ d t1 g1 H1 v, Stp g H g1 H1 → Stp g0 H0 g1 H1 → Gw gs g1 → Wf C g1 H1 t1 → SL K g1 H1 σ S → RpF K H g1 H1 v d → Post C E g0 H0 (Rs K H0 gs De) (k d t1) → Q v H1) : tF K C E f σ H Q :=
  ⟨g, S, t, w, s, (p.bnd0.stp st).imp fun d t1 g1 H1 st1 w1 q v r => h d t1 g1 H1 v st1 (st.trans st1) (gr.trans st1.gw) w1 (s.stp w st1) r q⟩
theorem tS.tst {f : Ex} {k : D → M Fl} {σ : L2.St} {H : Hp} {De : Ends} {g0 gs g : G} {H0 : Hp} {S : Sl} {t : Tn} {Q : Bool → Hp → Prop} (st : Stp g0 H0 g H) (gr : Gw gs g) (w : Wf C g H t) (s : SL K g H σ S) (p : Post C E g0 H0 (Rs K H0 gs De) (bnd (f S) k t))
    (nb : ∀ d t, (∀ b, d ≠ .bl b) → k d t = none) (h : ∀ b t1 g1 H1, Stp g H g1 H1 → Stp g0 H0 g1 H1 → Gw gs g1 → Wf C g1 H1 t1 → SL K g1 H1 σ S → Post C E g0 H0 (Rs K H0 gs De) (k (.bl b) t1) → Q b H1) : tT K C E f σ H Q :=
  ⟨g, S, t, w, s, (p.bnd0.stp st).imp fun d t1 g1 H1 st1 w1 q => by
    by_cases hb : ∃ b, d = .bl b
    · obtain ⟨b, rfl⟩ := hb
      exact ⟨b, rfl, h b t1 g1 H1 st1 (st.trans st1) (gr.trans st1.gw) w1 (s.stp w st1) q⟩
    · rw [nb d t1 fun b z => hb ⟨b, z⟩] at q
      exact q.elim⟩
/-- the slot gets a list of its own -/
theorem SL.setO {g : G} {H : Hp} {σ : L2.St} {S : Sl} {i : Nat} {p : Addr} {vs : List V} {ds : List D} (s : SL K g H σ S) (hp : H p = some (.lst vs)) (r : RpA K g vs ds) (fp : Fre g p) (hn : ∀ (j : Nat) x, S[j]? = some x → isOw x = true → σ[j]? = some (some (.ref p)) → j = i) :
    SL K g H (σ.set i (some (.ref p))) (S.set i (.own ds)) := s.put ⟨p, vs, rfl, hp, r, fp⟩ fun _ q e => by cases e; exact hn
theorem SL.setD {g : G} {H : Hp} {σ : L2.St} {S : Sl} {i : Nat} {p : Addr} {vs : List (Key × V)} {ks : List (Key × D)} (s : SL K g H σ S) (hp : H p = some (.dK vs)) (r : RpK K g vs ks) (fp : g.Fz p = none) (nt : ¬ g.isTw p) (hn : ∀ (j : Nat) x, S[j]? = some x → isOw x = true → σ[j]? = some (some (.ref p)) → j = i) :
    SL K g H (σ.set i (some (.ref p))) (S.set i (.dic ks)) := s.put ⟨p, vs, rfl, hp, r, fp, nt⟩ fun _ q e => by cases e; exact hn
theorem OwnF.put {H0 : Hp} {σ : L2.St} {S : Sl} {i : Nat} {p : Addr} {x : SV} (h : OwnF H0 σ S) (hp : ¬ Nt H0 p) : OwnF H0 (σ.set i (some (.ref p))) (S.set i x) := fun j dj q e1 ox e2 => by
  by_cases hj : i = j
  · subst hj
    obtain ⟨hl, _⟩ := List.getElem?_eq_some_iff.mp e2
    rw [List.length_set] at hl
    rw [List.getElem?_set_self hl] at e2
    cases e2
    exact hp
  · rw [List.getElem?_set_ne hj] at e1 e2
    exact h j dj q e1 ox e2
theorem OwnF.setO {H0 : Hp} {σ : L2.St} {S : Sl} {i : Nat} {p : Addr} {ds : List D} (h : OwnF H0 σ S) (hp : ¬ Nt H0 p) : OwnF H0 (σ.set i (some (.ref p))) (S.set i (.own ds)) := h.put hp
/-- an object that was just made is nobody's -/
theorem SL.noOne {g : G} {H : Hp} {σ : L2.St} {S : Sl} {p : Addr} (s : SL K g H σ S) (hp : ¬ Nt H p) (i : Nat) : ∀ (j : Nat) x, S[j]? = some x → isOw x = true → σ[j]? = some (some (.ref p)) → j = i := fun j x e1 ox e2 => by
  obtain ⟨a, o, h1, h2, _, h4⟩ := s.ow e1 ox
  rw [e2] at h1
  cases h1
  exact absurd ⟨o, h2, h4⟩ hp
end
section
variable {X : Cx} {C : Cn} {E : XK}
theorem css_nil : CSs X C E [] sNil := PSs.imp pss_nil fun De σ H ⟨g0, H0, gs, g, S, t, st, gr, w, s, o, p⟩ => p g H st w σ gr s o
theorem css_cons {st : Stmt} {rest : List Stmt} {a b : Stm} (h1 : CS X C E st a) (h2 : CSs X C E rest b) : CSs X C E (st :: rest) (sSeq a b) := PSs.imp (pss_cons h1 h2) fun De σ H ⟨g0, H0, gs, g, S, t, st, gr, w, s, o, p⟩ =>
  ⟨g0, H0, gs, g, S, t, st, gr, w, s, o, p.bnd0.imp fun fl t1 g1 H1 st1 w1 q => by
    cases fl with
    | nx S' => exact fun σ' gr' s' o' => ⟨g0, H0, gs, g1, S', t1, st1, gr', w1, s', o', q⟩
    | ret d => exact q g1 H1 st1 w1⟩
theorem css_one {st : Stmt} {a : Stm} (h1 : CS X C E st a) : CSs X C E [st] a := PSs.imp (pss_one h1) fun De σ H h => h
theorem cs_asg (i : Nat) {x : Str} {e : Expr} {f : Ex} {pos pos' : Pos} (hN : X.N.Nodup) (he : CE X C E e f) (hi : X.N[i]? = some x := by rfl) (hx : Loc X.env.scope x := by first | exact .inl rfl | exact .inr rfl) (hs : swapsWith e (some (.Name x pos')) pos.line X.env = pure false := by rfl)
    (hf : X.fn x = true ∨ X.env.scope.names.lookup x = some .local := by first | exact .inl rfl | exact .inr rfl | assumption) : CS X C E (.Assign [.Name x pos'] e pos) (sAsg i f) :=
  PS.imp (ps_set hN hi hx he hs hf) fun De σ H ⟨g0, H0, gs, g, S, t, st, gr, w, s, o, p⟩ => tS.ex st gr w s p fun d t1 g1 H1 v st1 st01 gr1 w1 s1 r q => q g1 H1 st01 w1 _ gr1 (s1.set r) o.set
theorem cs_own (i : Nat) {x : Str} {e : Expr} {f : Ex} {pos pos' : Pos} (hN : X.N.Nodup) (he : CF X C E e f) (hi : X.N[i]? = some x := by rfl) (hx : Loc X.env.scope x := by first | exact .inl rfl | exact .inr rfl) (hs : swapsWith e (some (.Name x pos')) pos.line X.env = pure false := by rfl)
    (hf : X.fn x = true ∨ X.env.scope.names.lookup x = some .local := by first | exact .inl rfl | exact .inr rfl | assumption) : CS X C E (.Assign [.Name x pos'] e pos) (sOwn i f) :=
  PS.imp (ps_set hN hi hx he hs hf) fun De σ H ⟨g0, H0, gs, g, S, t, st, gr, w, s, o, p⟩ => tS.exF st gr w s p fun d t1 g1 H1 v st1 st01 gr1 w1 s1 r q => by
    obtain ⟨a, vs, ds, rfl, rfl, e0, e1, ra, e2⟩ := r
    refine q g1 H1 st01 w1 _ gr1 (s1.setO e1 ra e2 fun j dj h1 hx h2 => s.noOne e0 i j dj h1 hx h2) (o.setO (st.backN e0))
theorem cs_asgG {tg e : Expr} {f : Ex} {is : List Nat} {ft : Tg} {pos : Pos} (he : CE X C E e f) (hg : CG X C is tg ft) (hs : swapsWithSole [tg] e pos.line X.env = pure false := by rfl) (hw : swappedStores [tg] e X.env = pure none := by rfl)
    (h1 : (assignEach [tg] X.env).map (·.2) = [assign tg X.env] := by rfl) : CS X C E (.Assign [tg] e pos) (sAsgG ft f) :=
  PS.imp (ps_asg he hg hs hw h1) fun De σ H ⟨g0, H0, gs, g, S, t, st, gr, w, s, o, p⟩ => tS.ex st gr w s p fun d t1 g1 H1 v st1 st01 gr1 w1 s1 r q => by
    have q : Post C E g0 H0 (Rs X.K H0 gs De) ((match ft d S with | some S' => ret (Fl.nx S') | none => stuck) t1) := q
    cases z : ft d S with
    | none => rw [z] at q; exact q.elim
    | some S' =>
      rw [z] at q
      exact ⟨g1, S, t1, d, S', w1, s1, r, z, fun σ' s' _ _ k => q g1 H1 st01 w1 _ gr1 s' (o.keep k)⟩
theorem cs_par (i j : Nat) {x y : Str} {a b : Expr} {fa fb : Ex} {px py pt : Pos} {kt k2 pt2} {pos : Pos} (hN : X.N.Nodup) (ha : CE X C E a fa) (hb : CE X C E b fb) (hc : X.calm = true := by rfl) (hi : X.N[i]? = some x := by rfl) (hj : X.N[j]? = some y := by rfl) (hij : i ≠ j := by decide)
    (hx : X.env.scope.names.lookup x = some .local := by rfl) (hy : X.env.scope.names.lookup y = some .local := by rfl)
    (hw : swappedStores [.Tuple [.Name x px, .Name y py] kt pt] (.Tuple [a, b] k2 pt2) X.env = pure (some [x, y]) := by rfl) (hs : swapsWithSole [.Tuple [.Name x px, .Name y py] kt pt] (.Tuple [a, b] k2 pt2) pos.line X.env = pure false := by rfl)
    (s1 : starEach [a, b] X.env = (false, eval a X.env) :: starEach [b] X.env := by rfl) (s2 : starEach [b] X.env = (false, eval b X.env) :: starEach [] X.env := by rfl) :
    CS X C E (.Assign [.Tuple [.Name x px, .Name y py] kt pt] (.Tuple [a, b] k2 pt2) pos) (sPar i j fa fb) :=
  PS.imp (ps_par hc hN hi hj hij hx hy (pa_cons ha (pa_cons hb pa_nil s2) s1) hw hs) fun De σ H ⟨g0, H0, gs, g, S, t, st, gr, w, s, o, p⟩ => tS.ex st gr w s p fun d t1 g1 H1 v st1 st01 gr1 w1 s1 r q =>
    tS.ex st01 gr1 w1 s1 q fun d2 t2 g2 H2 v2 st2 st02 gr2 w2 s2 r2 q2 => ⟨v, v2, rfl, q2 g2 H2 st02 w2 _ gr2 ((s2.set (r.stp st2)).set r2) o.set.set⟩
theorem cs_parO (i j : Nat) {x y : Str} {a b : Expr} {fa fb : Ex} {px py pt : Pos} {kt k2 pt2} {pos : Pos} (hN : X.N.Nodup) (ha : CE X C E a fa) (hb : CF X C E b fb) (hc : X.calm = true := by rfl) (hi : X.N[i]? = some x := by rfl) (hj : X.N[j]? = some y := by rfl) (hij : i ≠ j := by decide)
    (hx : X.env.scope.names.lookup x = some .local := by rfl) (hy : X.env.scope.names.lookup y = some .local := by rfl)
    (hw : swappedStores [.Tuple [.Name x px, .Name y py] kt pt] (.Tuple [a, b] k2 pt2) X.env = pure (some [x, y]) := by rfl) (hs : swapsWithSole [.Tuple [.Name x px, .Name y py] kt pt] (.Tuple [a, b] k2 pt2) pos.line X.env = pure false := by rfl)
    (s1 : starEach [a, b] X.env = (false, eval a X.env) :: starEach [b] X.env := by rfl) (s2 : starEach [b] X.env = (false, eval b X.env) :: starEach [] X.env := by rfl) :
    CS X C E (.Assign [.Tuple [.Name x px, .Name y py] kt pt] (.Tuple [a, b] k2 pt2) pos) (sParO i j fa fb) :=
  PS.imp (ps_par hc hN hi hj hij hx hy (pa_cons ha (pa_cons hb pa_nil s2) s1) hw hs) fun De σ H ⟨g0, H0, gs, g, S, t, st, gr, w, s, o, p⟩ => tS.ex st gr w s p fun d t1 g1 H1 v st1 st01 gr1 w1 s1 r q =>
    tS.exF st01 gr1 w1 s1 q fun d2 t2 g2 H2 v2 st2 st02 gr2 w2 s2 r2 q2 => by
      obtain ⟨a, vs, ds, rfl, rfl, e0, e1, ra, e2⟩ := r2
      refine ⟨v, .ref a, rfl, q2 g2 H2 st02 w2 _ gr2 ((s2.set (r.stp st2)).setO e1 ra e2 fun m dm h1 hx h2 => ?_) (o.set.setO (st01.backN e0))⟩
      have n := set_ow h1 hx
      rw [List.getElem?_set_ne n] at h1 h2
      exact s1.noOne e0 j m dm h1 hx h2
theorem cs_expr {e : Expr} {f : Ex} {pos : Pos} (he : CE X C E e f) (hs : swapsWith e none pos.line X.env = pure false := by rfl) : CS X C E (.Expr e pos) (sExpr f) :=
  PS.imp (ps_expr he hs) fun De σ H ⟨g0, H0, gs, g, S, t, st, gr, w, s, o, p⟩ => tS.ex st gr w s p fun d t1 g1 H1 v st1 st01 gr1 w1 s1 r q => q g1 H1 st01 w1 _ gr1 s1 o
theorem cs_ret {e : Expr} {f : Ex} {pos : Pos} (he : CE X C E e f) : CS X C E (.Return (some e) pos) (sRet f) :=
  PS.imp (ps_ret he) fun De σ H ⟨g0, H0, gs, g, S, t, st, gr, w, s, o, p⟩ => tS.ex st gr w s p fun d t1 g1 H1 v st1 st01 gr1 w1 s1 r q => q g1 H1 st01 w1 v gr1 r
theorem cs_if {c : Expr} {a b : List Stmt} {fc : Ex} {fa fb : Stm} {pos : Pos} (hc : CT X C E c fc) (ha : CSs X C E a fa) (hb : CSs X C E b fb) : CS X C E (.If c a b pos) (sIf fc fa fb) :=
  PS.imp (ps_if hc ha hb) fun De σ H ⟨g0, H0, gs, g, S, t, st, gr, w, s, o, p⟩ => tS.tst (k := fun d => match d with | .bl true => fa S | .bl false => fb S | _ => stuck) st gr w s p (fun d t h => by cases d <;> first | rfl | exact absurd rfl (h _)) fun b t1 g1 H1 st1 st01 gr1 w1 s1 q => by
    cases b with
    | true => exact iteT ⟨g0, H0, gs, g1, S, t1, st01, gr1, w1, s1, o, q⟩
    | false => exact iteF ⟨g0, H0, gs, g1, S, t1, st01, gr1, w1, s1, o, q⟩
/-- a list of one's own is changed -/
theorem SL.updO {K : PySem.W.Frag} {g : G} {H : Hp} {σ : L2.St} {S : Sl} {i : Nat} {a : Addr} {vs : List V} {ds0 ds : List D} (s : SL K g H σ S) (e : S[i]? = some (.own ds0)) (h1 : σ[i]? = some (some (.ref a))) (ra : RpA K g vs ds) : SL K g (upd H a (.lst vs)) σ (S.set i (.own ds)) := by
  obtain ⟨b, us, k1, k2, k3, k4⟩ := s.own i ds0 e
  rw [h1] at k1
  cases k1
  exact s.updX e rfl h1 rfl ⟨a, vs, rfl, upd_same, ra, k4⟩
theorem OwnF.updX {H0 : Hp} {σ : L2.St} {S : Sl} {i : Nat} {x y : SV} (o : OwnF H0 σ S) (e : S[i]? = some x) (ox : isOw x = true) : OwnF H0 σ (S.set i y) := fun j dj p e1 oy e2 => by
  by_cases hj : i = j
  · subst hj; exact o i x p e ox e2
  · rw [List.getElem?_set_ne hj] at e1
    exact o j dj p e1 oy e2
theorem OwnF.updO {H0 : Hp} {σ : L2.St} {S : Sl} {i : Nat} {ds0 ds : List D} (o : OwnF H0 σ S) (e : S[i]? = some (.own ds0)) : OwnF H0 σ (S.set i (.own ds)) := o.updX e rfl
theorem Stp.updO {g0 g : G} {H0 H : Hp} {a : Addr} {ob : HO} (st : Stp g0 H0 g H) (h0 : ¬ Nt H0 a) : Stp g0 H0 g (upd H a ob) := ⟨st.fz, st.tw, st.twn, fun b o e1 e2 e3 => by rw [upd_ne (fun z => h0 ⟨o, by rw [← z]; exact e1, e3⟩)]; exact st.frm b o e1 e2 e3, fun b e1 => by
  obtain ⟨o', e', n'⟩ := st.thr b e1
  exact ⟨o', by rw [upd_ne (fun z => h0 (by rw [← z]; exact e1))]; exact e', n'⟩, st.new⟩
theorem cs_app (i : Nat) {x : Str} {e : Expr} {f : Ex} {p1 apos cpos pos : Pos} (he : CE X C E e f) (hN : X.N[i]? = some x := by rfl) (hv : Vis X.env.scope x := by first | exact Or.inl rfl | exact Or.inr (Or.inl rfl) | exact Or.inr (Or.inr rfl)) (hd : (x == ("__debug__" : Str)) = false := by decide)
    (hcd : (x == ("__classdict__" : Str)) = false := by decide) (hbase : attributeBase (.Name x p1) "append" X.env (eval (.Name x p1) X.env) = eval (.Name x p1) X.env := by rfl)
    (hfew : ((backTo cpos (starEach [e] X.env)).all (fun x => !x.1) && (backToKw cpos (keywordEach [] X.env)).all (fun x => x.1.isSome) && decide ([e].length + ([] : List Keyword).length + (if ([] : List Keyword).isEmpty then 0 else 1) < 30)) = true := by rfl)
    (hline : (apos.endLine == cpos.line) = true := by rfl) (hs : starEach [e] X.env = (false, eval e X.env) :: starEach [] X.env := by rfl) (hplain : (backTo cpos (starEach [] X.env)).any (·.1) = false := by rfl) (hsw : swapsWith (.Call (.Attribute (.Name x p1) "append" apos) [e] [] cpos) none pos.line X.env = pure false := by rfl) :
    CS X C E (.Expr (.Call (.Attribute (.Name x p1) "append" apos) [e] [] cpos) pos) (sApp i f) :=
  PS.imp (ps_expr (pe_bm PySem.F.plainAttrs_list PySem.F.slot_list_append PySem.F.type_list_append mt_append (pe_var hN hv hd hcd) (pa_cons he pa_nil hs) hbase hfew hline hs hplain) hsw) fun De σ H ⟨g0, H0, gs, g, S, t, st, gr, w, s, o, p⟩ => by
    unfold sApp at p
    cases e : S[i]? with
    | none => rw [e] at p; exact p.elim
    | some sv =>
      rw [e] at p
      cases sv with
      | un => exact p.elim
      | val d => exact p.elim
      | dic d => exact p.elim
      | dcT d => exact p.elim
      | raw d => exact p.elim
      | exn d => exact p.elim
      | own ds =>
        obtain ⟨a, vs, h1, h2, h3, h4⟩ := s.own i ds e
        refine ⟨_, h1, .inl ⟨rfl, vs, .of h2⟩, tS.ex st gr w s p fun d t1 g1 H1 v st1 st01 gr1 w1 s1 r q => ?_⟩
        have q : Post C E g0 H0 (Rs X.K H0 gs De) ((if ds.length < sizeLine then ret (Fl.nx (S.set i (.own (ds ++ [d])))) else stuck) t1) := q
        split at q
        · rename_i hz
          obtain ⟨a', vs', k1, k2, k3, k4⟩ := s1.own i ds e
          rw [h1] at k1
          cases k1
          refine ⟨a, vs', v, rfl, rfl, k2, by rw [k3.length]; exact hz, ?_⟩
          exact q g1 _ (st01.updO (o i _ a e rfl h1)) (w1.updL k2 k4) _ gr1 (s1.updO e h1 (k3.app (.one r))) (o.updO e)
        · exact q.elim
theorem cs_ext (i : Nat) {x : Str} {e : Expr} {f : Ex} {p1 apos cpos pos : Pos} (he : CW X C E e f) (hN : X.N[i]? = some x := by rfl) (hv : Vis X.env.scope x := by first | exact Or.inl rfl | exact Or.inr (Or.inl rfl) | exact Or.inr (Or.inr rfl)) (hd : (x == ("__debug__" : Str)) = false := by decide)
    (hcd : (x == ("__classdict__" : Str)) = false := by decide) (hbase : attributeBase (.Name x p1) "extend" X.env (eval (.Name x p1) X.env) = eval (.Name x p1) X.env := by rfl)
    (hfew : ((backTo cpos (starEach [e] X.env)).all (fun x => !x.1) && (backToKw cpos (keywordEach [] X.env)).all (fun x => x.1.isSome) && decide ([e].length + ([] : List Keyword).length + (if ([] : List Keyword).isEmpty then 0 else 1) < 30)) = true := by rfl)
    (hline : (apos.endLine == cpos.line) = true := by rfl) (hs : starEach [e] X.env = (false, eval e X.env) :: starEach [] X.env := by rfl) (hplain : (backTo cpos (starEach [] X.env)).any (·.1) = false := by rfl) (hsw : swapsWith (.Call (.Attribute (.Name x p1) "extend" apos) [e] [] cpos) none pos.line X.env = pure false := by rfl) :
    CS X C E (.Expr (.Call (.Attribute (.Name x p1) "extend" apos) [e] [] cpos) pos) (sExt i f) :=
  PS.imp (ps_expr (pe_bm PySem.F.plainAttrs_list PySem.F.slot_list_extend PySem.F.type_list_extend mt_extend (pe_var hN hv hd hcd) (pa_cons he pa_nil hs) hbase hfew hline hs hplain) hsw) fun De σ H ⟨g0, H0, gs, g, S, t, st, gr, w, s, o, p⟩ => by
    unfold sExt at p
    cases e : S[i]? with
    | none => rw [e] at p; exact p.elim
    | some sv =>
      rw [e] at p
      cases sv with
      | un => exact p.elim
      | val d => exact p.elim
      | dic d => exact p.elim
      | dcT d => exact p.elim
      | raw d => exact p.elim
      | exn d => exact p.elim
      | own ds =>
        obtain ⟨a, vs, h1, h2, h3, h4⟩ := s.own i ds e
        refine ⟨_, h1, .inl ⟨rfl, vs, .of h2⟩, tS.exW st gr w s p fun d t1 g1 H1 v st1 st01 gr1 w1 s1 r q => ?_⟩
        cases d with
        | lst es =>
          have q : Post C E g0 H0 (Rs X.K H0 gs De) ((if ds.length + es.length ≤ sizeLine then ret (Fl.nx (S.set i (.own (ds ++ es)))) else stuck) t1) := q
          split at q
          · rename_i hz
            obtain ⟨a', vs', k1, k2, k3, k4⟩ := s1.own i ds e
            rw [h1] at k1
            cases k1
            obtain ⟨b, us, rfl, m1, m2⟩ := r.lst w1
            refine ⟨a, b, vs', us, rfl, rfl, k2, m1, by rw [k3.length, m2.length]; exact hz, ?_⟩
            exact q g1 _ (st01.updO (o i _ a e rfl h1)) (w1.updL k2 k4) _ gr1 (s1.updO e h1 (k3.app m2)) (o.updO e)
          · exact q.elim
        | _ => exact q.elim
/-- x[k] = e of a list of one's own -/
theorem cs_put (i : Nat) {x : Str} {k e : Expr} {fk f : Ex} {p1 pos' pos : Pos} (he : CE X C E e f) (hk : CE X C E k fk) (hN : X.N[i]? = some x := by rfl) (hv : Vis X.env.scope x := by first | exact Or.inl rfl | exact Or.inr (Or.inl rfl) | exact Or.inr (Or.inr rfl)) (hd : (x == ("__debug__" : Str)) = false := by decide)
    (hcd : (x == ("__classdict__" : Str)) = false := by decide)
    (ha : ∀ v, assign (.Subscript (.Name x p1) k pos') X.env v = (do
      let ov ← holding [v] (eval (.Name x p1) X.env)
      let iv ← holding [v, ov] (eval k X.env)
      standAt pos'
      holding [v, ov, iv] (setItem ov iv v)
      release [v, ov, iv] []) := by intro _; rfl) (hs : swapsWithSole [.Subscript (.Name x p1) k pos'] e pos.line X.env = pure false := by rfl) (hw : swappedStores [.Subscript (.Name x p1) k pos'] e X.env = pure none := by rfl)
    (h1 : (assignEach [.Subscript (.Name x p1) k pos'] X.env).map (·.2) = [assign (.Subscript (.Name x p1) k pos') X.env] := by rfl) : CS X C E (.Assign [.Subscript (.Name x p1) k pos'] e pos) (sPut i fk f) :=
  PS.imp (ps_asg he (pg_sub (pe_var hN hv hd hcd) hk set_list ha) hs hw h1) fun De σ H ⟨g0, H0, gs, g, S, t, st, gr, w, s, o, p⟩ => by
    unfold sPut at p
    cases e : S[i]? with
    | none => rw [e] at p; exact p.elim
    | some sv =>
      rw [e] at p
      cases sv with
      | un => exact p.elim
      | val d => exact p.elim
      | dic d => exact p.elim
      | dcT d => exact p.elim
      | raw d => exact p.elim
      | exn d => exact p.elim
      | own ds =>
        refine tS.ex st gr w s p fun d t1 g1 H1 v st1 st01 gr1 w1 s1 r q => ?_
        obtain ⟨a, vs, h1, h2, h3, h4⟩ := s1.own i ds e
        refine ⟨_, h1, tS.ex st01 gr1 w1 s1 q fun n t2 g2 H2 v2 st2 st02 gr2 w2 s2 r2 q2 => ?_⟩
        cases n with
        | int n =>
          have q2 : Post C E g0 H0 (Rs X.K H0 gs De) ((match ixN ds.length n with | some j => ret (Fl.nx (S.set i (.own (ds.set j d)))) | none => stuck) t2) := q2
          cases z : ixN ds.length n with
          | none => rw [z] at q2; exact q2.elim
          | some j =>
            rw [z] at q2
            cases r2
            obtain ⟨a', vs', k1, k2, k3, k4⟩ := s2.own i ds e
            rw [h1] at k1
            cases k1
            refine ⟨a, vs', n, j, rfl, rfl, k2, by rw [k3.length]; exact z, ?_⟩
            exact q2 g2 _ (st02.updO (o i _ a e rfl h1)) (w2.updL k2 k4) _ gr2 (s2.updO e h1 (RpA.set (r.stp st2) j k3)) (o.updO e)
        | _ => exact q2.elim
theorem PS.nox {st : Stmt} {t : TS} (h : PS X.nox st t) : PS X st t := ⟨fun pins s σ H D I hw =>
  wpAny_mono (h.run pins s σ H D (I.wish _) hw) (fun _ _ q => q.unwish) fun _ _ z => False.elim z⟩
theorem cs_for {tg iter : Expr} {body : List Stmt} {fi : Sl → M (List D)} {is : List Nat} {ft : Tg} {fb : Stm} {pos : Pos} (hc : X.calm = true) (hi : CI X.nox C E0 tg iter fi) (hg : CG X.nox C is tg ft) (hb : CSs X.nox C E0 body fb)
    (hs : ∀ x, foldedSetIterable iter X.env x = pure x := by intro _; rfl) : CS X C E (.For tg iter body [] pos) (sFor fi ft fb) := by
  refine PS.imp (PS.nox (ps_for (X := X.nox) PassesOwn.never hc hi hg hb hs)) fun De σ H ⟨g0, H0, gs, g, S, t, st, gr, w, s, o, p⟩ => ?_
  refine ⟨g, S, t, w, s, (Post.calm p.bnd0 E0 |>.stp st).imp fun ds t1 g1 H1 st1 w1 q J wk => ?_⟩
  have gr1 := gr.trans st1.gw
  refine ⟨fun i m σk Hk => m = ds.length - i ∧ i ≤ ds.length ∧ ∃ gk Sk tk, Stp g0 H0 gk Hk ∧ Gw g1 gk ∧ Wf C gk Hk tk ∧ SL X.K gk Hk σk Sk ∧ OwnF H0 σk Sk ∧ Post C E g0 H0 (Rs X.K H0 gs De) (forL ft fb (ds.drop i) Sk tk),
    ⟨ds.length, by simp, Nat.zero_le _, g1, S, t1, st.trans st1, .refl _, w1, s.stp w st1, o, by rw [List.drop_zero]; exact q⟩, ?_⟩
  rintro i m σk Hk ⟨rfl, hi', gk, Sk, tk, stk, gwk, wk', sk, ok, pk⟩
  obtain ⟨wgo, wstop⟩ := wk i Hk (gwk.fz.trans wk'.fz)
  by_cases hlt : i < ds.length
  · have ed : ds[i]? = some ds[i] := List.getElem?_eq_getElem hlt
    obtain ⟨go, yl⟩ := wgo _ ed
    have edr : ds.drop i = ds[i] :: ds.drop (i + 1) := List.drop_eq_getElem_cons hlt
    rw [edr] at pk
    refine .inr ⟨go, fun σn Hn => ∃ gn Sn tn, Stp g0 H0 gn Hn ∧ Gw g1 gn ∧ Wf C gn Hn tn ∧ SL X.K gn Hn σn Sn ∧ OwnF H0 σn Sn ∧ Post C E g0 H0 (Rs X.K H0 gs De) (forL ft fb (ds.drop (i + 1)) Sn tn), fun σ' H' hn => ⟨_, Nat.sub_lt_sub_left hlt (Nat.lt_succ_self i), rfl, hlt, hn⟩, fun x H' hy => ?_⟩
    obtain ⟨g3, st3, w3, r3, kp3⟩ := (yl x H' hy).stp gwk.fz gwk.tw wk'
    have sl3 := sk.stp wk' st3
    have pk : Post C E g0 H0 (Rs X.K H0 gs De) ((match ft ds[i] Sk with
      | none => stuck
      | some S' => bnd (calm (fb S')) fun fl => match fl with
        | .nx S'' => forL ft fb (ds.drop (i + 1)) S''
        | .ret v => ret (.ret v)) tk) := pk
    cases eft : ft ds[i] Sk with
    | none => rw [eft] at pk; exact pk.elim
    | some S' =>
      rw [eft] at pk
      refine ⟨g3, Sk, tk, _, S', w3, sl3, r3, eft, fun σ2 sl2 _ _ k2 => ?_⟩
      have pb := Post.calm pk.bnd0 E0
      refine ⟨g0, H0, g1, g3, S', tk, stk.trans st3, gwk.trans st3.gw, w3, sl2, ok.keep k2, pb.imp fun fl t4 g4 H4 st4 w4 q4 => ?_⟩
      cases fl with
      | nx S'' => exact fun σ' gw' s' o' => ⟨g4, S'', t4, st4, gw', w4, s', o', q4⟩
      | ret d => exact fun v gw' r => q4 g4 H4 st4 w4 v (gr1.trans gw') r
  · have e : i = ds.length := by omega
    subst e
    rw [List.drop_length] at pk
    exact .inl ⟨wstop (Nat.le_refl _), pk gk Hk stk wk' σk (gr1.trans gwk) sk ok⟩
theorem cs_asgLc (i : Nat) {y : Str} {py : Pos} {elt tg iter : Expr} {ifs : List Expr} {scope : Scope} {own : List (Str × Nat)} {pos spos : Pos} {is : List Nat} {fi : Sl → M (List D)} {ft : Tg} {fc fe : Ex} (hc : X.calm = true) (hN : X.N.Nodup) (hyl : X.env.scope.names.lookup y = some .local)
    (hsw : swapsWith (.ListComp elt [⟨tg, iter, ifs, 0⟩] scope pos) (some (.Name y py)) spos.line X.env = pure true) (hi : CIW X C E tg iter fi) (ok : BlkOk X.N X.env.scope scope own) (hv : ∀ i ∈ is, i ∈ own.map (·.2))
    (hg : ∀ (s : Shared) (H : Hp) (Ca : Addr) (cl : List (Str × Addr)) (fp : List Addr), CG (X.blk s H scope (compEnvC scope cl Ca X.env) fp) C is tg ft) (ht : ∀ (s : Shared) (H : Hp) (Ca : Addr) (cl : List (Str × Addr)) (fp : List Addr), CTs (X.blk s H scope (compEnvC scope cl Ca X.env) fp) C E0 ifs fc)
    (he : ∀ (s : Shared) (H : Hp) (Ca : Addr) (cl : List (Str × Addr)) (fp : List Addr), CE (X.blk s H scope (compEnvC scope cl Ca X.env) fp) C E0 elt fe) (hy : X.N[i]? = some y := by rfl) (hs : ∀ x, foldedSetIterable iter X.env x = pure x := by intro _; rfl) :
    CS X C E (.Assign [.Name y py] (.ListComp elt [⟨tg, iter, ifs, 0⟩] scope pos) spos) (sAsg i (eComp (own.map (·.2)) fi ft fc fe)) :=
  PS.imp (ps_setLc (te := tE X.K C E0 fe) (g := tG X.K C is ft) (tt := tT X.K C E0 fc) hc hN hy hyl hsw hi ok hg ht he hs) fun De σ H ⟨g0, H0, gs, g, S, t, st, gr, w, s, o, p⟩ => tF.lc hv (tS.exF st gr w s p fun d t1 g1 H1 v st1 st01 gr1 w1 s1 r q => by
    obtain ⟨g2, st2, w2, r2⟩ := Rp.frz r st1 w1
    exact q g2 H1 (st.trans st2) w2 _ (gr.trans st2.gw) ((s.stp w st2).set r2) o.set)
end
def slots0 (n : Nat) (ds : List D) : Sl := ds.map SV.val ++ List.replicate (n - ds.length) .un
def fnOf (n : Nat) (body : Stm) : Fn := fun ds => bnd (body (slots0 n ds)) fun fl => match fl with
  | .nx _ => ret .non
  | .ret d => ret d
theorem SL.start {K : PySem.W.Frag} {g : G} {H : Hp} {N : List Str} {vs : List V} {ds : List D} (r : RpA K g vs ds) : SL K g H (L2.start N vs) (slots0 N.length ds) := by
  have hl := r.length
  have un : ∀ {i : Nat} {x : SV}, (slots0 N.length ds)[i]? = some x → x ≠ .un → i < ds.length ∧ ∃ d, ds[i]? = some d ∧ x = .val d := fun {i x} e hx => by
    unfold slots0 at e
    by_cases h : i < ds.length
    · rw [List.getElem?_append_left (by rw [List.length_map]; exact h), List.getElem?_map] at e
      cases z : ds[i]? with
      | none => rw [z] at e; cases e
      | some d =>
        rw [z] at e
        cases e
        exact ⟨h, d, rfl, rfl⟩
    · rw [List.getElem?_append_right (by rw [List.length_map]; omega), List.getElem?_replicate] at e
      split at e
      · cases e; exact absurd rfl hx
      · cases e
  refine ⟨by unfold L2.start slots0; rw [List.length_append, List.length_append, List.length_map, List.length_map, List.length_replicate, List.length_replicate, hl], fun i x e => ?_, fun i j p x y e1 _ ox => ?_⟩
  · by_cases hx : x = .un
    · subst hx; trivial
    · obtain ⟨h, d', e1, e2⟩ := un e hx
      subst e2
      obtain ⟨v, e3, r3⟩ := r.get e1
      refine ⟨v, ?_, r3⟩
      unfold L2.start
      rw [List.getElem?_append_left (by rw [List.length_map]; omega), List.getElem?_map, e3]; rfl
  · obtain ⟨h, d', _, e2⟩ := un e1 (fun z => by subst z; cases ox)
    subst e2
    cases ox
theorem OwnF.start {H0 : Hp} {σ : L2.St} {n : Nat} {ds : List D} : OwnF H0 σ (slots0 n ds) := fun j x p e ox _ => by
  unfold slots0 at e
  by_cases h : j < ds.length
  · rw [List.getElem?_append_left (by rw [List.length_map]; exact h), List.getElem?_map] at e
    cases z : ds[j]? with
    | none => rw [z] at e; cases e
    | some d => rw [z] at e; cases e; cases ox
  · rw [List.getElem?_append_right (by rw [List.length_map]; omega), List.getElem?_replicate] at e
    split at e
    · cases e; cases ox
    · cases e
/-- THE RULE: a def of the text, its body as read -/
theorem fn_ok {P : Program} {w : World} {K : PySem.W.Frag} {mg : Str → Option Value} {base : Heap} {C : Cn} {x qual : Str} {st : Stmt} {f : Addr} {fd : FuncData} {N ps : List Str} {k : Nat} {body : Stm} (F : Fun K x qual st f fd) (S : FnScope N ps (defScope st))
    (hb : ∀ (cdv : Value) (A : Around) (outer : List Env) (s : Shared) (H : Hp) (E : XK), Room k (A.deeper (envOfC qual (defScope st) s.heap.objs.size f cdv)) →
      CSs (cxOf (L2.CX P w) P w K mg base N qual (defScope st) f cdv A outer s H E) C E (defBody st) body) : FnOk P w K mg base (L2.CX P w) (k + 1) f fd ps (spF K C ps.length (fnOf N.length body)) := by
  refine F.okX S (fun vs H Q E ⟨g, ds, t, r, w, hl, p⟩ => hl) fun cdv A outer s H vs Q E hr ⟨g, ds, t, r, w, hl, p⟩ => ⟨_, hb cdv A outer s H E hr, ?_⟩
  refine ⟨g, H, g, g, _, t, .refl _ _, .refl _, w, SL.start r, OwnF.start, p.bnd0.imp fun fl t1 g1 H1 st1 w1 q => ?_⟩
  cases fl with
  | nx S' => exact fun _ _ _ _ => q g1 H1 st1 w1 _ .non
  | ret d => exact fun v _ r => q g1 H1 st1 w1 v r
end BG
set_option Elab.async false
set_option linter.all false
set_option maxRecDepth 100000
set_option maxHeartbeats 4000000
namespace BG
open PySem PySem.Spec PyProof.Rows L2
def pPow : D → D → M D
  | .int i, .int j => if 0 ≤ j ∧ j ≤ 1000000 ∧ i.natAbs < 2 ^ 64 then ret (.int (i ^ j.toNat)) else stuck
  | _, _ => stuck
section
variable {X : Cx} {C : Cn} {E : XK}
theorem bin_pow : BinOk X C E (binaryOp .Pow) pPow := OpR.imp op_pow fun x y H Q ⟨g, t, p, q, w, rx, ry, h⟩ => by
  cases p <;> cases q <;> first | exact h.elim | skip
  rename_i i j
  have h : PostQ X.K C E g H Q ((if 0 ≤ j ∧ j ≤ 1000000 ∧ i.natAbs < 2 ^ 64 then ret (.int (i ^ j.toNat)) else stuck) t) := h
  split at h
  · exact ⟨_, _, rx.int, ry.int, by assumption, pRetV h w (.int _)⟩
  · exact h.elim
def isTown (S : Sl) (i : Nat) : Bool := match S[i]? with
  | some (.val .town) => true
  | _ => false
theorem isTown_eq {S : Sl} {i : Nat} (h : isTown S i = true) : S[i]? = some (.val .town) := by
  unfold isTown at h
  cases e : S[i]? with
  | none => rw [e] at h; cases h
  | some sv =>
    rw [e] at h
    cases sv with
    | val d => cases d <;> first | rfl | cases h
    | un => cases h
    | dic ds => cases h
    | dcT ds => cases h
    | raw ds => cases h
    | exn ds => cases h
    | own ds => cases h
def scrAt (S : Sl) (i : Nat) : Option (List Int) := match S[i]? with
  | some (.val (.scr ns)) => some ns
  | _ => none
theorem scrAt_eq {S : Sl} {i : Nat} {ns : List Int} (h : scrAt S i = some ns) : S[i]? = some (.val (.scr ns)) := by
  unfold scrAt at h
  cases e : S[i]? with
  | none => rw [e] at h; cases h
  | some sv =>
    rw [e] at h
    cases sv with
    | val d => cases d <;> first | (cases h; rfl) | cases h
    | un => cases h
    | dic ds => cases h
    | dcT ds => cases h
    | raw ds => cases h
    | exn ds => cases h
    | own ds => cases h
def oTC : M D := fun t => match t with
  | (some (c, rs), st) => some (.ok (.int c) (some (c, rs), st))
  | (none, _) => none
def eTC (i : Nat) : Ex := fun S => if isTown S i = true then oTC else stuck
theorem val_count {a b : V} : valV [((.inr "count" : Key), a), (.inr "rests", b)] (.inr "count") = some a := valV_pos rfl
theorem val_rests {a b : V} : valV [((.inr "count" : Key), a), (.inr "rests", b)] (.inr "rests") = some b := by
  rw [valV_neg (show ¬ ((Sum.inr "count" : Key) = .inr "rests") by decide +kernel)]
  exact valV_pos rfl
theorem town_at {K : PySem.W.Frag} {g : G} {H : Hp} {σ : L2.St} {S : Sl} {i : Nat} {c : Int} {rs : List (Int × Int)} {ob : Sto} (w : Wf C g H (some (c, rs), ob)) (s : SL K g H σ S) (e : S[i]? = some (.val .town)) :
    ∃ a b, g.tw = some (a, b) ∧ a ≠ b ∧ σ[i]? = some (some (.ref a)) ∧ H a = some (.dK [(.inr "count", .int c), (.inr "rests", .ref b)]) ∧ H b = some (.dK (rs.map fun p => (Sum.inl p.1, V.int p.2))) := by
  obtain ⟨a, b, e1, e2, e3, e4⟩ := w.tw.1
  obtain ⟨v, h1, h2⟩ := s.val i _ e
  cases h2 with
  | town e5 =>
    rw [e1] at e5
    cases e5
    exact ⟨a, b, e1, e2, h1, e3, e4⟩
theorem ce_tc (i : Nat) {x : Str} {j : Nat} {p1 p2 pos : Pos} (hu : X.A.units + 1 < cLine) (hN : X.N[i]? = some x := by rfl) (hv : Vis X.env.scope x := by first | exact Or.inl rfl | exact Or.inr (Or.inl rfl) | exact Or.inr (Or.inr rfl)) (hd : (x == ("__debug__" : Str)) = false := by decide)
    (hcd : (x == ("__classdict__" : Str)) = false := by decide) (hs : NoSl (.Constant (.str "count") j p2) := by exact fun _ _ => rfl) : CE X C E (.Subscript (.Name x p1) (.Constant (.str "count") j p2) pos) (eTC i) :=
  PE.imp (pe_dget hu (pe_var hN hv hd hcd) pe_str hs) fun σ H Q ⟨g, S, t, w, s, p⟩ => by
    unfold eTC at p
    by_cases hT : isTown S i = true
    · rw [if_pos hT] at p
      have e := isTown_eq hT
      obtain ⟨t, ob⟩ := t
      cases t with
      | none => exact p.elim
      | some cr =>
        obtain ⟨c, rs⟩ := cr
        have p : PostQ X.K C E g H Q (some (.ok (.int c) (some (c, rs), ob))) := p
        obtain ⟨a, b, e1, e2, e3, e4, e5⟩ := town_at w s e
        refine ⟨_, e3, a, .int c, rfl, ?_, p g H (.refl _ _) w _ (.int c)⟩
        have := DGet.k (k := .inr "count") e4
        rw [val_count] at this
        exact this
    · rw [if_neg hT] at p; exact p.elim
/-- a step that changes a draws' dict -/
theorem Stp.tww {g0 g : G} {H0 H : Hp} {a : Addr} {o : HO} (st : Stp g0 H0 g H) (h : g.isTw a) (ho : ∀ ps, o ≠ .tbl ps := by intro _ z; cases z) : Stp g0 H0 g (upd H a o) := ⟨st.fz, st.tw, st.twn, fun b o' e1 e2 e3 => by
  have nb : b ≠ a := fun z => by
    subst z
    exact st.ntw e1 e2 e3 h
  rw [upd_ne nb]
  exact st.frm b o' e1 e2 e3, fun b e1 => by
  by_cases hb : b = a
  · exact ⟨o, by rw [hb]; exact upd_same, ho⟩
  · obtain ⟨o', e', n'⟩ := st.thr b e1
    exact ⟨o', by rw [upd_ne hb]; exact e', n'⟩, st.new⟩
theorem SL.tww {K : PySem.W.Frag} {g : G} {H : Hp} {t : Tn} {σ : L2.St} {S : Sl} {a : Addr} {o : HO} (s : SL K g H σ S) (w : Wf C g H t) (ht : g.isTw a) : SL K g (upd H a o) σ S := ⟨s.len, fun i x e => by
  have q := s.ok i x e
  cases x with
  | un => trivial
  | raw v => exact q
  | exn c =>
    obtain ⟨p, h1, h2⟩ := q
    exact ⟨p, h1, by rw [upd_ne (fun z => w.ntX h2 (by rw [z]; exact ht))]; exact h2⟩
  | val d => exact q
  | own ds =>
    obtain ⟨p, vs, h1, h2, h3, h4⟩ := q
    exact ⟨p, vs, h1, by rw [upd_ne (fun z => h4.2 (by rw [z]; exact ht))]; exact h2, h3, h4⟩
  | dcT ks =>
    obtain ⟨p, L, h1, h2, h3, h4⟩ := q
    exact ⟨p, L, h1, by rw [upd_ne (fun z => h4.2 (by rw [z]; exact ht))]; exact h2, h3, h4⟩
  | dic ks =>
    obtain ⟨p, vs, h1, h2, h3, h4, h5⟩ := q
    exact ⟨p, vs, h1, by rw [upd_ne (fun z => h5 (by rw [z]; exact ht))]; exact h2, h3, h4, h5⟩, s.dis⟩
/-- what is no object of the store -/
theorem StOk.ndK {g : G} {H : Hp} {st : Sto} (s : StOk C g H st) {a : Addr} {kvs : List (Key × V)} (h : H a = some (.dK kvs)) : a ∉ g.ad := fun z => by
  obtain ⟨n, o, _, _, ok⟩ := s.get z
  obtain ⟨ho, h1, _, h2, _⟩ := ok.at
  rw [h] at h1
  exact h2 kvs (Option.some.inj h1).symm
theorem Wf.tww {g : G} {H : Hp} {t t' : Tn} {a : Addr} {kvs kvs' : List (Key × V)} (w : Wf C g H t) (h : H a = some (.dK kvs)) (ht : g.isTw a) (n : TownOk g (upd H a (.dK kvs')) t'.1) (es : t'.2 = t.2) : Wf C g (upd H a (.dK kvs')) t' := ⟨fun b o e => by
  have nb : b ≠ a := fun z => by rw [z, w.ntw a ht] at e; cases e
  rw [upd_ne nb]; exact w.fz b o e, ⟨n, by rw [es]; exact w.tw.2.keep (fun _ _ h => h) (.refl g) ⟨rfl, rfl⟩ fun b hb ho e => by rw [upd_ne fun z => w.tw.2.ndK h (by rw [← z]; exact hb)]; exact e⟩, w.ntw, fun q hq => by
  obtain ⟨ps, h1, h2, h3⟩ := w.tab q hq
  refine ⟨ps, by rw [upd_ne (ne_of h1 h (fun z => nomatch z))]; exact h1, h2, fun pos cv e => ?_⟩
  obtain ⟨c, e1, e2⟩ := h3 pos cv e
  exact ⟨c, e1, by rw [upd_ne (ne_of e2 h (fun z => by unfold LamX.CodeO at z; cases z))]; exact e2⟩, w.nft⟩
def sTC (i : Nat) (e : Ex) : Stm := fun S => if isTown S i = true then bnd (e S) fun d t => match d, t with
    | .int n, (some (_, rs), st) => some (.ok (.nx S) (some (n, rs), st))
    | _, _ => none
  else stuck
theorem put_count {a b v : V} : putK [((.inr "count" : Key), a), (.inr "rests", b)] (.inr "count") v = [(.inr "count", v), (.inr "rests", b)] := by
  have h : ([((.inr "count" : Key), a), (.inr "rests", b)].any fun kv => decide (kv.1 = .inr "count")) = true := by
    show (decide ((Sum.inr "count" : Key) = .inr "count") || (decide ((Sum.inr "rests" : Key) = .inr "count") || false)) = true
    decide +kernel
  unfold putK
  rw [if_pos h]
  show [if (Sum.inr "count" : Key) = .inr "count" then ((.inr "count" : Key), v) else (.inr "count", a), if (Sum.inr "rests" : Key) = .inr "count" then (.inr "rests", v) else (.inr "rests", b)] = _
  rw [if_pos rfl, if_neg (by decide +kernel)]
theorem cs_tc (i : Nat) {x : Str} {j : Nat} {e : Expr} {f : Ex} {p1 p2 pos' pos : Pos} (hu : X.A.units + 1 < cLine) (he : CE X C E e f) (hN : X.N[i]? = some x := by rfl) (hv : Vis X.env.scope x := by first | exact Or.inl rfl | exact Or.inr (Or.inl rfl) | exact Or.inr (Or.inr rfl)) (hd : (x == ("__debug__" : Str)) = false := by decide)
    (hcd : (x == ("__classdict__" : Str)) = false := by decide) (hs : swapsWith e (some (.Subscript (.Name x p1) (.Constant (.str "count") j p2) pos')) pos.line X.env = pure false := by rfl) : CS X C E (.Assign [.Subscript (.Name x p1) (.Constant (.str "count") j p2) pos'] e pos) (sTC i f) :=
  PS.imp (ps_dput hu (pe_var hN hv hd hcd) pe_str he hs) fun De σ H ⟨g0, H0, gs, g, S, t, st, gr, w, s, o, p⟩ => by
    unfold sTC at p
    by_cases hT : isTown S i = true
    case neg => rw [if_neg hT] at p; exact p.elim
    · rw [if_pos hT] at p
      have e := isTown_eq hT
      refine tS.ex st gr w s p fun d t1 g1 H1 v st1 st01 gr1 w1 s1 r q => ?_
      cases d with
      | int n =>
        obtain ⟨t1, ob⟩ := t1
        cases t1 with
        | none => exact q.elim
        | some cr =>
          obtain ⟨c, rs⟩ := cr
          cases r
          obtain ⟨a, b, e1, e2, e3, e4, e5⟩ := town_at w1 s1 e
          have q : Post C E g0 H0 (Rs X.K H0 gs De) (some (.ok (.nx S) (some (n, rs), ob))) := q
          have ht : g1.isTw a := .inl ⟨_, e1, .inl rfl⟩
          refine ⟨_, e3, a, _, rfl, DPut.k (k := .inr "count") e4 (show 2 < sizeLine by decide), ?_⟩
          rw [put_count]
          exact q g1 _ (st01.tww ht) (w1.tww e4 ht ⟨a, b, e1, e2, upd_same, by rw [upd_ne (Ne.symm e2)]; exact e5⟩ rfl) _ gr1 (s1.tww w1 ht) o
      | _ => exact q.elim
def rLook (rs : List (Int × Int)) (k : Int) : Option Int := (rs.find? fun p => decide (p.1 = k)).map (·.2)
def rPut (rs : List (Int × Int)) (k v : Int) : List (Int × Int) := if (rs.any fun p => decide (p.1 = k)) = true then rs.map fun p => if p.1 = k then (p.1, v) else p else rs ++ [(k, v)]
theorem rLook_val (k : Int) : ∀ rs : List (Int × Int), valV (rs.map fun p => ((Sum.inl p.1 : Key), V.int p.2)) (.inl k) = (rLook rs k).map V.int
  | [] => rfl
  | (a, b) :: r => by
    have ih := rLook_val k r
    by_cases h : a = k
    · subst h
      show valV (((Sum.inl a : Key), V.int b) :: _) (.inl a) = _
      rw [valV_pos rfl]
      unfold rLook
      rw [List.find?_cons]
      simp
    · show valV (((Sum.inl a : Key), V.int b) :: _) (.inl k) = _
      rw [valV_neg (fun z => h (Sum.inl.inj z)), ih]
      unfold rLook
      rw [List.find?_cons]
      simp [h]
theorem rPut_put (rs : List (Int × Int)) (k v : Int) : putK (rs.map fun p => ((Sum.inl p.1 : Key), V.int p.2)) (.inl k) (.int v) = (rPut rs k v).map fun p => ((Sum.inl p.1 : Key), V.int p.2) := by
  unfold putK rPut
  have e : ((rs.map fun p => ((Sum.inl p.1 : Key), V.int p.2)).any fun kv => decide (kv.1 = .inl k)) = rs.any fun p => decide (p.1 = k) := by
    rw [List.any_map]
    congr 1
    funext p
    show decide ((Sum.inl p.1 : Key) = .inl k) = decide (p.1 = k)
    exact decide_eq_decide.mpr ⟨fun z => Sum.inl.inj z, fun z => by rw [z]⟩
  rw [e]
  split
  · rw [List.map_map, List.map_map]
    congr 1
    funext p
    show (if (Sum.inl p.1 : Key) = .inl k then _ else _) = _
    by_cases h : p.1 = k
    · rw [if_pos (by rw [h]), Function.comp, if_pos h]
    · rw [if_neg (fun z => h (Sum.inl.inj z)), Function.comp, if_neg h]
  · rw [List.map_append]; rfl
/-- town['rests'].get(k, d) -/
def eTR (i : Nat) (k d : Ex) : Ex := fun S => if isTown S i = true then bnd (k S) fun a => bnd (d S) fun b t => match a, t with
    | .int n, (some (c, rs), st) => some (.ok (match rLook rs n with | some v => .int v | none => b) (some (c, rs), st))
    | _, _ => none
  else stuck
theorem ce_tr (i : Nat) {x : Str} {j : Nat} {k d : Expr} {fk fd : Ex} {p1 p2 p3 apos cpos : Pos} (hu : X.A.units + 1 < cLine) (hk : CE X C E k fk) (hdf : CE X C E d fd) (hN : X.N[i]? = some x := by rfl) (hv : Vis X.env.scope x := by first | exact Or.inl rfl | exact Or.inr (Or.inl rfl) | exact Or.inr (Or.inr rfl)) (hd : (x == ("__debug__" : Str)) = false := by decide)
    (hcd : (x == ("__classdict__" : Str)) = false := by decide) (hs : NoSl (.Constant (.str "rests") j p2) := by exact fun _ _ => rfl) (m : M2 X (.Subscript (.Name x p1) (.Constant (.str "rests") j p2) p3) "get" apos k d cpos := by exact ⟨rfl, rfl, rfl, rfl⟩) :
    CE X C E (.Call (.Attribute (.Subscript (.Name x p1) (.Constant (.str "rests") j p2) p3) "get" apos) [k, d] [] cpos) (eTR i fk fd) :=
  PE.imp (pe_dget2 hu (pe_dget hu (pe_var hN hv hd hcd) pe_str hs) hk hdf m) fun σ H Q ⟨g, S, t, w, s, p⟩ => by
    unfold eTR at p
    by_cases hT : isTown S i = true
    case neg => rw [if_neg hT] at p; exact p.elim
    · rw [if_pos hT] at p
      have e := isTown_eq hT
      obtain ⟨t, ob0⟩ := t
      cases t with
      | none =>
        obtain ⟨v, h1, h2⟩ := s.val i _ e
        cases h2 with
        | town e5 => rw [show g.tw = none from w.tw.1] at e5; cases e5
      | some cr =>
        obtain ⟨c, rs⟩ := cr
        obtain ⟨a, b, e1, e2, e3, e4, e5⟩ := town_at w s e
        refine ⟨_, e3, a, .ref b, rfl, ?_, b, rfl, .inl ⟨_, .inl e5⟩, ?_⟩
        · have := DGet.k (k := .inr "rests") e4
          rw [val_rests] at this
          exact this
        · refine ⟨g, S, _, w, s, p.bnd.imp fun n t1 g1 H1 st1 w1 q v r => ?_⟩
          refine ⟨g1, S, t1, w1, s.stp w st1, q.bnd.imp fun d2 t2 g2 H2 st2 w2 q2 v2 r2 => ?_⟩
          cases n with
          | int n =>
            cases r
            obtain ⟨t2, ob⟩ := t2
            cases t2 with
            | none => exact q2.elim
            | some cr2 =>
              obtain ⟨c2, rs2⟩ := cr2
              obtain ⟨a', b', f1, f2, f3, f4, f5⟩ := town_at w2 ((s.stp w st1).stp w1 st2) e
              have ea := st2.tw.t _ (st1.tw.t _ e1)
              rw [f1] at ea
              cases ea
              have q2 : PostQ X.K C E g2 H2 Q (some (.ok (match rLook rs2 n with | some v => .int v | none => d2) (some (c2, rs2), ob))) := q2
              refine ⟨_, DGet.k (k := .inl n) f5, ?_⟩
              rw [rLook_val]
              cases z : rLook rs2 n with
              | none => rw [z] at q2; exact q2 g2 H2 (.refl _ _) w2 _ r2
              | some m => rw [z] at q2; exact q2 g2 H2 (.refl _ _) w2 _ (Rp.int m)
          | _ => exact q2.elim
/-- town['rests'][k] = e -/
def sTR (i : Nat) (k e : Ex) : Stm := fun S => if isTown S i = true then bnd (e S) fun d => bnd (k S) fun a t => match d, a, t with
    | .int v, .int n, (some (c, rs), st) => if rs.length < 1000000 then some (.ok (.nx S) (some (c, rPut rs n v), st)) else none
    | _, _, _ => none
  else stuck
theorem cs_tr (i : Nat) {x : Str} {j : Nat} {k e : Expr} {fk f : Ex} {p1 p2 p3 pos' pos : Pos} (hu : X.A.units + 1 < cLine) (he : CE X C E e f) (hk : CE X C E k fk) (hN : X.N[i]? = some x := by rfl) (hv : Vis X.env.scope x := by first | exact Or.inl rfl | exact Or.inr (Or.inl rfl) | exact Or.inr (Or.inr rfl)) (hd : (x == ("__debug__" : Str)) = false := by decide)
    (hcd : (x == ("__classdict__" : Str)) = false := by decide) (hns : NoSl (.Constant (.str "rests") j p2) := by exact fun _ _ => rfl) (hs : swapsWith e (some (.Subscript (.Subscript (.Name x p1) (.Constant (.str "rests") j p2) p3) k pos')) pos.line X.env = pure false := by rfl) :
    CS X C E (.Assign [.Subscript (.Subscript (.Name x p1) (.Constant (.str "rests") j p2) p3) k pos'] e pos) (sTR i fk f) :=
  PS.imp (ps_dput hu (pe_dget hu (pe_var hN hv hd hcd) pe_str hns) hk he hs) fun De σ H ⟨g0, H0, gs, g, S, t, st, gr, w, s, o, p⟩ => by
    unfold sTR at p
    by_cases hT : isTown S i = true
    case neg => rw [if_neg hT] at p; exact p.elim
    · rw [if_pos hT] at p
      have e := isTown_eq hT
      refine tS.ex st gr w s p fun d t1 g1 H1 v st1 st01 gr1 w1 s1 r q => ?_
      obtain ⟨t1, ob1⟩ := t1
      cases t1 with
      | none =>
        obtain ⟨v, h1, h2⟩ := s1.val i _ e
        cases h2 with
        | town e5 => rw [show g1.tw = none from w1.tw.1] at e5; cases e5
      | some cr =>
        obtain ⟨c, rs⟩ := cr
        obtain ⟨a, b, e1, e2, e3, e4, e5⟩ := town_at w1 s1 e
        refine ⟨_, e3, a, .ref b, rfl, ?_, tS.ex st01 gr1 w1 s1 q fun n t2 g2 H2 v2 st2 st02 gr2 w2 s2 r2 q2 => ?_⟩
        · have := DGet.k (k := .inr "rests") e4
          rw [val_rests] at this
          exact this
        · cases d with
          | int vv =>
            cases n with
            | int n =>
              obtain ⟨t2, ob⟩ := t2
              cases t2 with
              | none => exact q2.elim
              | some cr2 =>
                obtain ⟨c2, rs2⟩ := cr2
                have q2 : Post C E g0 H0 (Rs X.K H0 gs De) (if rs2.length < 1000000 then some (.ok (.nx S) (some (c2, rPut rs2 n vv), ob)) else none) := q2
                split at q2
                · rename_i hz
                  cases r
                  cases r2
                  obtain ⟨a', b', f1, f2, f3, f4, f5⟩ := town_at w2 s2 e
                  have ea := st2.tw.t _ e1
                  rw [f1] at ea
                  cases ea
                  have ht : g2.isTw b := .inl ⟨_, f1, .inr rfl⟩
                  refine ⟨b, _, rfl, DPut.k (k := .inl n) f5 (by rw [List.length_map, sizeLine_eq]; omega), ?_⟩
                  rw [rPut_put]
                  exact q2 g2 _ (st02.tww ht) (w2.tww f5 ht ⟨a, b, f1, e2, by rw [upd_ne e2]; exact f4, upd_same⟩ rfl) _ gr2 (s2.tww w2 ht) o
                · exact q2.elim
            | _ => exact q2.elim
          | _ => cases n <;> exact q2.elim
/-- the script's truth -/
def eScr (i : Nat) : Ex := fun S => match scrAt S i with
  | some ns => ret (.bl (!ns.isEmpty))
  | none => stuck
theorem ct_scr (i : Nat) {x : Str} {pos : Pos} (hN : X.N[i]? = some x := by rfl) (hv : Vis X.env.scope x := by first | exact Or.inl rfl | exact Or.inr (Or.inl rfl) | exact Or.inr (Or.inr rfl)) (hd : (x == ("__debug__" : Str)) = false := by decide)
    (hcd : (x == ("__classdict__" : Str)) = false := by decide) : CT X C E (.Name x pos) (eScr i) := PT.imp (pt_truth (pe_var hN hv hd hcd) (by intro _; rfl)) fun σ H Q ⟨g, S, t, w, s, p⟩ => by
  unfold eScr at p
  cases e : scrAt S i with
  | none => rw [e] at p; exact p.elim
  | some ns =>
    rw [e] at p
    obtain ⟨v, h1, h2⟩ := s.val i _ (scrAt_eq e)
    cases h2 with
    | scr sq =>
      obtain ⟨b, eb, q⟩ := postRet p w
      cases eb
      exact ⟨_, h1, _, .inl ⟨_, Same.seq w.fz sq, by cases ns <;> rfl⟩, q⟩
/-- {'count': 0, 'rests': {}} -/
def eBegun : Ex := fun _ t => match t with
  | (none, st) => some (.ok .town (some (0, []), st))
  | (some _, _) => none
theorem ce_begun {j1 j2 j3 : Nat} {p1 p2 p3 p4 pos : Pos} : CE X C E (.Dict [some (.Constant (.str "count") j1 p1), some (.Constant (.str "rests") j2 p2)] [.Constant (.int 0) j3 p3, .Dict [] [] p4] pos) eBegun :=
  PE.imp (pe_disp (pps_cons pe_str pe_int (pps_cons pe_str pe_dnewK pps_nil)) rfl rfl (fun z => by cases z) (show 2 ≤ 15 by decide)) fun σ H Q ⟨g, S, t, w, s, p⟩ => by
    obtain ⟨t, ob⟩ := t
    cases t with
    | some cr => exact p.elim
    | none =>
      have p : PostQ X.K C E g H Q (some (.ok .town (some (0, []), ob))) := p
      intro a ha b hb
      have nba : b ≠ a := fun z => by rw [z, upd_same] at hb; cases hb
      have hb0 : H b = none := by rw [upd_ne nba] at hb; exact hb
      have g0 : g.tw = none := w.tw.1
      refine ⟨by rw [upd_ne (Ne.symm nba), upd_same], [(.inr "count", .int 0), (.inr "rests", .ref b)], rfl, (show 2 ≤ 15 by decide), ?_⟩
      have em : mergeK [] [((.inr "count" : Key), V.int 0), (.inr "rests", .ref b)] = [((.inr "count" : Key), V.int 0), (.inr "rests", .ref b)] := by
        show putK (putK [] (Sum.inr "count" : Key) (V.int 0)) (Sum.inr "rests") (V.ref b) = _
        have e1 : putK ([] : List (Key × V)) (.inr "count") (.int 0) = [((.inr "count" : Key), V.int 0)] := rfl
        rw [e1]
        have h : ¬ ([((.inr "count" : Key), V.int 0)].any fun kv => decide (kv.1 = .inr "rests")) = true := by
          show ¬ (decide ((Sum.inr "count" : Key) = .inr "rests") || false) = true
          decide +kernel
        unfold putK
        rw [if_neg h]; rfl
      rw [em]
      have at_ : ∀ c, c ≠ a → c ≠ b → upd (upd (upd H a (.dK [])) b (.dK [])) a (.dK [(.inr "count", .int 0), (.inr "rests", .ref b)]) c = H c := fun c h1 h2 => by rw [upd_ne h1, upd_ne h2, upd_ne h1]
      have sm : ∀ c o, H c = some o → upd (upd (upd H a (.dK [])) b (.dK [])) a (.dK [(.inr "count", .int 0), (.inr "rests", .ref b)]) c = some o := fun c o e => by
        rw [at_ c (ne_of_none e ha) (ne_of_none e hb0)]; exact e
      refine p ⟨g.Fz, some (a, b), g.ad, g.lg⟩ _ ⟨fun _ _ h => h, ⟨fun p e => (by rw [g0] at e; cases e), fun _ _ h => h, fun _ _ _ h => h⟩, ⟨fun _ x y e => (by cases e; exact ⟨Nt.no ha, Nt.no hb0⟩), fun _ h => .inl h⟩, fun c o e _ _ => sm c o e, fun c e => ?_, fun _ _ => rfl⟩ ⟨fun c o e => sm c o (w.fz c o e), ⟨⟨a, b, rfl, Ne.symm nba, upd_same, by rw [upd_ne nba, upd_same]; rfl⟩, w.tw.2.keep (fun _ _ h => h) ⟨fun p e => (by rw [g0] at e; cases e), fun _ _ h => h, fun _ _ _ h => h⟩ ⟨rfl, rfl⟩ fun c _ o e => sm c o e⟩, fun c z => ?_, w.tab.ext sm, w.nft⟩ _ (.town rfl)
      · obtain ⟨o', e', n'⟩ := e
        exact ⟨o', sm c o' e', n'⟩
      · rcases z with ⟨p, hp, q⟩ | z
        · cases hp
          rcases q with q | q
          · rw [q]; exact w.fzN ha
          · rw [q]; exact w.fzN hb0
        · exact w.ntw c (.inr z)
structure FdK (P : Program) (w : World) (K : PySem.W.Frag) (mg : Str → Option Value) (base : Heap) (C : Cn) (k : Nat) (x : Str) (n : Nat) (ks : List Str) (F : Fn) : Prop where
  ex : ∃ f fd ps, FnOk P w K mg base (L2.CX P w) k f fd ps (spF K C (n + ks.length) F) ∧ mg x = some (.ref f) ∧ PySem.W.keepIn K (.ref f) = true ∧
    ∀ (s : Shared) (us ws : List Value), K.In s.heap → us.length = n → ws.length = ks.length → BindsTo s fd ⟨us, ks.zip ws⟩ (ps.zip (us ++ ws))
abbrev CK (X : Cx) (C : Cn) (E : XK) (kws : List Keyword) (f : Sl → M (List D)) : Prop := PK X kws (tAs X.K C E f)
theorem PK.imp {e : List Keyword} {t t' : TA} (h : PK X e t) (f : ∀ σ H Q, t' σ H Q → t σ H Q) : PK X e t' := ⟨fun pos pins s σ H Q I q => h.run pos pins s σ H Q I (f σ H Q q)⟩
theorem ck_nil : CK X C E [] (evs []) := PK.imp pk_nil fun σ H Q ⟨g, S, t, w, s, p⟩ => postRet p w _ .nil
theorem ck_cons {e : Expr} {nm : Option Str} {kpos : Pos} {kws : List Keyword} {f : Ex} {fs : List Ex} (ha : CE X C E e f) (hr : CK X C E kws (evs fs)) : CK X C E (⟨nm, e, kpos⟩ :: kws) (evs (f :: fs)) :=
  PK.imp (pk_cons ha hr) fun σ H Q ⟨g, S, t, w, s, p⟩ => ⟨g, S, t, w, s, p.bnd.imp fun d t1 g1 H1 st1 w1 q v r => ⟨g1, S, t1, w1, s.stp w st1, q.bnd.imp fun ds t2 g2 H2 st2 w2 q2 vs rs => postRet q2 w2 _ (.cons (r.stp st2) rs)⟩⟩
/-- raise x('..') of the class number c -/
theorem cs_raise (c : Nat) {x m : Str} {j : Nat} {p p2 pos pos' : Pos} {B newId initId bmB} {W : WX} (F : ExcBaseFacts B newId initId bmB) (q : PySem.W.excIn X.K (C.ex c) bmB newId = true) (gC : X.mg x = some (.ref (C.ex c))) (kC : PySem.W.keepIn X.K (.ref (C.ex c)) = true) (r : Raises X (.ref (C.ex c)))
    (tk : Takes X (fun cls d _ H => E cls d H)) (hc : X.calm = true := by rfl) (hg : Gl X x := by rfl) (hdb : (x == ("__debug__" : Str)) = false := by decide) : CS X C E (.Raise (some (.Call (.Name x p) [.Constant (.str m) j p2] [] pos)) none pos') (sRaise c) :=
  PS.imp (ps_raise hc tk (pmk_own F q gC kC r hg hdb)) fun De σ H ⟨g0, H0, gs, g, S, t, st, gr, w, s, o, p⟩ => p g H st w
def pRng : D → M D
  | .int j => if 0 ≤ j ∧ j ≤ 1000000 then ret (.lst ((List.range j.toNat).map fun (i : Nat) => .int (i : Int))) else stuck
  | _ => stuck
theorem rg_RpA {K : PySem.W.Frag} {g : G} (n : Nat) : RpA K g (rgV 0 (n : Int)) ((List.range n).map fun (i : Nat) => D.int (i : Int)) := by
  unfold rgV
  rw [show ((n : Int) - 0).toNat = n by omega]
  have : ∀ l : List Nat, RpA K g (l.map fun (i : Nat) => V.int (0 + (i : Int))) (l.map fun (i : Nat) => D.int (i : Int)) := fun l => by
    induction l with
    | nil => exact .nil
    | cons a r ih =>
      refine .cons ?_ ih
      show Rp K g (V.int (0 + (a : Int))) (D.int (a : Int))
      rw [Int.zero_add]
      exact .int _
  exact this _
theorem ce_listRg {a : Expr} {f : Ex} {p1 p2 pos pos2 : Pos} (hc : X.calm = true) (hm : X.mg "list" = none) (hm2 : X.mg "range" = none) (ha : CE X C E a f) (hg : Gl X "list" := by rfl) (hg2 : Gl X "range" := by rfl) (na : starEach [a] X.env = (false, eval a X.env) :: starEach [] X.env := by rfl)
    (nb : starEach [.Call (.Name "range" p2) [a] [] pos2] X.env = (false, eval (.Call (.Name "range" p2) [a] [] pos2) X.env) :: starEach [] X.env := by rfl) : CE X C E (.Call (.Name "list" p1) [.Call (.Name "range" p2) [a] [] pos2] [] pos) (eUn pRng f) :=
  PE.imp (pe_listRg hc hg hm (prg_1 hg2 hm2 ha na) nb) fun σ H Q h => by
    refine tE.seq h fun g S t x d H1 w s rx p1 => ?_
    cases d with
    | int j =>
      cases rx
      have p1 : PostQ X.K C E g H1 Q ((if 0 ≤ j ∧ j ≤ 1000000 then ret (.lst ((List.range j.toNat).map fun (i : Nat) => D.int (i : Int))) else stuck) t) := p1
      split at p1
      · rename_i hc
        refine ⟨j, rfl, .of_le (by omega) (by omega) (by omega) hc.1, fun q hq => ?_⟩
        obtain ⟨n, rfl⟩ : ∃ n : Nat, j = (n : Int) := ⟨j.toNat, by omega⟩
        exact pRetL p1 w (by rw [Int.toNat_natCast]; exact rg_RpA n) q hq
      · exact p1.elim
    | _ => exact p1.elim
end
end BG
set_option Elab.async false
set_option linter.all false
set_option maxRecDepth 100000
set_option maxHeartbeats 4000000
namespace BG
open PySem PySem.Spec PyProof.Rows L2
def leD (a b : D) : Bool := PySem.W.dataLe false D.py a b
section
variable {α : Type} (le : α → α → Bool)
def insr (x : α) : List α → List α
  | [] => [x]
  | y :: r => if le x y = true then x :: y :: r else y :: insr x r
def isrt : List α → List α
  | [] => []
  | x :: r => insr le x (isrt r)
theorem insr_mem {x z : α} : ∀ {l : List α}, z ∈ insr le x l ↔ z = x ∨ z ∈ l
  | [] => by simp [insr]
  | y :: r => by
    unfold insr
    split
    · simp
    · rw [List.mem_cons, insr_mem, List.mem_cons]
      constructor
      · rintro (h | h | h)
        · exact .inr (.inl h)
        · exact .inl h
        · exact .inr (.inr h)
      · rintro (h | h | h)
        · exact .inr (.inl h)
        · exact .inl h
        · exact .inr (.inr h)
theorem insr_pair (h : PySem.W.TotalLe le) {x : α} : ∀ {l : List α}, l.Pairwise (fun a b => le a b = true) → (insr le x l).Pairwise (fun a b => le a b = true)
  | [], _ => by simp [insr]
  | y :: r, hp => by
    obtain ⟨h1, h2⟩ := List.pairwise_cons.mp hp
    unfold insr
    split
    · rename_i hxy
      refine List.pairwise_cons.mpr ⟨fun z hz => ?_, hp⟩
      rcases List.mem_cons.mp hz with rfl | hz
      · exact hxy
      · exact h.trans _ _ _ hxy (h1 z hz)
    · rename_i hxy
      refine List.pairwise_cons.mpr ⟨fun z hz => ?_, insr_pair h h2⟩
      rcases (insr_mem le).mp hz with rfl | hz
      · exact (h.total z y).resolve_left hxy
      · exact h1 z hz
theorem insr_filter (h : PySem.W.TotalLe le) {x c : α} : ∀ {l : List α}, l.Pairwise (fun a b => le a b = true) → (insr le x l).filter (PySem.W.sameRank le c) = (x :: l).filter (PySem.W.sameRank le c)
  | [], _ => rfl
  | y :: r, hp => by
    obtain ⟨h1, h2⟩ := List.pairwise_cons.mp hp
    unfold insr
    split
    · rfl
    · rename_i hxy
      have ih := insr_filter h (x := x) (c := c) h2
      rw [List.filter_cons, ih, List.filter_cons, List.filter_cons, List.filter_cons]
      by_cases a : PySem.W.sameRank le c x = true
      · by_cases b : PySem.W.sameRank le c y = true
        · exfalso
          unfold PySem.W.sameRank at a b
          rw [Bool.and_eq_true] at a b
          exact hxy (h.trans _ _ _ a.2 b.1)
        · rw [if_neg b, if_pos a, if_pos a, if_neg b]
      · rw [if_neg a, if_neg a]
theorem isrt_pair (h : PySem.W.TotalLe le) : ∀ l : List α, (isrt le l).Pairwise (fun a b => le a b = true)
  | [] => List.Pairwise.nil
  | x :: r => insr_pair le h (isrt_pair h r)
theorem isrt_filter (h : PySem.W.TotalLe le) (c : α) : ∀ l : List α, (isrt le l).filter (PySem.W.sameRank le c) = l.filter (PySem.W.sameRank le c)
  | [] => rfl
  | x :: r => by
    show (insr le x (isrt le r)).filter _ = _
    rw [insr_filter le h (isrt_pair le h r), List.filter_cons, List.filter_cons, isrt_filter h c r]
theorem isrt_merge (h : PySem.W.TotalLe le) (l : List α) : isrt le l = l.mergeSort le := PySem.W.sort_unique h (isrt_pair le h l) fun c => isrt_filter le h c l
theorem isrt_length : ∀ l : List α, (isrt le l).length = l.length
  | [] => rfl
  | x :: r => by
    have hi : ∀ m : List α, (insr le x m).length = m.length + 1 := fun m => by
      induction m with
      | nil => rfl
      | cons y m ih =>
        unfold insr
        split
        · rfl
        · rw [List.length_cons, ih, List.length_cons]
    show (insr le x (isrt le r)).length = _
    rw [hi, isrt_length r]; rfl
end
/-- may be sorted: data of one make -/
def isTupC : D → Bool
  | .tup (_ :: _) => true
  | _ => false
def isFlatC : D → Bool
  | .tup _ => false
  | .non => false
  | .town => false
  | .scr _ => false
  | .dct _ _ => false
  | .dTT _ _ => false
  | .hnd _ => false
  | _ => true
def srtOk (ds : List D) : Bool := okA ds 60 && (ds.all fun a => ds.all fun b => PySem.W.alike a.py b.py) && (ds.all isTupC || ds.all isFlatC)
theorem leD_total : PySem.W.TotalLe leD := PySem.W.sortLe_total (listOrd itemOrd) false fun b => PySem.W.keyToks (D.py b)
theorem eachIs_of {K : PySem.W.Frag} {g : G} : ∀ {ds : List D} {vs : List V} {us : List Value}, RpA K g vs ds → Vals vs us → PySem.W.EachIs (fun u d => ∃ v, RelV v u ∧ Rp K g v d) us ds
  | [], _, _, h, r => by cases h; cases r; exact .nil
  | d :: ds, _, _, h, r => by
    cases h with
    | cons a b =>
      cases r with
      | cons r1 r2 => exact .cons ⟨_, r1, a⟩ (eachIs_of b r2)
theorem of_eachIs {K : PySem.W.Frag} {g : G} : ∀ {ds : List D} {us : List Value}, PySem.W.EachIs (fun u d => ∃ v, RelV v u ∧ Rp K g v d) us ds → ∃ vs, RpA K g vs ds ∧ Vals vs us
  | [], _, h => by cases h; exact ⟨[], .nil, .nil⟩
  | d :: ds, _, h => by
    cases h with
    | cons a b =>
      obtain ⟨v, r1, r2⟩ := a
      obtain ⟨vs, q1, q2⟩ := of_eachIs b
      exact ⟨v :: vs, .cons r2 q1, .cons r1 q2⟩
section
variable {X : Cx} {C : Cn} {E : XK}
/-- sorted(xs), xs a list of data -/
def rSrt (K : PySem.W.Frag) (C : Cn) : List V → Hp → VK → Prop := fun xs H Q => ∃ p g t vs ds, xs = [.ref p] ∧ Wf C g H t ∧ H p = some (.lst vs) ∧ RpA K g vs ds ∧ srtOk ds = true ∧ ds.length ≤ 1000000 ∧ ∀ ws, RpA K g ws (isrt leD ds) → ∀ l, H l = none → Q (.ref l) (upd H l (.lst ws))
theorem cr_sorted0 (hu : X.A.units + 64 < cLine) : CallR X (.builtin "sorted") (rSrt X.K C) := by
  intro pins s σ H xs us Q I r h
  obtain ⟨p, g, t, vs, ds, rfl, w, hp, ra, ok, hz, q⟩ := h
  obtain ⟨u, rfl, ru⟩ := vals1 r
  cases ru
  obtain ⟨its, rv, pl, hzz⟩ := I.list (.of hp)
  unfold srtOk at ok
  rw [Bool.and_eq_true, Bool.and_eq_true] at ok
  obtain ⟨⟨ok1, ok2⟩, ok3⟩ := ok
  have e := eachIs_of ra rv
  have er : PySem.W.EachIs (fun u d => ∃ as, Reads s.heap u (D.py d) as) its ds := by
    have all : ∀ {ds : List D} {vs : List V} {us : List Value}, RpA X.K g vs ds → Vals vs us → okA ds 60 = true → PySem.W.EachIs (fun u d => ∃ as, Reads s.heap u (D.py d) as) us ds := by
      intro ds
      induction ds with
      | nil => intro vs us h r _; cases h; cases r; exact .nil
      | cons d ds ih =>
        intro vs us h r o
        have o : (okD d 60 && okA ds 60) = true := o
        rw [Bool.and_eq_true] at o
        cases h with
        | cons a b =>
          cases r with
          | cons r1 r2 => exact .cons (Dp.reads I _ _ _ (Rp.dp w a o.1) r1) (ih b r2 o.2)
    exact all ra rv ok1
  refine PySem.W.sorted_data (enc := D.py) pl.isList e er (fun d hd d' hd' => ?_) ?_ (by rw [sizeLine_eq]; omega) (fun d hd => ?_) fun out hlen eo => ?_
  · obtain ⟨a, ha, rfl⟩ := List.mem_map.mp hd
    obtain ⟨b, hb, rfl⟩ := List.mem_map.mp hd'
    exact List.all_eq_true.mp (List.all_eq_true.mp ok2 a ha) b hb
  · rw [Bool.or_eq_true] at ok3
    rcases ok3 with ok3 | ok3
    · refine .inl fun d hd => ?_
      obtain ⟨a, ha, rfl⟩ := List.mem_map.mp hd
      have := List.all_eq_true.mp ok3 a ha
      cases a with
      | tup xs =>
        cases xs with
        | nil => cases this
        | cons x r => exact ⟨x.py, pyA r, by rw [D.py, pyA]⟩
      | _ => cases this
    · refine .inr fun d hd => ?_
      obtain ⟨a, ha, rfl⟩ := List.mem_map.mp hd
      have := List.all_eq_true.mp ok3 a ha
      cases a <;> first | (cases this; done) | (rw [D.py]; exact ⟨(fun z => by cases z), (fun _ z => by cases z)⟩)
  · have hd2 : okD d 60 = true := by
      rw [okA_all] at ok1
      exact List.all_eq_true.mp ok1 d hd
    have := (okD_lay d 60 hd2).2
    omega
  · obtain ⟨c, hc⟩ := sortedAll_at s.heap its out.toArray
    have em : ds.mergeSort (PySem.W.dataLe false D.py) = isrt leD ds := (isrt_merge leD leD_total ds).symm
    rw [em] at eo
    obtain ⟨ws, q1, q2⟩ := of_eachIs eo
    refine ⟨.ref (s.heap.objs.size + 1), _, I.laid (t' := s.toks) (fun b o e => sortedAll_old e) (Nat.le_succ _) (show ObjOk X.prog X.w _ _ _ (.lst ws) from ⟨?_, out, c, q2, hc⟩), rfl, q ws q1 _ (I.hok.fresh (Nat.le_succ _))⟩
    rw [q1.length, isrt_length, sizeLine_eq]
    omega
def ddp : List Int → List Int
  | [] => []
  | x :: r => if r.contains x = true then ddp r else x :: ddp r
theorem ddp_mem {z : Int} : ∀ {l : List Int}, z ∈ ddp l ↔ z ∈ l
  | [] => Iff.rfl
  | x :: r => by
    unfold ddp
    split
    · rename_i h
      have hx : x ∈ r := List.contains_iff_mem.mp h
      rw [ddp_mem, List.mem_cons]
      exact ⟨.inr, fun h => h.elim (fun e => by rw [e]; exact hx) id⟩
    · rw [List.mem_cons, ddp_mem, List.mem_cons]
theorem ddp_nodup : ∀ l : List Int, (ddp l).Nodup
  | [] => List.nodup_nil
  | x :: r => by
    unfold ddp
    split
    · exact ddp_nodup r
    · rename_i h
      exact List.nodup_cons.mpr ⟨fun z => h (List.contains_iff_mem.mpr (ddp_mem.mp z)), ddp_nodup r⟩
theorem nd_le : ∀ {a b : List Int}, a.Nodup → (∀ x ∈ a, x ∈ b) → a.length ≤ b.length
  | [], _, _, _ => Nat.zero_le _
  | x :: r, b, h, hs => by
    obtain ⟨h1, h2⟩ := List.nodup_cons.mp h
    have hx : x ∈ b := hs x (List.mem_cons_self ..)
    have := nd_le (a := r) (b := b.erase x) h2 fun y hy => by
      have hne : y ≠ x := fun e => h1 (by rw [← e]; exact hy)
      exact (List.mem_erase_of_ne hne).mpr (hs y (List.mem_cons_of_mem _ hy))
    rw [List.length_erase_of_mem hx] at this
    have hp : 0 < b.length := List.length_pos_of_mem hx
    rw [List.length_cons]
    omega
def pLenSet : D → M D
  | .tup ds => match intsD ds with
    | some ns => if ns.length < 1000 then ret (.int (ddp ns).length) else stuck
    | none => stuck
  | _ => stuck
theorem ce_lenSet {a : Expr} {fa : Ex} {p p2 q pos : Pos} (hc : X.calm = true) (hm : X.mg "len" = none) (hm2 : X.mg "set" = none) (ha : CW X C E a fa) (hg : Gl X "len" := by rfl) (hg2 : Gl X "set" := by rfl) (na : starEach [a] X.env = (false, eval a X.env) :: starEach [] X.env := by rfl) :
    CE X C E (.Call (.Name "len" p) [.Call (.Name "set" p2) [a] [] q] [] pos) (eUn pLenSet fa) := by
  refine ⟨fun pins s σ H Q I h => ?_⟩
  have h := tW.seq (Q1 := fun x H1 => ∃ g t d, Wf C g H1 t ∧ RpW X.K g H1 x d ∧ PostQ X.K C E g H1 Q (pLenSet d t)) h fun g S t x d H1 w s rx p1 => ⟨g, t, d, w, rx, p1⟩
  refine Call_ (ld_blt I hg hm boot_len ?_)
  refine PyProof.Rows.callWith_builtin1 (PyProof.Rows.args_cons ?_ rfl) rfl rfl
  refine Call_ (ld_blt I hg2 hm2 boot_set ?_)
  refine PyProof.Rows.callWith_type1 (PyProof.Rows.args_cons (thn (ha.run pins s σ H _ I h) fun v s1 ⟨x, H1, I1, r1, q1⟩ => PyProof.Rows.args_nil ?_) na) na rfl
  obtain ⟨g, t, d, w, rx, q1⟩ := q1
  cases d with
  | tup ds =>
    have q1 : PostQ X.K C E g H1 Q ((match intsD ds with | some ns => if ns.length < 1000 then ret (D.int (ddp ns).length) else stuck | none => stuck) t) := q1
    cases z : intsD ds with
    | none => rw [z] at q1; exact q1.elim
    | some ns =>
      rw [z] at q1
      dsimp only at q1
      split at q1
      case isFalse => exact q1.elim
      rename_i hz
      obtain ⟨l, vs, rfl, e1, ra⟩ := rx.tup w
      have ev := ra.intsD z
      subst ev
      cases r1
      obtain ⟨its, r, pl, hzz⟩ := I1.tuple e1
      refine call_set_tupI ns (I1.ok.hd hc) (show s1.heap.IsTuple l its.toArray from pl) (by simpa using intsAre_of r) (by unfold scanBound; omega) fun h' tk c hS hcl hk => ?_
      refine PyProof.Rows.args_nil ?_
      obtain ⟨o, es, ep, t', ho, hex, hd, hgood, hnd, hmem, hsb, hf, hn, _, _⟩ := hS
      have I2 : Inv X pins σ H1 { s1 with heap := h', toks := tk } := I1.kept fun b o e => hk b o e
      have ec : es.size = (ddp ns).length := by
        have h1 : (es.toList.map keyOf).length ≤ (ddp ns).length := nd_le hnd fun x hx => ddp_mem.mpr (of_decide_eq_true ((hmem x).mpr hx))
        have h2 : (ddp ns).length ≤ (es.toList.map keyOf).length := nd_le (ddp_nodup ns) fun x hx => (hmem x).mp (decide_eq_true (ddp_mem.mp hx))
        have e3 : (es.toList.map keyOf).length = es.size := by rw [List.length_map, Array.length_toList]
        omega
      exact call_len_set ho hex hd hf (by unfold scanBound at hsb; omega) ⟨.int (ddp ns).length, H1, I2.tok _, ⟨_, by rw [ec]⟩, pRetV q1 w (Rp.int _)⟩
  | _ => exact q1.elim
end
end BG
set_option Elab.async false
set_option linter.all false
set_option maxRecDepth 100000
set_option maxHeartbeats 4000000
namespace BG
open PySem PySem.Spec PyProof.Rows L2
theorem bt_len : bootBuiltins "len" = some (.builtin "len") := by decide +kernel
theorem bt_all : bootBuiltins "all" = some (.builtin "all") := by decide +kernel
theorem bt_sorted : bootBuiltins "sorted" = some (.builtin "sorted") := by decide +kernel
theorem bt_tuple : bootBuiltins "tuple" = some (.type "tuple") := by decide +kernel
theorem bt_list : bootBuiltins "list" = some (.type "list") := by decide +kernel
theorem bt_int : bootBuiltins "int" = some (.type "int") := by decide +kernel
theorem bt_bool : bootBuiltins "bool" = some (.type "bool") := by decide +kernel
theorem bt_str : bootBuiltins "str" = some (.type "str") := by decide +kernel
/-- the built-in names are not shadowed -/
structure Bt (mg : Str → Option Value) : Prop where
  len : mg "len" = none
  all : mg "all" = none
  any : mg "any" = none
  sum : mg "sum" = none
  sorted : mg "sorted" = none
  min : mg "min" = none
  max : mg "max" = none
  isinstance : mg "isinstance" = none
  tuple : mg "tuple" = none
  list : mg "list" = none
  int : mg "int" = none
  bool : mg "bool" = none
  str : mg "str" = none
  range : mg "range" = none
  set : mg "set" = none
  enumerate : mg "enumerate" = none
  zip : mg "zip" = none
  dict : mg "dict" = none
  abs : mg "abs" = none
theorem _root_.L2.Room.u65 {k : Nat} {A : Around} (r : Room k A) : A.units + 65 < cLine := by have := r.un; omega
theorem _root_.L2.Room.u1 {k : Nat} {A : Around} (r : Room k A) : A.units + 1 < cLine := by have := r.un; omega
theorem passC {P : Program} {w : World} {K : PySem.W.Frag} {mg : Str → Option Value} {base : Heap} {N : List Str} {qual : Str} {scope : Scope} {f : Addr} {cd : Value} {A : Around} {outer : List Env} {s : Shared} {H : Hp} {E : XK} :
    Passes (L2.CX P w) (cxOf (L2.CX P w) P w K mg base N qual scope f cd A outer s H E) E := passes_call (W := fun cls d _ H => E cls d H) (takes_of rfl rfl rfl rfl) fun _ _ _ _ h => h
theorem Fd.of {P : Program} {w : World} {K : PySem.W.Frag} {mg : Str → Option Value} {base : Heap} {C : Cn} {k : Nat} {x : Str} {F : Fn} {f : Addr} {fd : FuncData} {ps : List Str} (h : FnOk P w K mg base (L2.CX P w) k f fd ps (spF K C ps.length F)) (hm : mg x = some (.ref f)) (hk : PySem.W.keepIn K (.ref f) = true) (hb : Binds K fd ps []) :
    Fd P w K mg base C k x ps.length F := ⟨f, fd, ps, h, hm, hk, hb⟩
theorem _root_.L2.Fun.kb {K : PySem.W.Frag} {x qual : Str} {st : Stmt} {f : Addr} {fd : FuncData} {ps ks : List Str} {n : Nat} (F : Fun K x qual st f fd)
    (h : ∀ (kV doc pm : Value) (an : Option Addr) (cdv ct : Value) (us ws : List Value), us.length = n → ws.length = ks.length → bindArgs (PySem.W.fnOf x qual (defArgs st) (defBody st) (defScope st) .none kV doc pm an cdv ct) ⟨us, ks.zip ws⟩ = pure (ps.zip (us ++ ws))) :
    ∀ (s : Shared) (us ws : List Value), K.In s.heap → us.length = n → ws.length = ks.length → BindsTo s fd ⟨us, ks.zip ws⟩ (ps.zip (us ++ ws)) := by
  obtain ⟨oc, od, kV, doc, pm, an, cdv, ct, osl, rfl, lk, hcd⟩ := F.ex
  exact fun s us ws _ h1 h2 => .of_eq (h kV doc pm an cdv ct us ws h1 h2)
theorem FdK.of {P : Program} {w : World} {K : PySem.W.Frag} {mg : Str → Option Value} {base : Heap} {C : Cn} {k n : Nat} {x : Str} {F : Fn} {f : Addr} {fd : FuncData} {ps ks : List Str} (h : FnOk P w K mg base (L2.CX P w) k f fd ps (spF K C ps.length F)) (hm : mg x = some (.ref f)) (hk : PySem.W.keepIn K (.ref f) = true) (hl : ps.length = n + ks.length)
    (hb : ∀ (s : Shared) (us ws : List Value), K.In s.heap → us.length = n → ws.length = ks.length → BindsTo s fd ⟨us, ks.zip ws⟩ (ps.zip (us ++ ws))) : FdK P w K mg base C k x n ks F := ⟨f, fd, ps, by rw [← hl]; exact h, hm, hk, hb⟩
/-- the heap without the tables of code objects -/
def untb (H : Hp) : Hp := fun b => match H b with
  | some (.tbl _) => none
  | o => o
theorem untb_same (H : Hp) : Same (untb H) H := fun b o e => by
  unfold untb at e
  split at e
  · cases e
  · exact e
theorem untb_of {H : Hp} {b : Addr} {o : HO} (e : H b = some o) (n : ∀ ps, o ≠ .tbl ps) : untb H b = some o := by
  unfold untb
  split
  · rename_i ps h; rw [e] at h; exact absurd (Option.some.inj h) (n ps)
  · exact e
theorem untb_nft (H : Hp) : ∀ b ps, untb H b ≠ some (.tbl ps) := fun b ps e => by
  unfold untb at e
  split at e
  · cases e
  · rename_i h; exact h ps e
theorem untb_seq {K : PySem.W.Frag} {H : Hp} {a : Addr} {xs : List V} (h : SqL K H a xs) : SqL K (untb H) a xs := by
  rcases h with (h | ⟨o, h⟩) | h
  · exact .inl (.inl (untb_of h (fun _ z => by cases z)))
  · exact .inl (.inr ⟨o, untb_of h (fun _ z => by cases z)⟩)
  · exact .inr h
theorem law_start {K : PySem.W.Frag} {C : Cn} {F : Fn} {a : Addr} {ns : List Int} {H : Hp} {Q : VK} {E : XK} (hT : LamX.Tabs C.T H) (sq : SqL K H a (ns.map V.int)) (h : ∃ t', F [.scr ns] (none, []) = some (.ok (.bl true) t')) (q : ∀ H', Q (.bl true) H') : spF K C 1 F [.ref a] H Q E := by
  obtain ⟨t', e⟩ := h
  refine ⟨⟨untb H, none, [], fun _ _ => none⟩, [.scr ns], (none, []), .cons (.scr (untb_seq sq)) .nil, ⟨untb_same H, ⟨rfl, rfl, .nil, fun n a o h => (by simp at h), fun n a o h => (by simp at h), fun n o h => (by simp at h), fun _ _ _ => rfl⟩, fun b z => (by rcases z with ⟨p, hp, _⟩ | z <;> first | cases hp | cases z), hT, untb_nft H⟩, rfl, ?_⟩
  rw [e]
  intro g' H' _ _ v r
  cases r
  exact q H'
theorem cx_no {P : Program} {w : World} {l : List Env} {H : Hp} {s : Shared} {e : Value} {s' : Shared} (h : L2.CX P w l H s (fun _ _ _ => False) e s') : False := by
  obtain ⟨_, _, _, _, _, _, _, _, _, _, _, _, z⟩ := h
  exact z
end BG
set_option Elab.async false
set_option linter.all false
set_option maxRecDepth 100000
set_option maxHeartbeats 4000000
namespace BG
open PySem PySem.Spec PyProof.Rows L2
end BG
set_option Elab.async false
set_option linter.all false
set_option maxRecDepth 100000
set_option maxHeartbeats 4000000
namespace BG
open PySem PySem.Spec PyProof.Rows L2
section
variable {X : Cx} {C : Cn} {E : XK}
/-- what the data promise to the sort -/
theorem reads_all {g : G} {t : Tn} {H : Hp} {s : Shared} {pins : List (Addr × Obj)} {σ : L2.St} (I : L2.Inv X pins σ H s) (w : Wf C g H t) : ∀ {ds : List D} {vs : List V} {us : List Value}, RpA X.K g vs ds → Vals vs us → okA ds 60 = true → PySem.W.EachIs (fun u d => ∃ as, Reads s.heap u (D.py d) as) us ds
  | [], _, _, h, r, _ => by cases h; cases r; exact .nil
  | d :: ds, _, _, h, r, o => by
    have o : (okD d 60 && okA ds 60) = true := o
    rw [Bool.and_eq_true] at o
    cases h with
    | cons a b =>
      cases r with
      | cons r1 r2 => exact .cons (Dp.reads I _ _ _ (Rp.dp w a o.1) r1) (reads_all I w b r2 o.2)
theorem srt_alike {ds : List D} (ok : srtOk ds = true) : PySem.W.AllAlike (ds.map D.py) ∧ PySem.W.Sortable (ds.map D.py) ∧ okA ds 60 = true := by
  unfold srtOk at ok
  rw [Bool.and_eq_true, Bool.and_eq_true] at ok
  obtain ⟨⟨ok1, ok2⟩, ok3⟩ := ok
  refine ⟨fun d hd d' hd' => ?_, ?_, ok1⟩
  · obtain ⟨a, ha, rfl⟩ := List.mem_map.mp hd
    obtain ⟨b, hb, rfl⟩ := List.mem_map.mp hd'
    exact List.all_eq_true.mp (List.all_eq_true.mp ok2 a ha) b hb
  · rw [Bool.or_eq_true] at ok3
    rcases ok3 with ok3 | ok3
    · refine .inl fun d hd => ?_
      obtain ⟨a, ha, rfl⟩ := List.mem_map.mp hd
      have := List.all_eq_true.mp ok3 a ha
      cases a with
      | tup xs =>
        cases xs with
        | nil => cases this
        | cons x r => exact ⟨x.py, pyA r, by rw [D.py, pyA]⟩
      | _ => cases this
    · refine .inr fun d hd => ?_
      obtain ⟨a, ha, rfl⟩ := List.mem_map.mp hd
      have := List.all_eq_true.mp ok3 a ha
      cases a <;> first | (cases this; done) | (rw [D.py]; exact ⟨(fun z => by cases z), (fun _ z => by cases z)⟩)
def rSrtT (K : PySem.W.Frag) (C : Cn) : List V → Hp → VK → Prop := fun xs H Q => ∃ p g t vs ds, xs = [.ref p] ∧ Wf C g H t ∧ SqT K H p vs ∧ RpA K g vs ds ∧ srtOk ds = true ∧ ds.length ≤ 1000000 ∧ ∀ ws, RpA K g ws (isrt leD ds) → ∀ l, H l = none → Q (.ref l) (upd H l (.lst ws))
theorem cr_sortedT (hu : X.A.units + 64 < cLine) : CallR X (.builtin "sorted") (rSrtT X.K C) := by
  intro pins s σ H xs us Q I r h
  obtain ⟨p, g, t, vs, ds, rfl, w, hp, ra, ok, hz, q⟩ := h
  obtain ⟨u, rfl, ru⟩ := vals1 r
  cases ru
  obtain ⟨its, rv, pl, hzz⟩ := I.tuple hp
  have hlen : its.length = ds.length := by rw [← rv.length, ra.length]
  obtain ⟨hal, hso, ok1⟩ := srt_alike ok
  have e := eachIs_of ra rv
  obtain ⟨o1, g1, c1, n1, d1⟩ := pl
  refine Calls.call_function_entry PyProof.Rows.kind_sorted PyProof.Rows.plain_sorted PyProof.Rows.entry_sorted (PyProof.Rows.args_sorted1 _) ?_
  unfold Builtin.«sorted»
  refine wpAny_bind (m := checkCount "sorted" 1 1 _) (wpAny_pure ?_)
  refine wpAny_bind (wpAny_collect_seq p (.inr rfl) g1 c1 d1 (fun h' hk => ?_) (by rw [List.size_toArray, hlen, sizeLine_eq]; omega))
  have I1 : L2.Inv X pins σ H { s with heap := h' } := I.kept (t' := s.toks) hk
  rw [List.toList_toArray]
  refine wpAny_bind (wpAny_newList ?_ (by rw [hlen, sizeLine_eq]; omega))
  have hoL : (h'.push (seqObj "list" its.toArray 0)).get? h'.objs.size = some (seqObj "list" its.toArray 0) := Heap.get?_push_size _ rfl
  show wpAny _ _ _ _ _ { s with heap := h'.push (seqObj "list" its.toArray 0) }
  have er : PySem.W.EachIs (fun u d => ∃ as, Reads (PySem.W.sortingHeap (h'.push (seqObj "list" its.toArray 0)) h'.objs.size its) u (D.py d) as) its ds := (reads_all I w ra rv ok1).mono fun _ _ ⟨as, r⟩ => ⟨as, PyProof.Rows.Reads.keeps (fun b o q => PySem.W.sortingHeap_old (Nat.ne_of_lt (Heap.lt_size (hk b o q))) (Heap.get?_push_of_some _ (hk b o q))) r⟩
  have hdep : ∀ d, d ∈ ds.map D.py → X.A.in1.in1.units + d.depth < cLine := fun d hd => by
    obtain ⟨d', hd', rfl⟩ := List.mem_map.mp hd
    have h2 : okD d' 60 = true := by
      rw [okA_all] at ok1
      exact List.all_eq_true.mp ok1 d' hd'
    have h3 := (okD_lay d' 60 h2).2
    show X.A.units + 1 + 1 + _ < _
    omega
  have em : ds.mergeSort (PySem.W.dataLe false D.py) = isrt leD ds := (isrt_merge leD leD_total ds).symm
  have eo := PySem.W.sortVals_data (h' := PySem.W.sortingHeap (h'.push (seqObj "list" its.toArray 0)) h'.objs.size its) (enc := D.py) false e er hal
  rw [em] at eo
  have lo : (PySem.W.sortVals (PySem.W.dataKind (PySem.W.sortingHeap (h'.push (seqObj "list" its.toArray 0)) h'.objs.size its) (ds.map D.py)) false its its).length = its.length := PySem.W.sortVals_length false rfl
  generalize hO : PySem.W.sortVals (PySem.W.dataKind (PySem.W.sortingHeap (h'.push (seqObj "list" its.toArray 0)) h'.objs.size its) (ds.map D.py)) false its its = out at eo lo
  refine wpAny_bind (wpAny_holding (wpAny_call_entry PyProof.Rows.slot_list_sort ⟨_, hoL, rfl⟩ PyProof.Rows.entry_list_sort ?_ (PyProof.Rows.args_list_sort _)))
  refine PySem.W.list_sort_vals (s := { s with heap := h'.push (seqObj "list" its.toArray 0) }) hoL (PySem.W.SortsAt.data (s := { s with heap := PySem.W.sortingHeap (h'.push (seqObj "list" its.toArray 0)) h'.objs.size its }) (PySem.W.each_map (R := fun v d => ∃ as, Reads (PySem.W.sortingHeap (h'.push (seqObj "list" its.toArray 0)) h'.objs.size its) v d as) D.py er) hal hso hdep) (by rw [hlen, sizeLine_eq]; omega) ⟨_, rfl, ?_⟩
  rw [hO]
  obtain ⟨e', he'⟩ := PyProof.Rows.sortedHeap_at (vs := its) (out := out.toArray) hoL
  obtain ⟨ws, q1, q2⟩ := of_eachIs eo
  refine wpAny_pure ⟨_, rfl, .ref h'.objs.size, upd H h'.objs.size (.lst ws), I1.laid (t' := s.toks) (fun b u e => ?_) (Nat.le_refl _) (show ObjOk X.prog X.w _ _ _ (.lst ws) from ⟨by rw [q1.length, isrt_length, sizeLine_eq]; omega, out, e', q2, he'⟩), rfl, q ws q1 _ (I1.hok.fresh (Nat.le_refl _))⟩
  have hb : b < h'.objs.size := Heap.lt_size e
  rw [PyProof.Rows.sortedHeap_old (Nat.ne_of_lt hb) (by rw [size_push']; exact Nat.lt_succ_of_lt hb)]
  exact Heap.get?_push_of_some _ e
/-- sorted of a list or of a tuple -/
def bSortedA : D → M D
  | .lst ds => if srtOk ds = true ∧ ds.length ≤ 1000000 then ret (.lst (isrt leD ds)) else stuck
  | .tup ds => if srtOk ds = true ∧ ds.length ≤ 1000000 then ret (.lst (isrt leD ds)) else stuck
  | _ => stuck
theorem cr_sortedA (hu : X.A.units + 64 < cLine) : CallR X (.builtin "sorted") (c1D X.K C E bSortedA) := CallR.imp (CallR.or (cr_sorted0 (C := C) hu) (cr_sortedT (C := C) hu)) fun xs H Q ⟨x, g, t, d, ex, w, a, h⟩ => by
  subst ex
  cases d with
  | lst ds =>
    have h : PostQ X.K C E g H Q ((if srtOk ds = true ∧ ds.length ≤ 1000000 then ret (.lst (isrt leD ds)) else stuck) t) := h
    split at h
    · rename_i hc
      obtain ⟨p, vs, rfl, e1, r1⟩ := a.lst w
      exact .inl ⟨p, g, t, vs, ds, rfl, w, e1, r1, hc.1, hc.2, fun ws rw' l hl => pRetL h w rw' l hl⟩
    · exact h.elim
  | tup ds =>
    have h : PostQ X.K C E g H Q ((if srtOk ds = true ∧ ds.length ≤ 1000000 then ret (.lst (isrt leD ds)) else stuck) t) := h
    split at h
    · rename_i hc
      obtain ⟨p, vs, rfl, e1, r1⟩ := a.tup w
      exact .inr ⟨p, g, t, vs, ds, rfl, w, e1, r1, hc.1, hc.2, fun ws rw' l hl => pRetL h w rw' l hl⟩
    · exact h.elim
  | _ => exact h.elim
end
end BG
set_option Elab.async false
set_option linter.all false
set_option maxRecDepth 100000
set_option maxHeartbeats 4000000
namespace BG
open PySem PySem.Spec PyProof.Rows L2
def dLook (ks : List (Key × D)) (k : Key) : Option D := (ks.find? fun p => decide (p.1 = k)).map (·.2)
def dPut (ks : List (Key × D)) (k : Key) (d : D) : List (Key × D) := if (ks.any fun p => decide (p.1 = k)) = true then ks.map (fun p => if p.1 = k then (p.1, d) else p) else ks ++ [(k, d)]
def dMerge (ks more : List (Key × D)) : List (Key × D) := more.foldl (fun acc p => dPut acc p.1 p.2) ks
theorem dPut_len (ks : List (Key × D)) (k : Key) (d : D) : (dPut ks k d).length ≤ ks.length + 1 := by
  unfold dPut
  split
  · rw [List.length_map]; omega
  · rw [List.length_append]; exact Nat.le_refl _
theorem dMerge_len : ∀ (more ks : List (Key × D)), (dMerge ks more).length ≤ ks.length + more.length
  | [], ks => by show ks.length ≤ ks.length + 0; omega
  | p :: r, ks => by
    have h1 := dMerge_len r (dPut ks p.1 p.2)
    have h2 := dPut_len ks p.1 p.2
    show (dMerge (dPut ks p.1 p.2) r).length ≤ _
    rw [List.length_cons]; omega
def keyD : D → Option Key
  | .int i => some (.inl i)
  | .str x => some (.inr x)
  | _ => none
def kD : Key → D
  | .inl i => .int i
  | .inr x => .str x
section
variable {K : PySem.W.Frag} {g : G}
theorem RpK.nil : RpK K g [] [] := ⟨rfl, .nil⟩
theorem RpK.cons {k : Key} {v : V} {d : D} {vs : List (Key × V)} {ks : List (Key × D)} (h : Rp K g v d) (r : RpK K g vs ks) : RpK K g ((k, v) :: vs) ((k, d) :: ks) := ⟨by rw [List.map_cons, List.map_cons, r.1], .cons h r.2⟩
theorem RpK.inv {vs : List (Key × V)} {k : Key} {d : D} {ks : List (Key × D)} (r : RpK K g vs ((k, d) :: ks)) : ∃ v ws, vs = (k, v) :: ws ∧ Rp K g v d ∧ RpK K g ws ks := by
  obtain ⟨h1, h2⟩ := r
  cases vs with
  | nil => cases h1
  | cons p ws =>
    obtain ⟨k', v⟩ := p
    injection h1 with e1 e2
    simp only at e1
    subst e1
    cases h2 with
    | cons a b => exact ⟨v, ws, rfl, a, e2, b⟩
theorem RpK.length {vs : List (Key × V)} {ks : List (Key × D)} (r : RpK K g vs ks) : vs.length = ks.length := by have := congrArg List.length r.1; rw [List.length_map, List.length_map] at this; exact this
theorem RpK.look : ∀ {ks : List (Key × D)} {vs : List (Key × V)} (k : Key), RpK K g vs ks → (dLook ks k = none → valV vs k = none) ∧ ∀ d, dLook ks k = some d → ∃ v, valV vs k = some v ∧ Rp K g v d
  | [], vs, k, r => by
    have : vs = [] := List.eq_nil_of_length_eq_zero r.length
    subst this
    exact ⟨fun _ => rfl, fun d e => (by cases e)⟩
  | (k', d') :: ks, vs, k, r => by
    obtain ⟨v, ws, rfl, rv, rr⟩ := r.inv
    by_cases h : k' = k
    · subst h
      have e : dLook ((k', d') :: ks) k' = some d' := by unfold dLook; rw [List.find?_cons]; simp
      rw [e]
      refine ⟨fun z => (by cases z), fun d z => ?_⟩
      cases z
      exact ⟨v, valV_pos rfl, rv⟩
    · have e : dLook ((k', d') :: ks) k = dLook ks k := by unfold dLook; rw [List.find?_cons]; simp [h]
      rw [e, valV_neg h]
      exact RpK.look k rr
theorem RpK.map {k : Key} {v : V} {d : D} (h : Rp K g v d) : ∀ {ks : List (Key × D)} {vs : List (Key × V)}, RpK K g vs ks → RpK K g (vs.map fun p => if p.1 = k then (p.1, v) else p) (ks.map fun p => if p.1 = k then (p.1, d) else p)
  | [], vs, r => by
    have : vs = [] := List.eq_nil_of_length_eq_zero r.length
    subst this; exact .nil
  | (k', d') :: ks, vs, r => by
    obtain ⟨v', ws, rfl, rv, rr⟩ := r.inv
    rw [List.map_cons, List.map_cons]
    by_cases hk : k' = k
    · rw [if_pos hk, if_pos hk]; exact .cons h (RpK.map h rr)
    · rw [if_neg hk, if_neg hk]; exact .cons rv (RpK.map h rr)
theorem RpK.app : ∀ {ks : List (Key × D)} {vs : List (Key × V)} {ks2 : List (Key × D)} {vs2 : List (Key × V)}, RpK K g vs ks → RpK K g vs2 ks2 → RpK K g (vs ++ vs2) (ks ++ ks2) := fun r q => ⟨by rw [List.map_append, List.map_append, r.1, q.1], by rw [List.map_append, List.map_append]; exact r.2.app q.2⟩
theorem RpK.any {ks : List (Key × D)} {vs : List (Key × V)} (k : Key) (r : RpK K g vs ks) : (vs.any fun p => decide (p.1 = k)) = ks.any fun p => decide (p.1 = k) := by
  have e1 : ∀ l : List (Key × V), (l.any fun p => decide (p.1 = k)) = (l.map (·.1)).any fun x => decide (x = k) := fun l => by rw [List.any_map]; rfl
  have e2 : ∀ l : List (Key × D), (l.any fun p => decide (p.1 = k)) = (l.map (·.1)).any fun x => decide (x = k) := fun l => by rw [List.any_map]; rfl
  rw [e1, e2, r.1]
theorem RpK.put {ks : List (Key × D)} {vs : List (Key × V)} {k : Key} {v : V} {d : D} (r : RpK K g vs ks) (h : Rp K g v d) : RpK K g (putK vs k v) (dPut ks k d) := by
  unfold putK dPut
  rw [r.any k]
  split
  · exact RpK.map h r
  · exact r.app (.cons h .nil)
theorem RpK.merge : ∀ {more : List (Key × D)} {mv : List (Key × V)} {ks : List (Key × D)} {vs : List (Key × V)}, RpK K g mv more → RpK K g vs ks → RpK K g (mergeK vs mv) (dMerge ks more)
  | [], mv, ks, vs, r, q => by
    have : mv = [] := List.eq_nil_of_length_eq_zero r.length
    subst this; exact q
  | (k, d) :: more, mv, ks, vs, r, q => by
    obtain ⟨v, ws, rfl, rv, rr⟩ := r.inv
    exact RpK.merge (ks := dPut ks k d) (vs := putK vs k v) rr (q.put rv)
theorem Rp.key {v : V} {d : D} {k : Key} (r : Rp K g v d) (h : keyD d = some k) : v = kV k := by
  cases d with
  | int i => cases h; cases r; rfl
  | str x => cases h; cases r; rfl
  | _ => cases h
end
/-- the values of a display, with their keys -/
def evsK : List (Str × Ex) → Sl → M (List (Key × D))
  | [], _ => ret []
  | (x, f) :: fs, S => bnd (f S) fun d => bnd (evsK fs S) fun ds => ret ((.inr x, d) :: ds)
theorem evsK_length : ∀ {fs : List (Str × Ex)} {S : Sl} {t t' : Tn} {ds : List (Key × D)}, evsK fs S t = some (.ok ds t') → ds.length = fs.length
  | [], _, _, _, ds, h => by
    have h : some (Out.ok ([] : List (Key × D)) _) = some (Out.ok ds _) := h
    cases h; rfl
  | (x, f) :: fs, S, t, t', ds, h => by
    have h : bnd (f S) (fun d => bnd (evsK fs S) fun ds => ret ((Sum.inr x, d) :: ds)) t = some (.ok ds t') := h
    cases e1 : f S t with
    | none => unfold bnd at h; rw [e1] at h; cases h
    | some o =>
      cases o with
      | exc c t1 => rw [bnd_exc e1] at h; cases h
      | ok d t1 =>
        rw [bnd_ok e1] at h
        cases e2 : evsK fs S t1 with
        | none => unfold bnd at h; rw [e2] at h; cases h
        | some o =>
          cases o with
          | exc c t2 => rw [bnd_exc e2] at h; cases h
          | ok ds' t2 =>
            rw [bnd_ok e2] at h
            have h : some (Out.ok ((Sum.inr x, d) :: ds') t2) = some (Out.ok ds t') := h
            cases h
            rw [List.length_cons, List.length_cons, evsK_length e2]
theorem Post.all {α : Type} {C : Cn} {E : XK} {g g1 : G} {H H1 : Hp} {Rok Rok' : α → Tn → G → Hp → Prop} {r : Option (Out α)} (h : Post C E g H Rok r) (s : Stp g H g1 H1) (f : ∀ a t' g' H', r = some (.ok a t') → Stp g1 H1 g' H' → Wf C g' H' t' → (∀ g2 H2, Stp g H g2 H2 → Wf C g2 H2 t' → Rok a t' g2 H2) → Rok' a t' g' H') : Post C E g1 H1 Rok' r := by
  cases r with
  | none => exact h
  | some o =>
    cases o with
    | ok a t' => exact fun g' H' s' w => f a t' g' H' rfl s' w h
    | exc c t' => exact fun g' H' s' w => h g' H' (s.trans s') w
theorem Wf.updD {C : Cn} {g : G} {H : Hp} {t : Tn} {p : Addr} {kvs : List (Key × V)} {o : HO} (w : Wf C g H t) (hp : H p = some (.dK kvs)) (fp : g.Fz p = none) (nt : ¬ g.isTw p) (ho : ∀ ps, o ≠ .tbl ps) : Wf C g (upd H p o) t where
  fz := fun b o' h => by
    rw [upd_ne (ne_of_none h fp)]
    exact w.fz b o' h
  tw := ⟨w.tw.1.ext fun b kvs h z => by rw [upd_ne fun z2 => nt (.inl (by rw [← z2]; exact z))]; exact h, w.tw.2.keep (fun _ _ h => h) (.refl g) ⟨rfl, rfl⟩ fun a ha ho h => by rw [upd_ne fun z => nt (.inr (by rw [← z]; exact ha))]; exact h⟩
  ntw := w.ntw
  nft := w.nft
  tab := fun q hq => by
    obtain ⟨ps, h1, h2, h3⟩ := w.tab q hq
    refine ⟨ps, by rw [upd_ne (ne_of h1 hp (fun z => nomatch z))]; exact h1, h2, fun pos cv hc => ?_⟩
    obtain ⟨c, e1, e2⟩ := h3 pos cv hc
    exact ⟨c, e1, by rw [upd_ne (ne_of e2 hp (fun z => nomatch z))]; exact e2⟩
section
variable {X : Cx} {C : Cn} {E : XK}
def trsD (X : Cx) (C : Cn) (E : XK) (fs : List (Str × Ex)) : List (TE × TE) := fs.map fun p => (fun _ H Q => Q (.str p.1) H, tE X.K C E p.2)
abbrev CPs (X : Cx) (C : Cn) (E : XK) (pos : Pos) (keys : List (Option Expr)) (values : List Expr) (fs : List (Str × Ex)) : Prop := PPs X pos keys values (trsD X C E fs) ∧ keys.all (·.isSome) = true ∧ keys.length = values.length ∧ keys.length = fs.length
theorem cps_nil {pos : Pos} : CPs X C E pos [] [] [] := ⟨pps_nil, rfl, rfl, rfl⟩
theorem cps_cons {pos p : Pos} {x : Str} {j : Nat} {v : Expr} {f : Ex} {ks : List (Option Expr)} {vs : List Expr} {fs : List (Str × Ex)} (h : CE X C E v f) (r : CPs X C E pos ks vs fs) : CPs X C E pos (some (.Constant (.str x) j p) :: ks) (v :: vs) ((x, f) :: fs) :=
  ⟨pps_cons pe_str h r.1, by rw [List.all_cons, r.2.1]; rfl, by rw [List.length_cons, List.length_cons, r.2.2.1], by rw [List.length_cons, List.length_cons, r.2.2.2]⟩
theorem tPairs_of : ∀ {fs : List (Str × Ex)} {σ : L2.St} {H : Hp} {g : G} {S : Sl} {t : Tn} {Q : List (V × V) → Hp → Prop}, Wf C g H t → SL X.K g H σ S →
    Post C E g H (fun ks _ g' H' => ∀ vs, RpK X.K g' vs ks → Q (vs.map fun p => (kV p.1, p.2)) H') (evsK fs S t) → tPairs (trsD X C E fs) σ H Q
  | [], σ, H, g, S, t, Q, w, s, p => by
    have p := postRet p w
    exact p [] .nil
  | (x, f) :: fs, σ, H, g, S, t, Q, w, s, p => by
    refine ⟨g, S, t, w, s, p.bnd.imp fun d t1 g1 H1 st1 w1 q v r => ?_⟩
    refine tPairs_of w1 (s.stp w st1) (q.bnd.imp fun ks t2 g2 H2 st2 w2 q2 vs rs => ?_)
    have := postRet q2 w2 ((Sum.inr x, v) :: vs) (.cons (r.stp st2) rs)
    exact this
/-- what a display leaves: a new dict of one's own -/
def tDic (X : Cx) (C : Cn) (E : XK) (fs : List (Str × Ex)) : TE := fun σ H Q => ∃ g S t, Wf C g H t ∧ SL X.K g H σ S ∧ Post C E g H (fun ks _ g' H' => ∀ p vs, H p = none → H' p = some (.dK vs) → RpK X.K g' vs (dMerge [] ks) → g'.Fz p = none → ¬ g'.isTw p → Q (.ref p) H') (evsK fs S t)
theorem pe_dic {pos : Pos} {keys : List (Option Expr)} {values : List Expr} {fs : List (Str × Ex)} (h : CPs X C E pos keys values fs) (h0 : keys ≠ []) (h15 : keys.length ≤ 15) : PE X (.Dict keys values pos) (tDic X C E fs) := by
  refine PE.imp (pe_disp h.1 h.2.1 h.2.2.1 h0 h15) fun σ H Q ⟨g, S, t, w, s, q⟩ => ?_
  intro p hp
  have st0 : Stp g H g (upd H p (.dK [])) := Stp.lay w hp
  have w0 : Wf C g (upd H p (.dK [])) t := Wf.lay w hp
  refine tPairs_of w0 (s.stp w st0) (q.all st0 fun ks t1 g1 H1 er st1 w1 q1 vs rs => ?_)
  have nt0 : ¬ g.isTw p := w.ntN hp
  have e1 : H1 p = some (.dK []) := st1.frm p _ upd_same nt0 (fun _ z => nomatch z)
  have nt1 : ¬ g1.isTw p := st1.ntw upd_same nt0 (fun _ z => nomatch z)
  have f1 : g1.Fz p = none := by rw [st1.new p ⟨_, upd_same, fun _ z => nomatch z⟩]; exact w.fzN hp
  refine ⟨e1, vs, rfl, by rw [rs.length, evsK_length er, ← h.2.2.2]; exact h15, ?_⟩
  exact q1 g1 _ ((st0.trans st1).updO (Nt.no hp)) (w1.updD e1 f1 nt1 (fun _ z => by cases z)) p _ hp upd_same (RpK.merge rs .nil) f1 nt1
/-- x = {'k': e, ..} -/
def sDic (i : Nat) (fs : List (Str × Ex)) : Stm := fun S => bnd (evsK fs S) fun ks => ret (.nx (S.set i (.dic (dMerge [] ks))))
theorem cs_dic (i : Nat) {x : Str} {keys : List (Option Expr)} {values : List Expr} {fs : List (Str × Ex)} {dpos pos pos' : Pos} (hN : X.N.Nodup) (h : CPs X C E dpos keys values fs) (h0 : keys ≠ [] := by simp) (h15 : keys.length ≤ 15 := by decide) (hi : X.N[i]? = some x := by rfl) (hx : Loc X.env.scope x := by first | exact .inl rfl | exact .inr rfl) (hs : swapsWith (.Dict keys values dpos) (some (.Name x pos')) pos.line X.env = pure false := by rfl)
    (hf : X.fn x = true ∨ X.env.scope.names.lookup x = some .local := by first | exact .inl rfl | exact .inr rfl | assumption) : CS X C E (.Assign [.Name x pos'] (.Dict keys values dpos) pos) (sDic i fs) :=
  PS.imp (ps_set hN hi hx (pe_dic h h0 h15) hs hf) fun De σ H ⟨g0, H0, gs, g, S, t, st, gr, w, s, o, p⟩ =>
    ⟨g, S, t, w, s, p.bnd0.all st fun ks t1 g1 H1 er st1 w1 q1 a vs ha ha1 rs fa nt => by
      have q2 := q1 g1 H1 (st.trans st1) w1
      exact q2 g1 H1 (st.trans st1) w1 _ (gr.trans st1.gw) ((s.stp w st1).setD ha1 rs fa nt fun j y h1 hx h2 => s.noOne (Nt.no ha) i j y h1 hx h2) (o.put (st.back ha))⟩
/-- x.update({'k': e, ..}) -/
def sDUpd (i : Nat) (fs : List (Str × Ex)) : Stm := fun S => match S[i]? with
  | some (.dic _) => bnd (evsK fs S) fun ms => match S[i]? with
    | some (.dic ks) => if ks.length < 1000 then ret (.nx (S.set i (.dic (dMerge ks (dMerge [] ms))))) else stuck
    | _ => stuck
  | _ => stuck
def rUpd : V → List V → Hp → VK → Prop := fun x xs H Q => ∃ d o kvs more, x = .ref d ∧ xs = [.ref o] ∧ d ≠ o ∧ H d = some (.dK kvs) ∧ H o = some (.dK more) ∧ kvs.length + more.length ≤ sizeLine ∧ Q .non (upd H d (.dK (mergeK kvs more)))
theorem mt_upd : MtR X "dict.update" rUpd := by
  intro pins s σ H x xs v us Q I rx rs h
  obtain ⟨d, o, kvs, more, rfl, rfl, hdo, e1, e2, hz, q⟩ := h
  cases rx
  obtain ⟨u, rfl, ru⟩ := rs.one
  cases ru
  obtain ⟨z1, d1, vs, rel, dd⟩ := dk_of I.hok e1
  obtain ⟨z2, d2, ws, rel2, dd2⟩ := dk_of I.hok e2
  refine call_meetsIn PySem.F.slot_dict_update dd.typeIs PySem.F.entry_dict_update (PySem.F.args_dict_update_2 _ _) (meets_dict_update (mixKind X.prog X.w) d o hdo d2) ⟨vs, ws, dd, dd2, by rw [← rel.length, ← rel2.length]; exact hz, fun h' dd' _ hs => ?_⟩
  have he : ∃ q, h'.get? d = some q := let ⟨q, _, _, hq, _⟩ := dd'; ⟨q, hq⟩
  exact ⟨.non, _, d_write I (by rw [e1]; exact True.intro) hs he (dk_new (by have := length_mergeK more kvs; omega) d1 (rel2.merge rel) dd'), rfl, q⟩
theorem cs_dupd (i : Nat) {x : Str} {keys : List (Option Expr)} {values : List Expr} {fs : List (Str × Ex)} {p1 apos cpos dpos pos : Pos} (h : CPs X C E dpos keys values fs) (h0 : keys ≠ [] := by simp) (h15 : keys.length ≤ 15 := by decide) (hN : X.N[i]? = some x := by rfl) (hv : Vis X.env.scope x := by first | exact Or.inl rfl | exact Or.inr (Or.inl rfl) | exact Or.inr (Or.inr rfl)) (hd : (x == ("__debug__" : Str)) = false := by decide)
    (hcd : (x == ("__classdict__" : Str)) = false := by decide) (hbase : attributeBase (.Name x p1) "update" X.env (eval (.Name x p1) X.env) = eval (.Name x p1) X.env := by rfl)
    (hfew : ((backTo cpos (starEach [.Dict keys values dpos] X.env)).all (fun x => !x.1) && (backToKw cpos (keywordEach [] X.env)).all (fun x => x.1.isSome) && decide ([Expr.Dict keys values dpos].length + ([] : List Keyword).length + (if ([] : List Keyword).isEmpty then 0 else 1) < 30)) = true := by rfl)
    (hline : (apos.endLine == cpos.line) = true := by rfl) (hs : starEach [.Dict keys values dpos] X.env = (false, eval (.Dict keys values dpos) X.env) :: starEach [] X.env := by rfl) (hplain : (backTo cpos (starEach [] X.env)).any (·.1) = false := by rfl) (hsw : swapsWith (.Call (.Attribute (.Name x p1) "update" apos) [.Dict keys values dpos] [] cpos) none pos.line X.env = pure false := by rfl) :
    CS X C E (.Expr (.Call (.Attribute (.Name x p1) "update" apos) [.Dict keys values dpos] [] cpos) pos) (sDUpd i fs) :=
  PS.imp (ps_expr (pe_bm PySem.F.plainAttrs_dict PySem.F.slot_dict_update PySem.F.type_dict_update mt_upd (pe_var hN hv hd hcd) (pa_cons (pe_dic h h0 h15) pa_nil hs) hbase hfew hline hs hplain) hsw) fun De σ H ⟨g0, H0, gs, g, S, t, st, gr, w, s, o, p⟩ => by
    unfold sDUpd at p
    cases e : S[i]? with
    | none => rw [e] at p; exact p.elim
    | some sv =>
      rw [e] at p
      cases sv with
      | un => exact p.elim
      | val d => exact p.elim
      | own d => exact p.elim
      | raw d => exact p.elim
      | exn d => exact p.elim
      | dcT d => exact p.elim
      | dic ks =>
        obtain ⟨a, vs, h1, h2, h3, h4, h5⟩ := s.dic i ks e
        refine ⟨_, h1, .inr (.inr (.inl ⟨rfl, .inl ⟨vs, h2⟩⟩)), ⟨g, S, t, w, s, p.bnd0.all st fun ms t1 g1 H1 er st1 w1 q1 b ws hb hb1 rs fb nt => ?_⟩⟩
        have q2 := q1 g1 H1 (st.trans st1) w1
        have q2 : Post C E g0 H0 (Rs X.K H0 gs De) ((if ks.length < 1000 then ret (Fl.nx (S.set i (.dic (dMerge ks (dMerge [] ms))))) else stuck) t1) := q2
        split at q2
        · rename_i hz
          obtain ⟨a', vs', k1, k2, k3, k4, k5⟩ := (s.stp w st1).dic i ks e
          rw [h1] at k1
          cases k1
          have nab : a ≠ b := fun z => by rw [z, hb] at h2; cases h2
          refine ⟨a, b, vs', ws, rfl, rfl, nab, k2, hb1, ?_, ?_⟩
          · have l1 := k3.length
            have l2 := rs.length
            have l3 := dMerge_len ms []
            have l4 := evsK_length er
            have l5 := h.2.2.2
            rw [List.length_nil] at l3
            rw [sizeLine_eq]
            omega
          exact q2 g1 _ ((st.trans st1).updO (o i _ a e rfl h1)) (w1.updD k2 k4 k5 (fun _ z => by cases z)) _ (gr.trans st1.gw) ((s.stp w st1).updX e rfl h1 rfl ⟨a, _, rfl, upd_same, RpK.merge rs k3, k4, k5⟩) (o.updX e rfl)
        · exact q2.elim
end
end BG
set_option Elab.async false
set_option linter.all false
set_option maxRecDepth 100000
set_option maxHeartbeats 4000000
namespace BG
open PySem PySem.Spec PyProof.Rows L2
section
variable {X : Cx} {C : Cn} {E : XK}
theorem ps_freeze {st : Stmt} {t : TS} (h : PS X st t) : PS X st (fun De σ H => ∃ d kvs, H d = some (.dK kvs) ∧ ∀ od, t De σ (upd H d (.frz od (.dK kvs)))) := ⟨fun pins s σ H D I ⟨d, kvs, e, q⟩ => by
  obtain ⟨od, I'⟩ := I.lock e True.intro
  exact h.run pins s σ _ D I' (q od)⟩
def sFrzD (i : Nat) (a : Stm) : Stm := fun S => match S[i]? with
  | some (.dic ks) => a (S.set i (.val (.dct (ks.map (·.1)) (ks.map (·.2)))))
  | _ => stuck
theorem zip_fs {α β : Type} : ∀ l : List (α × β), (l.map (·.1)).zip (l.map (·.2)) = l
  | [] => rfl
  | (a, b) :: l => by rw [List.map_cons, List.map_cons, List.zip_cons_cons, zip_fs l]
theorem cs_frzD (i : Nat) {st : Stmt} {f : Stm} (h : CS X C E st f) : CS X C E st (sFrzD i f) := PS.imp (ps_freeze h) fun De σ H ⟨g0, H0, gs, g, S, t, st, gr, w, s, o, p⟩ => by
  unfold sFrzD at p
  cases e : S[i]? with
  | none => rw [e] at p; exact p.elim
  | some sv =>
    rw [e] at p
    cases sv with
    | un => exact p.elim
    | val d => exact p.elim
    | own d => exact p.elim
    | raw d => exact p.elim
    | exn d => exact p.elim
    | dcT d => exact p.elim
    | dic ks =>
      obtain ⟨a, vs, h1, h2, h3, h4, h5⟩ := s.dic i ks e
      have h0 := o i _ a e rfl h1
      refine ⟨a, vs, h2, fun od => ?_⟩
      have sm : Same g.Fz (upd g.Fz a (.frz od (.dK vs))) := fun b o h => by rw [upd_ne (ne_of_none h h4)]; exact h
      have w1 : Wf C g (upd H a (.frz od (.dK vs))) t := w.updD h2 h4 h5 (fun _ z => by cases z)
      refine ⟨g0, H0, gs, ⟨upd g.Fz a (.frz od (.dK vs)), g.tw, g.ad, g.lg⟩, _, t, ⟨st.fz.trans sm, st.tw.trans .of, st.twn, (st.updO h0).frm, (st.updO h0).thr, fun b h => ?_⟩, gr.trans ⟨sm, .of⟩, ⟨fun b o h => ?_, ⟨w1.tw.1, w1.tw.2.frz sm⟩, fun b h => ?_, w1.tab, nft_upd w.nft fun _ z => by cases z⟩, ⟨by rw [List.length_set]; exact s.len, fun j x e2 => ?_, fun j k p x y e1 e2 o1 o2 e3 e4 => ?_⟩, fun j dj p e1 ox e2 => ?_, p⟩
      · have nb : b ≠ a := fun z => h0 (by rw [← z]; exact h)
        show upd g.Fz a _ b = _
        rw [upd_ne nb]
        exact st.new b h
      · have h : upd g.Fz a (.frz od (.dK vs)) b = some o := h
        by_cases hb : b = a
        · rw [hb, upd_same] at h ⊢; exact h
        · rw [upd_ne hb] at h ⊢
          exact w.fz b o h
      · have nb : b ≠ a := fun z => h5 (by rw [← z]; exact h)
        show upd g.Fz a _ b = _
        rw [upd_ne nb]
        exact w.ntw b h
      · have tw' : TwLe g (⟨upd g.Fz a (.frz od (.dK vs)), g.tw, g.ad, g.lg⟩ : G) := .of
        by_cases hj : i = j
        · subst hj
          obtain ⟨hl, _⟩ := List.getElem?_eq_some_iff.mp e
          rw [List.getElem?_set_self hl] at e2
          cases e2
          refine ⟨_, h1, .dct (o := od) (vs := vs.map (·.2)) ?_ (by rw [List.length_map, List.length_map, h3.length]) (RpA.mono (g' := ⟨upd g.Fz a (.frz od (.dK vs)), g.tw, g.ad, g.lg⟩) sm tw' h3.2)⟩
          show upd g.Fz a _ a = _
          rw [upd_same, ← h3.1, zip_fs]
        · rw [List.getElem?_set_ne hj] at e2
          have h := s.ok j x e2
          cases x with
          | un => trivial
          | raw v => exact h
          | exn c =>
            obtain ⟨b, k1, k2⟩ := h
            exact ⟨b, k1, by rw [upd_ne (fun z => by rw [z, h2] at k2; unfold ExK at k2; cases k2)]; exact k2⟩
          | val d => obtain ⟨v, k1, k2⟩ := h; exact ⟨v, k1, Rp.mono (g' := ⟨upd g.Fz a (.frz od (.dK vs)), g.tw, g.ad, g.lg⟩) sm tw' k2⟩
          | own dj =>
            obtain ⟨b, us, k1, k2, k3, k4⟩ := h
            have nb : b ≠ a := fun z => hj (s.dis i j a _ _ e e2 rfl rfl h1 (by rw [← z]; exact k1))
            exact ⟨b, us, k1, by rw [upd_ne nb]; exact k2, RpA.mono (g' := ⟨upd g.Fz a (.frz od (.dK vs)), g.tw, g.ad, g.lg⟩) sm tw' k3, by show upd g.Fz a _ b = _; rw [upd_ne nb]; exact k4.1, k4.2⟩
          | dcT kj =>
            obtain ⟨b, L, k1, k2, k3, k4⟩ := h
            have nb : b ≠ a := fun z => hj (s.dis i j a _ _ e e2 rfl rfl h1 (by rw [← z]; exact k1))
            exact ⟨b, L, k1, by rw [upd_ne nb]; exact k2, ⟨k3.keys, k3.nd, fun x hx => Rp.mono (g' := ⟨upd g.Fz a (.frz od (.dK vs)), g.tw, g.ad, g.lg⟩) sm tw' (k3.kt x hx), RpA.mono (g' := ⟨upd g.Fz a (.frz od (.dK vs)), g.tw, g.ad, g.lg⟩) sm tw' k3.vs⟩, by show upd g.Fz a _ b = _; rw [upd_ne nb]; exact k4.1, k4.2⟩
          | dic kj =>
            obtain ⟨b, us, k1, k2, k3, k4, k5⟩ := h
            have nb : b ≠ a := fun z => hj (s.dis i j a _ _ e e2 rfl rfl h1 (by rw [← z]; exact k1))
            exact ⟨b, us, k1, by rw [upd_ne nb]; exact k2, ⟨k3.1, RpA.mono (g' := ⟨upd g.Fz a (.frz od (.dK vs)), g.tw, g.ad, g.lg⟩) sm tw' k3.2⟩, by show upd g.Fz a _ b = _; rw [upd_ne nb]; exact k4, k5⟩
      · have n1 := set_ow e1 o1
        have n2 := set_ow e2 o2
        rw [List.getElem?_set_ne n1] at e1
        rw [List.getElem?_set_ne n2] at e2
        exact s.dis j k p x y e1 e2 o1 o2 e3 e4
      · have n := set_ow e1 ox
        rw [List.getElem?_set_ne n] at e1
        exact o j dj p e1 ox e2
def dAt (S : Sl) (i : Nat) : Option (List (Key × D)) := match S[i]? with
  | some (.dic ks) => some ks
  | some (.val (.dct ks ds)) => some (ks.zip ds)
  | _ => none
theorem RpA.zipK {K : PySem.W.Frag} {g : G} : ∀ {ks : List Key} {vs : List V} {ds : List D}, RpA K g vs ds → ks.length = vs.length → RpK K g (ks.zip vs) (ks.zip ds)
  | [], _, _, _, _ => .nil
  | k :: ks, [], _, _, h => by cases h
  | k :: ks, v :: vs, _, r, h => by
    cases r with
    | cons a b => exact .cons a (RpA.zipK b (by simpa using h))
theorem dAt_at {K : PySem.W.Frag} {g : G} {H : Hp} {σ : L2.St} {S : Sl} {t : Tn} {i : Nat} {ks : List (Key × D)} (w : Wf C g H t) (s : SL K g H σ S) (h : dAt S i = some ks) : ∃ a vs, σ[i]? = some (some (.ref a)) ∧ Rd H a (.dK vs) ∧ RpK K g vs ks := by
  unfold dAt at h
  cases e : S[i]? with
  | none => rw [e] at h; cases h
  | some sv =>
    rw [e] at h
    cases sv with
    | un => cases h
    | own d => cases h
    | raw d => cases h
    | exn d => cases h
    | dcT d => cases h
    | dic ks' =>
      cases h
      obtain ⟨a, vs, h1, h2, h3, _⟩ := s.dic i _ e
      exact ⟨a, vs, h1, .inl h2, h3⟩
    | val d =>
      cases d with
      | dct ks' ds =>
        cases h
        obtain ⟨v, h1, h2⟩ := s.val i _ e
        cases h2 with
        | dct e1 l ra => exact ⟨_, _, h1, .inr ⟨_, w.fz _ _ e1⟩, RpA.zipK ra l⟩
      | _ => cases h
/-- d[k] -/
def eDIx (i : Nat) (k : Ex) : Ex := fun S => match dAt S i with
  | some _ => bnd (k S) fun kd => match dAt S i, keyD kd with
    | some ks, some y => match dLook ks y with
      | some d => ret d
      | none => stuck
    | _, _ => stuck
  | none => stuck
theorem ce_dix (i : Nat) {x : Str} {k : Expr} {fk : Ex} {p1 pos : Pos} (hu : X.A.units + 1 < cLine) (hk : CE X C E k fk) (hN : X.N[i]? = some x := by rfl) (hv : Vis X.env.scope x := by first | exact Or.inl rfl | exact Or.inr (Or.inl rfl) | exact Or.inr (Or.inr rfl)) (hd : (x == ("__debug__" : Str)) = false := by decide)
    (hcd : (x == ("__classdict__" : Str)) = false := by decide) (hs : NoSl k := by exact fun _ _ => rfl) : CE X C E (.Subscript (.Name x p1) k pos) (eDIx i fk) :=
  PE.imp (pe_dget hu (pe_var hN hv hd hcd) hk hs) fun σ H Q ⟨g, S, t, w, s, p⟩ => by
    unfold eDIx at p
    cases e : dAt S i with
    | none => rw [e] at p; exact p.elim
    | some ks =>
      rw [e] at p
      obtain ⟨a, vs, h1, h2, h3⟩ := dAt_at w s e
      refine ⟨_, h1, ⟨g, S, t, w, s, p.bnd.imp fun kd t1 g1 H1 st1 w1 q v r => ?_⟩⟩
      obtain ⟨a', vs', k1, k2, k3⟩ := dAt_at w1 (s.stp w st1) e
      rw [h1] at k1
      cases k1
      cases ek : keyD kd with
      | none => rw [ek] at q; exact q.elim
      | some y =>
        rw [ek] at q
        have q : PostQ X.K C E g1 H1 Q ((match dLook ks y with | some d => ret d | none => stuck) t1) := q
        cases el : dLook ks y with
        | none => rw [el] at q; exact q.elim
        | some d =>
          rw [el] at q
          obtain ⟨u, m1, m2⟩ := (k3.look y).2 d el
          refine ⟨a, u, rfl, .inl ⟨vs', y, k2, r.key ek, m1.symm⟩, pRetV q w1 m2⟩
/-- the keys of a frozen dict -/
def itDic (i : Nat) : Sl → M (List D) := fun S => match S[i]? with
  | some (.val (.dct ks _)) => ret (ks.map kD)
  | _ => stuck
theorem ci_dic {tg : Expr} (i : Nat) {x : Str} {pos : Pos} (hN : X.N[i]? = some x := by rfl) (hv : Vis X.env.scope x := by first | exact Or.inl rfl | exact Or.inr (Or.inl rfl) | exact Or.inr (Or.inr rfl)) (hd : (x == ("__debug__" : Str)) = false := by decide)
    (hcd : (x == ("__classdict__" : Str)) = false := by decide) : CI X C E tg (.Name x pos) (itDic i) := PI.imp (pi_keys (pe_var hN hv hd hcd)) fun σ H R ⟨g, S, t, w, s, p⟩ => by
  unfold itDic at p
  cases e : S[i]? with
  | none => rw [e] at p; exact p.elim
  | some sv =>
    rw [e] at p
    cases sv with
    | un => exact p.elim
    | own d => exact p.elim
    | raw d => exact p.elim
    | exn d => exact p.elim
    | dic d => exact p.elim
    | dcT d => exact p.elim
    | val d =>
      cases d with
      | dct ks ds =>
        obtain ⟨v, h1, h2⟩ := s.val i _ e
        cases h2 with
        | @dct a o ks vs ds e1 l ra =>
          refine ⟨_, h1, a, o, rfl, .inl ⟨_, w.fz _ _ e1, postRet p w _ fun m H' sm => ⟨fun d ed => ?_, fun hl => ⟨sm _ _ e1, ?_⟩⟩⟩⟩
          · rw [List.getElem?_map] at ed
            cases ek : ks[m]? with
            | none => rw [ek] at ed; cases ed
            | some k =>
              rw [ek] at ed
              cases ed
              have hm : m < ks.length := (List.getElem?_eq_some_iff.mp ek).1
              refine ⟨⟨sm _ _ e1, by rw [List.length_zip]; omega⟩, fun y H2 ⟨e2, k', v', e3, e4⟩ => .inl ⟨e2, ?_⟩⟩
              rw [List.getElem?_zip_eq_some] at e3
              have : k = k' := by
                have := e3.1
                rw [ek] at this
                exact Option.some.inj this
              subst this e4
              cases k with
              | inl i => exact .int i
              | inr i => exact .str i
          · rw [List.length_map] at hl; rw [List.length_zip]; omega
      | _ => exact p.elim
end
end BG
set_option Elab.async false
set_option linter.all false
set_option maxRecDepth 100000
set_option maxHeartbeats 4000000
namespace BG
open PySem PySem.Spec PyProof.Rows L2
section
variable {X : Cx} {pins : List (Addr × Obj)} {σ : L2.St} {H : Hp} {s : Shared}
theorem Inv.track {a : Addr} {o : HO} (I : L2.Inv X pins σ H s) (na : H a = none) (nL : a ≠ X.env.locals) (nC : ∀ v, ¬ s.heap.IsCell a v) (n0 : X.s_0.heap.get? a = none) (np : ∀ p ∈ X.pn ++ pins, p.1 ≠ a) (ok : ObjOk X.prog X.w (upd H a o) s.heap a o) : L2.Inv X pins σ (upd H a o) s := by
  refine ⟨I.ok, I.os, I.bare, ⟨I.base.keep, I.base.slot, fun b u e1 e2 e3 => ?_, I.base.there, fun b xs e => ?_, fun b u v e => ?_, fun b ps e => ?_⟩, I.loc, I.cell, ?_, fun x c e => ?_, fun p hp => ?_, ?_, I.len⟩
  · rw [upd_ne (fun z => by rw [z, n0] at e1; cases e1)]; exact I.base.free b u e1 e2 e3
  · have := I.base.tups b xs e
    rw [upd_ne (ne_of_none this na)]; exact this
  · have := I.base.frzs b u v e
    rw [upd_ne (ne_of_none this na)]; exact this
  · obtain ⟨more, h⟩ := I.base.tbls b ps e
    exact ⟨more, by rw [upd_ne (ne_of_none h na)]; exact h⟩
  · rw [upd_ne (Ne.symm nL)]; exact I.free
  · obtain ⟨v, hv⟩ := I.cell x c e
    rw [upd_ne (fun z => nC v (by rw [← z]; exact hv))]; exact I.freeC x c e
  · obtain ⟨h1, h2, h3⟩ := I.pin p hp
    exact ⟨h1, by rw [upd_ne (np p hp)]; exact h2, h3⟩
  · intro b u e
    by_cases hb : b = a
    · subst hb
      rw [upd_same] at e
      cases e
      exact ok
    · rw [upd_ne hb] at e
      exact (I.hok b u e).stay (fun c v _ q => q) (fun c q => by rw [upd_ne (ne_of_none q na)]; exact q) fun c xs q => by rw [upd_ne (ne_of_none q na)]; exact q
end
/-- what the clause wishes: slot i is n's -/
def wKeep (K : PySem.W.Frag) (c : Value) (i ln : Nat) (ts : Addr → TS) (D : Ends) : WX := fun cls d σ H =>
  PySem.W.exmOne K cls c = some true ∧ d = none ∧ ∀ a, H a = none → σ.length = ln → ts a { nx := fun σ' H' => D.nx (σ'.set i none) (upd H' a (ExK cls a)), rt := fun _ _ => False, bk := fun _ _ => False, ct := fun _ _ => False } (σ.set i (some (.ref a))) H
section
variable {X : Cx} {x n : Str} {c : Value} {i : Nat} {body suite : List Stmt} {b₀ : Stmt} {np pos pos' : Pos} {tb : WX → TS} {ts : Addr → TS}
theorem ps_try_keep (hs : X.stack = X.env :: X.outer) (hf : X.env.frame = some X.env.locals) (hex : X.ex = []) (hN : X.N.Nodup) (hi : X.N[i]? = some n) (hln : X.env.kindOf n = some .local) (hc : Names X x c)
    (hb : ∀ (W : WX) (pn : List (Addr × Obj)) (xe : Value → Shared → Prop), L2.Takes (X.tr pn xe) W → PSs (X.tr pn xe) body (tb W))
    (hsu : ∀ (a : Addr) (oe : Obj) (pn : List (Addr × Obj)), PSs (X.suite a ((a, oe) :: pn)) (b₀ :: suite) (ts a)) :
    PS X (.Try body [.ExceptHandler (some (.Name x np)) (some n) (b₀ :: suite) pos'] [] [] pos) (fun D σ H => tb (wKeep X.K c i X.N.length ts D) D σ H) := by
  refine ⟨fun pins s σ H D I h => ?_⟩
  have ok := I.ok
  have fr : X.A.frames = some (X.env :: X.outer) := by rw [ok.frames, hs]
  refine wpAny_Try_except (wpAny_mono ((hb (wKeep X.K c i X.N.length ts D) (X.pn ++ pins) (fun e s₁ => wpAny (model X.prog X.w) X.A (noteFrame e X.env) (fun _ s₂ => wpAny (model X.prog X.w) X.A (setFlight e none) (fun _ s₃ => wpAny (model X.prog X.w) X.A (handleBy e X.env [.ExceptHandler (some (.Name x np)) (some n) (b₀ :: suite) pos']) (SP X pins D) X.xe s₃) X.xe s₂) X.xe s₁) (fun u s' xx => ?_)).run [] s σ H D (I.toTry _) h) (fun f s1 hsp => ?_) (fun e s1 he => he))
  · obtain ⟨a, B, sI, pins', σ', H', cls, d, rfl, J', nb, up, sky, na, os, ag, hb1, hd0, hyes⟩ := xx
    subst hd0
    have J : L2.Inv X pins σ' H' sI := J'.ofTry ok
    have sky2 : Sky B (X.env :: X.outer) a (Zc cls none) X.env.locals s'.heap := by rw [← hs]; exact sky
    have Ba : B.get? a = none := by rcases sky2 with q | q | q <;> exact q.2.1
    show wpAny (model X.prog X.w) X.A (noteFrame (.ref a) X.env) _ _ s'
    refine L2.Sky.land Zc.steady fr hf sky2 fun h3 fl3 up3 => ?_
    have J3 : L2.Inv X pins σ' H' { s' with heap := h3 } := J.landed nb fl3.1 (up.trans up3) os ag
    obtain ⟨ob3, us3, hk3, hy3, hw3⟩ := fl3.there
    have notf : a ∉ frs (X.env :: X.outer) := fun hm => by
      obtain ⟨_, o', e', hnf⟩ := fl3.2.2.1.mem hm
      rw [hk3] at e'; cases e'
      exact hnf _ hw3
    have aI : sI.heap.get? a = none := by
      cases z : sI.heap.get? a with
      | none => rfl
      | some o =>
        have := nb a o z (by rw [hs]; exact notf)
        rw [Ba] at this; cases this
    have nL : a ≠ X.env.locals := fun z => notf (List.mem_filterMap.mpr ⟨X.env, List.mem_cons_self, by rw [hf, z]⟩)
    have nF : a ∉ X.fs := fun hm => by
      obtain ⟨e, he, q⟩ := List.mem_filterMap.mp hm
      exact notf (List.mem_filterMap.mpr ⟨e, List.mem_cons_of_mem _ he, q⟩)
    have a0 : X.s_0.heap.get? a = none := by
      cases z : X.s_0.heap.get? a with
      | none => rfl
      | some o =>
        obtain ⟨o', e'⟩ := J.base.there a o z (by rw [hex]; exact fun q => nomatch q)
        rw [aI] at e'; cases e'
    have ap : ∀ p ∈ X.pn ++ pins, p.1 ≠ a := fun p hp z => by
      have := (J.pin p hp).1
      rw [z, aI] at this; cases this
    have S3 := J3.suite hk3 hw3 na nL nF
    refine wpAny_handleBy_cons (codeAny_handlers_test ?_) (by intro q; cases q)
    have lt1 : PySem.W.Looks (model X.prog X.w) h3 (typeOf (.ref a)) cls := fun A Q E s k q => wpAny_typeOf_ref (k _ _ hk3) (by rw [hy3.1]; exact q)
    have lm1 := PySem.W.exm_one (M := model X.prog X.w) J3.kIn lt1 hb1
    have test : ∀ {Q : Value → Shared → Prop} {E : Value → Shared → Prop}, Q c { s' with heap := h3 } → wpAny (model X.prog X.w) (X.A.mark (some (.ref a))) (eval (.Name x np) X.env) Q E { s' with heap := h3 } := fun {Q E} q => by
      rcases hc with ⟨hg, hdbg, hm | ⟨hm, hv, hnn⟩⟩
      · exact ld_glob (X := X.suite a ((a, ob3) :: (X.pn ++ pins))) S3 hg hm q hdbg
      · exact ld_blt (X := X.suite a ((a, ob3) :: (X.pn ++ pins))) S3 hg hm hv q hnn hdbg
    refine test (lm1.here (codeAny_handlers_suite_as (HandSPX.lands_againZ fl3 fun h4 fl4 up4 => ?_)))
    have J4 : L2.Inv X pins σ' H' { s' with heap := h4 } := J.landed nb fl4.1 ((up.trans up3).trans up4) os ag
    obtain ⟨ob4, us4, hk4, hy4, hw4⟩ := fl4.there
    have S4 := J4.suite hk4 hw4 na nL nF
    refine store_ok (X := X.suite a ((a, ob4) :: (X.pn ++ pins))) (v := .ref a) S4 hN hi (.inl hln) rfl (fun s5 S5 => ?_) (.inr hln)
    refine wpAny_mono ((hsu a ob4 (X.pn ++ pins)).run [] s5 _ H' _ S5 (hyes a na J.len)) (fun f s6 hsp => ?_) (fun _ _ z => False.elim z)
    cases f with
    | next =>
      obtain ⟨σ6, H6, S6, q6⟩ := hsp
      obtain ⟨p1, p2, p3, p4, p5⟩ := S6.pin (a, ob4) (List.mem_append_left _ (List.mem_cons_self ..))
      have T6 : L2.Inv X ((a, ob4) :: pins) σ6 H6 s6 := ⟨ok, S6.os, S6.bare, S6.base, S6.loc, S6.cell, S6.free, S6.freeC, fun p hp => S6.pin p (by
        rcases List.mem_append.mp hp with h | h
        · exact List.mem_append_left _ (List.mem_cons_of_mem _ (List.mem_append_left _ h))
        · rcases List.mem_cons.mp h with h | h
          · rw [h]; exact List.mem_append_left _ (List.mem_cons_self ..)
          · exact List.mem_append_left _ (List.mem_cons_of_mem _ (List.mem_append_right _ h))), S6.hok, S6.len⟩
      refine gone_ok T6 hN hi hln fun s7 J7 => ?_
      obtain ⟨e1, e2, e3, e4, e5⟩ := J7.pin (a, ob4) (List.mem_append_right _ (List.mem_cons_self ..))
      have J8 : L2.Inv X pins (σ6.set i none) H6 s7 := ⟨ok, J7.os, J7.bare, J7.base, J7.loc, J7.cell, J7.free, J7.freeC, fun p hp => J7.pin p (by
        rcases List.mem_append.mp hp with h | h
        · exact List.mem_append_left _ h
        · exact List.mem_append_right _ (List.mem_cons_of_mem _ h)), J7.hok, J7.len⟩
      refine ⟨_, _, Inv.track J8 e2 e3 (fun v ⟨o, g1, g2⟩ => ?_) a0 ap ?_, q6⟩
      · rw [e1] at g1
        cases g1
        exact e5 v g2
      · exact ⟨⟨ob4, us4, e1, hy4.1, hy4.2, hw4⟩, ⟨ob4, e1⟩, fun _ _ ⟨o, v, q, r⟩ k => ⟨o, v, k o q, r⟩⟩
    | brk => obtain ⟨_, _, _, q⟩ := hsp; exact q.elim
    | cont => obtain ⟨_, _, _, q⟩ := hsp; exact q.elim
    | ret u => obtain ⟨_, _, _, _, _, q⟩ := hsp; exact q.elim
  · cases f with
    | next => obtain ⟨σ', H', J', q⟩ := hsp; exact wpAny_execs_nil ⟨σ', H', J'.ofTry ok, q⟩
    | brk => obtain ⟨σ', H', J', q⟩ := hsp; exact ⟨σ', H', J'.ofTry ok, q⟩
    | cont => obtain ⟨σ', H', J', q⟩ := hsp; exact ⟨σ', H', J'.ofTry ok, q⟩
    | ret u => obtain ⟨v, σ', H', J', r, q⟩ := hsp; exact ⟨v, σ', H', J'.ofTry ok, r, q⟩
end
end BG
set_option Elab.async false
set_option linter.all false
set_option maxRecDepth 100000
set_option maxHeartbeats 4000000
namespace BG
open PySem PySem.Spec PyProof.Rows L2
/-- what isinstance asks of an exception class of the program -/
structure ExcF (K : PySem.W.Frag) (c : Addr) : Prop where
  cl : (PySem.W.clsIn K c).isSome = true
  ga : PySem.W.findIn K (.ref c) "__getattribute__" = some (some (.builtin "BaseException.__getattribute__"))
  gt : ∃ gt, PySem.W.findIn K (.ref c) "__getattr__" = some gt
  sub : PySem.W.subIn K (.ref c) (.type "BaseException") = some true
  at_ : PySem.W.findIn K (.ref c) "__class__" = some (some (.builtin "object.__class__"))
  gs : PySem.W.specialIn K (.builtin "object.__class__") "__get__" = some (some (.builtin "getset_descriptor.__get__"))
  tk : PySem.W.takesIn K (.builtin "object.__class__") = some true
  mr : PySem.W.mroIn K c (.type "object") = some true
section
variable {X : Cx} {C : Cn} {E : XK}
def rIsX (K : PySem.W.Frag) : List V → Hp → VK → Prop := fun xs H Q => ∃ a c cv u b, xs = [.ref a, cv] ∧ ClsV cv u ∧ H a = some (ExK (.ref c) a) ∧ ExcF K c ∧ PySem.W.kitOne K (.ref c) u = some b ∧ Q (.bl b) H
theorem call_isX : CallR X (.builtin "isinstance") (rIsX X.K) := by
  intro pins s σ H xs us Q I rl h
  obtain ⟨a, c, cv, u, b, rfl, k, ha, F, e, q⟩ := h
  obtain ⟨u1, u2, rfl, r1, r2⟩ := vals2 rl
  have e2 := k.eq r2
  subst e2
  cases r1
  obtain ⟨⟨oe, vs, g1, g2, g3, g4⟩, _, _⟩ := I.hok a _ ha
  obtain ⟨gt, hgt⟩ := F.gt
  exact PySem.W.kia_one (PySem.W.kitx_exc (x := a) (ox := oe) (od := none) F.cl F.ga hgt F.sub F.at_ F.gs F.tk F.mr) I.kIn ⟨g1, g2, by unfold PySem.W.notCls; rw [g4], by rw [g3]; trivial⟩ e (fun z => nomatch z) fun tk => ⟨.bl b, H, I.tok tk, rfl, q⟩
/-- isinstance(x, C) of a slot that holds an exception -/
def eIsE (K : PySem.W.Frag) (exs : List Addr) (i : Nat) (u : Value) : Ex := fun S => match S[i]? with
  | some (.exn c) => if c ∈ exs then match PySem.W.kitOne K (.ref c) u with
    | some b => ret (.bl b)
    | none => stuck
    else stuck
  | _ => stuck
theorem isE_of {K : PySem.W.Frag} {exs : List Addr} {i : Nat} {u : Value} {cv : V} {σ : L2.St} {H : Hp} {Q : VK} {g : G} {S : Sl} {t : Tn} (hF : ∀ c ∈ exs, ExcF K c) (kc : ClsV cv u) (w : Wf C g H t) (s : SL K g H σ S) (p : PostQ K C E g H Q (eIsE K exs i u S t)) :
    ∃ v, σ[i]? = some (some v) ∧ rIsX K [v, cv] H Q := by
  unfold eIsE at p
  cases e : S[i]? with
  | none => rw [e] at p; exact p.elim
  | some sv =>
    rw [e] at p
    cases sv with
    | exn c =>
      have p : PostQ K C E g H Q ((if c ∈ exs then match PySem.W.kitOne K (.ref c) u with | some b => ret (D.bl b) | none => stuck else stuck) t) := p
      split at p
      · rename_i hc
        cases ek : PySem.W.kitOne K (.ref c) u with
        | none => rw [ek] at p; exact p.elim
        | some b =>
          rw [ek] at p
          obtain ⟨a, h1, h2⟩ := s.ok i _ e
          exact ⟨_, h1, a, c, cv, u, b, rfl, kc, h2, hF c hc, ek, pRetV p w (.bl b)⟩
      · exact p.elim
    | un => exact p.elim
    | val d => exact p.elim
    | own d => exact p.elim
    | dic d => exact p.elim
    | dcT d => exact p.elim
    | raw d => exact p.elim
theorem ce_isE (i : Nat) {exs : List Addr} {x y : Str} {u : Addr} {p q q2 pos : Pos} (hF : ∀ c ∈ exs, ExcF X.K c) (hm : X.mg "isinstance" = none) (hmT : X.mg y = some (.ref u)) (hN : X.N[i]? = some x := by rfl) (hv : Vis X.env.scope x := by first | exact Or.inl rfl | exact Or.inr (Or.inl rfl) | exact Or.inr (Or.inr rfl)) (hd : (x == ("__debug__" : Str)) = false := by decide)
    (hcd : (x == ("__classdict__" : Str)) = false := by decide) (hg : Gl X "isinstance" := by rfl) (hgT : Gl X y := by rfl) (hvi : bootBuiltins "isinstance" = some (.builtin "isinstance") := by decide +kernel) (hdb : (y == ("__debug__" : Str)) = false := by decide)
    (hs : starEach [.Name x q, .Name y q2] X.env = (false, eval (.Name x q) X.env) :: starEach [.Name y q2] X.env := by rfl) (hs2 : starEach [.Name y q2] X.env = (false, eval (.Name y q2) X.env) :: starEach [] X.env := by rfl) (hp : (backTo pos (starEach [.Name y q2] X.env)).any (·.1) = false := by rfl) :
    CE X C E (.Call (.Name "isinstance" p) [.Name x q, .Name y q2] [] pos) (eIsE X.K exs i (.ref u)) :=
  PE.imp (pe_callB call_isX hg hm hvi (pa_cons (pe_var hN hv hd hcd) (pa_cons (pe_glob (v := .ref u) hgT hmT rfl hdb) pa_nil hs2) hs) (by decide) (by decide) hs hp) fun σ H Q ⟨g, S, t, w, s, p⟩ => by
    obtain ⟨v, h1, h2⟩ := isE_of hF (.own u) w s p
    exact ⟨v, h1, h2⟩
theorem ce_isEb (i : Nat) {exs : List Addr} {x y : Str} {n : String} {p q q2 pos : Pos} (hF : ∀ c ∈ exs, ExcF X.K c) (hm : X.mg "isinstance" = none) (hmT : X.mg y = none) (hvT : bootBuiltins y = some (.type n)) (hN : X.N[i]? = some x := by rfl) (hv : Vis X.env.scope x := by first | exact Or.inl rfl | exact Or.inr (Or.inl rfl) | exact Or.inr (Or.inr rfl)) (hd : (x == ("__debug__" : Str)) = false := by decide)
    (hcd : (x == ("__classdict__" : Str)) = false := by decide) (hg : Gl X "isinstance" := by rfl) (hgT : Gl X y := by rfl) (hvi : bootBuiltins "isinstance" = some (.builtin "isinstance") := by decide +kernel) (hnn : y ≠ "__name__" := by decide) (hdb : (y == ("__debug__" : Str)) = false := by decide)
    (hs : starEach [.Name x q, .Name y q2] X.env = (false, eval (.Name x q) X.env) :: starEach [.Name y q2] X.env := by rfl) (hs2 : starEach [.Name y q2] X.env = (false, eval (.Name y q2) X.env) :: starEach [] X.env := by rfl) (hp : (backTo pos (starEach [.Name y q2] X.env)).any (·.1) = false := by rfl) :
    CE X C E (.Call (.Name "isinstance" p) [.Name x q, .Name y q2] [] pos) (eIsE X.K exs i (.type n)) :=
  PE.imp (pe_callB call_isX hg hm hvi (pa_cons (pe_var hN hv hd hcd) (pa_cons (pe_bltn (v := .ty n) hgT hmT hvT rfl hnn hdb) pa_nil hs2) hs) (by decide) (by decide) hs hp) fun σ H Q ⟨g, S, t, w, s, p⟩ => by
    obtain ⟨v, h1, h2⟩ := isE_of hF (.ty n) w s p
    exact ⟨v, h1, h2⟩
/-- x is None, of a slot -/
def eNoE (i : Nat) : Ex := fun S => match S[i]? with
  | some (.val d) => ret (.bl (isN d))
  | some (.exn _) => ret (.bl false)
  | _ => stuck
theorem isE_isN {v : V} {d : D} {K : PySem.W.Frag} {g : G} (r : Rp K g v d) : (v = .non) ↔ isN d = true := by
  cases r <;> first | exact ⟨fun _ => rfl, fun _ => rfl⟩ | (constructor <;> intro h <;> cases h)
theorem ct_noE (i : Nat) {x : Str} {j : Nat} {p p2 pos : Pos} (hN : X.N[i]? = some x := by rfl) (hv : Vis X.env.scope x := by first | exact Or.inl rfl | exact Or.inr (Or.inl rfl) | exact Or.inr (Or.inr rfl)) (hd : (x == ("__debug__" : Str)) = false := by decide)
    (hcd : (x == ("__classdict__" : Str)) = false := by decide) : CT X C E (.Compare (.Name x p) [.Is] [.Constant .none j p2] pos) (eNoE i) := PT.imp (pt_cmp (pc_isN (pe_var hN hv hd hcd))) fun σ H Q ⟨g, S, t, w, s, p⟩ => by
  unfold eNoE at p
  cases e : S[i]? with
  | none => rw [e] at p; exact p.elim
  | some sv =>
    rw [e] at p
    cases sv with
    | exn c =>
      obtain ⟨a, h1, h2⟩ := s.ok i _ e
      obtain ⟨b, eb, q⟩ := postRet p w
      cases eb
      exact ⟨_, h1, _, rfl, q⟩
    | val d =>
      obtain ⟨v, h1, h2⟩ := s.val i d e
      obtain ⟨b, eb, q⟩ := postRet p w
      cases eb
      refine ⟨v, h1, _, rfl, ?_⟩
      have : decide (v = .non) = isN d := by
        rw [Bool.eq_iff_iff, decide_eq_true_iff]
        exact isE_isN h2
      rw [this]; exact q
    | un => exact p.elim
    | own d => exact p.elim
    | dic d => exact p.elim
    | dcT d => exact p.elim
    | raw d => exact p.elim
abbrev ngR : List Str := [Str.ofString "call", Str.ofString "raised", Str.ofString "answer", Str.ofString "e", Str.ofString "some", Str.ofString "names", Str.ofString "name"]
/-- as _law_result tells it -/
def eResM (nm : Nat → Str) (al : Nat → Bool) (m : M D) : M D := fun t => match m t with
  | some (.ok d t') => some (.ok (.tup [.str "returns", d]) t')
  | some (.exc c t') => if al c = true then some (.ok (.tup [.str (nm c)]) t') else none
  | none => none
def eRes (nm : Nat → Str) (al : Nat → Bool) (f : Ex) : Ex := fun S => eResM nm al (f S)
def TTr (K : PySem.W.Frag) (C : Cn) (nm : Nat → Str) (al : Nat → Bool) : (XK → Hp → VK → Prop) → Hp → VK → Prop := fun tl H Q =>
  ∃ (g : G) (t : Tn) (m : M D), Wf C g H t ∧ (∀ (H1 : Hp) (E : XK) (Q' : VK), Stp g H g H1 → Wf C g H1 t → PostQ K C E g H1 Q' (m t) → tl E H1 Q') ∧ PostQ K C E0 g H Q (eResM nm al m t)
abbrev Zc0 (X : Cx) (Ng : List Str) (x : Str) (sg : Scope) (g : Addr) (cdg : Value) (s : Shared) (H : Hp) : Cx := (cxOf C8.CX0 X.prog X.w X.K X.mg X.base Ng x sg g cdg X.A X.stack s H C8.E0).nox
theorem gives_of {Ng : List Str} {sg : Scope} {g : Addr} {cdg : Value} {nm : Nat → Str} {al : Nat → Bool} {q : Str} {CS0 : Addr} {st1 : Stmt} {rest : List Stmt} {bR : Stm} {p1 p2 p3 p4 p5 p6 p7 p8 p9 p10 : Pos}
    (hNg : Ng = ngR) (hnd : Ng.Nodup)
    (h1 : ∀ s H, PS (Zc0 X Ng "_law_result" sg g cdg s H) st1 (fun D σ H => ∀ a, H a = none → D.nx ((σ.set 1 (some .non)).set 2 (some .non)) (upd H a (.tup [.non, .non]))))
    (hme : X.mg "GateError" = some (.ref CS0)) (hgE : sg.names.lookup (Str.ofString "GateError") = some NameKind.globalImplicit)
    (hle : sg.names.lookup (Str.ofString "e") = some NameKind.local) (hla : sg.names.lookup (Str.ofString "answer") = some NameKind.local) (hlr : sg.names.lookup (Str.ofString "raised") = some NameKind.local)
    (hex : ∀ c, al c = true → PySem.W.exmOne X.K (.ref (C.ex c)) (.ref CS0) = some true)
    (hR : ∀ s H, CSs (Zc0 X Ng "_law_result" sg g cdg s H) C E0 rest bR)
    (r1 : ∀ d, bR [.un, .val .non, .val d, .un, .un, .un, .un] = ret (.ret (.tup [.str "returns", d])))
    (r2 : ∀ c, al c = true → bR [.un, .exn (C.ex c), .un, .un, .un, .un, .un] = ret (.ret (.tup [.str (nm c)]))) :
    LamX.GivesTo X Ng "_law_result" sg g cdg (st1 :: .Try [.Assign [.Name "answer" p1] (.Call (.Name "call" p2) [] [] p3) p4] [.ExceptHandler (some (.Name "GateError" p5)) (some "e") [.Assign [.Name "raised" p6] (.Name "e" p7) p8] p9] [] [] p10 :: rest) "call" q (TTr X.K C nm al) := by
  subst hNg
  intro f c' s H Q tl act hc ⟨gg, t, m, w, htl, hq⟩
  refine ⟨_, pss_cons (h1 s H) (pss_cons (ps_try_keep (X := Zc0 X _ "_law_result" sg _ cdg s H) (c := .ref CS0) (i := 3)
      (tb := fun W D σ H => ∃ Ech : XK, (∀ cls d σ' H', Ech cls d H' → W cls d σ' H') ∧ σ[0]? = some (some (.ref f)) ∧ H c' = some (LamX.CodeO c' q) ∧ tl Ech H fun v H' => D.nx (σ.set 2 (some v)) H')
      (ts := fun a D σ H => ∃ v, σ[3]? = some (some v) ∧ D.nx (σ.set 1 (some v)) H)
      rfl rfl rfl hnd rfl hle ⟨hgE, by decide, .inl hme⟩ (fun W pn xe tk => ?_) (fun a oe pn => ?_)) (hR s H)), ?_⟩
  · refine ⟨fun pins s' σ H' D I h' => ?_⟩
    obtain ⟨Ech, hW, h1, h2, h3⟩ := h'
    have hp := act W pn xe Ech p2 p3 tk hW
    have hq := pss_one (ps_set (i := 2) (pos' := p1) (pos := p4) hnd rfl (.inl hla) hp rfl (.inr hla))
    exact hq.run pins s' σ H' D I ⟨h1, h2, h3⟩
  · have hv := pe_var (X := (Zc0 X ngR "_law_result" sg g cdg s H).suite a ((a, oe) :: pn)) (i := 3) (x := Str.ofString "e") (pos := p7) rfl (.inl hle) (by decide) (by decide)
    exact PSs.imp (pss_one (ps_set (i := 1) (pos' := p6) (pos := p8) hnd rfl (.inl hlr) hv rfl (.inr hlr))) fun D σ H ⟨v, h1, h2⟩ => ⟨v, h1, h2⟩
  · intro a0 ha0
    have hst0 : Stp gg H gg (upd H a0 (.tup [.non, .non])) := Stp.lay w ha0
    have hw0 : Wf C gg (upd H a0 (.tup [.non, .non])) t := Wf.lay w ha0
    have hq := hq.stp hst0
    have hc : upd H a0 (.tup [.non, .non]) c' = some (LamX.CodeO c' q) := by rw [upd_ne (ne_of_none hc ha0)]; exact hc
    have htl := fun E Q' h => htl _ E Q' hst0 hw0 h
    clear hst0 w
    have w := hw0
    generalize upd H a0 (.tup [.non, .non]) = H at *
    unfold eResM at hq
    cases e : m t with
    | none => rw [e] at hq; exact hq.elim
    | some o =>
      rw [e] at hq
      cases o with
      | ok d t' =>
        refine ⟨fun _ _ _ => False, fun _ _ _ _ z => z.elim, rfl, hc, htl _ _ ?_⟩
        rw [e]
        intro g1 H1 st1 w1 v rv
        refine ⟨g1, H1, g1, g1, [.un, .val .non, .val d, .un, .un, .un, .un], t', .refl _ _, .refl _, w1, ?_, ?_, ?_⟩
        · refine ⟨rfl, fun j x ej => ?_, fun j k p x y e1 e2 o1 => ?_⟩
          · match j, ej with
            | 0, ej => cases ej; trivial
            | 1, ej => cases ej; exact ⟨.non, rfl, .non⟩
            | 2, ej => cases ej; exact ⟨v, rfl, rv⟩
            | 3, ej => cases ej; trivial
            | 4, ej => cases ej; trivial
            | 5, ej => cases ej; trivial
            | 6, ej => cases ej; trivial
            | (j + 7), ej => simp at ej
          · exfalso
            match j, e1 with
            | 0, e1 => cases e1; cases o1
            | 1, e1 => cases e1; cases o1
            | 2, e1 => cases e1; cases o1
            | 3, e1 => cases e1; cases o1
            | 4, e1 => cases e1; cases o1
            | 5, e1 => cases e1; cases o1
            | 6, e1 => cases e1; cases o1
            | (j + 7), e1 => simp at e1
        · intro j x p e1 o1
          exfalso
          match j, e1 with
          | 0, e1 => cases e1; cases o1
          | 1, e1 => cases e1; cases o1
          | 2, e1 => cases e1; cases o1
          | 3, e1 => cases e1; cases o1
          | 4, e1 => cases e1; cases o1
          | 5, e1 => cases e1; cases o1
          | 6, e1 => cases e1; cases o1
          | (j + 7), e1 => simp at e1
        · rw [r1]
          exact fun g2 H2 st2 w2 u _ ru => hq g2 H2 (st1.trans st2) w2 u ru
      | exc c t' =>
        have hq : PostQ X.K C E0 gg H Q (if al c = true then some (.ok (.tup [.str (nm c)]) t') else none) := hq
        have hc12 : al c = true := by
          cases z : al c with
          | true => rfl
          | false => rw [z] at hq; exact hq.elim
        rw [if_pos hc12] at hq
        refine ⟨fun cls d H' => cls = .ref (C.ex c) ∧ d = none ∧ ∃ g', Stp gg H g' H' ∧ Wf C g' H' t', fun cls d σ' H' ⟨ec, ed, g1, st1, w1⟩ => ?_, rfl, hc, htl _ _ ?_⟩
        · subst ec ed
          refine ⟨hex c hc12, rfl, fun a ha hlen => ⟨.ref a, ?_, ?_⟩⟩
          · rw [List.getElem?_set_self (by rw [hlen]; exact (by decide : (3 : Nat) < 7))]
          have st2 : Stp g1 H' g1 (upd H' a (ExK (.ref (C.ex c)) a)) := Stp.lay w1 ha
          have w2 : Wf C g1 (upd H' a (ExK (.ref (C.ex c)) a)) t' := Wf.lay w1 ha
          have hlen7 : σ'.length = 7 := hlen
          refine ⟨g1, _, g1, g1, [.un, .exn (C.ex c), .un, .un, .un, .un, .un], t', .refl _ _, .refl _, w2, ?_, ?_, ?_⟩
          · refine ⟨by rw [List.length_set, List.length_set, List.length_set]; exact hlen7, fun j x ej => ?_, fun j k p x y e1 e2 o1 => ?_⟩
            · match j, ej with
              | 0, ej => cases ej; trivial
              | 1, ej =>
                cases ej
                refine ⟨a, ?_, upd_same⟩
                rw [List.getElem?_set_ne (by decide), List.getElem?_set_self (by rw [List.length_set, hlen7]; decide)]
              | 2, ej => cases ej; trivial
              | 3, ej => cases ej; trivial
              | 4, ej => cases ej; trivial
              | 5, ej => cases ej; trivial
              | 6, ej => cases ej; trivial
              | (j + 7), ej => simp at ej
            · exfalso
              match j, e1 with
              | 0, e1 => cases e1; cases o1
              | 1, e1 => cases e1; cases o1
              | 2, e1 => cases e1; cases o1
              | 3, e1 => cases e1; cases o1
              | 4, e1 => cases e1; cases o1
              | 5, e1 => cases e1; cases o1
              | 6, e1 => cases e1; cases o1
              | (j + 7), e1 => simp at e1
          · intro j x p e1 o1
            exfalso
            match j, e1 with
            | 0, e1 => cases e1; cases o1
            | 1, e1 => cases e1; cases o1
            | 2, e1 => cases e1; cases o1
            | 3, e1 => cases e1; cases o1
            | 4, e1 => cases e1; cases o1
            | 5, e1 => cases e1; cases o1
            | 6, e1 => cases e1; cases o1
            | (j + 7), e1 => simp at e1
          · rw [r2 c hc12]
            exact fun g3 H3 st3 w3 u _ ru => hq g3 H3 ((st1.trans st2).trans st3) w3 u ru
        · rw [e]
          exact fun g1 H1 st1 w1 => ⟨rfl, rfl, g1, st1, w1⟩
/-- all but the tables stay -/
theorem Stp.extN {g : G} {H H1 : Hp} {t : Tn} (w : Wf C g H t) (e : LamX.ExtN H H1) (hT : LamX.Tabs C.T H1) : Stp g H g H1 ∧ Wf C g H1 t := by
  exact ⟨⟨fun _ _ h => h, .refl g, Twn.refl g H, fun b o h _ n => e b o h n, fun b ⟨o, h, n⟩ => ⟨o, e b o h n, n⟩, fun _ _ => rfl⟩, ⟨fun b o h => e b o (w.fz b o h) fun ps z => w.nft b ps (by rw [h, z]), ⟨w.tw.1.ext fun b kvs h _ => e _ _ h (fun _ z => by cases z), w.tw.2.keep (fun _ _ h => h) (.refl g) ⟨rfl, rfl⟩ fun a ha ho h => by
    obtain ⟨n, o, _, _, ok⟩ := w.tw.2.get ha
    obtain ⟨ho', h1, h2, _⟩ := ok.at
    rw [h] at h1
    cases h1
    exact e _ _ h h2⟩, w.ntw, hT, w.nft⟩⟩
/-- _law_result(lambda: e) -/
theorem ce_res {nm : Nat → Str} {al : Nat → Bool} {g c P : Addr} {k : Nat} {pg : Arguments} {bg : List Stmt} {sg : Scope} {dV kV doc pm cdv ct oc : Value} {an od : Option Addr} {osl : Array (Option Value)} {params : Arguments} {body : Expr} {scope : Scope} {fb : Ex} {p lpos pos : Pos}
    (hm : X.mg "_law_result" = some (.ref g)) (hk : PySem.W.keepIn X.K (.ref g) = true)
    (lk : X.K.lookup g = some ⟨oc, od, .func (PySem.W.fnOf "_law_result" "_law_result" pg bg sg dV kV doc pm an cdv ct), osl⟩) (hcg : PySem.W.codeIn X.K cdv "_law_result" = true) (hb : L2.Binds X.K (PySem.W.fnOf "_law_result" "_law_result" pg bg sg dV kV doc pm an cdv ct) ["call"] []) (Sg : FnScope ngR ["call"] sg) (hva : Vis sg "call")
    (hG : LamX.GivesTo X ngR "_law_result" sg g cdv bg "call" (X.env.qual ++ "<lambda>") (TTr X.K C nm al))
    (TB : LamX.TabB X.base X.mg c P) (hcode : X.env.code = .ref c) (hmT : (P, X.env.qual ++ "<lambda>") ∈ C.T) (hu : ∀ p ∈ C.T, p.1 = P → p.2 = X.env.qual ++ "<lambda>") (hr : Room (k + 2) X.A) (L : LamX.LamS X.env.scope scope)
    (hbody : ∀ (A : Around) (outer : List Env) (s : Shared) (H : Hp) (E : XK) (f c' : Addr), Room k (A.deeper (LamX.lamEnv X scope s.heap.objs.size f c')) → CE (LamX.lamCx X A outer s H E scope f c') C E body fb)
    (hg : Gl X "_law_result" := by rfl) (hdef : defaultsOf params X.env = ([], []) := by rfl)
    (hbind : ∀ (q : Str) (cl : List (Str × Addr)) (pm cv ctv : Value), bindArgs (PySem.W.kla_fn "<lambda>" q params body scope cl pm cv ctv) ⟨[], []⟩ = pure [] := by intros; rfl) :
    CE X C E (.Call (.Name "_law_result" p) [.Lambda params body scope lpos] [] pos) (eRes nm al fb) := by
  refine PE.imp (LamX.pe_lamcall (T := C.T) (TT := TTr X.K C nm al) (t := fun E => tE X.K C E fb) hg hm hk lk hcg hb Sg rfl hva hG TB hcode hmT hu hr L hdef hbind hbody) fun σ H Q ⟨gg, S, t, w, s, q⟩ => ?_
  refine ⟨w.tab, fun H1 e1 T1 => ?_⟩
  obtain ⟨st1, w1⟩ := Stp.extN w e1 T1
  refine ⟨gg, t, fb S, w1, fun H2 E' Q' st2 w2 h => ⟨gg, S, t, w2, (s.stp w st1).stp w1 st2, h⟩, ?_⟩
  have q := q.stp st1
  have q : PostQ X.K C E gg H1 Q (eResM nm al (fb S) t) := q
  unfold eResM at q ⊢
  cases z : fb S t with
  | none => rw [z] at q; exact q.elim
  | some o =>
    rw [z] at q
    cases o with
    | ok d t' => exact q
    | exc c' t' =>
      have q : PostQ X.K C E gg H1 Q (if al c' = true then some (.ok (.tup [.str (nm c')]) t') else none) := q
      show PostQ X.K C E0 gg H1 Q (if al c' = true then some (.ok (.tup [.str (nm c')]) t') else none)
      split
      · rename_i ha; rw [if_pos ha] at q; exact q
      · rename_i ha; rw [if_neg ha] at q; exact q.elim
end
end BG
set_option Elab.async false
set_option linter.all false
set_option maxRecDepth 100000
set_option maxHeartbeats 4000000
namespace BG
open PySem PySem.Spec PyProof.Rows L2
/-- THE RULE for a def whose code object is known -/
theorem fn_okL {P : Program} {w : World} {K : PySem.W.Frag} {mg : Str → Option Value} {base : Heap} {C : Cn} {x qual : Str} {st : Stmt} {f : Addr} {N ps : List Str} {k : Nat} {body : Stm} {kV doc pm cdv ct oc : Value} {an od : Option Addr} {osl : Array (Option Value)}
    (lk : K.lookup f = some ⟨oc, od, .func (PySem.W.fnOf x qual (defArgs st) (defBody st) (defScope st) .none kV doc pm an cdv ct), osl⟩) (hcd : PySem.W.codeIn K cdv qual = true) (S : FnScope N ps (defScope st))
    (hb : ∀ (A : Around) (outer : List Env) (s : Shared) (H : Hp) (E : XK), Room k (A.deeper (envOfC qual (defScope st) s.heap.objs.size f cdv)) →
      CSs (cxOf (L2.CX P w) P w K mg base N qual (defScope st) f cdv A outer s H E) C E (defBody st) body) : FnOk P w K mg base (L2.CX P w) (k + 1) f (PySem.W.fnOf x qual (defArgs st) (defBody st) (defScope st) .none kV doc pm an cdv ct) ps (spF K C ps.length (fnOf N.length body)) := by
  refine fn_of lk hcd S (fun vs H Q E ⟨g, ds, t, r, w, hl, p⟩ => hl) fun A outer s H vs Q E hr ⟨g, ds, t, r, w, hl, p⟩ => ⟨_, hb A outer s H E hr, ?_⟩
  refine ⟨g, H, g, g, _, t, .refl _ _, .refl _, w, SL.start r, OwnF.start, p.bnd0.imp fun fl t1 g1 H1 st1 w1 q => ?_⟩
  cases fl with
  | nx S' => exact fun _ _ _ _ => q g1 H1 st1 w1 _ .non
  | ret d => exact fun v _ r => q g1 H1 st1 w1 v r
/-- the law's own promise, with tables -/
def spLawT (K : PySem.W.Frag) (T : List (Addr × Str)) : Sp := fun vs H Q _ => ∃ (a : Addr) (ns : List Int), vs = [.ref a] ∧ SqL K H a (ns.map V.int) ∧ ns.length ≤ 63 ∧ LamX.Tabs T H ∧ ∀ H', Q (.bl true) H'
theorem law_impT {K : PySem.W.Frag} {C : Cn} {F : Fn} (h : ∀ ns : List Int, ns.length ≤ 63 → ∃ t', F [.scr ns] (none, []) = some (.ok (.bl true) t')) (vs : List V) (H : Hp) (Q : VK) (E : XK) (q : spLawT K C.T vs H Q E) : spF K C 1 F vs H Q E := by
  obtain ⟨a, ns, rfl, sq, hl, hT, q⟩ := q
  exact law_start hT sq (h ns hl) q
end BG
set_option Elab.async false
set_option linter.all false
set_option maxRecDepth 100000
set_option maxHeartbeats 1000000
namespace BG
open PySem L2
def resNm : Nat → Str
  | 0 => "gate" | 1 => "circuit" | 2 => "word" | 3 => "exchange" | 4 => "lines" | 5 => "kinds" | 6 => "function" | 7 => "answers" | 8 => "text" | 9 => "many" | 10 => "empty" | _ => "undo"
def bRes (K : PySem.W.Frag) (C : Cn) (exs : List Addr) : Stm :=
  sSeq (sIf (eNoE 1) (sRet (eTup [eC (.str "returns"), eVar 2])) sNil)
  (sSeq (sDic 4 [("gate", eIsE K exs 1 (.ref (C.ex 0))), ("circuit", eIsE K exs 1 (.ref (C.ex 1)))])
  (sSeq (sDUpd 4 [("word", eIsE K exs 1 (.ref (C.ex 2))), ("exchange", eIsE K exs 1 (.ref (C.ex 3)))])
  (sSeq (sDUpd 4 [("lines", eIsE K exs 1 (.ref (C.ex 4))), ("kinds", eIsE K exs 1 (.ref (C.ex 5)))])
  (sSeq (sDUpd 4 [("function", eIsE K exs 1 (.ref (C.ex 6))), ("answers", eIsE K exs 1 (.ref (C.ex 7)))])
  (sSeq (sDUpd 4 [("text", eIsE K exs 1 (.ref (C.ex 8))), ("many", eIsE K exs 1 (.ref (C.ex 9)))])
  (sSeq (sDUpd 4 [("empty", eIsE K exs 1 (.ref (C.ex 10))), ("undo", eIsE K exs 1 (.ref (C.ex 11)))])
  (sSeq (sFrzD 4 (sAsg 5 (eComp [6] (itDic 4) (gN 6) (eDIx 4 (eVar 6)) (eVar 6))))
  (sRet (eIf (eAnd (eBin pEq (eUn bLen (eVar 5)) (eC (.int 1))) (eIsE K exs 1 (.type "ValueError"))) (eTup [eBin pIdx (eVar 5) (eC (.int 0))]) (eTup [eC (.str "other error")]))))))))))
/-- the facts of the classes that may be raised -/
structure KitF (K : PySem.W.Frag) (C : Cn) (exs : List Addr) (c : Nat) : Prop where
  mem : C.ex c ∈ exs
  kit : ∀ c', c' < 12 → PySem.W.kitOne K (.ref (C.ex c)) (.ref (C.ex c')) = some (decide (c = c'))
  val : PySem.W.kitOne K (.ref (C.ex c)) (.type "ValueError") = some true
theorem bRes1 {K : PySem.W.Frag} {C : Cn} {exs : List Addr} (d : D) : bRes K C exs [.un, .val .non, .val d, .un, .un, .un, .un] = ret (.ret (.tup [.str "returns", d])) := rfl
theorem isE_eq {K : PySem.W.Frag} {C : Cn} {exs : List Addr} {c c' : Nat} {S : Sl} (F : KitF K C exs c) (h : c' < 12) (e : S[1]? = some (.exn (C.ex c))) : eIsE K exs 1 (.ref (C.ex c')) S = ret (.bl (decide (c = c'))) := by
  unfold eIsE
  rw [e]
  show (if C.ex c ∈ exs then _ else _) = _
  rw [if_pos F.mem, F.kit c' h]
theorem isV_eq {K : PySem.W.Frag} {C : Cn} {exs : List Addr} {c : Nat} {S : Sl} (F : KitF K C exs c) (e : S[1]? = some (.exn (C.ex c))) : eIsE K exs 1 (.type "ValueError") S = ret (.bl true) := by
  unfold eIsE
  rw [e]
  show (if C.ex c ∈ exs then _ else _) = _
  rw [if_pos F.mem, F.val]
theorem seq_step {a b : Stm} {S S' : Sl} (h : a S = ret (.nx S')) : sSeq a b S = b S' := by
  unfold sSeq; rw [h]; rfl
theorem evsK2 {x y : Str} {f f' : Ex} {S : Sl} {d d' : D} (h : f S = ret d) (h' : f' S = ret d') : evsK [(x, f), (y, f')] S = ret [(.inr x, d), (.inr y, d')] := by
  show bnd (f S) _ = _
  rw [h]
  show bnd (bnd (f' S) _) _ = _
  rw [h']; rfl
theorem dic_step {i : Nat} {x y : Str} {f f' : Ex} {S : Sl} {d d' : D} (h : f S = ret d) (h' : f' S = ret d') : sDic i [(x, f), (y, f')] S = ret (.nx (S.set i (.dic (dMerge [] [(.inr x, d), (.inr y, d')])))) := by
  unfold sDic; rw [evsK2 h h']; rfl
theorem upd_step {i : Nat} {x y : Str} {f f' : Ex} {S : Sl} {d d' : D} {ks : List (Key × D)} (e : S[i]? = some (.dic ks)) (hl : ks.length < 1000) (h : f S = ret d) (h' : f' S = ret d') : sDUpd i [(x, f), (y, f')] S = ret (.nx (S.set i (.dic (dMerge ks (dMerge [] [(.inr x, d), (.inr y, d')]))))) := by
  unfold sDUpd
  rw [e]
  show bnd (evsK _ S) _ = _
  rw [evsK2 h h']
  show (if ks.length < 1000 then ret (Fl.nx _) else stuck) = _
  rw [if_pos hl]
theorem bRes2 {K : PySem.W.Frag} {C : Cn} {exs : List Addr} {c : Nat} (hc : c < 12) (F : KitF K C exs c) : bRes K C exs [.un, .exn (C.ex c), .un, .un, .un, .un, .un] = ret (.ret (.tup [.str (resNm c)])) := by
  unfold bRes
  have h : ∀ c', c' < 12 → ∀ S : Sl, S[1]? = some (.exn (C.ex c)) → eIsE K exs 1 (.ref (C.ex c')) S = ret (.bl (decide (c = c'))) := fun c' h S e => isE_eq F h e
  have hv : ∀ S : Sl, S[1]? = some (.exn (C.ex c)) → eIsE K exs 1 (.type "ValueError") S = ret (.bl true) := fun S e => isV_eq F e
  rw [seq_step (S' := [.un, .exn (C.ex c), .un, .un, .un, .un, .un]) rfl]
  rw [seq_step (S' := [.un, .exn (C.ex c), .un, .un, .dic [(Sum.inr "gate", .bl (decide (c = 0))), (Sum.inr "circuit", .bl (decide (c = 1)))], .un, .un]) ((dic_step (h 0 (by decide) _ rfl) (h 1 (by decide) _ rfl)).trans (by with_unfolding_all rfl))]
  rw [seq_step (S' := [.un, .exn (C.ex c), .un, .un, .dic [(Sum.inr "gate", .bl (decide (c = 0))), (Sum.inr "circuit", .bl (decide (c = 1))), (Sum.inr "word", .bl (decide (c = 2))), (Sum.inr "exchange", .bl (decide (c = 3)))], .un, .un]) ((upd_step rfl (by simp only [List.length_cons, List.length_nil]; decide) (h 2 (by decide) _ rfl) (h 3 (by decide) _ rfl)).trans (by with_unfolding_all rfl))]
  rw [seq_step (S' := [.un, .exn (C.ex c), .un, .un, .dic [(Sum.inr "gate", .bl (decide (c = 0))), (Sum.inr "circuit", .bl (decide (c = 1))), (Sum.inr "word", .bl (decide (c = 2))), (Sum.inr "exchange", .bl (decide (c = 3))), (Sum.inr "lines", .bl (decide (c = 4))), (Sum.inr "kinds", .bl (decide (c = 5)))], .un, .un]) ((upd_step rfl (by simp only [List.length_cons, List.length_nil]; decide) (h 4 (by decide) _ rfl) (h 5 (by decide) _ rfl)).trans (by with_unfolding_all rfl))]
  rw [seq_step (S' := [.un, .exn (C.ex c), .un, .un, .dic [(Sum.inr "gate", .bl (decide (c = 0))), (Sum.inr "circuit", .bl (decide (c = 1))), (Sum.inr "word", .bl (decide (c = 2))), (Sum.inr "exchange", .bl (decide (c = 3))), (Sum.inr "lines", .bl (decide (c = 4))), (Sum.inr "kinds", .bl (decide (c = 5))), (Sum.inr "function", .bl (decide (c = 6))), (Sum.inr "answers", .bl (decide (c = 7)))], .un, .un]) ((upd_step rfl (by simp only [List.length_cons, List.length_nil]; decide) (h 6 (by decide) _ rfl) (h 7 (by decide) _ rfl)).trans (by with_unfolding_all rfl))]
  rw [seq_step (S' := [.un, .exn (C.ex c), .un, .un, .dic [(Sum.inr "gate", .bl (decide (c = 0))), (Sum.inr "circuit", .bl (decide (c = 1))), (Sum.inr "word", .bl (decide (c = 2))), (Sum.inr "exchange", .bl (decide (c = 3))), (Sum.inr "lines", .bl (decide (c = 4))), (Sum.inr "kinds", .bl (decide (c = 5))), (Sum.inr "function", .bl (decide (c = 6))), (Sum.inr "answers", .bl (decide (c = 7))), (Sum.inr "text", .bl (decide (c = 8))), (Sum.inr "many", .bl (decide (c = 9)))], .un, .un]) ((upd_step rfl (by simp only [List.length_cons, List.length_nil]; decide) (h 8 (by decide) _ rfl) (h 9 (by decide) _ rfl)).trans (by with_unfolding_all rfl))]
  rw [seq_step (S' := [.un, .exn (C.ex c), .un, .un, .dic [(Sum.inr "gate", .bl (decide (c = 0))), (Sum.inr "circuit", .bl (decide (c = 1))), (Sum.inr "word", .bl (decide (c = 2))), (Sum.inr "exchange", .bl (decide (c = 3))), (Sum.inr "lines", .bl (decide (c = 4))), (Sum.inr "kinds", .bl (decide (c = 5))), (Sum.inr "function", .bl (decide (c = 6))), (Sum.inr "answers", .bl (decide (c = 7))), (Sum.inr "text", .bl (decide (c = 8))), (Sum.inr "many", .bl (decide (c = 9))), (Sum.inr "empty", .bl (decide (c = 10))), (Sum.inr "undo", .bl (decide (c = 11)))], .un, .un]) ((upd_step rfl (by simp only [List.length_cons, List.length_nil]; decide) (h 10 (by decide) _ rfl) (h 11 (by decide) _ rfl)).trans (by with_unfolding_all rfl))]
  have key : ∀ c, c < 12 → ∀ a : Addr, (sFrzD 4 (sAsg 5 (eComp [6] (itDic 4) (gN 6) (eDIx 4 (eVar 6)) (eVar 6)))) [.un, .exn a, .un, .un, .dic [(Sum.inr "gate", .bl (decide (c = 0))), (Sum.inr "circuit", .bl (decide (c = 1))), (Sum.inr "word", .bl (decide (c = 2))), (Sum.inr "exchange", .bl (decide (c = 3))), (Sum.inr "lines", .bl (decide (c = 4))), (Sum.inr "kinds", .bl (decide (c = 5))), (Sum.inr "function", .bl (decide (c = 6))), (Sum.inr "answers", .bl (decide (c = 7))), (Sum.inr "text", .bl (decide (c = 8))), (Sum.inr "many", .bl (decide (c = 9))), (Sum.inr "empty", .bl (decide (c = 10))), (Sum.inr "undo", .bl (decide (c = 11)))], .un, .un] = ret (.nx [.un, .exn a, .un, .un, .val (.dct [Sum.inr "gate", Sum.inr "circuit", Sum.inr "word", Sum.inr "exchange", Sum.inr "lines", Sum.inr "kinds", Sum.inr "function", Sum.inr "answers", Sum.inr "text", Sum.inr "many", Sum.inr "empty", Sum.inr "undo"] [.bl (decide (c = 0)), .bl (decide (c = 1)), .bl (decide (c = 2)), .bl (decide (c = 3)), .bl (decide (c = 4)), .bl (decide (c = 5)), .bl (decide (c = 6)), .bl (decide (c = 7)), .bl (decide (c = 8)), .bl (decide (c = 9)), .bl (decide (c = 10)), .bl (decide (c = 11))]), .val (.lst [.str (resNm c)]), .un]) := by
    intro c hc a
    match c, hc with
    | 0, _ => with_unfolding_all rfl
    | 1, _ => with_unfolding_all rfl
    | 2, _ => with_unfolding_all rfl
    | 3, _ => with_unfolding_all rfl
    | 4, _ => with_unfolding_all rfl
    | 5, _ => with_unfolding_all rfl
    | 6, _ => with_unfolding_all rfl
    | 7, _ => with_unfolding_all rfl
    | 8, _ => with_unfolding_all rfl
    | 9, _ => with_unfolding_all rfl
    | 10, _ => with_unfolding_all rfl
    | 11, _ => with_unfolding_all rfl
    | n + 12, h => omega
  rw [seq_step (key c hc _)]
  have cond : ∀ (S : Sl), S[1]? = some (.exn (C.ex c)) → S[5]? = some (.val (.lst [.str (resNm c)])) → eAnd (eBin pEq (eUn bLen (eVar 5)) (eC (.int 1))) (eIsE K exs 1 (.type "ValueError")) S = ret (.bl true) := fun S e1 e5 => by
    have e : eBin pEq (eUn bLen (eVar 5)) (eC (.int 1)) S = ret (.bl true) := by
      unfold eBin eUn eVar; rw [e5]; rfl
    unfold eAnd
    rw [e]
    exact hv S e1
  unfold sRet eIf
  rw [cond _ rfl rfl]
  rfl
end BG
set_option Elab.async false
set_option linter.all false
set_option maxRecDepth 100000
set_option maxHeartbeats 4000000
namespace BG
open PySem PySem.Spec PyProof.Rows L2
/-- all that is asked of the exception classes -/
def excOk (K : PySem.W.Frag) (GE : Addr) (ex : Nat → Addr) : Bool :=
  decide (PySem.W.specialIn K (.builtin "object.__class__") "__get__" = some (some (.builtin "getset_descriptor.__get__"))) && (decide (PySem.W.takesIn K (.builtin "object.__class__") = some true) &&
  (List.range 12).all fun c => (PySem.W.clsIn K (ex c)).isSome && (decide (PySem.W.findIn K (.ref (ex c)) "__getattribute__" = some (some (.builtin "BaseException.__getattribute__"))) &&
    ((PySem.W.findIn K (.ref (ex c)) "__getattr__").isSome && (decide (PySem.W.subIn K (.ref (ex c)) (.type "BaseException") = some true) && (decide (PySem.W.findIn K (.ref (ex c)) "__class__" = some (some (.builtin "object.__class__"))) &&
    (decide (PySem.W.mroIn K (ex c) (.type "object") = some true) && (decide (PySem.W.kitOne K (.ref (ex c)) (.type "ValueError") = some true) && (decide (PySem.W.exmOne K (.ref (ex c)) (.ref GE) = some true) &&
    (List.range 12).all fun c' => decide (PySem.W.kitOne K (.ref (ex c)) (.ref (ex c')) = some (decide (c = c')))))))))))
def exs12 (ex : Nat → Addr) : List Addr := (List.range 12).map ex
def al12 (c : Nat) : Bool := decide (c < 12)
structure ExcAll (K : PySem.W.Frag) (GE : Addr) (C : Cn) : Prop where
  F : ∀ c ∈ exs12 C.ex, ExcF K c
  kit : ∀ c, c < 12 → KitF K C (exs12 C.ex) c
  exm : ∀ c, al12 c = true → PySem.W.exmOne K (.ref (C.ex c)) (.ref GE) = some true
theorem excOk_all {K : PySem.W.Frag} {GE : Addr} {C : Cn} (h : excOk K GE C.ex = true) : ExcAll K GE C := by
  unfold excOk at h
  simp only [Bool.and_eq_true, decide_eq_true_eq, List.all_eq_true, List.mem_range] at h
  obtain ⟨g1, g2, g3⟩ := h
  refine ⟨fun c hc => ?_, fun c hc => ?_, fun c hc => ?_⟩
  · obtain ⟨i, hi, rfl⟩ := List.mem_map.mp hc
    obtain ⟨h1, h2, h3, h4, h5, h6, h7, h8, h9⟩ := g3 i (List.mem_range.mp hi)
    exact ⟨h1, h2, Option.isSome_iff_exists.mp h3, h4, h5, g1, g2, h6⟩
  · obtain ⟨h1, h2, h3, h4, h5, h6, h7, h8, h9⟩ := g3 c hc
    exact ⟨List.mem_map.mpr ⟨c, List.mem_range.mpr hc, rfl⟩, fun c' hc' => h9 c' hc', h7⟩
  · obtain ⟨h1, h2, h3, h4, h5, h6, h7, h8, h9⟩ := g3 c (of_decide_eq_true hc)
    exact h8
/-- a def that makes lambdas: its code object, its table -/
structure LamD (base : Heap) (mg : Str → Option Value) (C : Cn) (x : Str) (c : Addr) : Prop where
  ex : ∃ P, LamX.TabB base mg c P ∧ (P, x ++ ".<locals>." ++ "<lambda>") ∈ C.T ∧ ∀ p ∈ C.T, p.1 = P → p.2 = x ++ ".<locals>." ++ "<lambda>"
theorem passM {X : Cx} {A : Around} {outer : List Env} {s : Shared} {H : Hp} {E : XK} {scope : Scope} {f c' : Addr} : Passes (L2.CX (LamX.lamCx X A outer s H E scope f c').prog (LamX.lamCx X A outer s H E scope f c').w) (LamX.lamCx X A outer s H E scope f c') E := passes_call (X := LamX.lamCx X A outer s H E scope f c') (W := fun cls d _ H => E cls d H) (takes_of rfl rfl rfl rfl) fun _ _ _ _ h => h
theorem tabIn_of {K : PySem.W.Frag} {x : Str} {f c P : Addr} {oc oc' : Value} {od od' : Option Addr} {fd : FuncData} {vs : Array Value} {sl sl' : Array (Option Value)} (h1 : PySem.W.nsIn K mainGlobals x = some (some (.ref f))) (h2 : K.lookup f = some ⟨oc, od, .func fd, sl⟩) (h3 : fd.code = .ref c) (h4 : K.lookup c = some ⟨oc', od', .fields vs, sl'⟩) (h5 : vs[11]? = some (.ref P)) : PySem.W.tabIn K x = some (c, P) := by
  unfold PySem.W.tabIn
  rw [h1]
  simp only [h2, h3, h4, h5]
theorem walk_ofTab {l : PySem.W.OpenLaw} {n k : Nat} {q : Program} {loose : List Str} {XP : (Str → Option Value) → Heap → Prop} {YP : World → Heap → Prop} {d : DefRec} {K : Params → PySem.W.Frag} {CX : World → CXT} {x : Str}
    (hn : l.most = some n) (hn2 : n ≤ sizeLine) (hdf : d.params.defaults = []) (hr : Room k callerA) (hY : ∀ (w : World) (h : Heap), YP w h → (K w.params).In h)
    (F : ∀ (w : World) (mg : Str → Option Value) (fa : Addr) (h : Heap), YP w h → (K w.params).In h → h.Ns mainGlobals mg → mg d.name = some (.ref fa) →
      (∀ (x : Str) (c P : Addr), ((recsOf q).find? fun e => e.name == x).isSome = true → PySem.W.tabIn (K w.params) x = some (c, P) → PySem.W.CodeHd h c P ∧ h.get? P = some (PySem.W.tabObj #[])) → LamX.LawAtS l w (K w.params) (CX w) k n x mg fa h)
    (hCX : ∀ (w : World) (H : Hp) (s : Shared) (e : Value) (s' : Shared), CX w [] H s (fun _ _ _ => False) e s' → False) :
    PySem.W.WalkO q loose XP YP l.row.toRowW d [] (fun f vs => PySem.call f vs) := by
  refine Att.attach_callB hn hdf fun w s₀ s₁ mg mb fa o pm cd doc a vs ns G Y ho hd hcd hmg hobj hints hlen hbits hg => ?_
  have KX := hY w _ Y
  obtain ⟨fd, cs, sp, hT, nT, C, hb, hsp, hF⟩ := F w mg fa _ Y KX G.T.g hmg fun x c P h1 h2 => by
    obtain ⟨d', hd'⟩ := Option.isSome_iff_exists.mp h1
    exact PySem.W.tab_of G.T KX hd' h2
  exact LamX.law_callTs KX G.T.g G.T.b G.T.builtins G.T.nolimit hg hT nT C G.T.bmain hobj hints (Nat.le_trans hlen hn2) hr hF hb (fun H hH hS => hsp H a ns hlen hbits hH hS) fun H e s' => hCX w H s₁ e s'
end BG
set_option Elab.async false
set_option linter.all false
set_option maxRecDepth 100000
set_option maxHeartbeats 4000000
namespace BG
open PySem PySem.Spec PyProof.Rows L2
abbrev Tq := D → Sl → M Sl
/-- what follows a store -/
def Rg (K : PySem.W.Frag) (H0 : Hp) (gs : G) (Q : L2.St → Hp → Prop) : Sl → Tn → G → Hp → Prop := fun S' _ g' H' => ∀ σ', Gw gs g' → SL K g' H' σ' S' → OwnF H0 σ' S' → Q σ' H'
def tGS (K : PySem.W.Frag) (C : Cn) (E : XK) (f : Tq) : TG := fun v σ H Q => ∃ g0 H0 gs g S t d, Stp g0 H0 g H ∧ Gw gs g ∧ Wf C g H t ∧ SL K g H σ S ∧ OwnF H0 σ S ∧ Rp K g v d ∧ Post C E g0 H0 (Rg K H0 gs Q) (f d S t)
def tGq (K : PySem.W.Frag) (C : Cn) (E : XK) (f : List D → Sl → M Sl) : TGs := fun vs σ H Q => ∃ g0 H0 gs g S t ds, Stp g0 H0 g H ∧ Gw gs g ∧ Wf C g H t ∧ SL K g H σ S ∧ OwnF H0 σ S ∧ RpA K g vs ds ∧ Post C E g0 H0 (Rg K H0 gs Q) (f ds S t)
abbrev CGS (X : Cx) (C : Cn) (E : XK) (tg : Expr) (f : Tq) : Prop := PG X tg (tGS X.K C E f)
abbrev CGq (X : Cx) (C : Cn) (E : XK) (tg : List Expr) (f : List D → Sl → M Sl) : Prop := PGs X tg (tGq X.K C E f)
theorem PGs.imp {X : Cx} {e : List Expr} {t t' : TGs} (h : PGs X e t) (f : ∀ v σ H Q, t' v σ H Q → t v σ H Q) : PGs X e t' := ⟨fun pins s σ H v u Q I r q => h.run pins s σ H v u Q I r (f v σ H Q q)⟩
def gsNil : List D → Sl → M Sl := fun ds S => match ds with
  | [] => ret S
  | _ => stuck
def gsCons (f : Tq) (fs : List D → Sl → M Sl) : List D → Sl → M Sl := fun ds S => match ds with
  | d :: r => bnd (f d S) fun S' => fs r S'
  | [] => stuck
def gsN (i : Nat) : Tq := fun d S => ret (S.set i (.val d))
def gsTup (n : Nat) (fs : List D → Sl → M Sl) : Tq := fun d S => match d with
  | .tup ds => if ds.length = n then fs ds S else stuck
  | _ => stuck
/-- x[k] = ., x a list of one's own -/
def gsPut (i : Nat) (k : Ex) : Tq := fun d S => match S[i]? with
  | some (.own ds) => bnd (k S) fun n => match n with
    | .int n => match ixN ds.length n with
      | some j => ret (S.set i (.own (ds.set j d)))
      | none => stuck
    | _ => stuck
  | _ => stuck
def sAsgS (f : Tq) (e : Ex) : Stm := fun S => bnd (e S) fun d => bnd (f d S) fun S' => ret (.nx S')
section
variable {X : Cx} {C : Cn} {E : XK}
theorem cgq_nil : CGq X C E [] gsNil := PGs.imp pgs_nil fun vs σ H Q ⟨g0, H0, gs, g, S, t, ds, st, gr, w, s, o, r, p⟩ => by
  cases r with
  | nil => exact ⟨rfl, p g H st w σ gr s o⟩
  | cons a b => exact p.elim
theorem cgq_cons {e : Expr} {es : List Expr} {f : Tq} {fs : List D → Sl → M Sl} (h1 : CGS X C E e f) (h2 : CGq X C E es fs) (hs : (assignEach (e :: es) X.env).map (·.2) = assign e X.env :: (assignEach es X.env).map (·.2) := by rfl) : CGq X C E (e :: es) (gsCons f fs) :=
  PGs.imp (pgs_cons h1 h2 hs) fun vs σ H Q ⟨g0, H0, gs, g, S, t, ds, st, gr, w, s, o, r, p⟩ => by
    cases r with
    | nil => exact p.elim
    | @cons v vs d ds ra rb =>
      refine ⟨v, vs, rfl, g0, H0, g, g, S, t, d, st, .refl g, w, s, o, ra, ?_⟩
      have p : Post C E g0 H0 (Rg X.K H0 gs Q) (bnd (f d S) (fun S' => fs ds S') t) := p
      exact p.bnd0.imp fun S1 t1 g1 H1 st1 w1 q σ1 gw1 s1 o1 => ⟨g0, H0, gs, g1, S1, t1, ds, st1, gr.trans gw1, w1, s1, o1, rb.mono gw1.fz gw1.tw, q⟩
theorem cgs_name (i : Nat) {x : Str} {pos : Pos} (hN : X.N.Nodup) (hi : X.N[i]? = some x := by rfl) (hx : Loc X.env.scope x := by first | exact .inl rfl | exact .inr rfl) (hf : X.fn x = true ∨ X.env.scope.names.lookup x = some .local := by first | exact .inl rfl | exact .inr rfl | assumption) : CGS X C E (.Name x pos) (gsN i) :=
  PG.imp (pg_name (i := i) hN hi hx hf) fun v σ H Q ⟨g0, H0, gs, g, S, t, d, st, gr, w, s, o, r, p⟩ => p g H st w _ gr (s.set r) o.set
theorem cgs_tup {es : List Expr} {k n : Nat} {pos : Pos} {fs : List D → Sl → M Sl} (h : CGq X C E es fs) (hc : X.calm = true := by rfl) (hn : (assignEach es X.env).length = n := by rfl) (hst : (assignEach es X.env).findIdx? (·.1) = none := by rfl) : CGS X C E (.Tuple es k pos) (gsTup n fs) :=
  PG.imp (pg_tup hc h hn hst) fun v σ H Q ⟨g0, H0, gs, g, S, t, d, st, gr, w, s, o, r, p⟩ => by
    unfold gsTup at p
    cases d with
    | tup ds =>
      have p : Post C E g0 H0 (Rg X.K H0 gs Q) ((if ds.length = n then fs ds S else stuck) t) := p
      split at p
      · rename_i hl
        cases r with
        | tup sq ra => exact ⟨_, _, rfl, Same.tseq w.fz sq.t, by rw [ra.length]; exact hl, g0, H0, gs, g, S, t, ds, st, gr, w, s, o, ra, p⟩
      · exact p.elim
    | _ => exact p.elim
theorem cgs_put (i : Nat) {x : Str} {k : Expr} {fk : Ex} {p1 pos' : Pos} (hk : CE X C E k fk) (hN : X.N[i]? = some x := by rfl) (hv : Vis X.env.scope x := by first | exact Or.inl rfl | exact Or.inr (Or.inl rfl) | exact Or.inr (Or.inr rfl)) (hd : (x == ("__debug__" : Str)) = false := by decide)
    (hcd : (x == ("__classdict__" : Str)) = false := by decide)
    (ha : ∀ v, assign (.Subscript (.Name x p1) k pos') X.env v = (do
      let ov ← holding [v] (eval (.Name x p1) X.env)
      let iv ← holding [v, ov] (eval k X.env)
      standAt pos'
      holding [v, ov, iv] (setItem ov iv v)
      release [v, ov, iv] []) := by intro _; rfl) : CGS X C E (.Subscript (.Name x p1) k pos') (gsPut i fk) :=
  PG.imp (pg_sub (pe_var hN hv hd hcd) hk set_list ha) fun v σ H Q ⟨g0, H0, gs, g, S, t, d, st, gr, w, s, o, r, p⟩ => by
    unfold gsPut at p
    cases e : S[i]? with
    | none => rw [e] at p; exact p.elim
    | some sv =>
      rw [e] at p
      cases sv with
      | own ds =>
        obtain ⟨a, vs, h1, h2, h3, h4⟩ := s.own i ds e
        refine ⟨_, h1, g, S, t, w, s, ?_⟩
        refine Post.all p.bnd0 st fun n t2 g2 H2 er st2 w2 q2 u ru => ?_
        have q2 := q2 g2 H2 (st.trans st2) w2
        cases n with
        | int n =>
          have q2 : Post C E g0 H0 (Rg X.K H0 gs Q) ((match ixN ds.length n with | some j => ret (S.set i (.own (ds.set j d))) | none => stuck) t2) := q2
          cases z : ixN ds.length n with
          | none => rw [z] at q2; exact q2.elim
          | some j =>
            rw [z] at q2
            cases ru
            have s2 := s.stp w st2
            obtain ⟨a', vs', k1, k2, k3, k4⟩ := s2.own i ds e
            rw [h1] at k1
            cases k1
            refine ⟨a, vs', n, j, rfl, rfl, k2, by rw [k3.length]; exact z, ?_⟩
            exact q2 g2 _ ((st.trans st2).updO (o i _ a e rfl h1)) (w2.updL k2 k4) _ (gr.trans st2.gw) (s2.updO e h1 (RpA.set (r.stp st2) j k3)) (o.updO e)
        | _ => exact q2.elim
      | _ => exact p.elim
theorem cs_asgS {tg e : Expr} {f : Ex} {ft : Tq} {pos : Pos} (he : CE X C E e f) (hg : CGS X C E tg ft) (hs : swapsWithSole [tg] e pos.line X.env = pure false := by rfl) (hw : swappedStores [tg] e X.env = pure none := by rfl)
    (h1 : (assignEach [tg] X.env).map (·.2) = [assign tg X.env] := by rfl) : CS X C E (.Assign [tg] e pos) (sAsgS ft f) :=
  PS.imp (ps_asg he hg hs hw h1) fun De σ H ⟨g0, H0, gs, g, S, t, st, gr, w, s, o, p⟩ => tS.ex st gr w s p fun d t1 g1 H1 v st1 st01 gr1 w1 s1 r q =>
    ⟨g0, H0, gs, g1, S, t1, d, st01, gr1, w1, s1, o, r, q.bnd0.imp fun S' t2 g2 H2 st2 w2 q2 σ' gw s' o' => q2 g2 H2 st2 w2 σ' gw s' o'⟩
end
end BG
set_option Elab.async false
set_option linter.all false
set_option maxRecDepth 100000
set_option maxHeartbeats 4000000
namespace BG
open PySem PySem.Spec PyProof.Rows L2
open AutoSeq1 (wpAny_loadPart')
end BG
set_option Elab.async false
set_option linter.all false
set_option maxRecDepth 100000
set_option maxHeartbeats 4000000
namespace BG
open PySem PySem.Spec PyProof.Rows L2
section
variable {X : Cx} {C : Cn} {E : XK}
theorem SqN.ty {pins : List (Addr × Obj)} {σ : L2.St} {H : Hp} {s : Shared} {a : Addr} {xs : List V} (I : Inv X pins σ H s) (h : SqN X.K H a xs) : s.TypeIs (.ref a) "tuple" ∧ ∃ ob, s.heap.get? a = some ob ∧ ob.dict = none := by
  rcases h with ⟨o, h, hd, hc⟩ | ⟨o, its, n, hk, hc, _, _, _, hd⟩
  · obtain ⟨g1, _⟩ := I.hok a _ h
    exact ⟨⟨o, g1, hc⟩, o, g1, hd⟩
  · have g1 := I.kIn a o hk
    exact ⟨⟨o, g1, hc⟩, o, g1, hd⟩
/-- t.m(e, ..), t a tuple -/
theorem pe_bmN {o e : Expr} {es : List Expr} {to : TE} {t : TA} {name : Str} {apos cpos : Pos} {id : String} {r : V → List V → Hp → VK → Prop} (slot : Slot "tuple" name id) (hty : typeOf (.builtin id) = pure (.type "method_descriptor")) (hm : MtR X id r) (ho : PE X o to) (ha : PA X (e :: es) t)
    (hbase : attributeBase o name X.env (eval o X.env) = eval o X.env := by rfl)
    (hfew : ((backTo cpos (starEach (e :: es) X.env)).all (fun x => !x.1) && (backToKw cpos (keywordEach [] X.env)).all (fun x => x.1.isSome) && decide ((e :: es).length + ([] : List Keyword).length + (if ([] : List Keyword).isEmpty then 0 else 1) < 30)) = true := by rfl)
    (hline : (apos.endLine == cpos.line) = true := by rfl) (hs : starEach (e :: es) X.env = (false, eval e X.env) :: starEach es X.env := by rfl) (hplain : (backTo cpos (starEach es X.env)).any (·.1) = false := by rfl) :
    PE X (.Call (.Attribute o name apos) (e :: es) [] cpos) (fun σ H Q => to σ H fun x H1 => (∃ a xs, x = .ref a ∧ SqN X.K H1 a xs) ∧ t σ H1 fun vs H2 => r x vs H2 Q) := ⟨fun pins s σ H Q I h => by
  refine wpAny_Call_method_late hbase hfew hline rfl (thn (ho.run pins s σ H _ I h) fun v s1 ⟨x, H1, I1, r1, ⟨a, xs, ex, sq⟩, q1⟩ => ?_)
  subst ex
  cases r1
  obtain ⟨k1, ob, k2, k3⟩ := sq.ty I1
  refine ⟨"tuple", id, PySem.F.plainAttrs_tuple, slot, hty, k1, fun b eb => by cases eb; exact ⟨ob, k2, k3⟩, ?_⟩
  have hA := ha.run cpos pins s1 σ H1 _ I1 q1
  rw [hs] at hA ⊢
  exact Calls.callWith_builtin (by show (false || (backTo cpos (starEach es X.env)).any (·.1)) = false; rw [hplain] <;> rfl) (Calls.evalArgs_plain (thn hA fun us s2 ⟨vs, H2, I2, r2, q2⟩ => hm pins s2 σ H2 (.ref a) vs (.ref a) us Q I2 rfl r2 q2))⟩
/-- data that are read -/
theorem RpW.reads {pins : List (Addr × Obj)} {σ : L2.St} {H : Hp} {s : Shared} {g : G} {t : Tn} {v : V} {u : Value} {d : D} (I : Inv X pins σ H s) (w : Wf C g H t) (r : RpW X.K g H v d) (o : okD d 60 = true) (rv : RelV v u) : ∃ as, Reads s.heap u d.py as := Dp.reads I _ _ _ (RpW.dp w r o) rv
/-- t.m(y), t a tuple -/
def eTM (op : List D → D → M D) (a b : Ex) : Ex := fun S => bnd (a S) fun x => match x with
  | .tup ds => bnd (b S) fun y => op ds y
  | _ => stuck
theorem Rp.nice {K : PySem.W.Frag} {C : Cn} {g : G} {H : Hp} {t : Tn} {v : V} {ds : List D} (w : Wf C g H t) (h : Rp K g v (.tup ds)) : ∃ a xs, v = .ref a ∧ SqN K H a xs := by
  cases h with
  | tup s _ => exact ⟨_, _, rfl, s.mono w.fz⟩
theorem tE.tm {K : PySem.W.Frag} {op : List D → D → M D} {r : V → List V → Hp → VK → Prop} {fo fe : Ex} {σ : L2.St} {H : Hp} {Q : VK} (h : tE K C E (eTM op fo fe) σ H Q)
    (hr : ∀ x y g t ds d H1, Wf C g H1 t → Rp K g x (.tup ds) → Rp K g y d → PostQ K C E g H1 Q (op ds d t) → r x [y] H1 Q) :
    tE K C E fo σ H fun x H1 => (∃ a xs, x = .ref a ∧ SqN K H1 a xs) ∧ tCons (tE K C E fe) tNil σ H1 fun vs H2 => r x vs H2 Q := by
  refine tE.seq h fun g S t x d H1 w s rx p => ?_
  cases d with
  | tup ds => exact ⟨rx.nice w, g, S, t, w, s, Post.bnd p |>.imp fun d2 t2 g2 H2 st w2 q v r2 => hr x v g2 t2 ds d2 H2 w2 (rx.stp st) r2 q⟩
  | _ => exact p.elim
theorem ce_tm {op : List D → D → M D} {r : V → List V → Hp → VK → Prop} {o e : Expr} {fo fe : Ex} {name : Str} {id : String} {apos cpos : Pos} (slot : Slot "tuple" name id) (hty : typeOf (.builtin id) = pure (.type "method_descriptor")) (hm : MtR X id r)
    (hr : ∀ x y g t ds d H1 Q, Wf C g H1 t → Rp X.K g x (.tup ds) → Rp X.K g y d → PostQ X.K C E g H1 Q (op ds d t) → r x [y] H1 Q) (ho : CE X C E o fo) (he : CE X C E e fe) (hbase : attributeBase o name X.env (eval o X.env) = eval o X.env := by rfl)
    (hfew : ((backTo cpos (starEach [e] X.env)).all (fun x => !x.1) && (backToKw cpos (keywordEach [] X.env)).all (fun x => x.1.isSome) && decide ([e].length + ([] : List Keyword).length + (if ([] : List Keyword).isEmpty then 0 else 1) < 30)) = true := by rfl)
    (hline : (apos.endLine == cpos.line) = true := by rfl) (hs : starEach [e] X.env = (false, eval e X.env) :: starEach [] X.env := by rfl) (hplain : (backTo cpos (starEach [] X.env)).any (·.1) = false := by rfl) :
    CE X C E (.Call (.Attribute o name apos) [e] [] cpos) (eTM op fo fe) :=
  PE.imp (pe_bmN slot hty hm ho (pa_cons he pa_nil hs) hbase hfew hline hs hplain) fun σ H Q h => tE.tm h fun x y g t ds d H1 w r1 r2 p => hr x y g t ds d H1 Q w r1 r2 p
/-- t.index(y), numbers -/
def pIdxOf (ds : List D) (d : D) : M D := match intsD ds, d with
  | some ns, .int k => if k ∈ ns then ret (.int (ns.idxOf k : Nat)) else stuck
  | _, _ => stuck
def rIdxOf (K : PySem.W.Frag) : V → List V → Hp → VK → Prop := fun x xs H Q => ∃ (a : Addr) (ns : List Int) (k : Int), x = .ref a ∧ xs = [.int k] ∧ SqT K H a (ns.map V.int) ∧ k ∈ ns ∧ Q (.int (ns.idxOf k : Nat)) H
theorem ints_vals : ∀ {ns : List Int} {us : List Value}, Vals (ns.map V.int) us → IntsAre us ns
  | [], _, h => by cases h; exact .nil
  | n :: ns, _, h => by
    cases h with
    | cons r rs =>
      obtain ⟨t, rfl⟩ := r
      exact .cons _ _ (ints_vals rs)
theorem mt_tidx : MtR X "tuple.index" (rIdxOf X.K) := fun pins s σ H x xs v us Q I rx rs h => by
  obtain ⟨a, ns, k, rfl, rfl, sq, hk, q⟩ := h
  cases rx
  obtain ⟨u, rfl, tok, rfl⟩ := vals1 rs
  obtain ⟨ws, r, p, hz⟩ := I.tuple sq
  exact PySem.SeqAt.tuple_index_ints (vs := ws) p (ints_vals r) hk ⟨.int (ns.idxOf k : Nat), H, I.tok _, ⟨_, rfl⟩, q⟩
theorem hr_idx {x y : V} {g : G} {t : Tn} {ds : List D} {d : D} {H1 : Hp} {Q : VK} (w : Wf C g H1 t) (r1 : Rp X.K g x (.tup ds)) (r2 : Rp X.K g y d) (p : PostQ X.K C E g H1 Q (pIdxOf ds d t)) : rIdxOf X.K x [y] H1 Q := by
  unfold pIdxOf at p
  cases e : intsD ds with
  | none => rw [e] at p; exact p.elim
  | some ns =>
    rw [e] at p
    cases d with
    | int k =>
      have p : PostQ X.K C E g H1 Q ((if k ∈ ns then ret (.int (ns.idxOf k : Nat)) else stuck) t) := p
      split at p
      · rename_i hk
        cases r2
        cases r1 with
        | tup sq ra =>
          have ev := ra.intsD e
          subst ev
          exact ⟨_, ns, k, rfl, rfl, Same.tseq w.fz sq.t, hk, pRetV p w (.int _)⟩
      · exact p.elim
    | _ => exact p.elim
theorem ce_tidx {o e : Expr} {fo fe : Ex} {apos cpos : Pos} (ho : CE X C E o fo) (he : CE X C E e fe) (hbase : attributeBase o "index" X.env (eval o X.env) = eval o X.env := by rfl)
    (hfew : ((backTo cpos (starEach [e] X.env)).all (fun x => !x.1) && (backToKw cpos (keywordEach [] X.env)).all (fun x => x.1.isSome) && decide ([e].length + ([] : List Keyword).length + (if ([] : List Keyword).isEmpty then 0 else 1) < 30)) = true := by rfl)
    (hline : (apos.endLine == cpos.line) = true := by rfl) (hs : starEach [e] X.env = (false, eval e X.env) :: starEach [] X.env := by rfl) (hplain : (backTo cpos (starEach [] X.env)).any (·.1) = false := by rfl) :
    CE X C E (.Call (.Attribute o "index" apos) [e] [] cpos) (eTM pIdxOf fo fe) := ce_tm PySem.F.slot_tuple_index PySem.F.type_tuple_index mt_tidx (fun _ _ _ _ _ _ _ _ w r1 r2 p => hr_idx w r1 r2 p) ho he hbase hfew hline hs hplain
end
end BG
set_option Elab.async false
set_option linter.all false
set_option maxRecDepth 100000
set_option maxHeartbeats 4000000
namespace BG
open PySem PySem.Spec PyProof.Rows L2
end BG
set_option Elab.async false
set_option linter.all false
set_option maxRecDepth 100000
set_option maxHeartbeats 4000000
namespace BG
open PySem PySem.Spec PyProof.Rows L2
end BG
set_option Elab.async false
set_option linter.all false
set_option maxRecDepth 100000
set_option maxHeartbeats 4000000
namespace BG
open PySem PySem.Spec PyProof.Rows L2
end BG
set_option Elab.async false
set_option linter.all false
set_option maxRecDepth 100000
set_option maxHeartbeats 4000000
namespace BG
open PySem PySem.Spec PyProof.Rows L2
end BG
set_option Elab.async false
set_option linter.all false
set_option maxRecDepth 100000
set_option maxHeartbeats 4000000
namespace BG
open PySem PySem.Spec PyProof.Rows L2
section
variable {X : Cx} {C : Cn} {E : XK}
theorem intsD_map : ∀ n : List Int, intsD (n.map D.int) = some n
  | [] => rfl
  | x :: n => by
    show (intsD (n.map D.int)).map (x :: ·) = _
    rw [intsD_map n]; rfl
end
end BG
set_option Elab.async false
set_option linter.all false
set_option maxRecDepth 100000
set_option maxHeartbeats 4000000
namespace BG
open PySem PySem.Spec PyProof.Rows L2 RZ
end BG
set_option Elab.async false
set_option linter.all false
set_option maxRecDepth 100000
set_option maxHeartbeats 4000000
namespace BG
open PySem PySem.Spec PyProof.Rows L2
end BG
set_option Elab.async false
set_option linter.all false
set_option maxRecDepth 100000
set_option maxHeartbeats 4000000
namespace BG
open PySem PySem.Spec PyProof.Rows L2
end BG
set_option Elab.async false
set_option linter.all false
set_option maxRecDepth 100000
set_option maxHeartbeats 4000000
namespace BG
open PySem PySem.Spec PyProof.Rows L2
section
variable {X : Cx} {pins : List (Addr × Obj)} {σ : L2.St} {H : Hp} {s : Shared}
/-- the keys' tuples are there -/
def KeysIn (K : PySem.W.Frag) (H : Hp) (L : List (List Int × Addr × V)) : Prop := ∀ x ∈ L, SqT K H x.2.1 (x.1.map V.int)
theorem RpA.ints_inv {K : PySem.W.Frag} {g : G} : ∀ {k : List Int} {vs : List V}, RpA K g vs (k.map D.int) → vs = k.map V.int
  | [], _, h => by cases h; rfl
  | i :: k, _, h => by
    cases h with
    | cons a b =>
      cases a
      rw [RpA.ints_inv b]; rfl
theorem RpD.kin {K : PySem.W.Frag} {C : Cn} {g : G} {H : Hp} {t : Tn} {L : DL} {ks : List (List Int × D)} (r : RpD K g L ks) (w : Wf C g H t) : KeysIn K H L.2 := fun x hx => by
  have := r.kt x hx
  cases this with
  | tup sq ra =>
    have := RpA.ints_inv ra
    subst this
    exact Same.tseq w.fz sq.t
end
end BG
set_option Elab.async false
set_option linter.all false
set_option maxRecDepth 100000
set_option maxHeartbeats 4000000
namespace BG
open PySem PySem.Spec PyProof.Rows L2
/-- a code object is no dict -/
theorem code_ne {q : Str} {p : Addr} {L : DL} (e : LamX.CodeO p q = DkO p L) : False := by
  obtain ⟨h, e1⟩ := heap_size p
  have at_ : (h.push { cls := .none, data := .fields #[.none, .str q 0] }).get? p = some { cls := .none, data := .fields #[.none, .str q 0] } := by
    have := Heap.get?_push_size h (o := { cls := .none, data := .fields #[.none, .str q 0] }) rfl
    rw [e1] at this; exact this
  unfold LamX.CodeO DkO at e
  injection e with e
  have k : (fun h : Heap => ∃ (oc : Obj) (vs : Array Value) (t : Tok), h.get? p = some oc ∧ oc.data = .fields vs ∧ vs[1]? = some (.str q t)) (h.push { cls := .none, data := .fields #[.none, .str q 0] }) := ⟨_, _, 0, at_, rfl, rfl⟩
  rw [e] at k
  obtain ⟨o, es, us, ho, _, hd, _⟩ := k
  rw [at_] at ho
  cases ho
  cases hd
section
variable {X : Cx} {C : Cn} {E : XK}
theorem RpA.snoc {K : PySem.W.Frag} {g : G} {vs : List V} {ds : List D} {v : V} {d : D} (h : RpA K g vs ds) (r : Rp K g v d) : RpA K g (vs ++ [v]) (ds ++ [d]) := h.app (.cons r .nil)
theorem RpD.snoc {K : PySem.W.Frag} {g : G} {L : DL} {ks : List (List Int × D)} {k : List Int} {a : Addr} {v : V} {d : D} {ep : Nat} (r : RpD K g L ks) (rk : Rp K g (.ref a) (.tup (k.map D.int))) (rv : Rp K g v d) (hn : k ∉ ks.map (·.1)) : RpD K g (ep, L.2 ++ [(k, a, v)]) (ks ++ [(k, d)]) where
  keys := by show (L.2 ++ [(k, a, v)]).map (·.1) = _; rw [List.map_append, List.map_append, r.keys]; rfl
  nd := by
    show ((L.2 ++ [(k, a, v)]).map (·.1)).Nodup
    rw [List.map_append]
    refine List.nodup_append.mpr ⟨r.nd, by simp, fun x hx y hy => ?_⟩
    rw [List.map_singleton, List.mem_singleton] at hy
    subst hy
    rw [r.keys] at hx
    exact fun z => hn (z ▸ hx)
  kt := fun x hx => by
    rcases List.mem_append.mp hx with h | h
    · exact r.kt x h
    · rw [List.mem_singleton] at h; subst h; exact rk
  vs := by show RpA K g ((L.2 ++ [(k, a, v)]).map (·.2.2)) _; rw [List.map_append, List.map_append]; exact r.vs.snoc rv
theorem RpD.length {K : PySem.W.Frag} {g : G} {L : DL} {ks : List (List Int × D)} (r : RpD K g L ks) : L.2.length = ks.length := by
  have := congrArg List.length r.keys
  rw [List.length_map, List.length_map] at this
  exact this
/-- x[k] -/
def tLook (ks : List (List Int × D)) (y : List Int) : Option D := (ks.find? fun p => decide (p.1 = y)).map (·.2)
theorem tLook_ix : ∀ {ks : List (List Int × D)} {y : List Int} {d : D}, tLook ks y = some d → ∃ (i : Nat), ks[i]? = some (y, d)
  | [], _, _, h => by cases h
  | p :: ks, y, d, h => by
    unfold tLook at h
    rw [List.find?_cons] at h
    by_cases c : p.1 = y
    · rw [decide_eq_true c] at h
      have h : some p.2 = some d := h
      cases h
      exact ⟨0, by rw [← c]; rfl⟩
    · rw [decide_eq_false c] at h
      obtain ⟨i, hi⟩ := tLook_ix (ks := ks) h
      exact ⟨i + 1, hi⟩
theorem RpA.getR {K : PySem.W.Frag} {g : G} : ∀ {vs : List V} {ds : List D} {i : Nat} {d : D}, RpA K g vs ds → ds[i]? = some d → ∃ v, vs[i]? = some v ∧ Rp K g v d
  | _, _, 0, _, .cons a b, h => by cases h; exact ⟨_, rfl, a⟩
  | _, _, i + 1, _, .cons a b, h => RpA.getR (i := i) b h
  | _, _, i, _, .nil, h => by simp at h
theorem RpD.look {K : PySem.W.Frag} {g : G} {L : DL} {ks : List (List Int × D)} {y : List Int} {d : D} (r : RpD K g L ks) (h : tLook ks y = some d) : ∃ (i : Nat) (l : List Int × Addr × V), L.2[i]? = some l ∧ l.1 = y ∧ Rp K g l.2.2 d := by
  obtain ⟨i, hi⟩ := tLook_ix h
  have hk : (ks.map (·.1))[i]? = some y := by rw [List.getElem?_map, hi]; rfl
  have hd : (ks.map (·.2))[i]? = some d := by rw [List.getElem?_map, hi]; rfl
  obtain ⟨v, hv, rv⟩ := r.vs.getR hd
  rw [← r.keys, List.getElem?_map] at hk
  rw [List.getElem?_map] at hv
  cases e : L.2[i]? with
  | none => rw [e] at hk; cases hk
  | some l =>
    rw [e] at hk hv
    cases hk
    cases hv
    exact ⟨i, l, e, rfl, rv⟩
end
end BG
set_option Elab.async false
set_option linter.all false
set_option maxRecDepth 100000
set_option maxHeartbeats 4000000
namespace BG
open PySem PySem.Spec PyProof.Rows L2
end BG
set_option Elab.async false
set_option linter.all false
set_option maxRecDepth 100000
set_option maxHeartbeats 4000000
namespace BG
open PySem PySem.Spec PyProof.Rows L2
end BG
set_option Elab.async false
set_option linter.all false
set_option maxRecDepth 100000
set_option maxHeartbeats 4000000
namespace BG
open PySem PySem.Spec PyProof.Rows L2
end BG
set_option Elab.async false
set_option linter.all false
set_option maxRecDepth 100000
set_option maxHeartbeats 4000000
namespace BL
open PySem PySem.Spec PyProof.Rows L2 BG
def c_KINDS : D := (.tup [(.str "both"), (.str "if"), (.str "not"), (.str "pick"), (.str "swap")])
def c_LONGEST : D := (.int 20)
def c_SAME : D := (.tup [(.int 0), (.int 1), (.int 2), (.int 3), (.int 4), (.int 5), (.int 6), (.int 7)])
def b_is_between : Stm := (sRet (eAnd (eUn (pIsi .int) (eVar 0)) (eAnd (eUn oNot (eUn (pIsi .bool) (eVar 0))) (eChain pLe pLe (eVar 1) (eVar 0) (eVar 2)))))
def f_is_between : Fn := fnOf 3 b_is_between
def b_is_gate : Stm := (sSeq (sIf (eOr (eUn oNot (eUn (pIsi .tuple) (eVar 0))) (eOr (eBin pEq (eVar 0) (eTup [])) (eOr (eUn oNot (eUn (pIsi .str) (eBin pIdx (eVar 0) (eC (.int 0))))) (eBin pNotIn (eBin pIdx (eVar 0) (eC (.int 0))) (eC c_KINDS))))) (sRet (eC (.bl false))) sNil)
    (sSeq (sPar 1 2 (eBin pIdx (eVar 0) (eC (.int 0))) (eSlice (eVar 0) (some (eC (.int 1))) none))
    (sSeq (sIf (eOr (eUn oNot (eUn bAll (eComp [3] (itSeq (eVar 2)) (gN 3) (eC (.bl true)) (eCall f_is_between [(eVar 3), (eC (.int 0)), (eC (.int 2))])))) (eBin pNe (eUn pLenSet (eVar 2)) (eUn bLen (eVar 2)))) (sRet (eC (.bl false))) sNil)
    (sSeq (sIf (eBin pNe (eUn bLen (eVar 2)) (eIf (eBin pEq (eVar 1) (eC (.str "not"))) (eC (.int 1)) (eIf (eBin pIn (eVar 1) (eTup [(eC (.str "if")), (eC (.str "swap"))])) (eC (.int 2)) (eC (.int 3))))) (sRet (eC (.bl false))) sNil)
    (sSeq (sIf (eOr (eBin pEq (eVar 1) (eC (.str "both"))) (eBin pEq (eVar 1) (eC (.str "swap")))) (sRet (eBin pLt (eBin pIdx (eVar 2) (eC (.int 0))) (eBin pIdx (eVar 2) (eC (.int 1))))) sNil)
    (sRet (eOr (eBin pNe (eVar 1) (eC (.str "pick"))) (eBin pLt (eBin pIdx (eVar 2) (eC (.int 1))) (eBin pIdx (eVar 2) (eC (.int 2)))))))))))
def f_is_gate : Fn := fnOf 4 b_is_gate
def b_is_exchange : Stm := (sSeq (sIf (eOr (eUn oNot (eUn (pIsi .tuple) (eVar 0))) (eOr (eBin pNe (eUn bLen (eVar 0)) (eC (.int 8))) (eUn oNot (eUn bAll (eComp [1] (itSeq (eVar 0)) (gN 1) (eC (.bl true)) (eCall f_is_between [(eVar 1), (eC (.int 0)), (eC (.int 7))])))))) (sRet (eC (.bl false))) sNil)
    (sRet (eBin pEq (eUn pLenSet (eVar 0)) (eC (.int 8)))))
def f_is_exchange : Fn := fnOf 2 b_is_exchange
def b_law_is : Stm := (sRet (eAnd (eUn (pIsi .bool) (eVar 0)) (eBin pEq (eVar 0) (eVar 1))))
def f_law_is : Fn := fnOf 2 b_law_is
def b_law_draw : Stm := (sSeq (sTC 1 (eBin pAdd (eTC 1) (eC (.int 1))))
    (sSeq (sAsg 3 (eIf (eScr 0) (eBin pMod (eTC 1) (eUn bLen (eVar 0))) (eC (.int 0))))
    (sSeq (sAsg 4 (eTR 1 (eVar 3) (eIf (eScr 0) (eBin pIdx (eVar 0) (eVar 3)) (eC (.int 0)))))
    (sSeq (sIf (eBin pGe (eVar 4) (eBin pPow (eC (.int 10)) (eC (.int 18)))) (sSeq (sTR 1 (eVar 3) (eBin pDiv (eVar 4) (eVar 2)))
    (sRet (eBin pMod (eVar 4) (eVar 2)))) sNil)
    (sSeq (sAsg 5 (eBin pMod (eBin pAdd (eVar 4) (eBin pMul (eC (.int 104729)) (eTC 1))) (eC (.int 4294967291))))
    (sSeq (sAsg 5 (eBin pMod (eBin pPow (eVar 5) (eC (.int 5))) (eC (.int 4294967279))))
    (sRet (eBin pMod (eBin pDiv (eBin pMod (eBin pAdd (eBin pMul (eBin pDiv (eVar 5) (eC (.int 64))) (eC (.int 69621))) (eVar 5)) (eC (.int 4294967231))) (eC (.int 8))) (eVar 2)))))))))
def f_law_draw : Fn := fnOf 6 b_law_draw
def b_law_begun : Stm := (sRet eBegun)
def f_law_begun : Fn := fnOf 0 b_law_begun
def b_law_gates : Stm := (sSeq (sOwn 0 (eLst []))
    (sSeq (sFor (itRange1 (eC (.int 3))) (gN 1)
    (sSeq (sApp 0 (eTup [(eC (.str "not")), (eVar 1)]))
    (sSeq (sFor (itRange1 (eC (.int 3))) (gN 2)
    (sExt 0 (eIf (eBin pNe (eVar 1) (eVar 2)) (eLst [(eTup [(eC (.str "if")), (eVar 1), (eVar 2)])]) (eLst []))))
    (sSeq (sAsg 3 (eComp [4] (itRange1 (eC (.int 3))) (gN 4) (eBin pNe (eVar 4) (eVar 1)) (eVar 4)))
    (sSeq (sApp 0 (eTup [(eC (.str "both")), (eBin pIdx (eVar 3) (eC (.int 0))), (eBin pIdx (eVar 3) (eC (.int 1))), (eVar 1)]))
    (sSeq (sApp 0 (eTup [(eC (.str "swap")), (eBin pIdx (eVar 3) (eC (.int 0))), (eBin pIdx (eVar 3) (eC (.int 1)))]))
    (sApp 0 (eTup [(eC (.str "pick")), (eVar 1), (eBin pIdx (eVar 3) (eC (.int 0))), (eBin pIdx (eVar 3) (eC (.int 1)))]))))))))
    (sRet (eUn bSortedA (ePeek 0)))))
def f_law_gates : Fn := fnOf 5 b_law_gates
def b_law_circuit : Stm := (sSeq (sAsg 4 (eComp [5] (itSeq (eCall f_law_gates [])) (gN 5) (eBin pIn (eBin pIdx (eVar 5) (eC (.int 0))) (eVar 2)) (eVar 5)))
    (sRet (eUn bTuple (eComp [6] (itRange1 (eCall f_law_draw [(eVar 0), (eVar 1), (eBin pAdd (eVar 3) (eC (.int 1)))])) (gN 6) (eC (.bl true)) (eBin pIdx (eVar 4) (eCall f_law_draw [(eVar 0), (eVar 1), (eUn bLen (eVar 4))]))))))
def f_law_circuit : Fn := fnOf 7 b_law_circuit
def b_law_exchange : Stm := (sSeq (sParO 2 3 (eUn pRng (eC (.int 8))) (eLst []))
    (sSeq (sFor (itRange1 (eC (.int 8))) (gN 4)
    (sSeq (sAsg 5 (eCall f_law_draw [(eVar 0), (eVar 1), (eUn bLen (eVar 2))]))
    (sSeq (sApp 3 (eBin pIdx (eVar 2) (eVar 5)))
    (sAsg 2 (eBin pAdd (eSlice (eVar 2) none (some (eVar 5))) (eSlice (eVar 2) (some (eBin pAdd (eVar 5) (eC (.int 1)))) none))))))
    (sRet (eUn bTuple (ePeek 3)))))
def f_law_exchange : Fn := fnOf 6 b_law_exchange
def b_weight_of : Stm := (sRet (eBin pIdx (eTup [(eC (.int 1)), (eC (.int 2)), (eC (.int 4))]) (eVar 0)))
def f_weight_of : Fn := fnOf 1 b_weight_of
def b_bit : Stm := (sRet (eBin pMod (eBin pDiv (eVar 0) (eCall f_weight_of [(eVar 1)])) (eC (.int 2))))
def f_bit : Fn := fnOf 2 b_bit
def b_applied : Stm := (sSeq (sPar 2 3 (eBin pIdx (eVar 0) (eC (.int 0))) (eSlice (eVar 0) (some (eC (.int 1))) none))
    (sSeq (sIf (eBin pIn (eVar 2) (eTup [(eC (.str "not")), (eC (.str "if")), (eC (.str "both"))])) (sSeq (sIf (eUn bAll (eComp [4] (itSeq (eSlice (eVar 3) none (some (eUn pNeg (eC (.int 1)))))) (gN 4) (eC (.bl true)) (eBin pEq (eCall f_bit [(eVar 1), (eVar 4)]) (eC (.int 1))))) (sRet (eBin pXor (eVar 1) (eCall f_weight_of [(eBin pIdx (eVar 3) (eUn pNeg (eC (.int 1))))]))) sNil)
    (sRet (eVar 1))) sNil)
    (sSeq (sIf (eAnd (eBin pEq (eVar 2) (eC (.str "pick"))) (eBin pEq (eCall f_bit [(eVar 1), (eBin pIdx (eVar 3) (eC (.int 0)))]) (eC (.int 0)))) (sRet (eVar 1)) sNil)
    (sSeq (sAsgG (gP 5 6) (eSlice (eVar 3) (some (eUn pNeg (eC (.int 2)))) none))
    (sSeq (sIf (eBin pEq (eCall f_bit [(eVar 1), (eVar 5)]) (eCall f_bit [(eVar 1), (eVar 6)])) (sRet (eVar 1)) sNil)
    (sRet (eBin pXor (eBin pXor (eVar 1) (eCall f_weight_of [(eVar 5)])) (eCall f_weight_of [(eVar 6)]))))))))
def f_applied : Fn := fnOf 7 b_applied
def b_made : Stm := (sSeq (sAsg 1 (eUn bList (eC c_SAME)))
    (sSeq (sFor (itSeq (eVar 0)) (gN 2)
    (sAsg 1 (eComp [3] (itSeq (eVar 1)) (gN 3) (eC (.bl true)) (eCall f_applied [(eVar 2), (eVar 3)]))))
    (sRet (eUn bTuple (eVar 1)))))
def f_made : Fn := fnOf 4 b_made
def b_law_apply : Stm := (sSeq (sOwn 2 (eLst [(eBin pMod (eVar 1) (eC (.int 2))), (eBin pMod (eBin pDiv (eVar 1) (eC (.int 2))) (eC (.int 2))), (eBin pDiv (eVar 1) (eC (.int 4)))]))
    (sSeq (sPar 3 4 (eBin pIdx (eVar 0) (eC (.int 0))) (eBin pIdx (eVar 0) (eUn pNeg (eC (.int 1)))))
    (sSeq (sIf (eOr (eBin pEq (eVar 3) (eC (.str "not"))) (eAnd (eBin pEq (eVar 3) (eC (.str "if"))) (eBin pEq (eBin pIdx (ePeek 2) (eBin pIdx (eVar 0) (eC (.int 1)))) (eC (.int 1))))) (sPut 2 (eVar 4) (eBin pSub (eC (.int 1)) (eBin pIdx (ePeek 2) (eVar 4)))) sNil)
    (sSeq (sIf (eAnd (eBin pEq (eVar 3) (eC (.str "both"))) (eBin pEq (eBin pAdd (eBin pIdx (ePeek 2) (eBin pIdx (eVar 0) (eC (.int 1)))) (eBin pIdx (ePeek 2) (eBin pIdx (eVar 0) (eC (.int 2))))) (eC (.int 2)))) (sPut 2 (eVar 4) (eBin pSub (eC (.int 1)) (eBin pIdx (ePeek 2) (eVar 4)))) sNil)
    (sSeq (sIf (eOr (eBin pEq (eVar 3) (eC (.str "swap"))) (eAnd (eBin pEq (eVar 3) (eC (.str "pick"))) (eBin pEq (eBin pIdx (ePeek 2) (eBin pIdx (eVar 0) (eC (.int 1)))) (eC (.int 1))))) (sSeq (sAsg 5 (eBin pIdx (eVar 0) (eUn pNeg (eC (.int 2)))))
    (sAsgS (gsTup 2 (gsCons (gsPut 2 (eVar 5)) (gsCons (gsPut 2 (eVar 4)) gsNil))) (eTup [(eBin pIdx (ePeek 2) (eVar 4)), (eBin pIdx (ePeek 2) (eVar 5))]))) sNil)
    (sRet (eBin pAdd (eBin pAdd (eBin pIdx (ePeek 2) (eC (.int 0))) (eBin pMul (eC (.int 2)) (eBin pIdx (ePeek 2) (eC (.int 1))))) (eBin pMul (eC (.int 4)) (eBin pIdx (ePeek 2) (eC (.int 2)))))))))))
def f_law_apply : Fn := fnOf 6 b_law_apply
def b_law_made : Stm := (sSeq (sOwn 1 (eLst []))
    (sSeq (sFor (itRange1 (eC (.int 8))) (gN 2)
    (sSeq (sFor (itSeq (eVar 0)) (gN 3)
    (sAsg 2 (eCall f_law_apply [(eVar 3), (eVar 2)])))
    (sApp 1 (eVar 2))))
    (sRet (eUn bTuple (ePeek 1)))))
def f_law_made : Fn := fnOf 4 b_law_made
def b_check_exchange : Stm := (sIf (eUn oNot (eCall f_is_exchange [(eVar 0)])) (sRaise 3) sNil)
def f_check_exchange : Fn := fnOf 1 b_check_exchange
def b_then : Stm := (sRet (eUn bTuple (eComp [2] (itSeq (eVar 0)) (gN 2) (eC (.bl true)) (eBin pIdx (eVar 1) (eVar 2)))))
def f_then : Fn := fnOf 3 b_then
def b_back : Stm := (sRet (eUn bTuple (eComp [1] (itSeq (eC c_SAME)) (gN 1) (eC (.bl true)) (eTM pIdxOf (eVar 0) (eVar 1)))))
def f_back : Fn := fnOf 2 b_back
def b_check_gate : Stm := (sIf (eUn oNot (eCall f_is_gate [(eVar 0)])) (sRaise 0) sNil)
def f_check_gate : Fn := fnOf 1 b_check_gate
end BL
set_option Elab.async false
set_option linter.all false
set_option maxRecDepth 100000
set_option maxHeartbeats 4000000
namespace BG
open PySem PySem.Spec PyProof.Rows L2
def obAt (d : D) : M Ob := fun t => match d with
  | .hnd n => match t.2[n]? with
    | some o => some (.ok o.1 t)
    | none => none
  | _ => none
def newOb (o : Ob) : M D := fun t => some (.ok (.hnd t.2.length) (t.1, t.2 ++ [(o, 0)]))
/-- the object of a handle is changed -/
def setOb (d : D) (o : Ob) : M Unit := fun t => match d with
  | .hnd n => match t.2[n]? with
    | some q => some (.ok () (t.1, t.2.set n (o, q.2 + 1)))
    | none => none
  | _ => none
def liOf : Ob → M (List D)
  | .li ds => ret ds
  | _ => stuck
def insOf : Ob → M (List (Str × D))
  | .ins fs => ret fs
  | _ => stuck
theorem obAt_ok {t : Tn} {n : Nat} {o : Ob × Nat} (e : t.2[n]? = some o) : obAt (.hnd n) t = some (.ok o.1 t) := by
  show (match t.2[n]? with | some o => some (Out.ok o.1 t) | none => none) = _
  rw [e]
theorem obAt_no {t : Tn} {n : Nat} (e : t.2[n]? = none) : obAt (.hnd n) t = none := by
  show (match t.2[n]? with | some o => some (Out.ok o.1 t) | none => none) = _
  rw [e]
theorem setOb_ok {t : Tn} {n : Nat} {q : Ob × Nat} {o : Ob} (e : t.2[n]? = some q) : setOb (.hnd n) o t = some (.ok () (t.1, t.2.set n (o, q.2 + 1))) := by
  show (match t.2[n]? with | some q => some (Out.ok () (t.1, t.2.set n (o, q.2 + 1))) | none => none) = _
  rw [e]
theorem bnd_no {α β : Type} {m : M α} {f : α → M β} {t : Tn} (h : m t = none) : bnd m f t = none := by unfold bnd; rw [h]
section
variable {α : Type} {C : Cn} {E : XK} {g : G} {H : Hp} {t : Tn}
theorem Post.obAt {β : Type} {Rok : β → Tn → G → Hp → Prop} {d : D} {k : Ob → M β} (p : Post C E g H Rok (BG.bnd (BG.obAt d) k t)) : ∃ n o, d = .hnd n ∧ t.2[n]? = some o ∧ Post C E g H Rok (k o.1 t) := by
  cases d with
  | hnd n =>
    cases e : t.2[n]? with
    | none => rw [bnd_no (obAt_no e)] at p; exact p.elim
    | some o => rw [bnd_ok (obAt_ok e)] at p; exact ⟨n, o, rfl, e, p⟩
  | _ => exact p.elim
theorem Post.liOf {β : Type} {Rok : β → Tn → G → Hp → Prop} {o : Ob} {k : List D → M β} (p : Post C E g H Rok (BG.bnd (BG.liOf o) k t)) : ∃ ds, o = .li ds ∧ Post C E g H Rok (k ds t) := by
  cases o with
  | li ks => exact ⟨ks, rfl, p⟩
  | _ => exact p.elim
theorem Post.insOf {β : Type} {Rok : β → Tn → G → Hp → Prop} {o : Ob} {k : List (Str × D) → M β} (p : Post C E g H Rok (BG.bnd (BG.insOf o) k t)) : ∃ fs, o = .ins fs ∧ Post C E g H Rok (k fs t) := by
  cases o with
  | ins ks => exact ⟨ks, rfl, p⟩
  | _ => exact p.elim
theorem Post.setOb {β : Type} {Rok : β → Tn → G → Hp → Prop} {n : Nat} {o : Ob} {q : Ob × Nat} {k : Unit → M β} (p : Post C E g H Rok (BG.bnd (BG.setOb (.hnd n) o) k t)) (e : t.2[n]? = some q) : Post C E g H Rok (k () (t.1, t.2.set n (o, q.2 + 1))) := by
  rw [bnd_ok (setOb_ok e)] at p
  exact p
end
section
variable {K : PySem.W.Frag} {C : Cn} {g : G} {H : Hp} {t : Tn} {v : V} {n : Nat} {o : Ob × Nat}
theorem Rp.ob (r : Rp K g v (.hnd n)) (w : Wf C g H t) (e : t.2[n]? = some o) : ∃ a, v = .ref a ∧ g.ad[n]? = some a ∧ ObOk C g H a o.1 := by
  cases r with
  | hnd h => exact ⟨_, rfl, h, w.tw.2.ok n _ o h e⟩
theorem Rp.td {ks : List (List Int × D)} (hK : C.K = K) (r : Rp K g v (.hnd n)) (w : Wf C g H t) (e : t.2[n]? = some o) (eo : o.1 = .td ks) : ∃ a L, v = .ref a ∧ g.ad[n]? = some a ∧ H a = some (DkO a L) ∧ RpD K g L ks := by
  obtain ⟨a, h1, h2, h3⟩ := r.ob w e
  rw [eo] at h3
  obtain ⟨L, h4, h5⟩ := h3
  rw [hK] at h5
  exact ⟨a, L, h1, h2, h4, h5⟩
theorem Rp.li {ds : List D} (hK : C.K = K) (r : Rp K g v (.hnd n)) (w : Wf C g H t) (e : t.2[n]? = some o) (eo : o.1 = .li ds) : ∃ a vs, v = .ref a ∧ g.ad[n]? = some a ∧ H a = some (.lst vs) ∧ RpA K g vs ds := by
  obtain ⟨a, h1, h2, h3⟩ := r.ob w e
  rw [eo] at h3
  obtain ⟨L, h4, h5⟩ := h3
  rw [hK] at h5
  exact ⟨a, L, h1, h2, h4, h5⟩
theorem Rp.ins {fs : List (Str × D)} (hK : C.K = K) (r : Rp K g v (.hnd n)) (w : Wf C g H t) (e : t.2[n]? = some o) (eo : o.1 = .ins fs) : ∃ a dx fv, v = .ref a ∧ g.ad[n]? = some a ∧ H a = some (.ins C.cl dx fv) ∧ RpI K g fv fs := by
  obtain ⟨a, h1, h2, h3⟩ := r.ob w e
  rw [eo] at h3
  obtain ⟨dx, fv, h4, h5⟩ := h3
  rw [hK] at h5
  exact ⟨a, dx, fv, h1, h2, h4, h5⟩
end
theorem tab_frame {T : List (Addr × Str)} {H : Hp} {a : Addr} {ho ho' : HO} (h : LamX.Tabs T H) (e : H a = some ho) (n1 : ∀ ps, ho ≠ .tbl ps) (n2 : ∀ q, ho ≠ LamX.CodeO a q) : LamX.Tabs T (upd H a ho') := fun q hq => by
  obtain ⟨ps, h1, h2, h3⟩ := h q hq
  refine ⟨ps, by rw [upd_ne (fun z => by rw [z, e] at h1; exact n1 ps (Option.some.inj h1))]; exact h1, h2, fun pos cv hc => ?_⟩
  obtain ⟨c, e1, e2⟩ := h3 pos cv hc
  refine ⟨c, e1, ?_⟩
  have nc : c ≠ a := fun z => by
    subst z
    rw [e] at e2
    exact n2 _ (Option.some.inj e2)
  rw [upd_ne nc]; exact e2
theorem ObOk.code {C : Cn} {g : G} {H : Hp} {a : Addr} {o : Ob} (h : ObOk C g H a o) : ∃ ho, H a = some ho ∧ (∀ ps, ho ≠ .tbl ps) ∧ (∀ kvs, ho ≠ .dK kvs) ∧ ∀ q, ho ≠ LamX.CodeO a q := by
  cases o with
  | td ks => obtain ⟨L, h, _⟩ := h; exact ⟨_, h, DkO_tbl, (fun _ z => by unfold DkO at z; cases z), fun q z => code_ne z.symm⟩
  | li ds => obtain ⟨L, h, _⟩ := h; exact ⟨_, h, (fun _ z => nomatch z), (fun _ z => nomatch z), (fun q z => by unfold LamX.CodeO at z; cases z)⟩
  | ins fs => obtain ⟨dx, vs, h, _⟩ := h; exact ⟨_, h, (fun _ z => nomatch z), (fun _ z => nomatch z), (fun q z => by unfold LamX.CodeO at z; cases z)⟩
/-- the ghost with one object more -/
def G.more (g : G) (a : Addr) (n : Nat) (ho : HO) : G := ⟨g.Fz, g.tw, g.ad ++ [a], fun m v => if m = n ∧ v = 0 then some ho else g.lg m v⟩
/-- an object that was just made becomes one of the objects -/
theorem adopt {C : Cn} {g0 g : G} {H0 H : Hp} {t : Tn} {a : Addr} {o : Ob} (st : Stp g0 H0 g H) (w : Wf C g H t) (hf : Fre g a) (hn : ¬ Nt H0 a) (ok : ObOk C g H a o) : ∃ g', Stp g0 H0 g' H ∧ Gw g g' ∧ Wf C g' H (t.1, t.2 ++ [(o, 0)]) ∧ g'.ad[t.2.length]? = some a ∧ (∀ b, g'.isTw b → g.isTw b ∨ b = a) ∧ g'.Fz = g.Fz := by
  obtain ⟨ho, h1, h2, _⟩ := ok.at
  have hl := w.tw.2.len
  have le : TwLe g (g.more a t.2.length ho) := ⟨fun _ h => h, fun m b h => by
    show (g.ad ++ [a])[m]? = some b
    rw [List.getElem?_append_left (List.getElem?_eq_some_iff.mp h).1]; exact h, fun m v o h => by
    show (if m = t.2.length ∧ v = 0 then some ho else g.lg m v) = some o
    rw [if_neg (fun z => by rw [z.1, w.tw.2.no t.2.length v (Nat.le_refl _)] at h; cases h)]; exact h⟩
  have tw1 : ∀ b, (g.more a t.2.length ho).isTw b → g.isTw b ∨ b = a := fun b z => by
    rcases z with z | z
    · exact .inl (.inl z)
    · rcases List.mem_append.mp z with z | z
      · exact .inl (.inr z)
      · rw [List.mem_singleton] at z; exact .inr z
  have sm : Same g.Fz (g.more a t.2.length ho).Fz := fun _ _ h => h
  have at_ : ∀ (m : Nat) (b : Addr), (g.more a t.2.length ho).ad[m]? = some b → g.ad[m]? = some b ∨ (m = t.2.length ∧ b = a) := fun m b h => by
    have h : (g.ad ++ [a])[m]? = some b := h
    by_cases hm : m < g.ad.length
    · rw [List.getElem?_append_left hm] at h; exact .inl h
    · rw [List.getElem?_append_right (by omega)] at h
      cases e : m - g.ad.length with
      | zero => rw [e] at h; cases h; exact .inr ⟨by omega, rfl⟩
      | succ k => rw [e] at h; simp at h
  have st_ : ∀ (m : Nat) (q : Ob × Nat), (t.2 ++ [(o, 0)])[m]? = some q → (t.2[m]? = some q ∧ m < t.2.length) ∨ (m = t.2.length ∧ q = (o, 0)) := fun m q h => by
    by_cases hm : m < t.2.length
    · rw [List.getElem?_append_left hm] at h; exact .inl ⟨h, hm⟩
    · rw [List.getElem?_append_right (by omega)] at h
      cases e : m - t.2.length with
      | zero => rw [e] at h; cases h; exact .inr ⟨by omega, rfl⟩
      | succ k => rw [e] at h; simp at h
  refine ⟨g.more a t.2.length ho, ⟨st.fz, st.tw.trans le, ⟨st.twn.1, fun b hb => ?_⟩, st.frm, st.thr, st.new⟩, ⟨sm, le⟩, ⟨w.fz, ⟨w.tw.1, ?_, ?_, ?_, ?_, ?_, ?_⟩, fun b z => ?_, w.tab, w.nft⟩, ?_, tw1, rfl⟩
  · rcases List.mem_append.mp hb with z | z
    · exact st.twn.2 b z
    · rw [List.mem_singleton] at z; subst z; exact .inr hn
  · show (g.ad ++ [a]).length = (t.2 ++ [(o, 0)]).length
    rw [List.length_append, List.length_append, hl]; rfl
  · show (g.ad ++ [a]).Nodup
    refine List.nodup_append.mpr ⟨w.tw.2.nd, by simp, fun x hx y hy => ?_⟩
    rw [List.mem_singleton] at hy
    subst hy
    exact fun z => hf.2 (.inr (z ▸ hx))
  · intro m b q h3 h4
    rcases at_ m b h3 with h5 | ⟨h5, h6⟩
    · rcases st_ m q h4 with ⟨h7, _⟩ | ⟨h7, _⟩
      · exact (w.tw.2.ok m b q h5 h7).keep sm le fun _ h => h
      · have := (List.getElem?_eq_some_iff.mp h5).1; omega
    · rcases st_ m q h4 with ⟨_, h7⟩ | ⟨_, h7⟩
      · omega
      · subst h6 h7
        exact ok.keep sm le fun _ h => h
  · intro m b q h3 h4
    show H b = if m = t.2.length ∧ q.2 = 0 then some ho else g.lg m q.2
    rcases at_ m b h3 with h5 | ⟨h5, h6⟩
    · rcases st_ m q h4 with ⟨h7, h8⟩ | ⟨h7, _⟩
      · rw [if_neg (fun z => by omega)]
        exact w.tw.2.lg m b q h5 h7
      · have := (List.getElem?_eq_some_iff.mp h5).1; omega
    · rcases st_ m q h4 with ⟨_, h7⟩ | ⟨_, h7⟩
      · omega
      · subst h6 h7
        rw [if_pos ⟨h5, rfl⟩]; exact h1
  · intro m q h4 v hv
    show (if m = t.2.length ∧ v = 0 then some ho else g.lg m v) = none
    rcases st_ m q h4 with ⟨h7, h8⟩ | ⟨h7, h8⟩
    · rw [if_neg (fun z => by omega)]
      exact w.tw.2.nw m q h7 v hv
    · subst h8
      have hv : 0 < v := hv
      rw [if_neg (fun z => by omega)]
      exact w.tw.2.no m v (by omega)
  · intro m v hm
    rw [List.length_append] at hm
    have hm : t.2.length + 1 ≤ m := hm
    show (if m = t.2.length ∧ v = 0 then some ho else g.lg m v) = none
    rw [if_neg (fun z => by omega)]
    exact w.tw.2.no m v (by omega)
  · rcases tw1 b z with z | z
    · exact w.ntw b z
    · subst z; exact hf.1
  · show (g.ad ++ [a])[t.2.length]? = some a
    rw [← hl, List.getElem?_append_right (Nat.le_refl _), Nat.sub_self]; rfl
/-- slots are kept -/
theorem SL.more {K : PySem.W.Frag} {g g' : G} {H : Hp} {σ : L2.St} {S : Sl} {a : Addr} (s : SL K g H σ S) (gw : Gw g g') (tw : ∀ b, g'.isTw b → g.isTw b ∨ b = a) (fz : g'.Fz = g.Fz) (hn : ∀ (j : Nat) x, S[j]? = some x → isOw x = true → σ[j]? ≠ some (some (.ref a))) : SL K g' H σ S where
  len := s.len
  ok := fun i x e => by
    have h := s.ok i x e
    have nt : ∀ p, σ[i]? = some (some (.ref p)) → isOw x = true → ¬ g.isTw p → ¬ g'.isTw p := fun p h1 ox h2 z => (tw p z).elim h2 fun z => hn i x e ox (by rw [h1, z])
    cases x with
    | un => trivial
    | raw v => exact h
    | exn v => exact h
    | val d => obtain ⟨v, k1, k2⟩ := h; exact ⟨v, k1, k2.mono gw.fz gw.tw⟩
    | own dj => obtain ⟨b, us, k1, k2, k3, k4, k5⟩ := h; exact ⟨b, us, k1, k2, k3.mono gw.fz gw.tw, by rw [fz]; exact k4, nt b k1 rfl k5⟩
    | dcT kj => obtain ⟨b, L, k1, k2, k3, k4, k5⟩ := h; exact ⟨b, L, k1, k2, k3.mono gw.fz gw.tw, by rw [fz]; exact k4, nt b k1 rfl k5⟩
    | dic kj => obtain ⟨b, us, k1, k2, k3, k4, k5⟩ := h; exact ⟨b, us, k1, k2, ⟨k3.1, k3.2.mono gw.fz gw.tw⟩, by rw [fz]; exact k4, nt b k1 rfl k5⟩
  dis := s.dis
/-- the ghost with a change more -/
def G.chg (g : G) (n v : Nat) (ho : HO) : G := ⟨g.Fz, g.tw, g.ad, fun m u => if m = n ∧ u = v then some ho else g.lg m u⟩
/-- an object is changed -/
theorem change {C : Cn} {g0 g : G} {H0 H : Hp} {t : Tn} {a : Addr} {n : Nat} {q : Ob × Nat} {o : Ob} {ho : HO} (st : Stp g0 H0 g H) (w : Wf C g H t) (ha : g.ad[n]? = some a) (e : t.2[n]? = some q) (hk : ∀ ps, ho ≠ .tbl ps) (ok : ObOk C g (upd H a ho) a o) : ∃ g', Stp g0 H0 g' (upd H a ho) ∧ Gw g g' ∧ Wf C g' (upd H a ho) (t.1, t.2.set n (o, q.2 + 1)) ∧ (∀ b, g'.isTw b → g.isTw b) ∧ g'.Fz = g.Fz := by
  have hm : a ∈ g.ad := List.mem_of_getElem? ha
  have it : g.isTw a := .inr hm
  obtain ⟨ho0, h1, h2, h3, h4⟩ := (w.tw.2.ok n a q ha e).code
  have le : TwLe g (g.chg n (q.2 + 1) ho) := ⟨fun _ h => h, fun _ _ h => h, fun m v o h => by
    show (if m = n ∧ v = q.2 + 1 then some ho else g.lg m v) = some o
    rw [if_neg (fun z => by rw [z.1, z.2, w.tw.2.nw n q e _ (Nat.lt_succ_self _)] at h; cases h)]; exact h⟩
  have sm : Same g.Fz (g.chg n (q.2 + 1) ho).Fz := fun _ _ h => h
  have s1 := st.tww it hk
  have hl : n < t.2.length := (List.getElem?_eq_some_iff.mp e).1
  have uq : ∀ (m : Nat), g.ad[m]? = some a → m = n := fun m hm => by
    exact (List.getElem?_inj (List.getElem?_eq_some_iff.mp hm).1 w.tw.2.nd).mp (hm.trans ha.symm)
  have st_ : ∀ (m : Nat) (r : Ob × Nat), (t.2.set n (o, q.2 + 1))[m]? = some r → (m ≠ n ∧ t.2[m]? = some r) ∨ (m = n ∧ r = (o, q.2 + 1)) := fun m r h => by
    by_cases hm : n = m
    · subst hm
      rw [List.getElem?_set_self hl] at h
      exact .inr ⟨rfl, (Option.some.inj h).symm⟩
    · rw [List.getElem?_set_ne hm] at h
      exact .inl ⟨fun z => hm z.symm, h⟩
  refine ⟨g.chg n (q.2 + 1) ho, ⟨s1.fz, s1.tw.trans le, s1.twn, s1.frm, s1.thr, s1.new⟩, ⟨sm, le⟩, ⟨fun b o' h => ?_, ⟨w.tw.1.ext fun b kvs h _ => ?_, ?_, w.tw.2.nd, ?_, ?_, ?_, ?_⟩, w.ntw, tab_frame w.tab h1 h2 h4, w.nft⟩, fun b z => z, rfl⟩
  · have nb : b ≠ a := fun z => by rw [z] at h; have := w.ntw a it; rw [show g.Fz a = some o' from h] at this; cases this
    rw [upd_ne nb]; exact w.fz b o' h
  · rw [upd_ne (fun z => by rw [z, h1] at h; exact h3 kvs (Option.some.inj h))]; exact h
  · show g.ad.length = (t.2.set n _).length
    rw [List.length_set]; exact w.tw.2.len
  · intro m b r h5 h6
    have h5 : g.ad[m]? = some b := h5
    rcases st_ m r h6 with ⟨h7, h8⟩ | ⟨h7, h8⟩
    · have nb : b ≠ a := fun z => h7 (uq m (by rw [← z]; exact h5))
      exact (w.tw.2.ok m b r h5 h8).keep sm le fun ho' h => by rw [upd_ne nb]; exact h
    · subst h7 h8
      have h9 : g.ad[m]? = some b := h5
      rw [ha] at h9
      cases h9
      exact ok.keep sm le fun _ h => h
  · intro m b r h5 h6
    have h5 : g.ad[m]? = some b := h5
    show upd H a ho b = if m = n ∧ r.2 = q.2 + 1 then some ho else g.lg m r.2
    rcases st_ m r h6 with ⟨h7, h8⟩ | ⟨h7, h8⟩
    · have nb : b ≠ a := fun z => h7 (uq m (by rw [← z]; exact h5))
      rw [if_neg (fun z => h7 z.1), upd_ne nb]
      exact w.tw.2.lg m b r h5 h8
    · subst h7 h8
      have h9 : g.ad[m]? = some b := h5
      rw [ha] at h9
      cases h9
      rw [if_pos ⟨rfl, rfl⟩, upd_same]
  · intro m r h6 v hv
    show (if m = n ∧ v = q.2 + 1 then some ho else g.lg m v) = none
    rcases st_ m r h6 with ⟨h7, h8⟩ | ⟨h7, h8⟩
    · rw [if_neg (fun z => h7 z.1)]
      exact w.tw.2.nw m r h8 v hv
    · subst h7 h8
      have hv : q.2 + 1 < v := hv
      rw [if_neg (fun z => by omega)]
      exact w.tw.2.nw m q e v (by omega)
  · intro m v hm
    rw [List.length_set] at hm
    show (if m = n ∧ v = q.2 + 1 then some ho else g.lg m v) = none
    rw [if_neg (fun z => by omega)]
    exact w.tw.2.no m v hm
/-- slots are kept -/
theorem SL.chg {K : PySem.W.Frag} {C : Cn} {g g' : G} {H : Hp} {t : Tn} {σ : L2.St} {S : Sl} {a : Addr} {ho : HO} (s : SL K g H σ S) (w : Wf C g H t) (ha : a ∈ g.ad) (gw : Gw g g') (tw : ∀ b, g'.isTw b → g.isTw b) (fz : g'.Fz = g.Fz) : SL K g' (upd H a ho) σ S := by
  have s1 : SL K g (upd H a ho) σ S := s.tww w (.inr ha)
  refine ⟨s1.len, fun i x e => ?_, s1.dis⟩
  have h := s1.ok i x e
  cases x with
  | un => trivial
  | raw v => exact h
  | exn v => exact h
  | val d => obtain ⟨v, k1, k2⟩ := h; exact ⟨v, k1, k2.mono gw.fz gw.tw⟩
  | own dj => obtain ⟨b, us, k1, k2, k3, k4, k5⟩ := h; exact ⟨b, us, k1, k2, k3.mono gw.fz gw.tw, by rw [fz]; exact k4, fun z => k5 (tw b z)⟩
  | dcT kj => obtain ⟨b, L, k1, k2, k3, k4, k5⟩ := h; exact ⟨b, L, k1, k2, k3.mono gw.fz gw.tw, by rw [fz]; exact k4, fun z => k5 (tw b z)⟩
  | dic kj => obtain ⟨b, us, k1, k2, k3, k4, k5⟩ := h; exact ⟨b, us, k1, k2, ⟨k3.1, k3.2.mono gw.fz gw.tw⟩, by rw [fz]; exact k4, fun z => k5 (tw b z)⟩
end BG
set_option Elab.async false
set_option linter.all false
set_option maxRecDepth 100000
set_option maxHeartbeats 4000000
namespace BG
open PySem PySem.Spec PyProof.Rows L2
section
variable {X : Cx} {C : Cn} {E : XK}
def eAdopt (f : Ex) : Ex := fun S => bnd (f S) fun d => match d with
  | .lst ds => newOb (.li ds)
  | _ => stuck
theorem ce_adopt (hK : C.K = X.K) {e : Expr} {f : Ex} (h : CF X C E e f) : CE X C E e (eAdopt f) := PE.imp h fun σ H Q ⟨g, S, t, w, s, p⟩ => ⟨g, S, t, w, s, p.bnd0.all (.refl _ _) fun d t1 g1 H1 er st1 w1 q1 v rf => by
  obtain ⟨p, vs, ds, rfl, rfl, e0, e1, ra, e2⟩ := rf
  have q2 := q1 g1 H1 st1 w1
  obtain ⟨g2, st2, gw, w2, had, _⟩ := adopt (o := .li ds) st1 w1 e2 e0 ⟨vs, e1, by rw [hK]; exact ra⟩
  exact q2 g2 H1 st2 w2 _ (.hnd had)⟩
/-- d.append(e) -/
def sMApp (d e : Ex) : Stm := fun S => bnd (d S) fun dd => bnd (obAt dd) fun o => bnd (liOf o) fun _ => bnd (e S) fun v => bnd (obAt dd) fun o2 => bnd (liOf o2) fun ds =>
  if ds.length < sizeLine then bnd (setOb dd (.li (ds ++ [v]))) fun _ => ret (.nx S) else stuck
theorem cs_mapp (hK : C.K = X.K) {d e : Expr} {fd f : Ex} {apos cpos pos : Pos} (hd : CE X C E d fd) (he : CE X C E e f) (hbase : attributeBase d "append" X.env (eval d X.env) = eval d X.env := by rfl)
    (hfew : ((backTo cpos (starEach [e] X.env)).all (fun x => !x.1) && (backToKw cpos (keywordEach [] X.env)).all (fun x => x.1.isSome) && decide ([e].length + ([] : List Keyword).length + (if ([] : List Keyword).isEmpty then 0 else 1) < 30)) = true := by rfl)
    (hline : (apos.endLine == cpos.line) = true := by rfl) (hs : starEach [e] X.env = (false, eval e X.env) :: starEach [] X.env := by rfl) (hplain : (backTo cpos (starEach [] X.env)).any (·.1) = false := by rfl) (hsw : swapsWith (.Call (.Attribute d "append" apos) [e] [] cpos) none pos.line X.env = pure false := by rfl) :
    CS X C E (.Expr (.Call (.Attribute d "append" apos) [e] [] cpos) pos) (sMApp fd f) :=
  PS.imp (ps_expr (pe_bm PySem.F.plainAttrs_list PySem.F.slot_list_append PySem.F.type_list_append mt_append hd (pa_cons he pa_nil hs) hbase hfew hline hs hplain) hsw) fun De σ H ⟨g0, H0, gs, g, S, t, st, gr, w, s, o, p⟩ => by
    refine tS.ex st gr w s p fun dd t1 g1 H1 v st1 st01 gr1 w1 s1 r q => ?_
    obtain ⟨n, o1, rfl, e1, q1⟩ := q.obAt
    obtain ⟨d1, k1, q2⟩ := q1.liOf
    obtain ⟨a, vs, rfl, had, ha, ra⟩ := r.li hK w1 e1 k1
    refine ⟨.inl ⟨rfl, vs, .of ha⟩, tS.ex st01 gr1 w1 s1 q2 fun d2 t2 g2 H2 v2 st2 st02 gr2 w2 s2 r2 q3 => ?_⟩
    obtain ⟨n', o2, en, e2, q4⟩ := q3.obAt
    cases en
    obtain ⟨ds, k2, q5⟩ := q4.liOf
    obtain ⟨a', vs2, ea, had2, ha2, ra2⟩ := (r.stp st2).li hK w2 e2 k2
    cases ea
    have q5 : Post C E g0 H0 (Rs X.K H0 gs De) ((if ds.length < sizeLine then bnd (setOb (.hnd n) (.li (ds ++ [d2]))) fun _ => ret (Fl.nx S) else stuck) t2) := q5
    split at q5
    · rename_i hz
      have q6 := q5.setOb e2
      refine ⟨a, vs2, v2, rfl, rfl, ha2, by rw [ra2.length]; exact hz, ?_⟩
      obtain ⟨g4, st4, gw4, w4, tw4, fz4⟩ := change (o := .li (ds ++ [d2])) st02 w2 had2 e2 (ho := .lst (vs2 ++ [v2])) (fun _ z => nomatch z) ⟨_, upd_same, by rw [hK]; exact ra2.app (.one r2)⟩
      exact q6 g4 _ st4 w4 _ (gr2.trans gw4) (s2.chg w2 (List.mem_of_getElem? had2) gw4 tw4 fz4) o
    · exact q5.elim
theorem RpI.look {K : PySem.W.Frag} {g : G} {x : Str} {d : D} : ∀ {fv : List (Str × V)} {fs : List (Str × D)}, RpI K g fv fs → fs.lookup x = some d → ∃ v, fv.lookup x = some v ∧ Rp K g v d
  | [], [], _, h => by cases h
  | (y, v) :: r, (z, e) :: q, ⟨h1, h2, h3⟩, h => by
    subst h1
    rw [List.lookup_cons] at h ⊢
    cases c : x == y with
    | true =>
      rw [c] at h
      cases h
      exact ⟨v, rfl, h2⟩
    | false =>
      rw [c] at h
      exact RpI.look h3 h
theorem RpI.none {K : PySem.W.Frag} {g : G} {x : Str} : ∀ {fv : List (Str × V)} {fs : List (Str × D)}, RpI K g fv fs → fs.lookup x = none → fv.lookup x = none
  | [], [], _, h => rfl
  | (y, v) :: r, (z, e) :: q, ⟨h1, h2, h3⟩, h => by
    subst h1
    rw [List.lookup_cons] at h ⊢
    cases c : x == y with
    | true => rw [c] at h; cases h
    | false =>
      rw [c] at h
      exact RpI.none h3 h
theorem RpI.len {K : PySem.W.Frag} {g : G} : ∀ {fv : List (Str × V)} {fs : List (Str × D)}, RpI K g fv fs → fv.length = fs.length
  | [], [], _ => rfl
  | (y, v) :: r, (z, e) :: q, ⟨h1, h2, h3⟩ => by rw [List.length_cons, List.length_cons, RpI.len h3]
def putFD (f : Str) (v : D) : List (Str × D) → List (Str × D)
  | [] => [(f, v)]
  | (g, x) :: r => if g = f then (g, v) :: r else (g, x) :: putFD f v r
theorem RpI.put {K : PySem.W.Frag} {g : G} {x : Str} {u : V} {d : D} (ru : Rp K g u d) : ∀ {fv : List (Str × V)} {fs : List (Str × D)}, RpI K g fv fs → RpI K g (putF x u fv) (putFD x d fs)
  | [], [], _ => ⟨rfl, ru, trivial⟩
  | (y, v) :: r, (z, e) :: q, ⟨h1, h2, h3⟩ => by
    subst h1
    unfold putF putFD
    by_cases c : y = x
    · rw [if_pos c, if_pos c]; exact ⟨rfl, ru, h3⟩
    · rw [if_neg c, if_neg c]; exact ⟨rfl, h2, RpI.put ru h3⟩
/-- e.f -/
def eFld (x : Str) (f : Ex) : Ex := fun S => bnd (f S) fun d => bnd (obAt d) fun o => bnd (insOf o) fun fs => match fs.lookup x with
  | some v => ret v
  | none => stuck
theorem ce_fld (hK : C.K = X.K) {e : Expr} {x : Str} {f : Ex} {pos : Pos} (hc : Cls X.K C.cl) (hn : NoAttr X.K C.cl x) (he : CE X C E e f) (hb : attributeBase e x X.env (eval e X.env) = eval e X.env := by rfl) : CE X C E (.Attribute e x pos) (eFld x f) :=
  PE.imp (pe_fld he hb) fun σ H Q ⟨g, S, t, w, s, p⟩ => by
    refine ⟨g, S, t, w, s, p.bnd.imp fun dd t1 g1 H1 st1 w1 q v r => ?_⟩
    obtain ⟨n, o1, rfl, e1, q1⟩ := q.obAt
    obtain ⟨fs, k1, q2⟩ := q1.insOf
    obtain ⟨a, dx, fv, rfl, had, ha, ra⟩ := r.ins hK w1 e1 k1
    have q2 : PostQ X.K C E g1 H1 Q ((match fs.lookup x with | some v => ret v | none => stuck) t1) := q2
    cases el : fs.lookup x with
    | none => rw [el] at q2; exact q2.elim
    | some d =>
      rw [el] at q2
      obtain ⟨v, ev, rv⟩ := ra.look el
      exact ⟨a, C.cl, dx, fv, v, rfl, ha, hc, hn, ev, pRetV q2 w1 rv⟩
/-- o.f = e -/
def sFldD (x : Str) (d e : Ex) : Stm := fun S => bnd (e S) fun v => bnd (d S) fun dd => bnd (obAt dd) fun o => bnd (insOf o) fun fs => if fs.length < 1000 then bnd (setOb dd (.ins (putFD x v fs))) fun _ => ret (.nx S) else stuck
theorem cs_fld (hK : C.K = X.K) {o e : Expr} {x : Str} {fo f : Ex} {pos' pos : Pos} (hc : Cls X.K C.cl) (hn : NoAttr X.K C.cl x) (ho : CE X C E o fo) (he : CE X C E e f) (hs : swapsWith e (some (.Attribute o x pos')) pos.line X.env = pure false := by rfl) : CS X C E (.Assign [.Attribute o x pos'] e pos) (sFldD x fo f) :=
  PS.imp (ps_fld ho he hs) fun De σ H ⟨g0, H0, gs, g, S, t, st, gr, w, s, o, p⟩ => by
    refine tS.ex st gr w s p fun d t1 g1 H1 v st1 st01 gr1 w1 s1 r q => ?_
    refine tS.ex st01 gr1 w1 s1 q fun dd t2 g2 H2 v2 st2 st02 gr2 w2 s2 r2 q2 => ?_
    obtain ⟨n, o1, rfl, e1, q3⟩ := q2.obAt
    obtain ⟨fs, k1, q4⟩ := q3.insOf
    obtain ⟨a, dx, fv, rfl, had, ha, ra⟩ := r2.ins hK w2 e1 k1
    have q4 : Post C E g0 H0 (Rs X.K H0 gs De) ((if fs.length < 1000 then bnd (setOb (.hnd n) (.ins (putFD x d fs))) fun _ => ret (Fl.nx S) else stuck) t2) := q4
    split at q4
    · rename_i hz
      have q5 := q4.setOb e1
      refine ⟨a, C.cl, dx, fv, rfl, ha, hc, hn, by rw [ra.len]; exact hz, ?_⟩
      obtain ⟨g4, st4, gw4, w4, tw4, fz4⟩ := change (o := .ins (putFD x d fs)) st02 w2 had e1 (ho := .ins C.cl dx (putF x v fv)) (fun _ z => nomatch z) ⟨_, _, upd_same, by rw [hK]; exact ra.put (r.stp st2)⟩
      exact q5 g4 _ st4 w4 _ (gr2.trans gw4) (s2.chg w2 (List.mem_of_getElem? had) gw4 tw4 fz4) o
    · exact q4.elim
structure FdM (P : Program) (w : World) (K : PySem.W.Frag) (mg : Str → Option Value) (base : Heap) (C : Cn) (k : Nat) (m : Str) (n : Nat) (F : Fn) : Prop where
  ex : ∃ f fd ps, FnOk P w K mg base (L2.CX P w) k f fd ps (spF K C (n + 1) F) ∧ Meth K C.cl m f ∧ Binds K fd ps []
  cls : Cls K C.cl
  hK : C.K = K
def eMeth (m : Str) (F : Fn) (o : Ex) (fs : List Ex) : Ex := fun S => bnd (o S) fun d => bnd (obAt d) fun ob => bnd (insOf ob) fun at_ => match at_.lookup m with
  | none => bnd (evs fs S) fun ds => F (d :: ds)
  | some _ => stuck
theorem ce_meth {k j : Nat} {m : Str} {F : Fn} {o e : Expr} {es : List Expr} {fo : Ex} {fs : List Ex} {apos pos : Pos} {pl : Sem Bool} (hf : FdM X.prog X.w X.K X.mg X.base C k m fs.length F) (hr : Room j X.A) (hk : k ≤ j) (hx : Passes (L2.CX X.prog X.w) X E) (ho : CE X C E o fo) (ha : CA X C E (e :: es) (evs fs))
    (hst : starEach (e :: es) X.env = (false, eval e X.env) :: starEach es X.env := by rfl) (hpl : (backTo pos (starEach es X.env)).any (·.1) = false := by rfl)
    (ht : eval (.Call (.Attribute o m apos) (e :: es) [] pos) X.env = (do
      let ov ← eval o X.env
      standAt apos.atName
      let (f, first) ← holding [ov] (getMethod ov m pl)
      callWith pos f first (backTo pos (starEach (e :: es) X.env)) (backToKw pos (keywordEach [] X.env))) := by rfl) :
    CE X C E (.Call (.Attribute o m apos) (e :: es) [] pos) (eMeth m F fo fs) := by
  obtain ⟨f, fd, ps, F', hm, hb⟩ := hf.ex
  refine PE.imp (pe_meth (pl := pl) ho hf.cls hm F' (hr.mono hk) hb .nil hx ha hst hpl ht) fun σ H Q ⟨g, S, t, w, s, p⟩ => ?_
  refine ⟨g, S, t, w, s, p.bnd.imp fun dd t1 g1 H1 st1 w1 q v r => ?_⟩
  obtain ⟨n, o1, rfl, e1, q1⟩ := q.obAt
  obtain ⟨at_, k1, q2⟩ := q1.insOf
  obtain ⟨a, dx, fv, rfl, had, ha, ra⟩ := r.ins hf.hK w1 e1 k1
  have q2 : PostQ X.K C E g1 H1 Q ((match at_.lookup m with | none => bnd (evs fs S) fun ds => F (.hnd n :: ds) | some _ => stuck) t1) := q2
  cases el : at_.lookup m with
  | some d => rw [el] at q2; exact q2.elim
  | none =>
    rw [el] at q2
    refine ⟨a, dx, fv, rfl, ha, ra.none el, g1, S, t1, w1, s.stp w st1, (Post.evs q2.bnd).imp fun ds t2 g2 H2 st2 w2 ⟨el2, q3⟩ vs rs => ?_⟩
    exact ⟨g2, .hnd n :: ds, t2, .cons (.hnd (st2.tw.a _ _ had)) (by rw [List.append_nil]; exact rs), w2, by rw [List.append_nil, List.length_cons, rs.length, el2], q3⟩
theorem ce_meth0 {k j : Nat} {m : Str} {F : Fn} {o : Expr} {fo : Ex} {apos pos : Pos} {pl : Sem Bool} (hf : FdM X.prog X.w X.K X.mg X.base C k m 0 F) (hr : Room j X.A) (hk : k ≤ j) (hx : Passes (L2.CX X.prog X.w) X E) (ho : CE X C E o fo)
    (ht : eval (.Call (.Attribute o m apos) [] [] pos) X.env = (do
      let ov ← eval o X.env
      standAt apos.atName
      let (f, first) ← holding [ov] (getMethod ov m pl)
      callWith pos f first (backTo pos (starEach [] X.env)) (backToKw pos (keywordEach [] X.env))) := by rfl) :
    CE X C E (.Call (.Attribute o m apos) [] [] pos) (eMeth m F fo []) := by
  obtain ⟨f, fd, ps, F', hm, hb⟩ := hf.ex
  refine PE.imp (pe_meth0 (pl := pl) ho hf.cls hm F' (hr.mono hk) hb .nil hx ht) fun σ H Q ⟨g, S, t, w, s, p⟩ => ?_
  refine ⟨g, S, t, w, s, p.bnd.imp fun dd t1 g1 H1 st1 w1 q v r => ?_⟩
  obtain ⟨n, o1, rfl, e1, q1⟩ := q.obAt
  obtain ⟨at_, k1, q2⟩ := q1.insOf
  obtain ⟨a, dx, fv, rfl, had, ha, ra⟩ := r.ins hf.hK w1 e1 k1
  have q2 : PostQ X.K C E g1 H1 Q ((match at_.lookup m with | none => bnd (evs [] S) fun ds => F (.hnd n :: ds) | some _ => stuck) t1) := q2
  cases el : at_.lookup m with
  | some d => rw [el] at q2; exact q2.elim
  | none =>
    rw [el] at q2
    exact ⟨a, dx, fv, rfl, ha, ra.none el, g1, [.hnd n], t1, .cons (.hnd had) .nil, w1, rfl, q2⟩
structure FdI (P : Program) (w : World) (K : PySem.W.Frag) (mg : Str → Option Value) (base : Heap) (C : Cn) (k : Nat) (x : Str) (n : Nat) (F : Fn) : Prop where
  ex : ∃ f fd ps, FnOk P w K mg base (L2.CX P w) k f fd ps (spF K C (n + 1) F) ∧ Mk K C.cl f ∧ Binds K fd ps []
  at_ : mg x = some (.ref C.cl)
  hK : C.K = K
def eMake (F : Fn) (fs : List Ex) : Ex := fun S => bnd (evs fs S) fun ds => bnd (newOb (.ins [])) fun h => bnd (F (h :: ds)) fun r => match r with
  | .non => ret h
  | _ => stuck
theorem ce_make {k j : Nat} {x : Str} {F : Fn} {e : Expr} {es : List Expr} {fs : List Ex} {p pos : Pos} (hf : FdI X.prog X.w X.K X.mg X.base C k x fs.length F) (hr : Room j X.A) (hk : k + 1 ≤ j) (hx : Passes (L2.CX X.prog X.w) X E) (ha : CA X C E (e :: es) (evs fs)) (hg : Gl X x := by rfl)
    (hdb : (x == ("__debug__" : Str)) = false := by decide) (he : starEach (e :: es) X.env = (false, eval e X.env) :: starEach es X.env := by rfl) (hpl : (backTo pos (starEach es X.env)).any (·.1) = false := by rfl) : CE X C E (.Call (.Name x p) (e :: es) [] pos) (eMake F fs) := by
  obtain ⟨f, fd, ps, F', hm, hb⟩ := hf.ex
  refine PE.imp (pe_make hm F' (hr.mono hk) hg hf.at_ hb .nil hx ha hdb he hpl) fun σ H Q ⟨g, S, t, w, s, p⟩ => ?_
  refine ⟨g, S, t, w, s, (Post.evs p.bnd).imp fun ds t1 g1 H1 st1 w1 ⟨el, q⟩ vs rs a dx hna hnd ne => ?_⟩
  have s2 : Stp g1 H1 g1 (upd H1 dx (.own a)) := Stp.lay w1 hnd
  have w2 : Wf C g1 (upd H1 dx (.own a)) t1 := Wf.lay w1 hnd
  have hna2 : upd H1 dx (.own a) a = none := by rw [upd_ne (Ne.symm ne)]; exact hna
  have s3 : Stp g1 (upd H1 dx (.own a)) g1 (upd (upd H1 dx (.own a)) a (.ins C.cl dx [])) := Stp.lay w2 hna2
  have w3 : Wf C g1 (upd (upd H1 dx (.own a)) a (.ins C.cl dx [])) t1 := Wf.lay w2 hna2
  obtain ⟨g4, s4, gw4, w4, had, _⟩ := adopt (o := .ins []) (s2.trans s3) w3 (w1.fre hna) (Nt.no hna) ⟨dx, [], upd_same, trivial⟩
  have q : PostQ X.K C E g1 H1 Q (bnd (F (.hnd t1.2.length :: ds)) (fun r => match r with | .non => ret (.hnd t1.2.length) | _ => stuck) (t1.1, t1.2 ++ [(.ins [], 0)])) := q
  refine ⟨g4, .hnd t1.2.length :: ds, _, .cons (.hnd had) (by rw [List.append_nil]; exact (rs.stp (s2.trans s3)).mono gw4.fz gw4.tw), w4, by rw [List.append_nil, List.length_cons, rs.length, el], (q.stp s4).bnd.imp fun r t5 g5 H5 st5 w5 q5 v rv => ?_⟩
  cases r with
  | non =>
    cases rv
    exact ⟨rfl, pRetV q5 w5 (.hnd (st5.tw.a _ _ had))⟩
  | _ => exact q5.elim
end
end BG
set_option Elab.async false
set_option linter.all false
set_option maxRecDepth 100000
set_option maxHeartbeats 4000000
namespace BG
open PySem PySem.Spec PyProof.Rows L2
/-- the object is as it was -/
def verAt (n v : Nat) : M Unit := fun t => if t.2[n]?.map (·.2) = some v then some (.ok () t) else none
theorem verAt_ok {n v : Nat} {t : Tn} {o : Ob × Nat} (e : t.2[n]? = some o) (h : o.2 = v) : verAt n v t = some (.ok () t) := by
  unfold verAt
  rw [if_pos (by rw [e, ← h]; rfl)]
theorem Post.verAt {β : Type} {C : Cn} {E : XK} {g : G} {H : Hp} {t : Tn} {Rok : β → Tn → G → Hp → Prop} {n v : Nat} {k : Unit → M β} (p : Post C E g H Rok (BG.bnd (BG.verAt n v) k t)) : ∃ o, t.2[n]? = some o ∧ o.2 = v ∧ Post C E g H Rok (k () t) := by
  by_cases h : t.2[n]?.map (·.2) = some v
  · cases e : t.2[n]? with
    | none => rw [e] at h; cases h
    | some o =>
      rw [e] at h
      have h := Option.some.inj h
      rw [bnd_ok (verAt_ok e h)] at p
      exact ⟨o, rfl, h, p⟩
  · rw [bnd_no (show BG.verAt n v t = none by unfold BG.verAt; rw [if_neg h])] at p
    exact p.elim
def itLi : Ob → Option (List D)
  | .li ds => some ds
  | _ => none
/-- what a handle's object tells, with the object's number and version -/
def itAt (it : Ob → Option (List D)) (d : D) (t : Tn) : Option (Nat × Nat × List D) := match d with
  | .hnd n => t.2[n]?.bind fun o => (it o.1).map fun ds => (n, o.2, ds)
  | _ => none
def items {β : Type} (it : Ob → Option (List D)) (d : D) (k : Nat → Nat → List D → M β) : M β := fun t => match itAt it d t with
  | some q => k q.1 q.2.1 q.2.2 t
  | none => none
theorem items_ok {β : Type} {it : Ob → Option (List D)} {k : Nat → Nat → List D → M β} {t : Tn} {n : Nat} {o : Ob × Nat} {ds : List D} (e : t.2[n]? = some o) (ei : it o.1 = some ds) : items it (.hnd n) k t = k n o.2 ds t := by
  have h : itAt it (.hnd n) t = some (n, o.2, ds) := by
    show (t.2[n]?.bind fun o => (it o.1).map fun ds => (n, o.2, ds)) = _
    rw [e]
    show ((it o.1).map fun ds => (n, o.2, ds)) = _
    rw [ei]; rfl
  unfold items
  rw [h]
theorem Post.items {β : Type} {C : Cn} {E : XK} {g : G} {H : Hp} {t : Tn} {Rok : β → Tn → G → Hp → Prop} {it : Ob → Option (List D)} {d : D} {k : Nat → Nat → List D → M β} (p : Post C E g H Rok (BG.items it d k t)) : ∃ n o ds, d = .hnd n ∧ t.2[n]? = some o ∧ it o.1 = some ds ∧ Post C E g H Rok (k n o.2 ds t) := by
  cases d with
  | hnd n =>
    cases e : t.2[n]? with
    | none =>
      have h : itAt it (.hnd n) t = none := by
        show (t.2[n]?.bind fun o => (it o.1).map fun ds => (n, o.2, ds)) = _
        rw [e]; rfl
      unfold BG.items at p
      rw [h] at p
      exact p.elim
    | some o =>
      cases ei : it o.1 with
      | none =>
        have h : itAt it (.hnd n) t = none := by
          show (t.2[n]?.bind fun o => (it o.1).map fun ds => (n, o.2, ds)) = _
          rw [e]
          show ((it o.1).map fun ds => (n, o.2, ds)) = _
          rw [ei]; rfl
        unfold BG.items at p
        rw [h] at p
        exact p.elim
      | some ds => rw [items_ok e ei] at p; exact ⟨n, o, ds, rfl, e, ei, p⟩
  | _ => exact p.elim
theorem ver_heap {C : Cn} {g1 gk : G} {H1 Hk : Hp} {t1 tk : Tn} {n : Nat} {a : Addr} {o o' : Ob × Nat} {ho : HO} (w1 : Wf C g1 H1 t1) (had : g1.ad[n]? = some a) (e1 : t1.2[n]? = some o) (hh : H1 a = some ho) (gw : Gw g1 gk) (wk : Wf C gk Hk tk) (ek : tk.2[n]? = some o') (hv : o'.2 = o.2) : Hk a = some ho := by
  have h1 : g1.lg n o.2 = some ho := by rw [← w1.tw.2.lg n a o had e1]; exact hh
  have h2 := gw.tw.l n o.2 ho h1
  rw [wk.tw.2.lg n a o' (gw.tw.a n a had) ek, hv]; exact h2
def tIM (K : PySem.W.Frag) (C : Cn) (E : XK) (it : Ob → Option (List D)) (f : Ex) : TI := fun σ H R => ∃ g S t, Wf C g H t ∧ SL K g H σ S ∧ Post C E g H (fun d t' g' H' => ∃ n o ds, d = .hnd n ∧ t'.2[n]? = some o ∧ it o.1 = some ds ∧ ∀ a ho J, g'.ad[n]? = some a → H' a = some ho → WalkD K (fun b => if b = a then some ho else none) J ds g' → R J H') (f S t)
section
variable {X : Cx} {C : Cn} {E : XK} {tg : Expr}
theorem cim_li (hK : C.K = X.K) {e : Expr} {f : Ex} (h : CE X C E e f) : PI X tg e (tIM X.K C E itLi f) := PI.imp (pi_seq h) fun σ H R ⟨g, S, t, w, s, p⟩ => ⟨g, S, t, w, s, p.imp fun d t1 g1 H1 st1 w1 ⟨n, o, ds, ed, eo, ei, q⟩ v r => by
  subst ed
  obtain ⟨o, vn⟩ := o
  cases o with
  | li ks =>
    cases ei
    obtain ⟨a, vs, rfl, had, ha, ra⟩ := r.li hK w1 eo rfl
    exact ⟨a, rfl, .inl ⟨vs, .of ha, q a _ _ had ha (walkL (by simp) ra)⟩⟩
  | td ds => cases ei
  | ins fs => cases ei⟩
def cmpM (n v : Nat) (tg : Tg) (cond elt : Ex) (S : Sl) : List D → M (List D)
  | [] => bnd (verAt n v) fun _ => ret []
  | d :: ds => bnd (verAt n v) fun _ => match tg d S with
    | none => stuck
    | some S' => bnd (calm (cond S')) fun b => match b with
      | .bl true => bnd (calm (elt S')) fun r => bnd (cmpM n v tg cond elt S ds) fun rs => ret (r :: rs)
      | .bl false => cmpM n v tg cond elt S ds
      | _ => stuck
def cmpT (n v : Nat) (tg : Tg) (cond elt : Ex) (S : Sl) (d : D) (ds : List D) : M (List D) := match tg d S with
    | none => stuck
    | some S' => bnd (calm (cond S')) fun b => match b with
      | .bl true => bnd (calm (elt S')) fun r => bnd (cmpM n v tg cond elt S ds) fun rs => ret (r :: rs)
      | .bl false => cmpM n v tg cond elt S ds
      | _ => stuck
def eCompM (it : Ob → Option (List D)) (vs : List Nat) (e : Ex) (tg : Tg) (cond elt : Ex) : Ex := fun S => bnd (e S) fun d => items it d fun n v ds => if ds.length ≤ sizeLine then bnd (cmpM n v tg cond elt (wipeS S vs) ds) fun rs => ret (.lst rs) else stuck
theorem tF.lcM {it : Ob → Option (List D)} {own : List (Str × Nat)} {is : List Nat} {fi : Ex} {ft : Tg} {fc fe : Ex} {σ : L2.St} {H : Hp} {Q : VK} (hv : ∀ i ∈ is, i ∈ own.map (·.2)) (h : tF X.K C E (eCompM it (own.map (·.2)) fi ft fc fe) σ H Q) :
    tLc (tIM X.K C E it fi) (tG X.K C is ft) (tT X.K C E0 fc) (tE X.K C E0 fe) (own.map (·.2)) σ H Q := by
  obtain ⟨g, S, t, w, s, p⟩ := h
  refine ⟨g, S, t, w, s, p.bnd.imp fun dh t1 g1 H1 st1 w1 q => ?_⟩
  obtain ⟨n, o, ds, rfl, eo, ei, q⟩ := Post.items q
  refine ⟨n, o, ds, rfl, eo, ei, fun a ho J had hh wk => ?_⟩
  have q : Post C E g1 H1 (fun d _ g' H' => ∀ v, RpF X.K H g' H' v d → Q v H') ((if ds.length ≤ sizeLine then bnd (cmpM n o.2 ft fc fe (wipeS S (own.map (·.2))) ds) fun rs => ret (BG.D.lst rs) else stuck) t1) := q
  split at q
  case isFalse => exact q.elim
  rename_i hsz
  intro La hD
  have s1 := s.stp w st1
  refine ⟨fun i m Hk => m = ds.length - i ∧ i ≤ ds.length ∧ ∃ gk tk av ad, Stp g1 H1 gk Hk ∧ Wf C gk Hk tk ∧ Hk La = some (.lst av) ∧ Fre gk La ∧ RpA X.K gk av ad ∧ ad.length ≤ i ∧
    Post C E g1 H1 (fun d _ g' H' => ∀ v, RpF X.K H g' H' v d → Q v H') (bnd (cmpM n o.2 ft fc fe (wipeS S (own.map (·.2))) (ds.drop i)) (fun rs => ret (BG.D.lst (ad ++ rs))) tk), ⟨ds.length, by simp, Nat.zero_le _, g1, t1, [], [], Stp.lay w1 hD, Wf.lay w1 hD, upd_same, w1.fre hD, .nil, Nat.zero_le _, ?_⟩, ?_⟩
  · rw [List.drop_zero]
    exact q
  rintro i m Hk ⟨rfl, hi', gk, tk, av, ad, stk, wk', eD, fD, ra, hal, pk⟩
  have kH : ∀ o', tk.2[n]? = some o' → o'.2 = o.2 → Hk a = some ho := fun o' e1 e2 => ver_heap w1 had eo hh stk.gw wk' e1 e2
  by_cases hlt : i < ds.length
  · have ed : ds[i]? = some ds[i] := List.getElem?_eq_getElem hlt
    have edr : ds.drop i = ds[i] :: ds.drop (i + 1) := List.drop_eq_getElem_cons hlt
    rw [edr] at pk
    have pk : Post C E g1 H1 (fun d _ g' H' => ∀ v, RpF X.K H g' H' v d → Q v H') (bnd (bnd (verAt n o.2) fun _ => cmpT n o.2 ft fc fe (wipeS S (own.map (·.2))) ds[i] (ds.drop (i + 1))) (fun rs => ret (BG.D.lst (ad ++ rs))) tk) := pk
    rw [bnd_assoc] at pk
    obtain ⟨o', e1, e2, pk⟩ := Post.verAt pk
    obtain ⟨wgo, wstop⟩ := wk i Hk fun b o2 hb => by
      have hb : (if b = a then some ho else none) = some o2 := hb
      by_cases hba : b = a
      · subst hba
        rw [if_pos rfl] at hb
        cases hb
        exact kH o' e1 e2
      · rw [if_neg hba] at hb; cases hb
    obtain ⟨go, yl⟩ := wgo _ ed
    refine .inr ⟨go, fun Hn => ∃ gn tn bv bd, Stp g1 H1 gn Hn ∧ Wf C gn Hn tn ∧ Hn La = some (.lst bv) ∧ Fre gn La ∧ RpA X.K gn bv bd ∧ bd.length ≤ i + 1 ∧
      Post C E g1 H1 (fun d _ g' H' => ∀ v, RpF X.K H g' H' v d → Q v H') (bnd (cmpM n o.2 ft fc fe (wipeS S (own.map (·.2))) (ds.drop (i + 1))) (fun rs => ret (BG.D.lst (bd ++ rs))) tn), fun H' hn => ⟨_, Nat.sub_lt_sub_left hlt (Nat.lt_succ_self i), rfl, hlt, hn⟩, fun x H' hy => ?_⟩
    obtain ⟨g3, st3, w3, r3, kp3⟩ := (yl x H' hy).stp stk.fz stk.tw wk'
    have st13 : Stp g1 H1 g3 H' := stk.trans st3
    have eD3 : H' La = some (.lst av) := by rw [kp3 La (by rw [eD]; exact fun z => nomatch z)]; exact eD
    have fD3 : Fre g3 La := fD.stp st3 eD (fun _ z => nomatch z)
    have ra3 := ra.stp st3
    have sl3 : SL X.K g3 H' (L2.wipe σ (own.map (·.2))) (wipeS S (own.map (·.2))) := (s1.stp w1 st13).wipe _
    unfold cmpT at pk
    have pk : Post C E g1 H1 (fun d _ g' H' => ∀ v, RpF X.K H g' H' v d → Q v H') (bnd (match ft ds[i] (wipeS S (own.map (·.2))) with
      | none => stuck
      | some S' => bnd (calm (fc S')) fun b => match b with
        | .bl true => bnd (calm (fe S')) fun r => bnd (cmpM n o.2 ft fc fe (wipeS S (own.map (·.2))) (ds.drop (i + 1))) fun rs => ret (r :: rs)
        | .bl false => cmpM n o.2 ft fc fe (wipeS S (own.map (·.2))) (ds.drop (i + 1))
        | _ => stuck) (fun rs => ret (BG.D.lst (ad ++ rs))) tk) := pk
    cases eft : ft ds[i] (wipeS S (own.map (·.2))) with
    | none => rw [eft] at pk; exact pk.elim
    | some S' =>
      rw [eft] at pk
      refine ⟨g3, _, tk, _, S', w3, sl3, r3, eft, fun σ2 sl2 hl2 hout _ => ⟨wipe_eq (by rw [hl2, wipe_length]) fun j hj => hout j fun z => hj (hv j z), ?_⟩⟩
      have pk : Post C E g1 H1 (fun d _ g' H' => ∀ v, RpF X.K H g' H' v d → Q v H') (bnd (bnd (calm (fc S')) fun b => match b with
        | .bl true => bnd (calm (fe S')) fun r => bnd (cmpM n o.2 ft fc fe (wipeS S (own.map (·.2))) (ds.drop (i + 1))) fun rs => ret (r :: rs)
        | .bl false => cmpM n o.2 ft fc fe (wipeS S (own.map (·.2))) (ds.drop (i + 1))
        | _ => stuck) (fun rs => ret (BG.D.lst (ad ++ rs))) tk) := pk
      rw [bnd_assoc] at pk
      have pc := (Post.calm pk.bnd0 E0).stp st13
      refine ⟨g3, S', tk, w3, sl2, pc.imp fun b tb gb Hb stb wb qb => ?_⟩
      have st1b := st13.trans stb
      have eDb : Hb La = some (.lst av) := stb.frm _ _ eD3 fD3.2 (fun _ z => nomatch z)
      have fDb : Fre gb La := fD3.stp stb eD3 (fun _ z => nomatch z)
      have rab := ra3.stp stb
      cases b with
      | bl b =>
        refine ⟨b, rfl, ?_⟩
        cases b with
        | false => exact iteF ⟨gb, tb, av, ad, st1b, wb, eDb, fDb, rab, Nat.le_succ_of_le hal, qb⟩
        | true =>
          refine iteT ?_
          have qb : Post C E g1 H1 (fun d _ g' H' => ∀ v, RpF X.K H g' H' v d → Q v H') (bnd (bnd (calm (fe S')) fun r => bnd (cmpM n o.2 ft fc fe (wipeS S (own.map (·.2))) (ds.drop (i + 1))) fun rs => ret (r :: rs)) (fun rs => ret (BG.D.lst (ad ++ rs))) tb) := qb
          rw [bnd_assoc] at qb
          have pe := (Post.calm qb.bnd0 E0).stp st1b
          refine ⟨gb, S', tb, wb, sl2.stp w3 stb, pe.imp fun r tr gr Hr str wr qr y ry => ?_⟩
          have eDr : Hr La = some (.lst av) := str.frm _ _ eDb fDb.2 (fun _ z => nomatch z)
          have fDr : Fre gr La := fDb.stp str eDb (fun _ z => nomatch z)
          have rar := rab.stp str
          have st1r := st1b.trans str
          have hH1D : H1 La = none := hD
          refine ⟨av, eDr, ?_, gr, tr, av ++ [y], ad ++ [r], ⟨st1r.fz, st1r.tw, st1r.twn, fun b o e1 e2 e3 => ?_, fun b e1 => ?_, st1r.new⟩, ?_, upd_same, fDr, rar.app (.one ry), by rw [List.length_append]; exact Nat.succ_le_succ hal, ?_⟩
          · rw [rar.length]
            exact Nat.lt_of_lt_of_le (Nat.lt_of_le_of_lt hal hlt) hsz
          · rw [upd_ne (ne_of_none e1 hH1D)]
            exact st1r.frm b o e1 e2 e3
          · by_cases hb : b = La
            · exact ⟨_, by rw [hb]; exact upd_same, fun _ z => by cases z⟩
            · obtain ⟨o', e', n'⟩ := st1r.thr b e1
              exact ⟨o', by rw [upd_ne hb]; exact e', n'⟩
          · exact wr.updL eDr fDr
          · rw [bnd_assoc] at qr
            have er : (fun rs => ret (BG.D.lst (ad ++ [r] ++ rs))) = (fun rs => bnd (ret (r :: rs)) fun rs => ret (BG.D.lst (ad ++ rs))) := by
              funext rs
              rw [ret_bnd, List.append_assoc]; rfl
            rw [er]
            exact qr
      | _ => exact qb.elim
  · have e : i = ds.length := by omega
    subst e
    rw [List.drop_length] at pk
    have pk : Post C E g1 H1 (fun d _ g' H' => ∀ v, RpF X.K H g' H' v d → Q v H') (bnd (bnd (verAt n o.2) fun _ => ret []) (fun rs => ret (BG.D.lst (ad ++ rs))) tk) := pk
    rw [bnd_assoc] at pk
    obtain ⟨o', e1, e2, pk⟩ := Post.verAt pk
    obtain ⟨wgo, wstop⟩ := wk ds.length Hk fun b o2 hb => by
      have hb : (if b = a then some ho else none) = some o2 := hb
      by_cases hba : b = a
      · subst hba
        rw [if_pos rfl] at hb
        cases hb
        exact kH o' e1 e2
      · rw [if_neg hba] at hb; cases hb
    refine .inl ⟨wstop (Nat.le_refl _), ?_⟩
    have pk : Post C E g1 H1 (fun d _ g' H' => ∀ v, RpF X.K H g' H' v d → Q v H') (ret (BG.D.lst (ad ++ [])) tk) := pk
    rw [List.append_nil] at pk
    exact pk gk Hk stk wk' _ ⟨La, av, ad, rfl, rfl, st1.back hD, eD, ra, fD⟩
theorem cf_compM {it : Ob → Option (List D)} {elt iter : Expr} {ifs : List Expr} {scope : Scope} {own : List (Str × Nat)} {pos : Pos} {is : List Nat} {fi : Ex} {ft : Tg} {fc fe : Ex} (hc : X.calm = true) (hN : X.N.Nodup) (hi : PI X tg iter (tIM X.K C E it fi)) (ok : BlkOk X.N X.env.scope scope own) (hv : ∀ i ∈ is, i ∈ own.map (·.2))
    (hg : ∀ (s : Shared) (H : Hp) (Ca : Addr) (cl : List (Str × Addr)) (fp : List Addr), CG (X.blk s H scope (compEnvC scope cl Ca X.env) fp) C is tg ft) (ht : ∀ (s : Shared) (H : Hp) (Ca : Addr) (cl : List (Str × Addr)) (fp : List Addr), CTs (X.blk s H scope (compEnvC scope cl Ca X.env) fp) C E0 ifs fc)
    (he : ∀ (s : Shared) (H : Hp) (Ca : Addr) (cl : List (Str × Addr)) (fp : List Addr), CE (X.blk s H scope (compEnvC scope cl Ca X.env) fp) C E0 elt fe) (hs : ∀ x, foldedSetIterable iter X.env x = pure x := by intro _; rfl) :
    CF X C E (.ListComp elt [⟨tg, iter, ifs, 0⟩] scope pos) (eCompM it (own.map (·.2)) fi ft fc fe) := by
  exact PE.imp (pe_lc (te := tE X.K C E0 fe) (g := tG X.K C is ft) (tt := tT X.K C E0 fc) hc hN hi ok hg ht he hs) fun σ H Q h => tF.lcM hv h
end
end BG
set_option Elab.async false
set_option linter.all false
set_option maxRecDepth 100000
set_option maxHeartbeats 4000000
namespace BG
open PySem PySem.Spec PyProof.Rows L2
def isNone : D → Bool
  | .non => true
  | _ => false
section
variable {X : Cx} {C : Cn} {E : XK}
theorem OwnF.raw {H0 : Hp} {σ : L2.St} {S : Sl} {i : Nat} {v : V} (h : OwnF H0 σ S) : OwnF H0 (σ.set i (some v)) (S.set i (.raw v)) := fun j x p e1 ox e2 => by
  have n : i ≠ j := fun z => by
    subst z
    by_cases hl : i < S.length
    · rw [List.getElem?_set_self hl] at e1; cases e1; cases ox
    · rw [List.getElem?_eq_none (by rw [List.length_set]; omega)] at e1; cases e1
  rw [List.getElem?_set_ne n] at e1 e2
  exact h j x p e1 ox e2
end
end BG
set_option Elab.async false
set_option linter.all false
set_option maxRecDepth 100000
set_option maxHeartbeats 4000000
namespace BL
open PySem PySem.Spec PyProof.Rows L2 BG
end BL
set_option Elab.async false
set_option linter.all false
set_option maxRecDepth 100000
set_option maxHeartbeats 4000000
namespace BG
open PySem PySem.Spec PyProof.Rows L2
end BG
set_option Elab.async false
set_option linter.all false
set_option maxRecDepth 100000
set_option maxHeartbeats 4000000
namespace BL
open PySem PySem.Spec PyProof.Rows L2 BG
end BL
set_option Elab.async false
set_option linter.all false
set_option maxRecDepth 100000
set_option maxHeartbeats 4000000
namespace BG
open PySem PySem.Spec PyProof.Rows L2
section
variable {X : Cx} {C : Cn} {E : XK}
def eFmt (f : Ex) : Ex := fun S => bnd (f S) fun d => match d with
  | .str y => if y.length ≤ sizeLine then ret (.str y) else stuck
  | .int i => if i.natAbs.log2 < 1920 then ret (.str (toString i)) else stuck
  | _ => stuck
theorem ce_fmt {e : Expr} {f : Ex} {pos : Pos} (he : CE X C E e f) : CE X C E (.FormattedValue e (-1) none pos) (eFmt f) := PE.imp (pe_fmt he) fun σ H Q ⟨g, S, t, w, s, p⟩ => by
  refine ⟨g, S, t, w, s, p.bnd.imp fun d t1 g1 H1 st1 w1 q v r => ?_⟩
  cases d with
  | str y =>
    have q : PostQ X.K C E g1 H1 Q ((if y.length ≤ sizeLine then ret (D.str y) else stuck) t1) := q
    cases r
    split at q
    · rename_i hz
      exact .inl ⟨y, rfl, hz, pRetV q w1 (.str _)⟩
    · exact q.elim
  | int i =>
    have q : PostQ X.K C E g1 H1 Q ((if i.natAbs.log2 < 1920 then ret (D.str (toString i)) else stuck) t1) := q
    cases r
    split at q
    · rename_i hz
      exact .inr ⟨i, rfl, hz, pRetV q w1 (.str _)⟩
    · exact q.elim
  | _ => exact q.elim
def eJoin : List Ex → Str → Ex
  | [], acc => fun _ => ret (.str acc)
  | f :: fs, acc => fun S => bnd (f S) fun d => match d with
    | .str y => if (acc ++ y).length ≤ sizeLine then eJoin fs (acc ++ y) S else stuck
    | _ => stuck
theorem eJoin_run : ∀ {fs : List Ex} {acc : Str} {σ : L2.St} {H : Hp} {Q : VK} {g : G} {S : Sl} {t : Tn}, Wf C g H t → SL X.K g H σ S → PostQ X.K C E g H Q (eJoin fs acc S t) → tJs (fs.map (tE X.K C E)) acc σ H fun out H1 => Q (.str out) H1
  | [], acc, σ, H, Q, g, S, t, w, s, p => pRetV p w (.str _)
  | f :: fs, acc, σ, H, Q, g, S, t, w, s, p => by
    refine ⟨g, S, t, w, s, p.bnd.imp fun d t1 g1 H1 st1 w1 q v r => ?_⟩
    cases d with
    | str y =>
      have q : PostQ X.K C E g1 H1 Q ((if (acc ++ y).length ≤ sizeLine then eJoin fs (acc ++ y) S else stuck) t1) := q
      cases r
      split at q
      · rename_i hz
        exact ⟨y, rfl, hz, eJoin_run w1 (s.stp w st1) q⟩
      · exact q.elim
    | _ => exact q.elim
theorem cj_nil : PJ X [] (([] : List Ex).map (tE X.K C E)) := .nil
theorem cj_cons {e : Expr} {es : List Expr} {f : Ex} {fs : List Ex} (h : CE X C E e f) (r : PJ X es (fs.map (tE X.K C E))) : PJ X (e :: es) ((f :: fs).map (tE X.K C E)) := .cons h r
theorem ce_fstr {v1 v2 : Expr} {rest : List Expr} {fs : List Ex} {pos : Pos} (h : PJ X (v1 :: v2 :: rest) (fs.map (tE X.K C E))) : CE X C E (.JoinedStr (v1 :: v2 :: rest) pos) (eJoin fs Str.empty) := PE.imp (pe_joined h) fun σ H Q ⟨g, S, t, w, s, p⟩ => eJoin_run w s p
theorem own_run {pins : List (Addr × Obj)} {σ : L2.St} {H : Hp} {s : Shared} {Q : VK} {k : Nat} {sp : Sp} {f : Addr} {fd : FuncData} {ps : List Str} {A : Around} {us : List Value} {vs : List V} (F' : FnOk X.prog X.w X.K X.mg X.base (L2.CX X.prog X.w) k f fd ps sp) (hb : Binds X.K fd ps [])
    (hx : Passes (L2.CX X.prog X.w) X E) (sb : Sub X k A) (I : L2.Inv X pins σ H s) (r : Vals vs us) (h : sp vs H Q E) : wpAny (model X.prog X.w) A (call (.ref f) us) (fun r s' => ∃ v H', L2.Inv X pins σ H' s' ∧ RelV v r ∧ Q v H') X.xe s := by
  have e0 : Env0 X.prog X.w X.K X.mg X.base A X.stack s H := by
    have e := I.env0
    exact ⟨by rw [sb.fr]; exact e.frames, e.mod, e.bs, e.bsz, e.funs, e.frf, e.hok, e.bare⟩
  have hl : us.length = ps.length := by rw [← r.length]; exact F'.len _ _ _ _ h
  refine wpAny_call (codeAny_mono (F'.run A X.stack s H ⟨us, []⟩ us vs Q E sb.room e0 (by
    have := hb s us I.kIn (by simpa using hl)
    simpa using this) r h) fun r s' hq => ?_)
  cases r with
  | error e => exact hx pins σ H s e s' I hq
  | ok fl =>
    cases fl with
    | ret w =>
      obtain ⟨z, H', I', rz, q⟩ := I.after hq
      exact ⟨z, H', I', rz, q⟩
    | next => exact False.elim hq
    | brk => exact False.elim hq
    | cont => exact False.elim hq
def rOwn (K : PySem.W.Frag) (C : Cn) (E : XK) (sp : Sp) (out : V → VK → Hp → Prop) : List V → Hp → VK → Prop := fun xs H Q => ∃ a dx fv, xs = [.ref a] ∧ H a = some (.ins C.cl dx fv) ∧ sp [.ref a] H (fun v H' => out v Q H') E
theorem call_lenO {k j : Nat} {F : Fn} (hf : FdM X.prog X.w X.K X.mg X.base C k "__len__" 0 F) (hr : Room j X.A) (hk : k + 1 ≤ j) (hx : Passes (L2.CX X.prog X.w) X E) : CallR X (.builtin "len") (rOwn X.K C E (spF X.K C 1 F) fun v Q H' => ∃ i : Int, v = .int i ∧ (0 ≤ i ∧ i < 2 ^ 63) ∧ Q (.int i) H') := by
  intro pins s σ H xs us Q I r h
  obtain ⟨a, dx, fv, rfl, ha, h⟩ := h
  obtain ⟨f, fd, ps, F', hm, hb⟩ := hf.ex
  obtain ⟨u, rfl, ru⟩ := vals1 r
  cases ru
  obtain ⟨mA, J, _⟩ := ins_get I.hok ha
  obtain ⟨od, J, _⟩ := J.look
  obtain ⟨m, hF⟩ := I.fr
  refine PySem.W.len_K hF I.ok.mod.kin J hm.at_ hm.fn (wpAny_mono (own_run F' hb hx ⟨(hr.mono hk).in1, rfl⟩ I r h) (fun v s' hv => ?_) fun _ _ y => y)
  obtain ⟨x, H', I', rx, i, rfl, hi, q⟩ := hv
  obtain ⟨tk, rfl⟩ := rx
  exact ⟨hi, .int i, H', I'.tok _, ⟨_, rfl⟩, q⟩
def eLenO (F : Fn) (o : Ex) : Ex := fun S => bnd (o S) fun d => bnd (obAt d) fun ob => bnd (insOf ob) fun _ => bnd (F [d]) fun r => match r with
  | .int i => if 0 ≤ i ∧ i < 2 ^ 63 then ret (.int i) else stuck
  | _ => stuck
theorem ce_lenO {k j : Nat} {F : Fn} {e : Expr} {f : Ex} {p pos : Pos} (hf : FdM X.prog X.w X.K X.mg X.base C k "__len__" 0 F) (hr : Room j X.A) (hk : k + 1 ≤ j) (hx : Passes (L2.CX X.prog X.w) X E) (hm : X.mg "len" = none) (he : CE X C E e f) (hg : Gl X "len" := by rfl)
    (h1 : starEach (e :: []) X.env = (false, eval e X.env) :: starEach [] X.env := by rfl) (h2 : (backTo pos (starEach [] X.env)).any (·.1) = false := by rfl) : CE X C E (.Call (.Name "len" p) [e] [] pos) (eLenO F f) :=
  PE.imp (pe_callB (call_lenO hf hr hk hx) hg hm PySem.boot_len (pa_cons he pa_nil h1) (by decide) (by decide) h1 h2) fun σ H Q ⟨g, S, t, w, s, p⟩ => by
    refine ⟨g, S, t, w, s, p.bnd.imp fun dd t1 g1 H1 st1 w1 q v r => ?_⟩
    obtain ⟨n, o1, rfl, e1, q1⟩ := q.obAt
    obtain ⟨fs, k1, q2⟩ := q1.insOf
    obtain ⟨a, dx, fv, rfl, had, ha, ra⟩ := r.ins hf.hK w1 e1 k1
    refine ⟨a, dx, fv, rfl, ha, g1, [.hnd n], t1, .cons r .nil, w1, rfl, q2.bnd.imp fun d t2 g2 H2 st2 w2 q3 v2 r2 => ?_⟩
    cases d with
    | int i =>
      have q3 : PostQ X.K C E g2 H2 Q ((if 0 ≤ i ∧ i < 2 ^ 63 then ret (D.int i) else stuck) t2) := q3
      cases r2
      split at q3
      · rename_i hz
        exact ⟨i, rfl, hz, pRetV q3 w2 (.int _)⟩
      · exact q3.elim
    | _ => exact q3.elim
theorem call_strO {k j : Nat} {F : Fn} (hf : FdM X.prog X.w X.K X.mg X.base C k "__str__" 0 F) (hr : Room j X.A) (hk : k + 2 ≤ j) (hx : Passes (L2.CX X.prog X.w) X E) : CallR X (.type "str") (rOwn X.K C E (spF X.K C 1 F) fun v Q H' => ∃ y : Str, v = .str y ∧ Q (.str y) H') := by
  intro pins s σ H xs us Q I r h
  obtain ⟨a, dx, fv, rfl, ha, h⟩ := h
  obtain ⟨f, fd, ps, F', hm, hb⟩ := hf.ex
  obtain ⟨u, rfl, ru⟩ := vals1 r
  cases ru
  obtain ⟨mA, J, _⟩ := ins_get I.hok ha
  obtain ⟨od, J, _⟩ := J.look
  have hr2 : Room k X.A.in1.in1 := Room.in1 (k := k) (Room.in1 (k := k + 1) (hr.mono hk))
  refine PySem.W.kso_call hr2.units0 I.kIn J hm.at_ hm.fn (wpAny_mono (own_run F' hb hx ⟨hr2, rfl⟩ I r h) (fun v s' hv => ?_) fun _ _ y => y)
  obtain ⟨x, H', I', rx, y, rfl, q⟩ := hv
  obtain ⟨tk, rfl⟩ := rx
  exact ⟨.str y, H', I', ⟨_, rfl⟩, q⟩
def eStrO (F : Fn) (o : Ex) : Ex := fun S => bnd (o S) fun d => bnd (obAt d) fun ob => bnd (insOf ob) fun _ => bnd (F [d]) fun r => match r with
  | .str y => ret (.str y)
  | _ => stuck
theorem ce_strO {k j : Nat} {F : Fn} {e : Expr} {f : Ex} {p pos : Pos} (hf : FdM X.prog X.w X.K X.mg X.base C k "__str__" 0 F) (hr : Room j X.A) (hk : k + 2 ≤ j) (hx : Passes (L2.CX X.prog X.w) X E) (hm : X.mg "str" = none) (he : CE X C E e f) (hg : Gl X "str" := by rfl)
    (h1 : starEach (e :: []) X.env = (false, eval e X.env) :: starEach [] X.env := by rfl) (h2 : (backTo pos (starEach [] X.env)).any (·.1) = false := by rfl) : CE X C E (.Call (.Name "str" p) [e] [] pos) (eStrO F f) :=
  PE.imp (pe_callTy (call_strO hf hr hk hx) hg hm bt_str (pa_cons he pa_nil h1) (by decide) (by decide) h1 h2) fun σ H Q ⟨g, S, t, w, s, p⟩ => by
    refine ⟨g, S, t, w, s, p.bnd.imp fun dd t1 g1 H1 st1 w1 q v r => ?_⟩
    obtain ⟨n, o1, rfl, e1, q1⟩ := q.obAt
    obtain ⟨fs, k1, q2⟩ := q1.insOf
    obtain ⟨a, dx, fv, rfl, had, ha, ra⟩ := r.ins hf.hK w1 e1 k1
    refine ⟨a, dx, fv, rfl, ha, g1, [.hnd n], t1, .cons r .nil, w1, rfl, q2.bnd.imp fun d t2 g2 H2 st2 w2 q3 v2 r2 => ?_⟩
    cases d with
    | str y => cases r2; exact ⟨y, rfl, pRetV q3 w2 (.str _)⟩
    | _ => exact q3.elim
structure FdIK (P : Program) (w : World) (K : PySem.W.Frag) (mg : Str → Option Value) (base : Heap) (C : Cn) (k : Nat) (x : Str) (ks : List Str) (F : Fn) : Prop where
  ex : ∃ f fd ps, FnOk P w K mg base (L2.CX P w) k f fd ps (spF K C (1 + ks.length) F) ∧ Mk K C.cl f ∧ ∀ (s : Shared) (us ws : List Value), K.In s.heap → us.length = 1 → ws.length = ks.length → BindsTo s fd ⟨us, ks.zip ws⟩ (ps.zip (us ++ ws))
  at_ : mg x = some (.ref C.cl)
  hK : C.K = K
theorem ce_makeK {k j : Nat} {x : Str} {ks : List Str} {F : Fn} {fs : List Ex} {kws : List Keyword} {p pos : Pos} (hf : FdIK X.prog X.w X.K X.mg X.base C k x ks F) (hr : Room j X.A) (hk : k + 1 ≤ j) (hx : Passes (L2.CX X.prog X.w) X E) (hkw : CK X C E kws (evs fs)) (hl : fs.length = ks.length := by rfl) (hg : Gl X x := by rfl)
    (hall : (backToKw pos (keywordEach kws X.env)).all (·.1.isSome) = true := by rfl) (hks : (backToKw pos (keywordEach kws X.env)).filterMap (·.1) = ks := by rfl) (hdb : (x == ("__debug__" : Str)) = false := by decide)
    (hpl : ((backTo pos (starEach [] X.env)).any (·.1) || (backToKw pos (keywordEach kws X.env)).any (·.1.isNone)) = false := by rfl) : CE X C E (.Call (.Name x p) [] kws pos) (eMake F fs) := by
  obtain ⟨f, fd, ps, F', hm, hb⟩ := hf.ex
  have kb : KBn X.K fd ps 1 ks (fun us ws => us ++ ws) (fun vs zs => vs ++ zs) := ⟨hb, fun r rz => r.append rz⟩
  refine PE.imp (pe_makeK0 hm F' (hr.mono hk) hg hf.at_ kb hx hkw hall hks hdb hpl) fun σ H Q ⟨g, S, t, w, s, p⟩ => ?_
  refine ⟨g, S, t, w, s, (Post.evs p.bnd).imp fun ds t1 g1 H1 st1 w1 ⟨el, q⟩ vs rs => ⟨rfl, by rw [rs.length, el, hl], fun a dx hna hnd ne => ?_⟩⟩
  have s2 : Stp g1 H1 g1 (upd H1 dx (.own a)) := Stp.lay w1 hnd
  have w2 : Wf C g1 (upd H1 dx (.own a)) t1 := Wf.lay w1 hnd
  have hna2 : upd H1 dx (.own a) a = none := by rw [upd_ne (Ne.symm ne)]; exact hna
  have s3 : Stp g1 (upd H1 dx (.own a)) g1 (upd (upd H1 dx (.own a)) a (.ins C.cl dx [])) := Stp.lay w2 hna2
  have w3 : Wf C g1 (upd (upd H1 dx (.own a)) a (.ins C.cl dx [])) t1 := Wf.lay w2 hna2
  obtain ⟨g4, s4, gw4, w4, had, _⟩ := adopt (o := .ins []) (s2.trans s3) w3 (w1.fre hna) (Nt.no hna) ⟨dx, [], upd_same, trivial⟩
  have q : PostQ X.K C E g1 H1 Q (bnd (F (.hnd t1.2.length :: ds)) (fun r => match r with | .non => ret (.hnd t1.2.length) | _ => stuck) (t1.1, t1.2 ++ [(.ins [], 0)])) := q
  refine ⟨g4, .hnd t1.2.length :: ds, _, .cons (.hnd had) ((rs.stp (s2.trans s3)).mono gw4.fz gw4.tw), w4, by rw [List.length_append, rs.length, el, hl]; rfl, (q.stp s4).bnd.imp fun r t5 g5 H5 st5 w5 q5 v rv => ?_⟩
  cases r with
  | non =>
    cases rv
    exact ⟨rfl, pRetV q5 w5 (.hnd (st5.tw.a _ _ had))⟩
  | _ => exact q5.elim
end
end BG
set_option Elab.async false
set_option linter.all false
set_option maxRecDepth 100000
set_option maxHeartbeats 4000000
namespace BL
open PySem PySem.Spec PyProof.Rows L2 BG
def b_Session_init : Stm := (sSeq (sExpr (eCall f_check_exchange [(eVar 1)]))
    (sSeq (sFldD "goal" (eVar 0) (eVar 1))
    (sSeq (sFldD "gates" (eVar 0) (eTup []))
    (sSeq (sFldD "done" (eVar 0) (eAdopt (eLst [])))
    (sFldD "undone" (eVar 0) (eAdopt (eLst [])))))))
def f_Session_init : Fn := fnOf 2 b_Session_init
def b_Session_circuit : Stm := (sRet (eFld "gates" (eVar 0)))
def f_Session_circuit : Fn := fnOf 1 b_Session_circuit
def b_Session_rest : Stm := (sRet (eCall f_then [(eCall f_back [(eCall f_made [(eFld "gates" (eVar 0))])]), (eFld "goal" (eVar 0))]))
def f_Session_rest : Fn := fnOf 1 b_Session_rest
def b_Session_is_done : Stm := (sRet (eBin pEq (eMeth "rest" f_Session_rest (eVar 0) []) (eC c_SAME)))
def f_Session_is_done : Fn := fnOf 1 b_Session_is_done
def b_Session_wrong : Stm := (sSeq (sAsg 1 (eCall f_made [(eFld "gates" (eVar 0))]))
    (sRet (eUn bTuple (eComp [2] (itSeq (eC c_SAME)) (gN 2) (eBin pNe (eBin pIdx (eVar 1) (eVar 2)) (eBin pIdx (eFld "goal" (eVar 0)) (eVar 2))) (eVar 2)))))
def f_Session_wrong : Fn := fnOf 3 b_Session_wrong
def b_Session_history : Stm := (sRet (eUn bTuple (eCompM itLi [1, 2] (eFld "done" (eVar 0)) (gP 1 2) (eC (.bl true)) (eVar 1))))
def f_Session_history : Fn := fnOf 3 b_Session_history
def b_Session_len : Stm := (sRet (eUn bLen (eFld "gates" (eVar 0))))
def f_Session_len : Fn := fnOf 1 b_Session_len
def b_Session_str : Stm := (sRet (eJoin [(eFmt (eUn bLen (eFld "gates" (eVar 0)))), (eC (.str " gates, ")), (eFmt (eUn bLen (eMeth "wrong" f_Session_wrong (eVar 0) []))), (eC (.str " words wrong"))] Str.empty))
def f_Session_str : Fn := fnOf 1 b_Session_str
def b_Session_become : Stm := (sSeq (sMApp (eFld "done" (eVar 0)) (eTup [(eVar 1), (eFld "gates" (eVar 0))]))
    (sSeq (sFldD "undone" (eVar 0) (eAdopt (eLst [])))
    (sSeq (sFldD "gates" (eVar 0) (eVar 2))
    (sRet (eUn bLen (eMeth "wrong" f_Session_wrong (eVar 0) []))))))
def f_Session_become : Fn := fnOf 3 b_Session_become
def b_Session_add : Stm := (sSeq (sExpr (eCall f_check_gate [(eVar 1)]))
    (sSeq (sIf (eBin pEq (eUn bLen (eFld "gates" (eVar 0))) (eC c_LONGEST)) (sRaise 9) sNil)
    (sRet (eMeth "become" f_Session_become (eVar 0) [(eTup [(eC (.str "add")), (eVar 1)]), (eBin pAdd (eFld "gates" (eVar 0)) (eTup [(eVar 1)]))]))))
def f_Session_add : Fn := fnOf 2 b_Session_add
def b_Session_drop : Stm := (sSeq (sIf (eBin pEq (eFld "gates" (eVar 0)) (eTup [])) (sRaise 10) sNil)
    (sRet (eMeth "become" f_Session_become (eVar 0) [(eTup [(eC (.str "drop"))]), (eSlice (eFld "gates" (eVar 0)) none (some (eUn pNeg (eC (.int 1)))))])))
def f_Session_drop : Fn := fnOf 1 b_Session_drop
def b_law_call : Stm := (sRet (eIf (eBin pEq (eBin pIdx (eVar 1) (eC (.int 0))) (eC (.str "drop"))) (eMeth "drop" f_Session_drop (eVar 0) []) (eMeth "add" f_Session_add (eVar 0) [(eBin pIdx (eVar 1) (eC (.int 1)))])))
def f_law_call : Fn := fnOf 2 b_law_call
end BL
set_option Elab.async false
set_option linter.all false
set_option maxRecDepth 100000
set_option maxHeartbeats 4000000
namespace K23
open PySem PySem.Spec PyProof.Rows L2 BG BL
def b_law_agrees : Stm := (sSeq (sAsg 4 (eCall f_law_made [(eVar 2)]))
    (sSeq (sAsg 5 (eUn bTuple (eComp [6] (itRange1 (eC (.int 8))) (gN 6) (eBin pNe (eBin pIdx (eVar 4) (eVar 6)) (eBin pIdx (eVar 1) (eVar 6))) (eVar 6))))
    (sSeq (sIf (eOr (eBin pNe (eMeth "circuit" f_Session_circuit (eVar 0) []) (eVar 2)) (eOr (eBin pNe (eMeth "wrong" f_Session_wrong (eVar 0) []) (eVar 5)) (eBin pNe (eMeth "history" f_Session_history (eVar 0) []) (eVar 3)))) (sRet (eC (.bl false))) sNil)
    (sSeq (sIf (eBin pNe (eMeth "rest" f_Session_rest (eVar 0) []) (eUn bTuple (eComp [6] (itRange1 (eC (.int 8))) (gN 6) (eC (.bl true)) (eBin pIdx (eVar 1) (eTM pIdxOf (eVar 4) (eVar 6)))))) (sRet (eC (.bl false))) sNil)
    (sSeq (sIf (eOr (eUn oNot (eCall f_law_is [(eMeth "is_done" f_Session_is_done (eVar 0) []), (eBin pEq (eVar 5) (eTup []))])) (eBin pNe (eLenO f_Session_len (eVar 0)) (eUn bLen (eVar 2)))) (sRet (eC (.bl false))) sNil)
    (sRet (eBin pEq (eStrO f_Session_str (eVar 0)) (eJoin [(eFmt (eUn bLen (eVar 2))), (eC (.str " gates, ")), (eFmt (eUn bLen (eVar 5))), (eC (.str " words wrong"))] Str.empty))))))))
def f_law_agrees : Fn := fnOf 7 (b_law_agrees)
def b_law_due : Stm := (sSeq (sIf (eBin pEq (eVar 0) (eTup [(eC (.str "drop"))])) (sRet (eTup [(eIf (eBin pEq (eVar 1) (eTup [])) (eTup [(eC (.str "empty"))]) (eTup [])), (eSlice (eVar 1) none (some (eUn pNeg (eC (.int 1)))))])) sNil)
    (sSeq (sIf (eBin pNotIn (eBin pIdx (eVar 0) (eC (.int 1))) (eCall f_law_gates [])) (sRet (eTup [(eTup [(eC (.str "gate"))]), (eVar 1)])) sNil)
    (sSeq (sIf (eBin pEq (eUn bLen (eVar 1)) (eC (.int 20))) (sRet (eTup [(eTup [(eC (.str "many"))]), (eVar 1)])) sNil)
    (sRet (eTup [(eTup []), (eBin pAdd (eVar 1) (eTup [(eBin pIdx (eVar 0) (eC (.int 1)))]))])))))
def f_law_due : Fn := fnOf 2 (b_law_due)
def b_law : Stm := (sSeq (sAsg 1 (eCall f_law_begun []))
    (sSeq (sAsg 2 (eCall f_law_gates []))
    (sSeq (sFor (itRange1 (eC (.int 4))) (gN 3)
    (sSeq (sAsg 4 (eCall f_law_exchange [(eVar 0), (eVar 1)]))
    (sSeq (sIf (eBin pEq (eCall f_law_draw [(eVar 0), (eVar 1), (eC (.int 2))]) (eC (.int 0))) (sAsg 4 (eCall f_law_made [(eCall f_law_circuit [(eVar 0), (eVar 1), (eTup [(eC (.str "both")), (eC (.str "if")), (eC (.str "not")), (eC (.str "pick")), (eC (.str "swap"))]), (eC (.int 3))])])) sNil)
    (sSeq (sAsgS (gsTup 3 (gsCons (gsN 5) (gsCons (gsN 6) (gsCons (gsN 7) gsNil)))) (eTup [(eMake f_Session_init [(eVar 4)]), (eTup []), (eTup [])]))
    (sSeq (sFor (itRange1 (eIf (eBin pLt (eVar 3) (eC (.int 3))) (eC (.int 8)) (eC (.int 24)))) (gN 8)
    (sSeq (sAsg 10 (eTup [(eC (.str "add")), (eBin pIdx (eVar 2) (eCall f_law_draw [(eVar 0), (eVar 1), (eC (.int 18))]))]))
    (sSeq (sIf (eAnd (eBin pEq (eCall f_law_draw [(eVar 0), (eVar 1), (eC (.int 4))]) (eC (.int 0))) (eBin pLt (eVar 3) (eC (.int 3)))) (sAsg 10 (eBin pIdx (eTup [(eTup [(eC (.str "drop"))]), (eTup [(eC (.str "add")), (eC .non)]), (eTup [(eC (.str "add")), (eTup [(eC (.str "not")), (eC (.int 3))])])]) (eCall f_law_draw [(eVar 0), (eVar 1), (eC (.int 3))]))) sNil)
    (sSeq (sAsgG (gP 11 6) (eCall f_law_due [(eVar 10), (eVar 6)]))
    (sSeq (sIf (eBin pEq (eVar 11) (eTup [])) (sSeq (sAsg 7 (eBin pAdd (eVar 7) (eTup [(eVar 10)])))
    (sSeq (sAsg 12 (eCall f_law_made [(eVar 6)]))
    (sAsg 11 (eTup [(eC (.str "returns")), (eUn bLen (eComp [13] (itRange1 (eC (.int 8))) (gN 13) (eBin pNe (eBin pIdx (eVar 12) (eVar 13)) (eBin pIdx (eVar 4) (eVar 13))) (eC (.int 1))))])))) sNil)
    (sSeq (sIf (eBin pNe (eRes resNm al12 (eCall f_law_call [(eVar 5), (eVar 10)])) (eVar 11)) (sRet (eC (.bl false))) sNil)
    (sIf (eUn oNot (eCall f_law_agrees [(eVar 5), (eVar 4), (eVar 6), (eVar 7)])) (sRet (eC (.bl false))) sNil)))))))
    (sFor (itSeq (eTup [(eC .non), (eTup []), (eSlice (eVar 4) (some (eC (.int 1))) none), (eUn bList (eVar 4))])) (gN 9)
    (sIf (eBin pNe (eRes resNm al12 (eMake f_Session_init [(eVar 9)])) (eTup [(eC (.str "exchange"))])) (sRet (eC (.bl false))) sNil)))))))
    (sRet (eC (.bl true))))))
def f_law : Fn := fnOf 14 (b_law)
end K23
set_option Elab.async false
set_option linter.all false
set_option maxRecDepth 100000
set_option maxHeartbeats 4000000
namespace K23
open PySem PySem.Spec PyProof.Rows L2 BG BL
def topS (i : Nat) : Stmt := PySem.Challenge.pw_backgates_k23_sessions.main.body.getD i (.Pass ⟨0, 0, 0, 0⟩)
structure Mg (K : PySem.W.Frag) (w : World) (mg : Str → Option Value) (C : Cn) : Prop extends Bt mg where
  hK : C.K = K
  cls : Cls K C.cl
  na_done : NoAttr K C.cl "done"
  na_gates : NoAttr K C.cl "gates"
  na_goal : NoAttr K C.cl "goal"
  na_undone : NoAttr K C.cl "undone"
  cKINDS : ∃ a, mg "KINDS" = some (.ref a) ∧ ∀ g, Rp K g (.ref a) c_KINDS
  cLONGEST : ∃ t, mg "LONGEST" = some (.int 20 t)
  cSAME : ∃ a, mg "SAME" = some (.ref a) ∧ ∀ g, Rp K g (.ref a) c_SAME
  eInvalidGate : mg "InvalidGate" = some (.ref (C.ex 0)) ∧ PySem.W.excIn K (C.ex 0) [.type "ValueError", .type "Exception", .type "BaseException", .type "object"] "ValueError.__new__" = true ∧ PySem.W.keepIn K (.ref (C.ex 0)) = true ∧ PySem.W.subIn K (.ref (C.ex 0)) (.type "BaseException") = true ∧ PySem.W.typeIn K (.ref (C.ex 0)) = some (.type "type")
  eInvalidExchange : mg "InvalidExchange" = some (.ref (C.ex 3)) ∧ PySem.W.excIn K (C.ex 3) [.type "ValueError", .type "Exception", .type "BaseException", .type "object"] "ValueError.__new__" = true ∧ PySem.W.keepIn K (.ref (C.ex 3)) = true ∧ PySem.W.subIn K (.ref (C.ex 3)) (.type "BaseException") = true ∧ PySem.W.typeIn K (.ref (C.ex 3)) = some (.type "type")
  eTooMany : mg "TooMany" = some (.ref (C.ex 9)) ∧ PySem.W.excIn K (C.ex 9) [.type "ValueError", .type "Exception", .type "BaseException", .type "object"] "ValueError.__new__" = true ∧ PySem.W.keepIn K (.ref (C.ex 9)) = true ∧ PySem.W.subIn K (.ref (C.ex 9)) (.type "BaseException") = true ∧ PySem.W.typeIn K (.ref (C.ex 9)) = some (.type "type")
  eEmpty : mg "Empty" = some (.ref (C.ex 10)) ∧ PySem.W.excIn K (C.ex 10) [.type "ValueError", .type "Exception", .type "BaseException", .type "object"] "ValueError.__new__" = true ∧ PySem.W.keepIn K (.ref (C.ex 10)) = true ∧ PySem.W.subIn K (.ref (C.ex 10)) (.type "BaseException") = true ∧ PySem.W.typeIn K (.ref (C.ex 10)) = some (.type "type")
theorem g_KINDS {X : Cx} {C : Cn} {E : XK} {pos : Pos} (M : Mg X.K X.w X.mg C) (hg : Gl X "KINDS" := by rfl) : CE X C E (.Name "KINDS" pos) (eC c_KINDS) := by
  obtain ⟨a, h1, h2⟩ := M.cKINDS
  exact ce_glob (v := .ref a) h1 rfl h2 hg
theorem g_LONGEST {X : Cx} {C : Cn} {E : XK} {pos : Pos} (M : Mg X.K X.w X.mg C) (hg : Gl X "LONGEST" := by rfl) : CE X C E (.Name "LONGEST" pos) (eC c_LONGEST) := by
  obtain ⟨t, h1⟩ := M.cLONGEST
  exact ce_glob (v := .int 20) h1 ⟨t, rfl⟩ (fun _ => .int _) hg
theorem g_SAME {X : Cx} {C : Cn} {E : XK} {pos : Pos} (M : Mg X.K X.w X.mg C) (hg : Gl X "SAME" := by rfl) : CE X C E (.Name "SAME" pos) (eC c_SAME) := by
  obtain ⟨a, h1, h2⟩ := M.cSAME
  exact ce_glob (v := .ref a) h1 rfl h2 hg
theorem x_InvalidGate {X : Cx} {C : Cn} {E : XK} {m : Str} {j : Nat} {p p2 pos pos' : Pos} (M : Mg X.K X.w X.mg C) (tk : Takes X (fun cls d _ H => E cls d H)) (hc : X.calm = true := by rfl) (hg : Gl X "InvalidGate" := by rfl) : CS X C E (.Raise (some (.Call (.Name "InvalidGate" p) [.Constant (.str m) j p2] [] pos)) none pos') (sRaise 0) := by
  obtain ⟨h1, h2, h3, h4, h5⟩ := M.eInvalidGate
  exact cs_raise (W := fun cls d _ H => E cls d H) 0 PySem.F.excBase_ValueError h2 h1 h3 (raises_own h4 h5) tk hc hg
theorem x_InvalidExchange {X : Cx} {C : Cn} {E : XK} {m : Str} {j : Nat} {p p2 pos pos' : Pos} (M : Mg X.K X.w X.mg C) (tk : Takes X (fun cls d _ H => E cls d H)) (hc : X.calm = true := by rfl) (hg : Gl X "InvalidExchange" := by rfl) : CS X C E (.Raise (some (.Call (.Name "InvalidExchange" p) [.Constant (.str m) j p2] [] pos)) none pos') (sRaise 3) := by
  obtain ⟨h1, h2, h3, h4, h5⟩ := M.eInvalidExchange
  exact cs_raise (W := fun cls d _ H => E cls d H) 3 PySem.F.excBase_ValueError h2 h1 h3 (raises_own h4 h5) tk hc hg
theorem x_TooMany {X : Cx} {C : Cn} {E : XK} {m : Str} {j : Nat} {p p2 pos pos' : Pos} (M : Mg X.K X.w X.mg C) (tk : Takes X (fun cls d _ H => E cls d H)) (hc : X.calm = true := by rfl) (hg : Gl X "TooMany" := by rfl) : CS X C E (.Raise (some (.Call (.Name "TooMany" p) [.Constant (.str m) j p2] [] pos)) none pos') (sRaise 9) := by
  obtain ⟨h1, h2, h3, h4, h5⟩ := M.eTooMany
  exact cs_raise (W := fun cls d _ H => E cls d H) 9 PySem.F.excBase_ValueError h2 h1 h3 (raises_own h4 h5) tk hc hg
theorem x_Empty {X : Cx} {C : Cn} {E : XK} {m : Str} {j : Nat} {p p2 pos pos' : Pos} (M : Mg X.K X.w X.mg C) (tk : Takes X (fun cls d _ H => E cls d H)) (hc : X.calm = true := by rfl) (hg : Gl X "Empty" := by rfl) : CS X C E (.Raise (some (.Call (.Name "Empty" p) [.Constant (.str m) j p2] [] pos)) none pos') (sRaise 10) := by
  obtain ⟨h1, h2, h3, h4, h5⟩ := M.eEmpty
  exact cs_raise (W := fun cls d _ H => E cls d H) 10 PySem.F.excBase_ValueError h2 h1 h3 (raises_own h4 h5) tk hc hg
abbrev s_law_result : Stmt := topS 33
theorem sc_law_result : FnScope ngR ["call"] (defScope s_law_result) := ⟨rfl, rfl, rfl, by decide +kernel, rfl, by decide +kernel, by decide +kernel⟩
structure ResF (K : PySem.W.Frag) (mg : Str → Option Value) (C : Cn) : Prop where
  ex : ∃ (g GE : Addr) (oc : Value) (od : Option Addr) (osl : Array (Option Value)) (kV doc pm : Value) (an : Option Addr) (cdv ct : Value), mg "_law_result" = some (.ref g) ∧ PySem.W.keepIn K (.ref g) = true ∧
    K.lookup g = some ⟨oc, od, .func (PySem.W.fnOf "_law_result" "_law_result" (defArgs s_law_result) (defBody s_law_result) (defScope s_law_result) .none kV doc pm an cdv ct), osl⟩ ∧ PySem.W.codeIn K cdv "_law_result" = true ∧ mg "GateError" = some (.ref GE) ∧ excOk K GE C.ex = true
  c0 : mg "InvalidGate" = some (.ref (C.ex 0))
  c1 : mg "InvalidCircuit" = some (.ref (C.ex 1))
  c2 : mg "InvalidWord" = some (.ref (C.ex 2))
  c3 : mg "InvalidExchange" = some (.ref (C.ex 3))
  c4 : mg "InvalidLines" = some (.ref (C.ex 4))
  c5 : mg "InvalidKinds" = some (.ref (C.ex 5))
  c6 : mg "InvalidFunction" = some (.ref (C.ex 6))
  c7 : mg "InvalidAnswers" = some (.ref (C.ex 7))
  c8 : mg "InvalidText" = some (.ref (C.ex 8))
  c9 : mg "TooMany" = some (.ref (C.ex 9))
  c10 : mg "Empty" = some (.ref (C.ex 10))
  c11 : mg "NothingToUndo" = some (.ref (C.ex 11))
  ve : mg "ValueError" = none
theorem r_res {X : Cx} {C : Cn} {E : XK} {k : Nat} {c : Addr} {x : Str} {params : Arguments} {body : Expr} {scope : Scope} {fb : Ex} {p lpos pos : Pos}
    (M : Bt X.mg) (R : ResF X.K X.mg C) (Lm : LamD X.base X.mg C x c) (hcode : X.env.code = .ref c) (hq : X.env.qual = x ++ ".<locals>.") (hr : Room (k + 2) X.A) (L : LamX.LamS X.env.scope scope)
    (hbody : ∀ (A : Around) (outer : List Env) (s : Shared) (H : Hp) (E : XK) (f c' : Addr), Room k (A.deeper (LamX.lamEnv X scope s.heap.objs.size f c')) → CE (LamX.lamCx X A outer s H E scope f c') C E body fb)
    (hg : Gl X "_law_result" := by rfl) (hdef : defaultsOf params X.env = ([], []) := by rfl)
    (hbind : ∀ (q : Str) (cl : List (Str × Addr)) (pm cv ctv : Value), bindArgs (PySem.W.kla_fn "<lambda>" q params body scope cl pm cv ctv) ⟨[], []⟩ = pure [] := by intros; rfl) :
    CE X C E (.Call (.Name "_law_result" p) [.Lambda params body scope lpos] [] pos) (eRes resNm al12 fb) := by
  obtain ⟨g, GE, oc, od, osl, kV, doc, pm, an, cdv, ct, h1, h2, h3, h4, h5, h6⟩ := R.ex
  obtain ⟨P, tb, m1, m2⟩ := Lm.ex
  have EA := excOk_all h6
  rw [← hq] at m1 m2
  have hu : ∀ env, (X.A.deeper env).units + 1 < cLine := fun env => (hr.deeper env).u1
  have F := fun_mk (st := s_law_result) h3 h4 h2
  refine ce_res h1 h2 h3 h4 (F.binds (ps := ["call"]) fun _ _ _ _ _ _ us hl => match us, hl with | [_], _ => rfl) sc_law_result (.inl rfl) ?_ tb hcode m1 m2 hr L hbody hg hdef hbind
  refine gives_of (C := C) (al := al12) rfl sc_law_result.nd (fun s H => ?_) h5 rfl rfl rfl rfl EA.exm (fun s H => ?_) (bRes1 (K := X.K) (C := C) (exs := exs12 C.ex)) (fun c hc => bRes2 (of_decide_eq_true hc) (EA.kit c (of_decide_eq_true hc)))
  · exact PS.imp (ps_asg (pe_tup (pa_cons pe_non (pa_cons pe_non pa_nil rfl) rfl)) (pg_tup rfl (pgs_cons (pg_name (i := 1) sc_law_result.nd rfl (.inl rfl) (.inl rfl)) (pgs_cons (pg_name (i := 2) sc_law_result.nd rfl (.inl rfl) (.inl rfl)) pgs_nil rfl) rfl) rfl rfl) rfl rfl rfl) fun De σ H q => ⟨by decide, fun a ha => ⟨a, _, rfl, .inl (.inl upd_same), rfl, _, _, rfl, _, _, rfl, rfl, q a ha⟩⟩
  · exact css_cons (cs_if (ct_noE 1) (css_one (cs_ret (ce_tup (ca_cons ce_str (ca_cons (ce_var 2) ca_nil))))) css_nil)
      (css_cons (cs_dic 4 sc_law_result.nd (cps_cons (ce_isE 1 EA.F M.isinstance R.c0) (cps_cons (ce_isE 1 EA.F M.isinstance R.c1) cps_nil)))
      (css_cons (cs_dupd 4 (cps_cons (ce_isE 1 EA.F M.isinstance R.c2) (cps_cons (ce_isE 1 EA.F M.isinstance R.c3) cps_nil)))
      (css_cons (cs_dupd 4 (cps_cons (ce_isE 1 EA.F M.isinstance R.c4) (cps_cons (ce_isE 1 EA.F M.isinstance R.c5) cps_nil)))
      (css_cons (cs_dupd 4 (cps_cons (ce_isE 1 EA.F M.isinstance R.c6) (cps_cons (ce_isE 1 EA.F M.isinstance R.c7) cps_nil)))
      (css_cons (cs_dupd 4 (cps_cons (ce_isE 1 EA.F M.isinstance R.c8) (cps_cons (ce_isE 1 EA.F M.isinstance R.c9) cps_nil)))
      (css_cons (cs_dupd 4 (cps_cons (ce_isE 1 EA.F M.isinstance R.c10) (cps_cons (ce_isE 1 EA.F M.isinstance R.c11) cps_nil)))
      (css_cons (cs_frzD 4 (cs_asgLc 5 (own := [("name", 6)]) (is := [6]) rfl sc_law_result.nd rfl (sw_true rfl rfl rfl (by decide +kernel)) (ci_w (ci_dic 4)) (blkOk_by (N := ngR) (sc := (defScope s_law_result)) (by decide +kernel)) (by decide) (fun _ _ _ _ _ => (cg_name 6 sc_law_result.nd)) (fun _ _ _ _ _ => (cts_one (ct_val (ce_dix 4 (hu _) (ce_var 6))))) (fun _ _ _ _ _ => (ce_var 6))))
      (css_one (cs_ret (ce_if (ct_w (cw_and (ct_cmp (bin_eq (hr.deeper _).units) (e2w (ce_callB1 cr_len M.len bt_len (e2w (ce_var 5)))) (e2w ce_int)) (pw_and1 (ct_val (ce_isEb 1 EA.F M.isinstance R.ve (by decide +kernel)))))) (ce_tup (ca_cons (ce_ix (e2w (ce_var 5)) (e2w ce_int)) ca_nil)) (ce_tup (ca_cons ce_str ca_nil))))))))))))
section
variable {P : Program} {w : World} {K : PySem.W.Frag} {mg : Str → Option Value} {base : Heap} {C : Cn}
abbrev s_is_between : Stmt := topS 18
theorem sc_is_between : FnScope ["value", "low", "high"] ["value", "low", "high"] (defScope s_is_between) := ⟨rfl, rfl, rfl, by decide +kernel, rfl, by decide +kernel, by decide +kernel⟩
theorem ok_is_between {f : Addr} {fd : FuncData} (M : Mg K w mg C) (F : Fun K "is_between" "is_between" s_is_between f fd)  :
    FnOk P w K mg base (L2.CX P w) 1 f fd ["value", "low", "high"] (spF K C 3 f_is_between) :=
  fn_ok (N := ["value", "low", "high"]) F sc_is_between fun cdv A outer s H E hr =>
    (css_one (cs_ret (ce_and (ce_isi .int M.isinstance M.int bt_int (e2w (ce_var 0))) (ce_and (ce_not (ce_isi .bool M.isinstance M.bool bt_bool (e2w (ce_var 0)))) (ce_one (ce_chain bin_le bin_le (e2w (ce_var 1)) (e2w (ce_var 0)) (e2w (ce_var 2))))))))
abbrev s_is_gate : Stmt := topS 19
theorem sc_is_gate : FnScope ["value", "kind", "lines", "line"] ["value"] (defScope s_is_gate) := ⟨rfl, rfl, rfl, by decide +kernel, rfl, by decide +kernel, by decide +kernel⟩
theorem ok_is_gate {f : Addr} {fd : FuncData} (M : Mg K w mg C) (F : Fun K "is_gate" "is_gate" s_is_gate f fd) (fd_is_between : Fd P w K mg base C 1 "is_between" 3 f_is_between) :
    FnOk P w K mg base (L2.CX P w) 2 f fd ["value"] (spF K C 1 f_is_gate) :=
  fn_ok (N := ["value", "kind", "lines", "line"]) F sc_is_gate fun cdv A outer s H E hr =>
    (css_cons (cs_if (ct_w (cw_or (ct_not (ct_val (ce_isi .tuple M.isinstance M.tuple bt_tuple (e2w (ce_var 0))))) (cw_or (ct_cmp (bin_eq hr.units) (e2w (ce_var 0)) (e2w (ce_tup ca_nil))) (cw_or (ct_not (ct_val (ce_isi .str M.isinstance M.str bt_str (e2w (ce_ix (e2w (ce_var 0)) (e2w ce_int)))))) (pw_or1 (ct_cmp (bin_notIn hr.u65) (e2w (ce_ix (e2w (ce_var 0)) (e2w ce_int))) (e2w (g_KINDS M)))))))) (css_one (cs_ret ce_bl)) css_nil)
    (css_cons (cs_par 1 2 sc_is_gate.nd (ce_ix (e2w (ce_var 0)) (e2w ce_int)) (ce_slice (e2w (ce_var 0)) (co_some ce_int) co_none))
    (css_cons (cs_if (ct_w (cw_or (ct_not (ct_val (ce_callB1 (cr_allD rfl) M.all bt_all (f2w (cf_comp (own := [("line", 3)]) (is := [3]) rfl sc_is_gate.nd (ciw_seq (e2w (ce_var 2))) (blkOk_by (N := ["value", "kind", "lines", "line"]) (sc := (defScope s_is_gate)) (by decide +kernel)) (by decide) (fun _ _ _ _ _ => (cg_name 3 sc_is_gate.nd)) (fun _ _ _ _ _ => cts_nil) (fun _ _ _ _ _ => (ce_call fd_is_between hr (by decide) passL (ca_cons (ce_var 3) (ca_cons ce_int (ca_cons ce_int ca_nil)))))))))) (pw_or1 (ct_cmp (bin_ne hr.units) (e2w (ce_lenSet rfl M.len M.set (e2w (ce_var 2)))) (e2w (ce_callB1 cr_len M.len bt_len (e2w (ce_var 2)))))))) (css_one (cs_ret ce_bl)) css_nil)
    (css_cons (cs_if (ct_cmp (bin_ne hr.units) (e2w (ce_callB1 cr_len M.len bt_len (e2w (ce_var 2)))) (e2w (ce_if (ct_cmp (bin_eq hr.units) (e2w (ce_var 1)) (e2w ce_str)) ce_int (ce_if (ct_cmp (bin_in hr.u65) (e2w (ce_var 1)) (e2w (ce_tup (ca_cons ce_str (ca_cons ce_str ca_nil))))) ce_int ce_int)))) (css_one (cs_ret ce_bl)) css_nil)
    (css_cons (cs_if (ct_w (cw_or (ct_cmp (bin_eq hr.units) (e2w (ce_var 1)) (e2w ce_str)) (pw_or1 (ct_cmp (bin_eq hr.units) (e2w (ce_var 1)) (e2w ce_str))))) (css_one (cs_ret (ce_cmp bin_lt (e2w (ce_ix (e2w (ce_var 2)) (e2w ce_int))) (e2w (ce_ix (e2w (ce_var 2)) (e2w ce_int)))))) css_nil)
    (css_one (cs_ret (ce_or (ce_cmp (bin_ne hr.units) (e2w (ce_var 1)) (e2w ce_str)) (ce_one (ce_cmp bin_lt (e2w (ce_ix (e2w (ce_var 2)) (e2w ce_int))) (e2w (ce_ix (e2w (ce_var 2)) (e2w ce_int)))))))))))))
abbrev s_is_exchange : Stmt := topS 20
theorem sc_is_exchange : FnScope ["value", "word"] ["value"] (defScope s_is_exchange) := ⟨rfl, rfl, rfl, by decide +kernel, rfl, by decide +kernel, by decide +kernel⟩
theorem ok_is_exchange {f : Addr} {fd : FuncData} (M : Mg K w mg C) (F : Fun K "is_exchange" "is_exchange" s_is_exchange f fd) (fd_is_between : Fd P w K mg base C 1 "is_between" 3 f_is_between) :
    FnOk P w K mg base (L2.CX P w) 2 f fd ["value"] (spF K C 1 f_is_exchange) :=
  fn_ok (N := ["value", "word"]) F sc_is_exchange fun cdv A outer s H E hr =>
    (css_cons (cs_if (ct_w (cw_or (ct_not (ct_val (ce_isi .tuple M.isinstance M.tuple bt_tuple (e2w (ce_var 0))))) (cw_or (ct_cmp (bin_ne hr.units) (e2w (ce_callB1 cr_len M.len bt_len (e2w (ce_var 0)))) (e2w ce_int)) (pw_or1 (ct_not (ct_val (ce_callB1 (cr_allD rfl) M.all bt_all (f2w (cf_comp (own := [("word", 1)]) (is := [1]) rfl sc_is_exchange.nd (ciw_seq (e2w (ce_var 0))) (blkOk_by (N := ["value", "word"]) (sc := (defScope s_is_exchange)) (by decide +kernel)) (by decide) (fun _ _ _ _ _ => (cg_name 1 sc_is_exchange.nd)) (fun _ _ _ _ _ => cts_nil) (fun _ _ _ _ _ => (ce_call fd_is_between hr (by decide) passL (ca_cons (ce_var 1) (ca_cons ce_int (ca_cons ce_int ca_nil)))))))))))))) (css_one (cs_ret ce_bl)) css_nil)
    (css_one (cs_ret (ce_cmp (bin_eq hr.units) (e2w (ce_lenSet rfl M.len M.set (e2w (ce_var 0)))) (e2w ce_int)))))
abbrev s_check_gate : Stmt := topS 21
theorem sc_check_gate : FnScope ["gate"] ["gate"] (defScope s_check_gate) := ⟨rfl, rfl, rfl, by decide +kernel, rfl, by decide +kernel, by decide +kernel⟩
theorem ok_check_gate {f : Addr} {fd : FuncData} (M : Mg K w mg C) (F : Fun K "check_gate" "check_gate" s_check_gate f fd) (fd_is_gate : Fd P w K mg base C 2 "is_gate" 1 f_is_gate) :
    FnOk P w K mg base (L2.CX P w) 3 f fd ["gate"] (spF K C 1 f_check_gate) :=
  fn_ok (N := ["gate"]) F sc_check_gate fun cdv A outer s H E hr =>
    (css_one (cs_if (ct_not (ct_val (ce_call fd_is_gate hr (by decide) passC (ca_cons (ce_var 0) ca_nil)))) (css_one (x_InvalidGate M (takes_of rfl rfl rfl rfl))) css_nil))
abbrev s_check_exchange : Stmt := topS 22
theorem sc_check_exchange : FnScope ["exchange"] ["exchange"] (defScope s_check_exchange) := ⟨rfl, rfl, rfl, by decide +kernel, rfl, by decide +kernel, by decide +kernel⟩
theorem ok_check_exchange {f : Addr} {fd : FuncData} (M : Mg K w mg C) (F : Fun K "check_exchange" "check_exchange" s_check_exchange f fd) (fd_is_exchange : Fd P w K mg base C 2 "is_exchange" 1 f_is_exchange) :
    FnOk P w K mg base (L2.CX P w) 3 f fd ["exchange"] (spF K C 1 f_check_exchange) :=
  fn_ok (N := ["exchange"]) F sc_check_exchange fun cdv A outer s H E hr =>
    (css_one (cs_if (ct_not (ct_val (ce_call fd_is_exchange hr (by decide) passC (ca_cons (ce_var 0) ca_nil)))) (css_one (x_InvalidExchange M (takes_of rfl rfl rfl rfl))) css_nil))
abbrev s_weight_of : Stmt := topS 23
theorem sc_weight_of : FnScope ["line"] ["line"] (defScope s_weight_of) := ⟨rfl, rfl, rfl, by decide +kernel, rfl, by decide +kernel, by decide +kernel⟩
theorem ok_weight_of {f : Addr} {fd : FuncData} (M : Mg K w mg C) (F : Fun K "weight_of" "weight_of" s_weight_of f fd)  :
    FnOk P w K mg base (L2.CX P w) 1 f fd ["line"] (spF K C 1 f_weight_of) :=
  fn_ok (N := ["line"]) F sc_weight_of fun cdv A outer s H E hr =>
    (css_one (cs_ret (ce_ix (e2w (ce_tup (ca_cons ce_int (ca_cons ce_int (ca_cons ce_int ca_nil))))) (e2w (ce_var 0)))))
abbrev s_bit : Stmt := topS 24
theorem sc_bit : FnScope ["word", "line"] ["word", "line"] (defScope s_bit) := ⟨rfl, rfl, rfl, by decide +kernel, rfl, by decide +kernel, by decide +kernel⟩
theorem ok_bit {f : Addr} {fd : FuncData} (M : Mg K w mg C) (F : Fun K "bit" "bit" s_bit f fd) (fd_weight_of : Fd P w K mg base C 1 "weight_of" 1 f_weight_of) :
    FnOk P w K mg base (L2.CX P w) 2 f fd ["word", "line"] (spF K C 2 f_bit) :=
  fn_ok (N := ["word", "line"]) F sc_bit fun cdv A outer s H E hr =>
    (css_one (cs_ret (ce_bin bin_mod (e2w (ce_bin bin_div (e2w (ce_var 0)) (e2w (ce_call fd_weight_of hr (by decide) passC (ca_cons (ce_var 1) ca_nil))))) (e2w ce_int))))
abbrev s_applied : Stmt := topS 25
theorem sc_applied : FnScope ["gate", "word", "kind", "lines", "line", "one", "other"] ["gate", "word"] (defScope s_applied) := ⟨rfl, rfl, rfl, by decide +kernel, rfl, by decide +kernel, by decide +kernel⟩
theorem ok_applied {f : Addr} {fd : FuncData} (M : Mg K w mg C) (F : Fun K "applied" "applied" s_applied f fd) (fd_bit : Fd P w K mg base C 2 "bit" 2 f_bit) (fd_weight_of : Fd P w K mg base C 1 "weight_of" 1 f_weight_of) :
    FnOk P w K mg base (L2.CX P w) 3 f fd ["gate", "word"] (spF K C 2 f_applied) :=
  fn_ok (N := ["gate", "word", "kind", "lines", "line", "one", "other"]) F sc_applied fun cdv A outer s H E hr =>
    (css_cons (cs_par 2 3 sc_applied.nd (ce_ix (e2w (ce_var 0)) (e2w ce_int)) (ce_slice (e2w (ce_var 0)) (co_some ce_int) co_none))
    (css_cons (cs_if (ct_cmp (bin_in hr.u65) (e2w (ce_var 2)) (e2w (ce_tup (ca_cons ce_str (ca_cons ce_str (ca_cons ce_str ca_nil)))))) (css_cons (cs_if (ct_val (ce_callB1 (cr_allD rfl) M.all bt_all (f2w (cf_comp (own := [("line", 4)]) (is := [4]) rfl sc_applied.nd (ciw_seq (e2w (ce_slice (e2w (ce_var 3)) co_none (co_some (ce_neg ce_int))))) (blkOk_by (N := ["gate", "word", "kind", "lines", "line", "one", "other"]) (sc := (defScope s_applied)) (by decide +kernel)) (by decide) (fun _ _ _ _ _ => (cg_name 4 sc_applied.nd)) (fun _ _ _ _ _ => cts_nil) (fun _ _ _ _ _ => (ce_cmp (bin_eq hr.units) (e2w (ce_call fd_bit hr (by decide) passL (ca_cons (ce_var 1) (ca_cons (ce_var 4) ca_nil)))) (e2w ce_int))))))) (css_one (cs_ret (ce_bin bin_xor (e2w (ce_var 1)) (e2w (ce_call fd_weight_of hr (by decide) passC (ca_cons (ce_ix (e2w (ce_var 3)) (e2w (ce_neg ce_int))) ca_nil)))))) css_nil)
    (css_one (cs_ret (ce_var 1)))) css_nil)
    (css_cons (cs_if (ct_w (cw_and (ct_cmp (bin_eq hr.units) (e2w (ce_var 2)) (e2w ce_str)) (pw_and1 (ct_cmp (bin_eq hr.units) (e2w (ce_call fd_bit hr (by decide) passC (ca_cons (ce_var 1) (ca_cons (ce_ix (e2w (ce_var 3)) (e2w ce_int)) ca_nil)))) (e2w ce_int))))) (css_one (cs_ret (ce_var 1))) css_nil)
    (css_cons (cs_asgG (ce_slice (e2w (ce_var 3)) (co_some (ce_neg ce_int)) co_none) (cg_pair 5 6 sc_applied.nd))
    (css_cons (cs_if (ct_cmp (bin_eq hr.units) (e2w (ce_call fd_bit hr (by decide) passC (ca_cons (ce_var 1) (ca_cons (ce_var 5) ca_nil)))) (e2w (ce_call fd_bit hr (by decide) passC (ca_cons (ce_var 1) (ca_cons (ce_var 6) ca_nil))))) (css_one (cs_ret (ce_var 1))) css_nil)
    (css_one (cs_ret (ce_bin bin_xor (e2w (ce_bin bin_xor (e2w (ce_var 1)) (e2w (ce_call fd_weight_of hr (by decide) passC (ca_cons (ce_var 5) ca_nil))))) (e2w (ce_call fd_weight_of hr (by decide) passC (ca_cons (ce_var 6) ca_nil)))))))))))
abbrev s_made : Stmt := topS 26
theorem sc_made : FnScope ["circuit", "found", "gate", "word"] ["circuit"] (defScope s_made) := ⟨rfl, rfl, rfl, by decide +kernel, rfl, by decide +kernel, by decide +kernel⟩
theorem ok_made {f : Addr} {fd : FuncData} (M : Mg K w mg C) (F : Fun K "made" "made" s_made f fd) (fd_applied : Fd P w K mg base C 3 "applied" 2 f_applied) :
    FnOk P w K mg base (L2.CX P w) 4 f fd ["circuit"] (spF K C 1 f_made) :=
  fn_ok (N := ["circuit", "found", "gate", "word"]) F sc_made fun cdv A outer s H E hr =>
    (css_cons (cs_asg 1 sc_made.nd (f2e (cf_list M.list bt_list (e2w (g_SAME M)))))
    (css_cons (cs_for rfl (ci_seq (ce_var 0)) (cg_name 2 sc_made.nd)
    (css_one (cs_asgLc 1 (own := [("word", 3)]) (is := [3]) rfl sc_made.nd rfl (sw_true rfl rfl rfl (by decide +kernel)) (ciw_seq (e2w (ce_var 1))) (blkOk_by (N := ["circuit", "found", "gate", "word"]) (sc := (defScope s_made)) (by decide +kernel)) (by decide) (fun _ _ _ _ _ => (cg_name 3 sc_made.nd)) (fun _ _ _ _ _ => cts_nil) (fun _ _ _ _ _ => (ce_call fd_applied hr (by decide) passL (ca_cons (ce_var 2) (ca_cons (ce_var 3) ca_nil)))))))
    (css_one (cs_ret (ce_callTy1 cr_tuple M.tuple bt_tuple (e2w (ce_var 1)))))))
abbrev s_then : Stmt := topS 28
theorem sc_then : FnScope ["one", "other", "word"] ["one", "other"] (defScope s_then) := ⟨rfl, rfl, rfl, by decide +kernel, rfl, by decide +kernel, by decide +kernel⟩
theorem ok_then {f : Addr} {fd : FuncData} (M : Mg K w mg C) (F : Fun K "then" "then" s_then f fd)  :
    FnOk P w K mg base (L2.CX P w) 1 f fd ["one", "other"] (spF K C 2 f_then) :=
  fn_ok (N := ["one", "other", "word"]) F sc_then fun cdv A outer s H E hr =>
    (css_one (cs_ret (ce_callTy1 cr_tuple M.tuple bt_tuple (f2w (cf_comp (own := [("word", 2)]) (is := [2]) rfl sc_then.nd (ciw_seq (e2w (ce_var 0))) (blkOk_by (N := ["one", "other", "word"]) (sc := (defScope s_then)) (by decide +kernel)) (by decide) (fun _ _ _ _ _ => (cg_name 2 sc_then.nd)) (fun _ _ _ _ _ => cts_nil) (fun _ _ _ _ _ => (ce_ix (e2w (ce_var 1)) (e2w (ce_var 2)))))))))
abbrev s_back : Stmt := topS 29
theorem sc_back : FnScope ["exchange", "word"] ["exchange"] (defScope s_back) := ⟨rfl, rfl, rfl, by decide +kernel, rfl, by decide +kernel, by decide +kernel⟩
theorem ok_back {f : Addr} {fd : FuncData} (M : Mg K w mg C) (F : Fun K "back" "back" s_back f fd)  :
    FnOk P w K mg base (L2.CX P w) 1 f fd ["exchange"] (spF K C 1 f_back) :=
  fn_ok (N := ["exchange", "word"]) F sc_back fun cdv A outer s H E hr =>
    (css_one (cs_ret (ce_callTy1 cr_tuple M.tuple bt_tuple (f2w (cf_comp (own := [("word", 1)]) (is := [1]) rfl sc_back.nd (ciw_seq (e2w (g_SAME M))) (blkOk_by (N := ["exchange", "word"]) (sc := (defScope s_back)) (by decide +kernel)) (by decide) (fun _ _ _ _ _ => (cg_name 1 sc_back.nd)) (fun _ _ _ _ _ => cts_nil) (fun _ _ _ _ _ => (ce_tidx (ce_var 0) (ce_var 1))))))))
abbrev s_Session_init : Stmt := inClass (topS 31) 0
theorem sc_Session_init : FnScope ["self", "exchange"] ["self", "exchange"] (defScope s_Session_init) := ⟨rfl, rfl, rfl, by decide +kernel, rfl, by decide +kernel, by decide +kernel⟩
theorem ok_Session_init {f : Addr} {fd : FuncData} (M : Mg K w mg C) (F : Fun K "__init__" "Session.__init__" s_Session_init f fd) (fd_check_exchange : Fd P w K mg base C 3 "check_exchange" 1 f_check_exchange) :
    FnOk P w K mg base (L2.CX P w) 4 f fd ["self", "exchange"] (spF K C 2 f_Session_init) :=
  fn_ok (N := ["self", "exchange"]) F sc_Session_init fun cdv A outer s H E hr =>
    (css_cons (cs_expr (ce_call fd_check_exchange hr (by decide) passC (ca_cons (ce_var 1) ca_nil)))
    (css_cons (cs_fld M.hK M.cls M.na_goal (ce_var 0) (ce_var 1))
    (css_cons (cs_fld M.hK M.cls M.na_gates (ce_var 0) (ce_tup ca_nil))
    (css_cons (cs_fld M.hK M.cls M.na_done (ce_var 0) (ce_adopt M.hK (cf_lst ca_nil)))
    (css_one (cs_fld M.hK M.cls M.na_undone (ce_var 0) (ce_adopt M.hK (cf_lst ca_nil))))))))
abbrev s_Session_wrong : Stmt := inClass (topS 31) 9
theorem sc_Session_wrong : FnScope ["self", "there", "word"] ["self"] (defScope s_Session_wrong) := ⟨rfl, rfl, rfl, by decide +kernel, rfl, by decide +kernel, by decide +kernel⟩
theorem ok_Session_wrong {f : Addr} {fd : FuncData} (M : Mg K w mg C) (F : Fun K "wrong" "Session.wrong" s_Session_wrong f fd) (fd_made : Fd P w K mg base C 4 "made" 1 f_made) :
    FnOk P w K mg base (L2.CX P w) 5 f fd ["self"] (spF K C 1 f_Session_wrong) :=
  fn_ok (N := ["self", "there", "word"]) F sc_Session_wrong fun cdv A outer s H E hr =>
    (css_cons (cs_asg 1 sc_Session_wrong.nd (ce_call fd_made hr (by decide) passC (ca_cons (ce_fld M.hK M.cls M.na_gates (ce_var 0)) ca_nil)))
    (css_one (cs_ret (ce_callTy1 cr_tuple M.tuple bt_tuple (f2w (cf_comp (own := [("word", 2)]) (is := [2]) rfl sc_Session_wrong.nd (ciw_seq (e2w (g_SAME M))) (blkOk_by (N := ["self", "there", "word"]) (sc := (defScope s_Session_wrong)) (by decide +kernel)) (by decide) (fun _ _ _ _ _ => (cg_name 2 sc_Session_wrong.nd)) (fun _ _ _ _ _ => (cts_one (ct_cmp (bin_ne hr.units) (e2w (ce_ix (e2w (ce_var 1)) (e2w (ce_var 2)))) (e2w (ce_ix (e2w (ce_fld M.hK M.cls M.na_goal (ce_var 0))) (e2w (ce_var 2))))))) (fun _ _ _ _ _ => (ce_var 2))))))))
abbrev s_Session_become : Stmt := inClass (topS 31) 1
theorem sc_Session_become : FnScope ["self", "operation", "gates"] ["self", "operation", "gates"] (defScope s_Session_become) := ⟨rfl, rfl, rfl, by decide +kernel, rfl, by decide +kernel, by decide +kernel⟩
theorem ok_Session_become {f : Addr} {fd : FuncData} (M : Mg K w mg C) (F : Fun K "become" "Session.become" s_Session_become f fd) (fm_Session_wrong : FdM P w K mg base C 5 "wrong" 0 f_Session_wrong) :
    FnOk P w K mg base (L2.CX P w) 6 f fd ["self", "operation", "gates"] (spF K C 3 f_Session_become) :=
  fn_ok (N := ["self", "operation", "gates"]) F sc_Session_become fun cdv A outer s H E hr =>
    (css_cons (cs_mapp M.hK (ce_fld M.hK M.cls M.na_done (ce_var 0)) (ce_tup (ca_cons (ce_var 1) (ca_cons (ce_fld M.hK M.cls M.na_gates (ce_var 0)) ca_nil))))
    (css_cons (cs_fld M.hK M.cls M.na_undone (ce_var 0) (ce_adopt M.hK (cf_lst ca_nil)))
    (css_cons (cs_fld M.hK M.cls M.na_gates (ce_var 0) (ce_var 2))
    (css_one (cs_ret (ce_callB1 cr_len M.len bt_len (e2w (ce_meth0 fm_Session_wrong hr (by decide) passC (ce_var 0)))))))))
abbrev s_Session_add : Stmt := inClass (topS 31) 2
theorem sc_Session_add : FnScope ["self", "gate"] ["self", "gate"] (defScope s_Session_add) := ⟨rfl, rfl, rfl, by decide +kernel, rfl, by decide +kernel, by decide +kernel⟩
theorem ok_Session_add {f : Addr} {fd : FuncData} (M : Mg K w mg C) (F : Fun K "add" "Session.add" s_Session_add f fd) (fd_check_gate : Fd P w K mg base C 3 "check_gate" 1 f_check_gate) (fm_Session_become : FdM P w K mg base C 6 "become" 2 f_Session_become) :
    FnOk P w K mg base (L2.CX P w) 7 f fd ["self", "gate"] (spF K C 2 f_Session_add) :=
  fn_ok (N := ["self", "gate"]) F sc_Session_add fun cdv A outer s H E hr =>
    (css_cons (cs_expr (ce_call fd_check_gate hr (by decide) passC (ca_cons (ce_var 1) ca_nil)))
    (css_cons (cs_if (ct_cmp (bin_eq hr.units) (e2w (ce_callB1 cr_len M.len bt_len (e2w (ce_fld M.hK M.cls M.na_gates (ce_var 0))))) (e2w (g_LONGEST M))) (css_one (x_TooMany M (takes_of rfl rfl rfl rfl))) css_nil)
    (css_one (cs_ret (ce_meth fm_Session_become hr (by decide) passC (ce_var 0) (ca_cons (ce_tup (ca_cons ce_str (ca_cons (ce_var 1) ca_nil))) (ca_cons (ce_bin bin_add (e2w (ce_fld M.hK M.cls M.na_gates (ce_var 0))) (e2w (ce_tup (ca_cons (ce_var 1) ca_nil)))) ca_nil)))))))
abbrev s_Session_drop : Stmt := inClass (topS 31) 3
theorem sc_Session_drop : FnScope ["self"] ["self"] (defScope s_Session_drop) := ⟨rfl, rfl, rfl, by decide +kernel, rfl, by decide +kernel, by decide +kernel⟩
theorem ok_Session_drop {f : Addr} {fd : FuncData} (M : Mg K w mg C) (F : Fun K "drop" "Session.drop" s_Session_drop f fd) (fm_Session_become : FdM P w K mg base C 6 "become" 2 f_Session_become) :
    FnOk P w K mg base (L2.CX P w) 7 f fd ["self"] (spF K C 1 f_Session_drop) :=
  fn_ok (N := ["self"]) F sc_Session_drop fun cdv A outer s H E hr =>
    (css_cons (cs_if (ct_cmp (bin_eq hr.units) (e2w (ce_fld M.hK M.cls M.na_gates (ce_var 0))) (e2w (ce_tup ca_nil))) (css_one (x_Empty M (takes_of rfl rfl rfl rfl))) css_nil)
    (css_one (cs_ret (ce_meth fm_Session_become hr (by decide) passC (ce_var 0) (ca_cons (ce_tup (ca_cons ce_str ca_nil)) (ca_cons (ce_slice (e2w (ce_fld M.hK M.cls M.na_gates (ce_var 0))) co_none (co_some (ce_neg ce_int))) ca_nil))))))
abbrev s_Session_circuit : Stmt := inClass (topS 31) 6
theorem sc_Session_circuit : FnScope ["self"] ["self"] (defScope s_Session_circuit) := ⟨rfl, rfl, rfl, by decide +kernel, rfl, by decide +kernel, by decide +kernel⟩
theorem ok_Session_circuit {f : Addr} {fd : FuncData} (M : Mg K w mg C) (F : Fun K "circuit" "Session.circuit" s_Session_circuit f fd)  :
    FnOk P w K mg base (L2.CX P w) 1 f fd ["self"] (spF K C 1 f_Session_circuit) :=
  fn_ok (N := ["self"]) F sc_Session_circuit fun cdv A outer s H E hr =>
    (css_one (cs_ret (ce_fld M.hK M.cls M.na_gates (ce_var 0))))
abbrev s_Session_rest : Stmt := inClass (topS 31) 7
theorem sc_Session_rest : FnScope ["self"] ["self"] (defScope s_Session_rest) := ⟨rfl, rfl, rfl, by decide +kernel, rfl, by decide +kernel, by decide +kernel⟩
theorem ok_Session_rest {f : Addr} {fd : FuncData} (M : Mg K w mg C) (F : Fun K "rest" "Session.rest" s_Session_rest f fd) (fd_made : Fd P w K mg base C 4 "made" 1 f_made) (fd_back : Fd P w K mg base C 1 "back" 1 f_back) (fd_then : Fd P w K mg base C 1 "then" 2 f_then) :
    FnOk P w K mg base (L2.CX P w) 5 f fd ["self"] (spF K C 1 f_Session_rest) :=
  fn_ok (N := ["self"]) F sc_Session_rest fun cdv A outer s H E hr =>
    (css_one (cs_ret (ce_call fd_then hr (by decide) passC (ca_cons (ce_call fd_back hr (by decide) passC (ca_cons (ce_call fd_made hr (by decide) passC (ca_cons (ce_fld M.hK M.cls M.na_gates (ce_var 0)) ca_nil)) ca_nil)) (ca_cons (ce_fld M.hK M.cls M.na_goal (ce_var 0)) ca_nil)))))
abbrev s_Session_is_done : Stmt := inClass (topS 31) 8
theorem sc_Session_is_done : FnScope ["self"] ["self"] (defScope s_Session_is_done) := ⟨rfl, rfl, rfl, by decide +kernel, rfl, by decide +kernel, by decide +kernel⟩
theorem ok_Session_is_done {f : Addr} {fd : FuncData} (M : Mg K w mg C) (F : Fun K "is_done" "Session.is_done" s_Session_is_done f fd) (fm_Session_rest : FdM P w K mg base C 5 "rest" 0 f_Session_rest) :
    FnOk P w K mg base (L2.CX P w) 6 f fd ["self"] (spF K C 1 f_Session_is_done) :=
  fn_ok (N := ["self"]) F sc_Session_is_done fun cdv A outer s H E hr =>
    (css_one (cs_ret (ce_cmp (bin_eq hr.units) (e2w (ce_meth0 fm_Session_rest hr (by decide) passC (ce_var 0))) (e2w (g_SAME M)))))
abbrev s_Session_history : Stmt := inClass (topS 31) 10
theorem sc_Session_history : FnScope ["self", "operation", "before"] ["self"] (defScope s_Session_history) := ⟨rfl, rfl, rfl, by decide +kernel, rfl, by decide +kernel, by decide +kernel⟩
theorem ok_Session_history {f : Addr} {fd : FuncData} (M : Mg K w mg C) (F : Fun K "history" "Session.history" s_Session_history f fd)  :
    FnOk P w K mg base (L2.CX P w) 1 f fd ["self"] (spF K C 1 f_Session_history) :=
  fn_ok (N := ["self", "operation", "before"]) F sc_Session_history fun cdv A outer s H E hr =>
    (css_one (cs_ret (ce_callTy1 cr_tuple M.tuple bt_tuple (f2w (cf_compM (own := [("operation", 1), ("before", 2)]) (is := [1, 2]) rfl sc_Session_history.nd (cim_li M.hK (ce_fld M.hK M.cls M.na_done (ce_var 0))) (blkOk_by (N := ["self", "operation", "before"]) (sc := (defScope s_Session_history)) (by decide +kernel)) (by decide) (fun _ _ _ _ _ => (cg_pair 1 2 sc_Session_history.nd)) (fun _ _ _ _ _ => cts_nil) (fun _ _ _ _ _ => (ce_var 1)))))))
abbrev s_Session_len : Stmt := inClass (topS 31) 12
theorem sc_Session_len : FnScope ["self"] ["self"] (defScope s_Session_len) := ⟨rfl, rfl, rfl, by decide +kernel, rfl, by decide +kernel, by decide +kernel⟩
theorem ok_Session_len {f : Addr} {fd : FuncData} (M : Mg K w mg C) (F : Fun K "__len__" "Session.__len__" s_Session_len f fd)  :
    FnOk P w K mg base (L2.CX P w) 1 f fd ["self"] (spF K C 1 f_Session_len) :=
  fn_ok (N := ["self"]) F sc_Session_len fun cdv A outer s H E hr =>
    (css_one (cs_ret (ce_callB1 cr_len M.len bt_len (e2w (ce_fld M.hK M.cls M.na_gates (ce_var 0))))))
abbrev s_Session_str : Stmt := inClass (topS 31) 13
theorem sc_Session_str : FnScope ["self"] ["self"] (defScope s_Session_str) := ⟨rfl, rfl, rfl, by decide +kernel, rfl, by decide +kernel, by decide +kernel⟩
theorem ok_Session_str {f : Addr} {fd : FuncData} (M : Mg K w mg C) (F : Fun K "__str__" "Session.__str__" s_Session_str f fd) (fm_Session_wrong : FdM P w K mg base C 5 "wrong" 0 f_Session_wrong) :
    FnOk P w K mg base (L2.CX P w) 6 f fd ["self"] (spF K C 1 f_Session_str) :=
  fn_ok (N := ["self"]) F sc_Session_str fun cdv A outer s H E hr =>
    (css_one (cs_ret (ce_fstr (cj_cons (ce_fmt (ce_callB1 cr_len M.len bt_len (e2w (ce_fld M.hK M.cls M.na_gates (ce_var 0))))) (cj_cons ce_str (cj_cons (ce_fmt (ce_callB1 cr_len M.len bt_len (e2w (ce_meth0 fm_Session_wrong hr (by decide) passC (ce_var 0))))) (cj_cons ce_str cj_nil)))))))
abbrev s_law_is : Stmt := topS 34
theorem sc_law_is : FnScope ["found", "expected"] ["found", "expected"] (defScope s_law_is) := ⟨rfl, rfl, rfl, by decide +kernel, rfl, by decide +kernel, by decide +kernel⟩
theorem ok_law_is {f : Addr} {fd : FuncData} (M : Mg K w mg C) (F : Fun K "_law_is" "_law_is" s_law_is f fd)  :
    FnOk P w K mg base (L2.CX P w) 1 f fd ["found", "expected"] (spF K C 2 f_law_is) :=
  fn_ok (N := ["found", "expected"]) F sc_law_is fun cdv A outer s H E hr =>
    (css_one (cs_ret (ce_and (ce_isi .bool M.isinstance M.bool bt_bool (e2w (ce_var 0))) (ce_one (ce_cmp (bin_eq hr.units) (e2w (ce_var 0)) (e2w (ce_var 1)))))))
abbrev s_law_draw : Stmt := topS 35
theorem sc_law_draw : FnScope ["script", "town", "many", "at", "rest", "number"] ["script", "town", "many"] (defScope s_law_draw) := ⟨rfl, rfl, rfl, by decide +kernel, rfl, by decide +kernel, by decide +kernel⟩
theorem ok_law_draw {f : Addr} {fd : FuncData} (M : Mg K w mg C) (F : Fun K "_law_draw" "_law_draw" s_law_draw f fd)  :
    FnOk P w K mg base (L2.CX P w) 1 f fd ["script", "town", "many"] (spF K C 3 f_law_draw) :=
  fn_ok (N := ["script", "town", "many", "at", "rest", "number"]) F sc_law_draw fun cdv A outer s H E hr =>
    (css_cons (cs_tc 1 hr.u1 (ce_bin bin_add (e2w (ce_tc 1 hr.u1)) (e2w ce_int)))
    (css_cons (cs_asg 3 sc_law_draw.nd (ce_if (ct_scr 0) (ce_bin bin_mod (e2w (ce_tc 1 hr.u1)) (e2w (ce_callB1 cr_len M.len bt_len (e2w (ce_var 0))))) ce_int))
    (css_cons (cs_asg 4 sc_law_draw.nd (ce_tr 1 hr.u1 (ce_var 3) (ce_if (ct_scr 0) (ce_ix (e2w (ce_var 0)) (e2w (ce_var 3))) ce_int)))
    (css_cons (cs_if (ct_cmp bin_ge (e2w (ce_var 4)) (e2w (ce_bin bin_pow (e2w ce_int) (e2w ce_int)))) (css_cons (cs_tr 1 hr.u1 (ce_bin bin_div (e2w (ce_var 4)) (e2w (ce_var 2))) (ce_var 3))
    (css_one (cs_ret (ce_bin bin_mod (e2w (ce_var 4)) (e2w (ce_var 2)))))) css_nil)
    (css_cons (cs_asg 5 sc_law_draw.nd (ce_bin bin_mod (e2w (ce_bin bin_add (e2w (ce_var 4)) (e2w (ce_bin bin_mul (e2w ce_int) (e2w (ce_tc 1 hr.u1)))))) (e2w ce_int)))
    (css_cons (cs_asg 5 sc_law_draw.nd (ce_bin bin_mod (e2w (ce_bin bin_pow (e2w (ce_var 5)) (e2w ce_int))) (e2w ce_int)))
    (css_one (cs_ret (ce_bin bin_mod (e2w (ce_bin bin_div (e2w (ce_bin bin_mod (e2w (ce_bin bin_add (e2w (ce_bin bin_mul (e2w (ce_bin bin_div (e2w (ce_var 5)) (e2w ce_int))) (e2w ce_int))) (e2w (ce_var 5)))) (e2w ce_int))) (e2w ce_int))) (e2w (ce_var 2)))))))))))
abbrev s_law_begun : Stmt := topS 36
theorem sc_law_begun : FnScope [] [] (defScope s_law_begun) := ⟨rfl, rfl, rfl, by decide +kernel, rfl, by decide +kernel, by decide +kernel⟩
theorem ok_law_begun {f : Addr} {fd : FuncData} (M : Mg K w mg C) (F : Fun K "_law_begun" "_law_begun" s_law_begun f fd)  :
    FnOk P w K mg base (L2.CX P w) 1 f fd [] (spF K C 0 f_law_begun) :=
  fn_ok (N := []) F sc_law_begun fun cdv A outer s H E hr =>
    (css_one (cs_ret ce_begun))
abbrev s_law_gates : Stmt := topS 37
theorem sc_law_gates : FnScope ["found", "one", "other", "rest", "line"] [] (defScope s_law_gates) := ⟨rfl, rfl, rfl, by decide +kernel, rfl, by decide +kernel, by decide +kernel⟩
theorem ok_law_gates {f : Addr} {fd : FuncData} (M : Mg K w mg C) (F : Fun K "_law_gates" "_law_gates" s_law_gates f fd)  :
    FnOk P w K mg base (L2.CX P w) 1 f fd [] (spF K C 0 f_law_gates) :=
  fn_ok (N := ["found", "one", "other", "rest", "line"]) F sc_law_gates fun cdv A outer s H E hr =>
    (css_cons (cs_own 0 sc_law_gates.nd (cf_lst ca_nil))
    (css_cons (cs_for rfl (ci_range1 M.range ce_int) (cg_name 1 sc_law_gates.nd)
    (css_cons (cs_app 0 (ce_tup (ca_cons ce_str (ca_cons (ce_var 1) ca_nil))))
    (css_cons (cs_for rfl (ci_range1 M.range ce_int) (cg_name 2 sc_law_gates.nd)
    (css_one (cs_ext 0 (e2w (ce_if (ct_cmp (bin_ne hr.units) (e2w (ce_var 1)) (e2w (ce_var 2))) (f2e (cf_lst (ca_cons (ce_tup (ca_cons ce_str (ca_cons (ce_var 1) (ca_cons (ce_var 2) ca_nil)))) ca_nil))) (f2e (cf_lst ca_nil)))))))
    (css_cons (cs_asgLc 3 (own := [("line", 4)]) (is := [4]) rfl sc_law_gates.nd rfl (sw_true rfl rfl rfl (by decide +kernel)) (ci_w (ci_range1 M.range ce_int)) (blkOk_by (N := ["found", "one", "other", "rest", "line"]) (sc := (defScope s_law_gates)) (by decide +kernel)) (by decide) (fun _ _ _ _ _ => (cg_name 4 sc_law_gates.nd)) (fun _ _ _ _ _ => (cts_one (ct_cmp (bin_ne hr.units) (e2w (ce_var 4)) (e2w (ce_var 1))))) (fun _ _ _ _ _ => (ce_var 4)))
    (css_cons (cs_app 0 (ce_tup (ca_cons ce_str (ca_cons (ce_ix (e2w (ce_var 3)) (e2w ce_int)) (ca_cons (ce_ix (e2w (ce_var 3)) (e2w ce_int)) (ca_cons (ce_var 1) ca_nil))))))
    (css_cons (cs_app 0 (ce_tup (ca_cons ce_str (ca_cons (ce_ix (e2w (ce_var 3)) (e2w ce_int)) (ca_cons (ce_ix (e2w (ce_var 3)) (e2w ce_int)) ca_nil)))))
    (css_one (cs_app 0 (ce_tup (ca_cons ce_str (ca_cons (ce_var 1) (ca_cons (ce_ix (e2w (ce_var 3)) (e2w ce_int)) (ca_cons (ce_ix (e2w (ce_var 3)) (e2w ce_int)) ca_nil)))))))))))))
    (css_one (cs_ret (ce_callB1 (cr_sortedA hr.units) M.sorted bt_sorted (cw_peek 0))))))
abbrev s_law_circuit : Stmt := topS 38
theorem sc_law_circuit : FnScope ["script", "town", "kinds", "most", "some", "gate", "j"] ["script", "town", "kinds", "most"] (defScope s_law_circuit) := ⟨rfl, rfl, rfl, by decide +kernel, rfl, by decide +kernel, by decide +kernel⟩
theorem ok_law_circuit {f : Addr} {fd : FuncData} (M : Mg K w mg C) (F : Fun K "_law_circuit" "_law_circuit" s_law_circuit f fd) (fd_law_gates : Fd P w K mg base C 1 "_law_gates" 0 f_law_gates) (fd_law_draw : Fd P w K mg base C 1 "_law_draw" 3 f_law_draw) :
    FnOk P w K mg base (L2.CX P w) 2 f fd ["script", "town", "kinds", "most"] (spF K C 4 f_law_circuit) :=
  fn_ok (N := ["script", "town", "kinds", "most", "some", "gate", "j"]) F sc_law_circuit fun cdv A outer s H E hr =>
    (css_cons (cs_asg 4 sc_law_circuit.nd (f2e (cf_comp (own := [("gate", 5)]) (is := [5]) rfl sc_law_circuit.nd (ciw_seq (e2w (ce_call0 fd_law_gates hr (by decide) passC))) (blkOk_by (N := ["script", "town", "kinds", "most", "some", "gate", "j"]) (sc := (defScope s_law_circuit)) (by decide +kernel)) (by decide) (fun _ _ _ _ _ => (cg_name 5 sc_law_circuit.nd)) (fun _ _ _ _ _ => (cts_one (ct_cmp (bin_in hr.u65) (e2w (ce_ix (e2w (ce_var 5)) (e2w ce_int))) (e2w (ce_var 2))))) (fun _ _ _ _ _ => (ce_var 5)))))
    (css_one (cs_ret (ce_callTy1 cr_tuple M.tuple bt_tuple (f2w (cf_comp (own := [("j", 6)]) (is := [6]) rfl sc_law_circuit.nd (ci_w (ci_range1 M.range (ce_call fd_law_draw hr (by decide) passC (ca_cons (ce_var 0) (ca_cons (ce_var 1) (ca_cons (ce_bin bin_add (e2w (ce_var 3)) (e2w ce_int)) ca_nil)))))) (blkOk_by (N := ["script", "town", "kinds", "most", "some", "gate", "j"]) (sc := (defScope s_law_circuit)) (by decide +kernel)) (by decide) (fun _ _ _ _ _ => (cg_name 6 sc_law_circuit.nd)) (fun _ _ _ _ _ => cts_nil) (fun _ _ _ _ _ => (ce_ix (e2w (ce_var 4)) (e2w (ce_call fd_law_draw hr (by decide) passL (ca_cons (ce_var 0) (ca_cons (ce_var 1) (ca_cons (ce_callB1 cr_len M.len bt_len (e2w (ce_var 4))) ca_nil)))))))))))))
abbrev s_law_apply : Stmt := topS 39
theorem sc_law_apply : FnScope ["gate", "word", "bits", "kind", "last", "one"] ["gate", "word"] (defScope s_law_apply) := ⟨rfl, rfl, rfl, by decide +kernel, rfl, by decide +kernel, by decide +kernel⟩
theorem ok_law_apply {f : Addr} {fd : FuncData} (M : Mg K w mg C) (F : Fun K "_law_apply" "_law_apply" s_law_apply f fd)  :
    FnOk P w K mg base (L2.CX P w) 1 f fd ["gate", "word"] (spF K C 2 f_law_apply) :=
  fn_ok (N := ["gate", "word", "bits", "kind", "last", "one"]) F sc_law_apply fun cdv A outer s H E hr =>
    (css_cons (cs_own 2 sc_law_apply.nd (cf_lst (ca_cons (ce_bin bin_mod (e2w (ce_var 1)) (e2w ce_int)) (ca_cons (ce_bin bin_mod (e2w (ce_bin bin_div (e2w (ce_var 1)) (e2w ce_int))) (e2w ce_int)) (ca_cons (ce_bin bin_div (e2w (ce_var 1)) (e2w ce_int)) ca_nil)))))
    (css_cons (cs_par 3 4 sc_law_apply.nd (ce_ix (e2w (ce_var 0)) (e2w ce_int)) (ce_ix (e2w (ce_var 0)) (e2w (ce_neg ce_int))))
    (css_cons (cs_if (ct_w (cw_or (ct_cmp (bin_eq hr.units) (e2w (ce_var 3)) (e2w ce_str)) (pw_or1 (ct_w (cw_and (ct_cmp (bin_eq hr.units) (e2w (ce_var 3)) (e2w ce_str)) (pw_and1 (ct_cmp (bin_eq hr.units) (e2w (ce_ix (cw_peek 2) (e2w (ce_ix (e2w (ce_var 0)) (e2w ce_int))))) (e2w ce_int)))))))) (css_one (cs_put 2 (ce_bin bin_sub (e2w ce_int) (e2w (ce_ix (cw_peek 2) (e2w (ce_var 4))))) (ce_var 4))) css_nil)
    (css_cons (cs_if (ct_w (cw_and (ct_cmp (bin_eq hr.units) (e2w (ce_var 3)) (e2w ce_str)) (pw_and1 (ct_cmp (bin_eq hr.units) (e2w (ce_bin bin_add (e2w (ce_ix (cw_peek 2) (e2w (ce_ix (e2w (ce_var 0)) (e2w ce_int))))) (e2w (ce_ix (cw_peek 2) (e2w (ce_ix (e2w (ce_var 0)) (e2w ce_int))))))) (e2w ce_int))))) (css_one (cs_put 2 (ce_bin bin_sub (e2w ce_int) (e2w (ce_ix (cw_peek 2) (e2w (ce_var 4))))) (ce_var 4))) css_nil)
    (css_cons (cs_if (ct_w (cw_or (ct_cmp (bin_eq hr.units) (e2w (ce_var 3)) (e2w ce_str)) (pw_or1 (ct_w (cw_and (ct_cmp (bin_eq hr.units) (e2w (ce_var 3)) (e2w ce_str)) (pw_and1 (ct_cmp (bin_eq hr.units) (e2w (ce_ix (cw_peek 2) (e2w (ce_ix (e2w (ce_var 0)) (e2w ce_int))))) (e2w ce_int)))))))) (css_cons (cs_asg 5 sc_law_apply.nd (ce_ix (e2w (ce_var 0)) (e2w (ce_neg ce_int))))
    (css_one (cs_asgS (ce_tup (ca_cons (ce_ix (cw_peek 2) (e2w (ce_var 4))) (ca_cons (ce_ix (cw_peek 2) (e2w (ce_var 5))) ca_nil))) (cgs_tup (n := 2) (cgq_cons (cgs_put 2 (ce_var 5)) (cgq_cons (cgs_put 2 (ce_var 4)) cgq_nil)))))) css_nil)
    (css_one (cs_ret (ce_bin bin_add (e2w (ce_bin bin_add (e2w (ce_ix (cw_peek 2) (e2w ce_int))) (e2w (ce_bin bin_mul (e2w ce_int) (e2w (ce_ix (cw_peek 2) (e2w ce_int))))))) (e2w (ce_bin bin_mul (e2w ce_int) (e2w (ce_ix (cw_peek 2) (e2w ce_int)))))))))))))
abbrev s_law_made : Stmt := topS 40
theorem sc_law_made : FnScope ["circuit", "found", "word", "gate"] ["circuit"] (defScope s_law_made) := ⟨rfl, rfl, rfl, by decide +kernel, rfl, by decide +kernel, by decide +kernel⟩
theorem ok_law_made {f : Addr} {fd : FuncData} (M : Mg K w mg C) (F : Fun K "_law_made" "_law_made" s_law_made f fd) (fd_law_apply : Fd P w K mg base C 1 "_law_apply" 2 f_law_apply) :
    FnOk P w K mg base (L2.CX P w) 2 f fd ["circuit"] (spF K C 1 f_law_made) :=
  fn_ok (N := ["circuit", "found", "word", "gate"]) F sc_law_made fun cdv A outer s H E hr =>
    (css_cons (cs_own 1 sc_law_made.nd (cf_lst ca_nil))
    (css_cons (cs_for rfl (ci_range1 M.range ce_int) (cg_name 2 sc_law_made.nd)
    (css_cons (cs_for rfl (ci_seq (ce_var 0)) (cg_name 3 sc_law_made.nd)
    (css_one (cs_asg 2 sc_law_made.nd (ce_call fd_law_apply hr (by decide) passL (ca_cons (ce_var 3) (ca_cons (ce_var 2) ca_nil))))))
    (css_one (cs_app 1 (ce_var 2)))))
    (css_one (cs_ret (ce_callTy1 cr_tuple M.tuple bt_tuple (cw_peek 1))))))
abbrev s_law_exchange : Stmt := topS 41
theorem sc_law_exchange : FnScope ["script", "town", "rest", "found", "turn", "at"] ["script", "town"] (defScope s_law_exchange) := ⟨rfl, rfl, rfl, by decide +kernel, rfl, by decide +kernel, by decide +kernel⟩
theorem ok_law_exchange {f : Addr} {fd : FuncData} (M : Mg K w mg C) (F : Fun K "_law_exchange" "_law_exchange" s_law_exchange f fd) (fd_law_draw : Fd P w K mg base C 1 "_law_draw" 3 f_law_draw) :
    FnOk P w K mg base (L2.CX P w) 2 f fd ["script", "town"] (spF K C 2 f_law_exchange) :=
  fn_ok (N := ["script", "town", "rest", "found", "turn", "at"]) F sc_law_exchange fun cdv A outer s H E hr =>
    (css_cons (cs_parO 2 3 sc_law_exchange.nd (ce_listRg rfl M.list M.range ce_int) (cf_lst ca_nil))
    (css_cons (cs_for rfl (ci_range1 M.range ce_int) (cg_name 4 sc_law_exchange.nd)
    (css_cons (cs_asg 5 sc_law_exchange.nd (ce_call fd_law_draw hr (by decide) passL (ca_cons (ce_var 0) (ca_cons (ce_var 1) (ca_cons (ce_callB1 cr_len M.len bt_len (e2w (ce_var 2))) ca_nil)))))
    (css_cons (cs_app 3 (ce_ix (e2w (ce_var 2)) (e2w (ce_var 5))))
    (css_one (cs_asg 2 sc_law_exchange.nd (ce_bin bin_add (e2w (ce_slice (e2w (ce_var 2)) co_none (co_some (ce_var 5)))) (e2w (ce_slice (e2w (ce_var 2)) (co_some (ce_bin bin_add (e2w (ce_var 5)) (e2w ce_int))) co_none))))))))
    (css_one (cs_ret (ce_callTy1 cr_tuple M.tuple bt_tuple (cw_peek 3))))))
abbrev s_law_call : Stmt := topS 42
theorem sc_law_call : FnScope ["session", "operation"] ["session", "operation"] (defScope s_law_call) := ⟨rfl, rfl, rfl, by decide +kernel, rfl, by decide +kernel, by decide +kernel⟩
theorem ok_law_call {f : Addr} {fd : FuncData} (M : Mg K w mg C) (F : Fun K "_law_call" "_law_call" s_law_call f fd) (fm_Session_drop : FdM P w K mg base C 7 "drop" 0 f_Session_drop) (fm_Session_add : FdM P w K mg base C 7 "add" 1 f_Session_add) :
    FnOk P w K mg base (L2.CX P w) 8 f fd ["session", "operation"] (spF K C 2 f_law_call) :=
  fn_ok (N := ["session", "operation"]) F sc_law_call fun cdv A outer s H E hr =>
    (css_one (cs_ret (ce_if (ct_cmp (bin_eq hr.units) (e2w (ce_ix (e2w (ce_var 1)) (e2w ce_int))) (e2w ce_str)) (ce_meth0 fm_Session_drop hr (by decide) passC (ce_var 0)) (ce_meth fm_Session_add hr (by decide) passC (ce_var 0) (ca_cons (ce_ix (e2w (ce_var 1)) (e2w ce_int)) ca_nil)))))
abbrev s_law_agrees : Stmt := topS 43
theorem sc_law_agrees : FnScope ["session", "goal", "circuit", "history", "there", "bad", "word"] ["session", "goal", "circuit", "history"] (defScope s_law_agrees) := ⟨rfl, rfl, rfl, by decide +kernel, rfl, by decide +kernel, by decide +kernel⟩
theorem ok_law_agrees {f : Addr} {fd : FuncData} (M : Mg K w mg C) (F : Fun K "_law_agrees" "_law_agrees" s_law_agrees f fd) (fd_law_made : Fd P w K mg base C 2 "_law_made" 1 f_law_made) (fm_Session_circuit : FdM P w K mg base C 1 "circuit" 0 f_Session_circuit) (fm_Session_wrong : FdM P w K mg base C 5 "wrong" 0 f_Session_wrong) (fm_Session_history : FdM P w K mg base C 1 "history" 0 f_Session_history) (fm_Session_rest : FdM P w K mg base C 5 "rest" 0 f_Session_rest) (fm_Session_is_done : FdM P w K mg base C 6 "is_done" 0 f_Session_is_done) (fd_law_is : Fd P w K mg base C 1 "_law_is" 2 f_law_is) (fm_Session_len : FdM P w K mg base C 1 "__len__" 0 f_Session_len) (fm_Session_str : FdM P w K mg base C 6 "__str__" 0 f_Session_str) :
    FnOk P w K mg base (L2.CX P w) 9 f fd ["session", "goal", "circuit", "history"] (spF K C 4 f_law_agrees) :=
  fn_ok (N := ["session", "goal", "circuit", "history", "there", "bad", "word"]) F sc_law_agrees fun cdv A outer s H E hr =>
    (css_cons (cs_asg 4 sc_law_agrees.nd (ce_call fd_law_made hr (by decide) passC (ca_cons (ce_var 2) ca_nil)))
    (css_cons (cs_asg 5 sc_law_agrees.nd (ce_callTy1 cr_tuple M.tuple bt_tuple (f2w (cf_comp (own := [("word", 6)]) (is := [6]) rfl sc_law_agrees.nd (ci_w (ci_range1 M.range ce_int)) (blkOk_by (N := ["session", "goal", "circuit", "history", "there", "bad", "word"]) (sc := (defScope s_law_agrees)) (by decide +kernel)) (by decide) (fun _ _ _ _ _ => (cg_name 6 sc_law_agrees.nd)) (fun _ _ _ _ _ => (cts_one (ct_cmp (bin_ne hr.units) (e2w (ce_ix (e2w (ce_var 4)) (e2w (ce_var 6)))) (e2w (ce_ix (e2w (ce_var 1)) (e2w (ce_var 6))))))) (fun _ _ _ _ _ => (ce_var 6))))))
    (css_cons (cs_if (ct_w (cw_or (ct_cmp (bin_ne hr.units) (e2w (ce_meth0 fm_Session_circuit hr (by decide) passC (ce_var 0))) (e2w (ce_var 2))) (cw_or (ct_cmp (bin_ne hr.units) (e2w (ce_meth0 fm_Session_wrong hr (by decide) passC (ce_var 0))) (e2w (ce_var 5))) (pw_or1 (ct_cmp (bin_ne hr.units) (e2w (ce_meth0 fm_Session_history hr (by decide) passC (ce_var 0))) (e2w (ce_var 3))))))) (css_one (cs_ret ce_bl)) css_nil)
    (css_cons (cs_if (ct_cmp (bin_ne hr.units) (e2w (ce_meth0 fm_Session_rest hr (by decide) passC (ce_var 0))) (e2w (ce_callTy1 cr_tuple M.tuple bt_tuple (f2w (cf_comp (own := [("word", 6)]) (is := [6]) rfl sc_law_agrees.nd (ci_w (ci_range1 M.range ce_int)) (blkOk_by (N := ["session", "goal", "circuit", "history", "there", "bad", "word"]) (sc := (defScope s_law_agrees)) (by decide +kernel)) (by decide) (fun _ _ _ _ _ => (cg_name 6 sc_law_agrees.nd)) (fun _ _ _ _ _ => cts_nil) (fun _ _ _ _ _ => (ce_ix (e2w (ce_var 1)) (e2w (ce_tidx (ce_var 4) (ce_var 6)))))))))) (css_one (cs_ret ce_bl)) css_nil)
    (css_cons (cs_if (ct_w (cw_or (ct_not (ct_val (ce_call fd_law_is hr (by decide) passC (ca_cons (ce_meth0 fm_Session_is_done hr (by decide) passC (ce_var 0)) (ca_cons (ce_cmp (bin_eq hr.units) (e2w (ce_var 5)) (e2w (ce_tup ca_nil))) ca_nil))))) (pw_or1 (ct_cmp (bin_ne hr.units) (e2w (ce_lenO fm_Session_len hr (by decide) passC M.len (ce_var 0))) (e2w (ce_callB1 cr_len M.len bt_len (e2w (ce_var 2)))))))) (css_one (cs_ret ce_bl)) css_nil)
    (css_one (cs_ret (ce_cmp (bin_eq hr.units) (e2w (ce_strO fm_Session_str hr (by decide) passC M.str (ce_var 0))) (e2w (ce_fstr (cj_cons (ce_fmt (ce_callB1 cr_len M.len bt_len (e2w (ce_var 2)))) (cj_cons ce_str (cj_cons (ce_fmt (ce_callB1 cr_len M.len bt_len (e2w (ce_var 5)))) (cj_cons ce_str cj_nil))))))))))))))
abbrev s_law_due : Stmt := topS 44
theorem sc_law_due : FnScope ["operation", "circuit"] ["operation", "circuit"] (defScope s_law_due) := ⟨rfl, rfl, rfl, by decide +kernel, rfl, by decide +kernel, by decide +kernel⟩
theorem ok_law_due {f : Addr} {fd : FuncData} (M : Mg K w mg C) (F : Fun K "_law_due" "_law_due" s_law_due f fd) (fd_law_gates : Fd P w K mg base C 1 "_law_gates" 0 f_law_gates) :
    FnOk P w K mg base (L2.CX P w) 2 f fd ["operation", "circuit"] (spF K C 2 f_law_due) :=
  fn_ok (N := ["operation", "circuit"]) F sc_law_due fun cdv A outer s H E hr =>
    (css_cons (cs_if (ct_cmp (bin_eq hr.units) (e2w (ce_var 0)) (e2w (ce_tup (ca_cons ce_str ca_nil)))) (css_one (cs_ret (ce_tup (ca_cons (ce_if (ct_cmp (bin_eq hr.units) (e2w (ce_var 1)) (e2w (ce_tup ca_nil))) (ce_tup (ca_cons ce_str ca_nil)) (ce_tup ca_nil)) (ca_cons (ce_slice (e2w (ce_var 1)) co_none (co_some (ce_neg ce_int))) ca_nil))))) css_nil)
    (css_cons (cs_if (ct_cmp (bin_notIn hr.u65) (e2w (ce_ix (e2w (ce_var 0)) (e2w ce_int))) (e2w (ce_call0 fd_law_gates hr (by decide) passC))) (css_one (cs_ret (ce_tup (ca_cons (ce_tup (ca_cons ce_str ca_nil)) (ca_cons (ce_var 1) ca_nil))))) css_nil)
    (css_cons (cs_if (ct_cmp (bin_eq hr.units) (e2w (ce_callB1 cr_len M.len bt_len (e2w (ce_var 1)))) (e2w ce_int)) (css_one (cs_ret (ce_tup (ca_cons (ce_tup (ca_cons ce_str ca_nil)) (ca_cons (ce_var 1) ca_nil))))) css_nil)
    (css_one (cs_ret (ce_tup (ca_cons (ce_tup ca_nil) (ca_cons (ce_bin bin_add (e2w (ce_var 1)) (e2w (ce_tup (ca_cons (ce_ix (e2w (ce_var 0)) (e2w ce_int)) ca_nil)))) ca_nil))))))))
abbrev s_law : Stmt := topS 45
theorem sc_law : FnScope ["script", "town", "gates", "k", "goal", "session", "circuit", "history", "j", "odd", "operation", "due", "there", "word"] ["script"] (defScope s_law) := ⟨rfl, rfl, rfl, by decide +kernel, rfl, by decide +kernel, by decide +kernel⟩
theorem ok_law {f ca : Addr} {kV doc pm ct oc : Value} {an od : Option Addr} {osl : Array (Option Value)} (M : Mg K w mg C) (lk : K.lookup f = some ⟨oc, od, .func (PySem.W.fnOf "law" "law" (defArgs s_law) (defBody s_law) (defScope s_law) .none kV doc pm an (.ref ca) ct), osl⟩) (hcd : PySem.W.codeIn K (.ref ca) "law" = true) (R : ResF K mg C) (Lm : LamD base mg C "law" ca) (fd_law_begun : Fd P w K mg base C 1 "_law_begun" 0 f_law_begun) (fd_law_gates : Fd P w K mg base C 1 "_law_gates" 0 f_law_gates) (fd_law_exchange : Fd P w K mg base C 2 "_law_exchange" 2 f_law_exchange) (fd_law_draw : Fd P w K mg base C 1 "_law_draw" 3 f_law_draw) (fd_law_circuit : Fd P w K mg base C 2 "_law_circuit" 4 f_law_circuit) (fd_law_made : Fd P w K mg base C 2 "_law_made" 1 f_law_made) (fik_Session_init : FdIK P w K mg base C 4 "Session" ["exchange"] f_Session_init) (fd_law_due : Fd P w K mg base C 2 "_law_due" 2 f_law_due) (fd_law_agrees : Fd P w K mg base C 9 "_law_agrees" 4 f_law_agrees) (fd_law_call : Fd P w K mg base C 8 "_law_call" 2 f_law_call) (fi_Session_init : FdI P w K mg base C 4 "Session" 1 f_Session_init) :
    FnOk P w K mg base (L2.CX P w) 11 f (PySem.W.fnOf "law" "law" (defArgs s_law) (defBody s_law) (defScope s_law) .none kV doc pm an (.ref ca) ct) ["script"] (spF K C 1 f_law) :=
  fn_okL (N := ["script", "town", "gates", "k", "goal", "session", "circuit", "history", "j", "odd", "operation", "due", "there", "word"]) lk hcd sc_law fun A outer s H E hr =>
    (css_cons (cs_asg 1 sc_law.nd (ce_call0 fd_law_begun hr (by decide) passC))
    (css_cons (cs_asg 2 sc_law.nd (ce_call0 fd_law_gates hr (by decide) passC))
    (css_cons (cs_for rfl (ci_range1 M.range ce_int) (cg_name 3 sc_law.nd)
    (css_cons (cs_asg 4 sc_law.nd (ce_call fd_law_exchange hr (by decide) passL (ca_cons (ce_var 0) (ca_cons (ce_var 1) ca_nil))))
    (css_cons (cs_if (ct_cmp (bin_eq hr.units) (e2w (ce_call fd_law_draw hr (by decide) passL (ca_cons (ce_var 0) (ca_cons (ce_var 1) (ca_cons ce_int ca_nil))))) (e2w ce_int)) (css_one (cs_asg 4 sc_law.nd (ce_call fd_law_made hr (by decide) passL (ca_cons (ce_call fd_law_circuit hr (by decide) passL (ca_cons (ce_var 0) (ca_cons (ce_var 1) (ca_cons (ce_tup (ca_cons ce_str (ca_cons ce_str (ca_cons ce_str (ca_cons ce_str (ca_cons ce_str ca_nil)))))) (ca_cons ce_int ca_nil))))) ca_nil)))) css_nil)
    (css_cons (cs_asgS (ce_tup (ca_cons (ce_makeK fik_Session_init hr (by decide) passL (ck_cons (ce_var 4) ck_nil)) (ca_cons (ce_tup ca_nil) (ca_cons (ce_tup ca_nil) ca_nil)))) (cgs_tup (n := 3) (cgq_cons (cgs_name 5 sc_law.nd) (cgq_cons (cgs_name 6 sc_law.nd) (cgq_cons (cgs_name 7 sc_law.nd) cgq_nil)))))
    (css_cons (cs_for rfl (ci_range1 M.range (ce_if (ct_cmp bin_lt (e2w (ce_var 3)) (e2w ce_int)) ce_int ce_int)) (cg_name 8 sc_law.nd)
    (css_cons (cs_asg 10 sc_law.nd (ce_tup (ca_cons ce_str (ca_cons (ce_ix (e2w (ce_var 2)) (e2w (ce_call fd_law_draw hr (by decide) passL (ca_cons (ce_var 0) (ca_cons (ce_var 1) (ca_cons ce_int ca_nil)))))) ca_nil))))
    (css_cons (cs_if (ct_w (cw_and (ct_cmp (bin_eq hr.units) (e2w (ce_call fd_law_draw hr (by decide) passL (ca_cons (ce_var 0) (ca_cons (ce_var 1) (ca_cons ce_int ca_nil))))) (e2w ce_int)) (pw_and1 (ct_cmp bin_lt (e2w (ce_var 3)) (e2w ce_int))))) (css_one (cs_asg 10 sc_law.nd (ce_ix (e2w (ce_tup (ca_cons (ce_tup (ca_cons ce_str ca_nil)) (ca_cons (ce_tup (ca_cons ce_str (ca_cons ce_non ca_nil))) (ca_cons (ce_tup (ca_cons ce_str (ca_cons (ce_tup (ca_cons ce_str (ca_cons ce_int ca_nil))) ca_nil))) ca_nil))))) (e2w (ce_call fd_law_draw hr (by decide) passL (ca_cons (ce_var 0) (ca_cons (ce_var 1) (ca_cons ce_int ca_nil)))))))) css_nil)
    (css_cons (cs_asgG (ce_call fd_law_due hr (by decide) passL (ca_cons (ce_var 10) (ca_cons (ce_var 6) ca_nil))) (cg_pair 11 6 sc_law.nd))
    (css_cons (cs_if (ct_cmp (bin_eq hr.units) (e2w (ce_var 11)) (e2w (ce_tup ca_nil))) (css_cons (cs_asg 7 sc_law.nd (ce_bin bin_add (e2w (ce_var 7)) (e2w (ce_tup (ca_cons (ce_var 10) ca_nil)))))
    (css_cons (cs_asg 12 sc_law.nd (ce_call fd_law_made hr (by decide) passL (ca_cons (ce_var 6) ca_nil)))
    (css_one (cs_asg 11 sc_law.nd (ce_tup (ca_cons ce_str (ca_cons (ce_callB1 cr_len M.len bt_len (f2w (cf_comp (own := [("word", 13)]) (is := [13]) rfl sc_law.nd (ci_w (ci_range1 M.range ce_int)) (blkOk_by (N := ["script", "town", "gates", "k", "goal", "session", "circuit", "history", "j", "odd", "operation", "due", "there", "word"]) (sc := (defScope s_law)) (by decide +kernel)) (by decide) (fun _ _ _ _ _ => (cg_name 13 sc_law.nd)) (fun _ _ _ _ _ => (cts_one (ct_cmp (bin_ne hr.units) (e2w (ce_ix (e2w (ce_var 12)) (e2w (ce_var 13)))) (e2w (ce_ix (e2w (ce_var 4)) (e2w (ce_var 13))))))) (fun _ _ _ _ _ => ce_int)))) ca_nil))))))) css_nil)
    (css_cons (cs_if (ct_cmp (bin_ne hr.units) (e2w (r_res M.toBt R Lm rfl rfl hr (LamX.lamS_by (sc := (defScope s_law)) (by decide +kernel)) fun _ _ _ _ _ _ _ hr => (ce_call fd_law_call hr (by decide) passM (ca_cons (ce_var 5) (ca_cons (ce_var 10) ca_nil))))) (e2w (ce_var 11))) (css_one (cs_ret ce_bl)) css_nil)
    (css_one (cs_if (ct_not (ct_val (ce_call fd_law_agrees hr (by decide) passL (ca_cons (ce_var 5) (ca_cons (ce_var 4) (ca_cons (ce_var 6) (ca_cons (ce_var 7) ca_nil))))))) (css_one (cs_ret ce_bl)) css_nil))))))))
    (css_one (cs_for rfl (ci_seq (ce_tup (ca_cons ce_non (ca_cons (ce_tup ca_nil) (ca_cons (ce_slice (e2w (ce_var 4)) (co_some ce_int) co_none) (ca_cons (f2e (cf_list M.list bt_list (e2w (ce_var 4)))) ca_nil)))))) (cg_name 9 sc_law.nd)
    (css_one (cs_if (ct_cmp (bin_ne hr.units) (e2w (r_res M.toBt R Lm rfl rfl hr (LamX.lamS_by (sc := (defScope s_law)) (by decide +kernel)) fun _ _ _ _ _ _ _ hr => (ce_make fi_Session_init hr (by decide) passM (ca_cons (ce_var 9) ca_nil)))) (e2w (ce_tup (ca_cons ce_str ca_nil)))) (css_one (cs_ret ce_bl)) css_nil)))))))))
    (css_one (cs_ret ce_bl)))))
end
end K23
set_option Elab.async false
set_option linter.all false
set_option maxRecDepth 100000
set_option maxHeartbeats 4000000
namespace BG
open PySem
/-- it returns, and Q holds of what is returned -/
def W {α : Type} (r : Option (Out α)) (Q : α → Tn → Prop) : Prop := match r with
  | some (.ok a t) => Q a t
  | _ => False
section
variable {α β : Type} {Q : α → Tn → Prop}
theorem W.ex {r : Option (Out α)} (h : W r Q) : ∃ a t, r = some (.ok a t) ∧ Q a t := by
  match r, h with
  | some (.ok a t), h => exact ⟨a, t, rfl, h⟩
theorem W.mono {Q' : α → Tn → Prop} {r : Option (Out α)} (h : W r Q) (i : ∀ a t, Q a t → Q' a t) : W r Q' := by
  obtain ⟨a, t, rfl, q⟩ := h.ex
  exact i a t q
theorem w_ret {a : α} {t : Tn} (h : Q a t) : W (ret a t) Q := h
theorem w_bnd {m : M β} {f : β → M α} {t : Tn} (h : W (m t) fun a t' => W (f a t') Q) : W (bnd m f t) Q := by
  obtain ⟨a, t', e, q⟩ := h.ex
  rw [bnd_ok e]; exact q
theorem w_calm {m : M α} {t : Tn} (h : W (m t) Q) : W (calm m t) Q := by
  obtain ⟨a, t', e, q⟩ := h.ex
  unfold calm; rw [e]; exact q
theorem w_eq {m : M α} {a : α} {t : Tn} (e : m = ret a) (h : Q a t) : W (m t) Q := by rw [e]; exact h
end
theorem eq_of_W {m : M D} {d : D} (h : ∀ t, W (m t) fun x t' => x = d ∧ t' = t) : m = ret d := by
  funext t
  obtain ⟨a, t', e, rfl, rfl⟩ := (h t).ex
  exact e
section
variable {S : Sl} {t : Tn} {Q : D → Tn → Prop}
theorem w_var {i : Nat} {d : D} (e : S[i]? = some (.val d)) (h : Q d t) : W (eVar i S t) Q := by
  unfold eVar; rw [e]; exact h
theorem w_peekV {i : Nat} {d : D} (e : S[i]? = some (.val d)) (h : Q d t) : W (ePeek i S t) Q := by
  unfold ePeek; rw [e]; exact h
theorem w_peekO {i : Nat} {ds : List D} (e : S[i]? = some (.own ds)) (h : Q (.lst ds) t) : W (ePeek i S t) Q := by
  unfold ePeek; rw [e]; exact h
theorem w_c {d : D} (h : Q d t) : W (eC d S t) Q := h
theorem w_bin {op : D → D → M D} {a b : Ex} (h : W (a S t) fun x t1 => W (b S t1) fun y t2 => W (op x y t2) Q) : W (eBin op a b S t) Q := w_bnd (h.mono fun _ _ h => w_bnd h)
theorem w_un {op : D → M D} {a : Ex} (h : W (a S t) fun x t1 => W (op x t1) Q) : W (eUn op a S t) Q := w_bnd h
theorem w_evnil {Q : List D → Tn → Prop} (h : Q [] t) : W (evs [] S t) Q := h
theorem w_evcons {f : Ex} {fs : List Ex} {Q : List D → Tn → Prop} (h : W (f S t) fun d t1 => W (evs fs S t1) fun ds t2 => Q (d :: ds) t2) : W (evs (f :: fs) S t) Q := w_bnd (h.mono fun _ _ h => w_bnd h)
theorem w_evc1 {f : Ex} {fs hs : List Ex} {Q : List D → Tn → Prop} (h : W (evs (f :: (fs ++ hs)) S t) Q) : W (evs ((f :: fs) ++ hs) S t) Q := h
theorem w_evc0 {hs : List Ex} {Q : List D → Tn → Prop} (h : W (evs hs S t) Q) : W (evs ([] ++ hs) S t) Q := h
theorem w_tup {fs : List Ex} (h : W (evs fs S t) fun ds t1 => Q (.tup ds) t1) : W (eTup fs S t) Q := w_bnd h
theorem w_lst {fs : List Ex} (h : W (evs fs S t) fun ds t1 => Q (.lst ds) t1) : W (eLst fs S t) Q := w_bnd h
theorem w_call {F : Fn} {fs : List Ex} (h : W (evs fs S t) fun ds t1 => W (F ds t1) Q) : W (eCall F fs S t) Q := w_bnd h
/-- of a truth value -/
def Bl (Q : Bool → Tn → Prop) : D → Tn → Prop := fun d t => match d with
  | .bl b => Q b t
  | _ => False
theorem w_and {a b : Ex} (h : W (a S t) (Bl fun k t1 => (k = true → W (b S t1) Q) ∧ (k = false → Q (.bl false) t1))) : W (eAnd a b S t) Q := w_bnd (h.mono fun d t1 q => by
  cases d with
  | bl k => cases k with
    | true => exact q.1 rfl
    | false => exact q.2 rfl
  | _ => exact q.elim)
theorem w_or {a b : Ex} (h : W (a S t) (Bl fun k t1 => (k = false → W (b S t1) Q) ∧ (k = true → Q (.bl true) t1))) : W (eOr a b S t) Q := w_bnd (h.mono fun d t1 q => by
  cases d with
  | bl k => cases k with
    | true => exact q.2 rfl
    | false => exact q.1 rfl
  | _ => exact q.elim)
theorem w_ife {c a b : Ex} (h : W (c S t) (Bl fun k t1 => (k = true → W (a S t1) Q) ∧ (k = false → W (b S t1) Q))) : W (eIf c a b S t) Q := w_bnd (h.mono fun d t1 q => by
  cases d with
  | bl k => cases k with
    | true => exact q.1 rfl
    | false => exact q.2 rfl
  | _ => exact q.elim)
theorem w_chain {o1 o2 : D → D → M D} {a b c : Ex} (h : W (a S t) fun x t1 => W (b S t1) fun y t2 => W (o1 x y t2) (Bl fun k t3 => (k = true → W (c S t3) fun u t4 => W (o2 y u t4) Q) ∧ (k = false → Q (.bl false) t3))) : W (eChain o1 o2 a b c S t) Q :=
  w_bnd (h.mono fun x t1 h => w_bnd (h.mono fun y t2 h => w_bnd (h.mono fun d t3 q => by
    cases d with
    | bl k => cases k with
      | true => exact w_bnd (q.1 rfl)
      | false => exact q.2 rfl
    | _ => exact q.elim)))
theorem w_not {b : Bool} (h : Q (.bl (!b)) t) : W (oNot (.bl b) t) Q := h
theorem w_slice {a : Ex} {lo hi : Option Ex} (h : W (a S t) fun x t1 => W (oEx lo S t1) fun l t2 => W (oEx hi S t2) fun u t3 => W (pSlice x l u t3) Q) : W (eSlice a lo hi S t) Q :=
  w_bnd (h.mono fun x t1 h => w_bnd (h.mono fun l t2 h => w_bnd h))
theorem w_oN {Q : Option Int → Tn → Prop} (h : Q none t) : W (oEx none S t) Q := h
/-- of a number -/
def In (Q : Int → Tn → Prop) : D → Tn → Prop := fun d t => match d with
  | .int i => Q i t
  | _ => False
theorem w_oS {f : Ex} {Q : Option Int → Tn → Prop} (h : W (f S t) (In fun i t1 => Q (some i) t1)) : W (oEx (some f) S t) Q := w_bnd (h.mono fun d t1 q => by
  cases d with
  | int k => exact q
  | _ => exact q.elim)
theorem w_comp {vs : List Nat} {it : Sl → M (List D)} {tg : Tg} {cond elt : Ex} (h : W (it S t) fun ds t1 => ds.length ≤ sizeLine ∧ W (cmpL tg cond elt (wipeS S vs) ds t1) fun rs t2 => Q (.lst rs) t2) : W (eComp vs it tg cond elt S t) Q :=
  w_bnd (h.mono fun ds t1 ⟨h1, h2⟩ => by rw [if_pos h1]; exact w_bnd h2)
/-- of a tuple or a list -/
def Sq (Q : List D → Tn → Prop) : D → Tn → Prop := fun d t => match d with
  | .tup ds => Q ds t
  | .lst ds => Q ds t
  | _ => False
theorem w_itSeq {f : Ex} {Q : List D → Tn → Prop} (h : W (f S t) (Sq Q)) : W (itSeq f S t) Q := w_bnd (h.mono fun d t1 q => by
  cases d with
  | tup ds => exact q
  | lst ds => exact q
  | _ => exact q.elim)
def rng (n : Nat) : List D := (List.range n).map fun (i : Nat) => D.int (i : Int)
theorem rng_eq (n : Nat) : ((List.range n).map fun (i : Nat) => D.int ((0 : Int) + (i : Int))) = rng n := by
  unfold rng
  exact List.map_congr_left fun i _ => by rw [Int.zero_add]
theorem w_itR {f : Ex} {Q : List D → Tn → Prop} (h : W (f S t) (In fun j t1 => 0 ≤ j ∧ j < 2 ^ 62 ∧ Q (rng j.toNat) t1)) : W (itRange1 f S t) Q := w_bnd (h.mono fun d t1 q => by
  cases d with
  | int k =>
    obtain ⟨h1, h2, h3⟩ := q
    show W ((if -(2 ^ 62) ≤ k ∧ k < 2 ^ 62 then ret ((List.range k.toNat).map fun (i : Nat) => D.int ((0 : Int) + (i : Int))) else stuck) t1) Q
    rw [if_pos ⟨by omega, h2⟩, rng_eq]
    exact h3
  | _ => exact q.elim)
end
section
variable {S : Sl} {t : Tn} {Q : Fl → Tn → Prop}
/-- what follows: on with the slots, or back with a value -/
def Nx (N : Sl → Tn → Prop) (R : D → Tn → Prop) : Fl → Tn → Prop := fun fl t => match fl with
  | .nx S => N S t
  | .ret d => R d t
theorem w_nil (h : Q (.nx S) t) : W (sNil S t) Q := h
theorem w_seq {a b : Stm} (h : W (a S t) (Nx (fun S' t' => W (b S' t') Q) (fun d t' => Q (.ret d) t'))) : W (sSeq a b S t) Q := w_bnd (h.mono fun fl t1 q => by
  cases fl with
  | nx S' => exact q
  | ret d => exact q)
theorem w_asg {i : Nat} {e : Ex} (h : W (e S t) fun d t1 => Q (.nx (S.set i (.val d))) t1) : W (sAsg i e S t) Q := w_bnd h
/-- of a list -/
def Ls (Q : List D → Tn → Prop) : D → Tn → Prop := fun d t => match d with
  | .lst ds => Q ds t
  | _ => False
theorem w_own {i : Nat} {e : Ex} (h : W (e S t) (Ls fun ds t1 => Q (.nx (S.set i (.own ds))) t1)) : W (sOwn i e S t) Q := w_bnd (h.mono fun d t1 q => by
  cases d with
  | lst ds => exact q
  | _ => exact q.elim)
theorem w_par {i j : Nat} {a b : Ex} (h : W (a S t) fun x t1 => W (b S t1) fun y t2 => Q (.nx ((S.set i (.val x)).set j (.val y))) t2) : W (sPar i j a b S t) Q := w_bnd (h.mono fun _ _ h => w_bnd h)
theorem w_parO {i j : Nat} {a b : Ex} (h : W (a S t) fun x t1 => W (b S t1) (Ls fun ds t2 => Q (.nx ((S.set i (.val x)).set j (.own ds))) t2)) : W (sParO i j a b S t) Q := w_bnd (h.mono fun _ _ h => w_bnd (h.mono fun d t1 q => by
  cases d with
  | lst ds => exact q
  | _ => exact q.elim))
theorem w_app {i : Nat} {ds : List D} {e : Ex} (he : S[i]? = some (.own ds)) (h : W (e S t) fun d t1 => ds.length < sizeLine ∧ Q (.nx (S.set i (.own (ds ++ [d])))) t1) : W (sApp i e S t) Q := by
  unfold sApp
  rw [he]
  exact w_bnd (h.mono fun d t1 ⟨h1, h2⟩ => by
    show W ((if ds.length < sizeLine then ret (Fl.nx (S.set i (.own (ds ++ [d])))) else stuck) t1) Q
    rw [if_pos h1]; exact h2)
theorem w_expr {e : Ex} (h : W (e S t) fun _ t1 => Q (.nx S) t1) : W (sExpr e S t) Q := w_bnd h
theorem w_if {c : Ex} {a b : Stm} (h : W (c S t) (Bl fun k t1 => (k = true → W (a S t1) Q) ∧ (k = false → W (b S t1) Q))) : W (sIf c a b S t) Q := w_bnd (h.mono fun d t1 q => by
  cases d with
  | bl k => cases k with
    | true => exact q.1 rfl
    | false => exact q.2 rfl
  | _ => exact q.elim)
theorem w_sret {e : Ex} (h : W (e S t) fun d t1 => Q (.ret d) t1) : W (sRet e S t) Q := w_bnd h
theorem w_frz {i : Nat} {ds : List D} {a : Stm} (he : S[i]? = some (.own ds)) (h : W (a (S.set i (.val (.lst ds))) t) Q) : W (sFrz i a S t) Q := by
  unfold sFrz; rw [he]; exact h
theorem w_for {it : Sl → M (List D)} {tg : Tg} {body : Stm} (h : W (it S t) fun ds t1 => W (forL tg body ds S t1) Q) : W (sFor it tg body S t) Q := w_bnd (w_calm h)
theorem w_forI {tg : Tg} {body : Stm} (I : Nat → Sl → Tn → Prop) : ∀ {ds : List D} {k : Nat} {S : Sl} {t : Tn}, I k S t →
    (∀ i d, ds[i]? = some d → ∀ S t, I (k + i) S t → ∃ S', tg d S = some S' ∧ W (body S' t) (Nx (fun S2 t2 => I (k + i + 1) S2 t2) fun d t2 => Q (.ret d) t2)) →
    (∀ S t, I (k + ds.length) S t → Q (.nx S) t) → W (forL tg body ds S t) Q
  | [], k, S, t, h0, _, hQ => hQ S t h0
  | d :: ds, k, S, t, h0, hs, hQ => by
    obtain ⟨S', e, w⟩ := hs 0 d rfl S t h0
    show W ((match tg d S with
      | none => stuck
      | some S' => bnd (calm (body S')) fun fl => match fl with
        | .nx S'' => forL tg body ds S''
        | .ret v => ret (.ret v)) t) Q
    rw [e]
    exact w_bnd (w_calm (w.mono fun fl t1 q => by
      cases fl with
      | ret v => exact q
      | nx S2 =>
        refine w_forI I (k := k + 1) q (fun i d' e' S t hI => ?_) fun S t hI => hQ S t (by rw [List.length_cons, Nat.add_comm ds.length 1, ← Nat.add_assoc]; exact hI)
        have := hs (i + 1) d' e' S t (by rw [Nat.add_comm i 1, ← Nat.add_assoc]; exact hI)
        rw [Nat.add_comm i 1, ← Nat.add_assoc] at this
        exact this))
/-- with an invariant that does not count -/
theorem w_forC {tg : Tg} {body : Stm} {ds : List D} {S : Sl} {t : Tn} (I : Sl → Tn → Prop) (h0 : I S t)
    (hs : ∀ d ∈ ds, ∀ S t, I S t → ∃ S', tg d S = some S' ∧ W (body S' t) (Nx (fun S2 t2 => I S2 t2) fun d t2 => Q (.ret d) t2))
    (hQ : ∀ S t, I S t → Q (.nx S) t) : W (forL tg body ds S t) Q :=
  w_forI (fun _ => I) (k := 0) h0 (fun i d e S t hI => hs d (List.mem_of_getElem? e) S t hI) fun S t hI => hQ S t hI
end
theorem w_fn {n : Nat} {body : Stm} {ds : List D} {t : Tn} {Q : D → Tn → Prop} (h : W (body (slots0 n ds) t) (Nx (fun _ t1 => Q .non t1) Q)) : W (fnOf n body ds t) Q := w_bnd (h.mono fun fl t1 q => by
  cases fl with
  | nx S => exact q
  | ret d => exact q)
section
variable {tg : Tg} {cond elt : Ex} {S : Sl}
theorem cmpL_pure {p : D → Bool} {e : D → D} : ∀ {ds : List D}, (∀ d ∈ ds, ∃ S', tg d S = some S' ∧ cond S' = ret (.bl (p d)) ∧ (p d = true → elt S' = ret (e d))) → cmpL tg cond elt S ds = ret ((ds.filter p).map e)
  | [], _ => rfl
  | d :: ds, h => by
    obtain ⟨S', e1, e2, e3⟩ := h d (List.mem_cons_self ..)
    have ih := cmpL_pure (p := p) (e := e) fun d hd => h d (List.mem_cons_of_mem _ hd)
    show (match tg d S with
      | none => stuck
      | some S' => bnd (calm (cond S')) fun b => match b with
        | .bl true => bnd (calm (elt S')) fun r => bnd (cmpL tg cond elt S ds) fun rs => ret (r :: rs)
        | .bl false => cmpL tg cond elt S ds
        | _ => stuck) = _
    rw [e1]
    show bnd (calm (cond S')) _ = _
    rw [e2]
    cases hp : p d with
    | true =>
      show bnd (calm (elt S')) _ = _
      rw [e3 hp, ih, List.filter_cons_of_pos hp, List.map_cons]
      rfl
    | false =>
      show cmpL tg cond elt S ds = _
      rw [ih, List.filter_cons_of_neg (by rw [hp]; decide)]
theorem w_cmpL {T : Tn → Prop} {R : D → D → Prop} {Q : List D → Tn → Prop} : ∀ {ds : List D} {t : Tn}, T t →
    (∀ d ∈ ds, ∀ t, T t → ∃ S', tg d S = some S' ∧ cond S' = ret (.bl true) ∧ W (elt S' t) fun r t1 => T t1 ∧ R d r) →
    (∀ rs t, T t → ds.length = rs.length → (∀ (i : Nat) (d r : D), ds[i]? = some d → rs[i]? = some r → R d r) → Q rs t) → W (cmpL tg cond elt S ds t) Q
  | [], t, ht, _, hQ => hQ [] t ht rfl fun i d r e => by simp at e
  | d :: ds, t, ht, h, hQ => by
    obtain ⟨S', e1, e2, e3⟩ := h d (List.mem_cons_self ..) t ht
    show W ((match tg d S with
      | none => stuck
      | some S' => bnd (calm (cond S')) fun b => match b with
        | .bl true => bnd (calm (elt S')) fun r => bnd (cmpL tg cond elt S ds) fun rs => ret (r :: rs)
        | .bl false => cmpL tg cond elt S ds
        | _ => stuck) t) Q
    rw [e1]
    show W (bnd (calm (cond S')) _ t) Q
    rw [e2]
    refine w_bnd (w_calm (w_ret ?_))
    refine w_bnd (w_calm (e3.mono fun r t1 ⟨ht1, hr⟩ => w_bnd ?_))
    refine w_cmpL ht1 (fun d hd => h d (List.mem_cons_of_mem _ hd)) fun rs t2 ht2 hl hR => ?_
    refine hQ (r :: rs) t2 ht2 (by rw [List.length_cons, List.length_cons, hl]) fun i d' r' e e' => ?_
    cases i with
    | zero => cases e; cases e'; exact hr
    | succ i => exact hR i d' r' e e'
end
theorem w_cmpP {tg : Tg} {cond elt : Ex} {S : Sl} {t : Tn} {Q : List D → Tn → Prop} {ds : List D} (p : D → Bool) (e : D → D) (h : ∀ d ∈ ds, ∃ S', tg d S = some S' ∧ cond S' = ret (.bl (p d)) ∧ (p d = true → elt S' = ret (e d))) (q : Q ((ds.filter p).map e) t) : W (cmpL tg cond elt S ds t) Q := by
  rw [cmpL_pure h]; exact q
section
variable {S : Sl} {c : Int} {rs : List (Int × Int)} {st : Sto}
theorem w_tc {i : Nat} {Q : D → Tn → Prop} (e : S[i]? = some (.val .town)) (h : Q (.int c) (some (c, rs), st)) : W (eTC i S (some (c, rs), st)) Q := by
  unfold eTC isTown; rw [e]; exact h
theorem w_stc {i : Nat} {e : Ex} {t : Tn} {Q : Fl → Tn → Prop} (he : S[i]? = some (.val .town)) (h : W (e S t) (In fun n t1 => ∃ c rs st, t1 = (some (c, rs), st) ∧ Q (.nx S) (some (n, rs), st))) : W (sTC i e S t) Q := by
  unfold sTC isTown
  rw [he, if_pos rfl]
  exact w_bnd (h.mono fun d t1 q => by
    cases d with
    | int n => obtain ⟨c, rs, st, rfl, q⟩ := q; exact q
    | _ => exact q.elim)
end
section
variable {S : Sl} {c : Int} {rs : List (Int × Int)}
theorem w_tr {i : Nat} {k d : Ex} {t : Tn} {Q : D → Tn → Prop} (he : S[i]? = some (.val .town)) (h : W (k S t) (In fun n t1 => W (d S t1) fun b t2 => ∃ c rs st, t2 = (some (c, rs), st) ∧ Q (match rLook rs n with | some v => .int v | none => b) (some (c, rs), st))) : W (eTR i k d S t) Q := by
  unfold eTR isTown
  rw [he, if_pos rfl]
  exact w_bnd (h.mono fun a t1 q => by
    cases a with
    | int n => exact w_bnd (q.mono fun b t2 q => by obtain ⟨c, rs, st, rfl, q⟩ := q; exact q)
    | _ => exact q.elim)
theorem w_str {i : Nat} {k e : Ex} {t : Tn} {Q : Fl → Tn → Prop} (he : S[i]? = some (.val .town)) (h : W (e S t) (In fun v t1 => W (k S t1) (In fun n t2 => ∃ c rs st, t2 = (some (c, rs), st) ∧ rs.length < 1000000 ∧ Q (.nx S) (some (c, rPut rs n v), st)))) : W (sTR i k e S t) Q := by
  unfold sTR isTown
  rw [he, if_pos rfl]
  exact w_bnd (h.mono fun d t1 q => by
    cases d with
    | int v => exact w_bnd (q.mono fun a t2 q => by
        cases a with
        | int n =>
          obtain ⟨c, rs, st, rfl, hl, q⟩ := q
          show W (if rs.length < 1000000 then some (.ok (.nx S) (some (c, rPut rs n v), st)) else none) Q
          rw [if_pos hl]; exact q
        | _ => exact q.elim)
    | _ => exact q.elim)
theorem w_scr {i : Nat} {ns : List Int} {t : Tn} {Q : D → Tn → Prop} (e : S[i]? = some (.val (.scr ns))) (h : Q (.bl (!ns.isEmpty)) t) : W (eScr i S t) Q := by
  unfold eScr scrAt; rw [e]; exact h
theorem w_begun {st : Sto} {Q : D → Tn → Prop} (h : Q .town (some (0, []), st)) : W (eBegun S (none, st)) Q := h
end
end BG
set_option Elab.async false
set_option linter.all false
set_option maxRecDepth 100000
set_option maxHeartbeats 4000000
namespace BG
open PySem L2
section
variable {t : Tn} {Q : D → Tn → Prop}
theorem nx_nx {N : Sl → Tn → Prop} {R : D → Tn → Prop} {S : Sl} (h : N S t) : Nx N R (.nx S) t := h
theorem nx_ret {N : Sl → Tn → Prop} {R : D → Tn → Prop} {d : D} (h : R d t) : Nx N R (.ret d) t := h
theorem bl_i {Q : Bool → Tn → Prop} {b : Bool} (h : Q b t) : Bl Q (.bl b) t := h
theorem in_i {Q : Int → Tn → Prop} {b : Int} (h : Q b t) : In Q (.int b) t := h
theorem sq_t {Q : List D → Tn → Prop} {b : List D} (h : Q b t) : Sq Q (.tup b) t := h
theorem sq_l {Q : List D → Tn → Prop} {b : List D} (h : Q b t) : Sq Q (.lst b) t := h
theorem ls_l {Q : List D → Tn → Prop} {b : List D} (h : Q b t) : Ls Q (.lst b) t := h
theorem ift {A B : Prop} (h : A) : (true = true → A) ∧ (true = false → B) := ⟨fun _ => h, fun e => Bool.noConfusion e⟩
theorem iff' {A B : Prop} (h : B) : (false = true → A) ∧ (false = false → B) := ⟨fun e => Bool.noConfusion e, fun _ => h⟩
theorem ift2 {A B : Prop} (h : A) : (true = false → B) ∧ (true = true → A) := ⟨fun e => Bool.noConfusion e, fun _ => h⟩
theorem iff2 {A B : Prop} (h : B) : (false = false → B) ∧ (false = true → A) := ⟨fun _ => h, fun e => Bool.noConfusion e⟩
theorem ift_of {A B : Prop} {k : Bool} (e : k = true) (h : A) : (k = true → A) ∧ (k = false → B) := by subst e; exact ift h
theorem iff_of {A B : Prop} {k : Bool} (e : k = false) (h : B) : (k = true → A) ∧ (k = false → B) := by subst e; exact iff' h
theorem ift2_of {A B : Prop} {k : Bool} (e : k = true) (h : A) : (k = false → B) ∧ (k = true → A) := by subst e; exact ift2 h
theorem iff2_of {A B : Prop} {k : Bool} (e : k = false) (h : B) : (k = false → B) ∧ (k = true → A) := by subst e; exact iff2 h
theorem w_addI {i j : Int} (h : Q (.int (i + j)) t) : W (pAdd (.int i) (.int j) t) Q := h
theorem w_addT {xs ys : List D} (hl : xs.length + ys.length ≤ sizeLine) (h : Q (.tup (xs ++ ys)) t) : W (pAdd (.tup xs) (.tup ys) t) Q := by
  show W ((if xs.length + ys.length ≤ sizeLine then ret (.tup (xs ++ ys)) else stuck) t) Q
  rw [if_pos hl]; exact h
theorem w_addL {xs ys : List D} (hl : xs.length + ys.length ≤ sizeLine) (h : Q (.lst (xs ++ ys)) t) : W (pAdd (.lst xs) (.lst ys) t) Q := by
  show W ((if xs.length + ys.length ≤ sizeLine then ret (.lst (xs ++ ys)) else stuck) t) Q
  rw [if_pos hl]; exact h
theorem w_sub {i j : Int} (h : Q (.int (i - j)) t) : W (pSub (.int i) (.int j) t) Q := h
theorem w_mulI {i j : Int} (hl : -(2 ^ 64) < i ∧ i < 2 ^ 64) (h : Q (.int (i * j)) t) : W (pMul (.int i) (.int j) t) Q := by
  show W ((if -(2 ^ 64) < i ∧ i < 2 ^ 64 then ret (.int (i * j)) else stuck) t) Q
  rw [if_pos hl]; exact h
theorem w_mulT {xs : List D} {k : Int} (hl : xs ≠ [] ∧ 2 ≤ k ∧ k ≤ 1000 ∧ xs.length ≤ 1000) (h : Q (.tup (List.replicate k.toNat xs).flatten) t) : W (pMul (.tup xs) (.int k) t) Q := by
  show W ((if xs ≠ [] ∧ 2 ≤ k ∧ k ≤ 1000 ∧ xs.length ≤ 1000 then ret (.tup (List.replicate k.toNat xs).flatten) else stuck) t) Q
  rw [if_pos hl]; exact h
theorem w_mulL {xs : List D} {k : Int} (hl : 0 ≤ k ∧ k ≤ 1000 ∧ xs.length ≤ 1000) (h : Q (.lst (List.replicate k.toNat xs).flatten) t) : W (pMul (.lst xs) (.int k) t) Q := by
  show W ((if 0 ≤ k ∧ k ≤ 1000 ∧ xs.length ≤ 1000 then ret (.lst (List.replicate k.toNat xs).flatten) else stuck) t) Q
  rw [if_pos hl]; exact h
theorem w_mod {i j : Int} (hl : 0 < j) (h : Q (.int (i % j)) t) : W (pMod (.int i) (.int j) t) Q := by
  show W ((if 0 < j then ret (.int (i % j)) else stuck) t) Q
  rw [if_pos hl]; exact h
theorem w_div {i j : Int} (hl : 0 < j ∧ j < 1073741824) (h : Q (.int (i / j)) t) : W (pDiv (.int i) (.int j) t) Q := by
  show W ((if 0 < j ∧ j < 1073741824 then ret (.int (i / j)) else stuck) t) Q
  rw [if_pos hl]; exact h
theorem w_pow {i j : Int} (hl : 0 ≤ j ∧ j ≤ 1000000 ∧ i.natAbs < 2 ^ 64) (h : Q (.int (i ^ j.toNat)) t) : W (pPow (.int i) (.int j) t) Q := by
  show W ((if 0 ≤ j ∧ j ≤ 1000000 ∧ i.natAbs < 2 ^ 64 then ret (.int (i ^ j.toNat)) else stuck) t) Q
  rw [if_pos hl]; exact h
theorem w_xor {i j : Int} (h : Q (.int (Builtin.bitXor i j)) t) : W (pXor (.int i) (.int j) t) Q := h
theorem w_eqD {p q : D} (hp : okD p 60 = true) (hq : okD q 60 = true) (h : Q (.bl (PyData.eqv p.py q.py)) t) : W (pEq p q t) Q := by
  unfold pEq; rw [if_pos ⟨hp, hq⟩]; exact h
theorem w_neD {p q : D} (hp : okD p 60 = true) (hq : okD q 60 = true) (h : Q (.bl (!PyData.eqv p.py q.py)) t) : W (pNe p q t) Q := by
  unfold pNe; rw [if_pos ⟨hp, hq⟩]; exact h
theorem w_ltI {i j : Int} (h : Q (.bl (decide (i < j))) t) : W (pLt (.int i) (.int j) t) Q := h
theorem w_leI {i j : Int} (h : Q (.bl (decide (i ≤ j))) t) : W (pLe (.int i) (.int j) t) Q := h
theorem w_gtI {i j : Int} (h : Q (.bl (decide (j < i))) t) : W (pGt (.int i) (.int j) t) Q := h
theorem w_geI {i j : Int} (h : Q (.bl (decide (j ≤ i))) t) : W (pGe (.int i) (.int j) t) Q := h
theorem w_inT {p : D} {ds : List D} (hp : okD p 60 = true) (hq : okA ds 60 = true) (h : Q (.bl (inD p ds)) t) : W (pIn p (.tup ds) t) Q := by
  show W ((if okD p 60 = true ∧ okA ds 60 = true then ret (.bl (inD p ds)) else stuck) t) Q
  rw [if_pos ⟨hp, hq⟩]; exact h
theorem w_inL {p : D} {ds : List D} (hp : okD p 60 = true) (hq : okA ds 60 = true) (h : Q (.bl (inD p ds)) t) : W (pIn p (.lst ds) t) Q := by
  show W ((if okD p 60 = true ∧ okA ds 60 = true then ret (.bl (inD p ds)) else stuck) t) Q
  rw [if_pos ⟨hp, hq⟩]; exact h
theorem w_idxT {ds : List D} {i : Int} {d : D} (e : atI ds i = some d) (h : Q d t) : W (pIdx (.tup ds) (.int i) t) Q := by
  show W ((match atI ds i with | some d => ret d | none => stuck) t) Q
  rw [e]; exact h
theorem w_idxL {ds : List D} {i : Int} {d : D} (e : atI ds i = some d) (h : Q d t) : W (pIdx (.lst ds) (.int i) t) Q := by
  show W ((match atI ds i with | some d => ret d | none => stuck) t) Q
  rw [e]; exact h
theorem w_idxS {ns : List Int} {i : Int} {n : Int} (e : atI ns i = some n) (h : Q (.int n) t) : W (pIdx (.scr ns) (.int i) t) Q := by
  show W ((match atI ns i with | some d => ret (D.int d) | none => stuck) t) Q
  rw [e]; exact h
theorem w_slT {ds : List D} {lo hi : Option Int} (h : Q (.tup (cutD ds lo hi)) t) : W (pSlice (.tup ds) lo hi t) Q := h
theorem w_slL {ds : List D} {lo hi : Option Int} (h : Q (.lst (cutD ds lo hi)) t) : W (pSlice (.lst ds) lo hi t) Q := h
theorem w_lenT {ds : List D} (h : Q (.int ds.length) t) : W (bLen (.tup ds) t) Q := h
theorem w_lenL {ds : List D} (h : Q (.int ds.length) t) : W (bLen (.lst ds) t) Q := h
theorem w_lenS {ns : List Int} (h : Q (.int ns.length) t) : W (bLen (.scr ns) t) Q := h
theorem w_tupL {ds : List D} (h : Q (.tup ds) t) : W (bTuple (.lst ds) t) Q := h
theorem w_tupT {ds : List D} (h : Q (.tup ds) t) : W (bTuple (.tup ds) t) Q := h
theorem w_lstL {ds : List D} (h : Q (.lst ds) t) : W (bList (.lst ds) t) Q := h
theorem w_lstT {ds : List D} (h : Q (.lst ds) t) : W (bList (.tup ds) t) Q := h
theorem w_isi {T : Ty} {d : D} {b : Bool} (e : isTy T d = some b) (h : Q (.bl b) t) : W (pIsi T d t) Q := by
  unfold pIsi; rw [e]; exact h
theorem w_allL {ds : List D} {bs : List Bool} (e : bools ds = some bs) (h : Q (.bl (bs.all id)) t) : W (bAll (.lst ds) t) Q := by
  show W ((match bools ds with | some bs => ret (D.bl (bs.all id)) | none => stuck) t) Q
  rw [e]; exact h
theorem w_lenSet {ds : List D} {ns : List Int} (e : intsD ds = some ns) (hl : ns.length < 1000) (h : Q (.int (ddp ns).length) t) : W (pLenSet (.tup ds) t) Q := by
  show W ((match intsD ds with | some ns => if ns.length < 1000 then ret (D.int (ddp ns).length) else stuck | none => stuck) t) Q
  rw [e]
  show W ((if ns.length < 1000 then ret (D.int (ddp ns).length) else stuck) t) Q
  rw [if_pos hl]; exact h
theorem w_neg {i : Int} (h : Q (.int (-i)) t) : W (pNeg (.int i) t) Q := h
theorem w_rng {i : Int} (hl : 0 ≤ i ∧ i ≤ 1000000) (h : Q (.lst (rng i.toNat)) t) : W (pRng (.int i) t) Q := by
  show W ((if 0 ≤ i ∧ i ≤ 1000000 then ret (D.lst ((List.range i.toNat).map fun (i : Nat) => D.int (i : Int))) else stuck) t) Q
  rw [if_pos hl]; exact h
theorem w_isn {p : D} (h : Q (.bl (isN p)) t) : W (pIs p .non t) Q := by cases p <;> exact h
theorem w_isnn {p : D} (h : Q (.bl (!isN p)) t) : W (pIsNot p .non t) Q := by cases p <;> exact h
end
theorem w_eqI {i j : Int} {t : Tn} {Q : D → Tn → Prop} (h : Q (.bl (decide (i = j))) t) : W (pEq (.int i) (.int j) t) Q := by
  refine w_eqD rfl rfl ?_
  have e : PyData.eqv (D.int i).py (D.int j).py = decide (i = j) := by
    show (i == j) = decide (i = j)
    rw [Bool.eq_iff_iff, beq_iff_eq, decide_eq_true_iff]
  rw [e]; exact h
theorem w_neI {i j : Int} {t : Tn} {Q : D → Tn → Prop} (h : Q (.bl (decide (i ≠ j))) t) : W (pNe (.int i) (.int j) t) Q := by
  refine w_neD rfl rfl ?_
  have e : (!PyData.eqv (D.int i).py (D.int j).py) = decide (i ≠ j) := by
    show (!(i == j)) = decide (i ≠ j)
    by_cases h : i = j
    · rw [decide_eq_false (by simp [h]), beq_iff_eq.mpr h]; rfl
    · rw [decide_eq_true h, beq_eq_false_iff_ne.mpr h]; rfl
  rw [e]; exact h
/-- of a pair -/
def Pr (Q : D → D → Tn → Prop) : D → Tn → Prop := fun d t => match d with
  | .tup [a, b] => Q a b t
  | _ => False
theorem pr_i {Q : D → D → Tn → Prop} {a b : D} {t : Tn} (h : Q a b t) : Pr Q (.tup [a, b]) t := h
theorem w_asgP {i j : Nat} {e : Ex} {S : Sl} {t : Tn} {Q : Fl → Tn → Prop} (h : W (e S t) (Pr fun a b t1 => Q (.nx ((S.set i (.val a)).set j (.val b))) t1)) : W (sAsgG (gP i j) e S t) Q := w_bnd (h.mono fun d t1 q => by
  unfold Pr at q
  split at q
  · exact q
  · exact q.elim)
theorem w_cmpM {tg : Tg} {elt : Ex} {S : Sl} {t : Tn} {Q : List D → Tn → Prop} {ds : List D} (e : D → D) (h : ∀ d ∈ ds, ∃ S', tg d S = some S' ∧ elt S' = ret (e d)) (q : Q (ds.map e) t) : W (cmpL tg (eC (.bl true)) elt S ds t) Q := by
  refine w_cmpP (fun _ => true) e (fun d hd => ?_) (by rw [show ds.filter (fun _ => true) = ds from List.filter_eq_self.mpr fun _ _ => rfl]; exact q)
  obtain ⟨S', e1, e2⟩ := h d hd
  exact ⟨S', e1, rfl, fun _ => e2⟩
mutual
def nobl : D → Bool
  | .non => true
  | .bl _ => false
  | .int _ => true
  | .str _ => true
  | .tup xs => noblA xs
  | .lst xs => noblA xs
  | .town => false
  | .scr _ => false
  | .dct _ _ => false
  | .dTT _ _ => false
  | .hnd _ => false
def noblA : List D → Bool
  | [] => true
  | d :: ds => nobl d && noblA ds
end
mutual
theorem eqv_iff : ∀ {p q : D}, nobl p = true → nobl q = true → (PyData.eqv p.py q.py = true ↔ p = q)
  | .non, q, hp, hq => by cases q <;> first | exact ⟨fun _ => rfl, fun _ => rfl⟩ | (cases hq; done) | (constructor <;> intro h <;> cases h; done)
  | .int i, q, hp, hq => by
    cases q with
    | int j =>
      show ((i == j) = true ↔ _)
      rw [beq_iff_eq]
      exact ⟨fun h => by rw [h], fun h => by cases h; rfl⟩
    | _ => first | (cases hq; done) | (constructor <;> intro h <;> cases h)
  | .str i, q, hp, hq => by
    cases q with
    | str j =>
      show ((i == j) = true ↔ _)
      rw [beq_iff_eq]
      exact ⟨fun h => by rw [h], fun h => by cases h; rfl⟩
    | _ => first | (cases hq; done) | (constructor <;> intro h <;> cases h)
  | .tup xs, q, hp, hq => by
    cases q with
    | tup ys =>
      have := eqvA_iff (ds := xs) (es := ys) hp hq
      show (PyData.eqvAll (pyA xs) (pyA ys) = true ↔ _)
      rw [this]
      exact ⟨fun h => by rw [h], fun h => by cases h; rfl⟩
    | _ => first | (cases hq; done) | (constructor <;> intro h <;> cases h)
  | .lst xs, q, hp, hq => by
    cases q with
    | lst ys =>
      have := eqvA_iff (ds := xs) (es := ys) hp hq
      show (PyData.eqvAll (pyA xs) (pyA ys) = true ↔ _)
      rw [this]
      exact ⟨fun h => by rw [h], fun h => by cases h; rfl⟩
    | _ => first | (cases hq; done) | (constructor <;> intro h <;> cases h)
theorem eqvA_iff : ∀ {ds es : List D}, noblA ds = true → noblA es = true → (PyData.eqvAll (pyA ds) (pyA es) = true ↔ ds = es)
  | [], [], _, _ => ⟨fun _ => rfl, fun _ => rfl⟩
  | [], e :: es, _, _ => ⟨fun h => (nomatch h), fun h => (nomatch h)⟩
  | d :: ds, [], _, _ => ⟨fun h => (nomatch h), fun h => (nomatch h)⟩
  | d :: ds, e :: es, hp, hq => by
    have hp : (nobl d && noblA ds) = true := hp
    have hq : (nobl e && noblA es) = true := hq
    rw [Bool.and_eq_true] at hp hq
    show ((PyData.eqv d.py e.py && PyData.eqvAll (pyA ds) (pyA es)) = true ↔ _)
    rw [Bool.and_eq_true, eqv_iff hp.1 hq.1, eqvA_iff hp.2 hq.2, List.cons.injEq]
end
theorem w_resE {nm : Nat → Str} {al : Nat → Bool} {F : Fn} {fs : List Ex} {S : Sl} {t : Tn} {Q : D → Tn → Prop} (h : W (evs fs S t) fun ds t1 => W (eResM nm al (F ds) t1) Q) : W (eRes nm al (eCall F fs) S t) Q := by
  obtain ⟨ds, t1, e, q⟩ := h.ex
  unfold eRes
  have e2 : eCall F fs S t = F ds t1 := by unfold eCall; exact bnd_ok e
  unfold eResM at q ⊢
  rw [e2]
  exact q
/-- of a tuple -/
def Tp (Q : List D → Tn → Prop) : D → Tn → Prop := fun d t => match d with
  | .tup ds => Q ds t
  | _ => False
theorem tp_t {Q : List D → Tn → Prop} {b : List D} {t : Tn} (h : Q b t) : Tp Q (.tup b) t := h
end BG
set_option Elab.async false
set_option linter.all false
set_option maxRecDepth 100000
set_option maxHeartbeats 4000000
namespace BL
open PySem BG L2
local macro_rules | `(tactic| infer_instance) => `(tactic| first | (with_reducible first | refine w_seq ?_ | refine w_asg ?_ | refine w_asgP ?_ | refine pr_i ?_ | refine w_eqI ?_ | refine w_neI ?_ | refine w_own ?_ | refine w_par ?_ | refine w_parO ?_ | refine w_expr ?_ | refine w_if ?_ | refine w_sret ?_ | refine w_nil ?_ | refine w_for ?_ | refine w_bin ?_ | refine w_un ?_ | refine w_tup ?_ | refine w_lst ?_ | refine w_call ?_ | refine w_and ?_ | refine w_or ?_ | refine w_ife ?_ | refine w_chain ?_ | refine w_slice ?_ | refine w_oN ?_ | refine w_oS ?_ | refine w_comp ?_ | refine w_itSeq ?_ | refine w_itR ?_ | refine w_evnil ?_ | refine w_evcons ?_ | refine w_evc1 ?_ | refine w_evc0 ?_ | refine w_c ?_ | refine nx_nx ?_ | refine nx_ret ?_ | refine bl_i ?_ | refine in_i ?_ | refine sq_t ?_ | refine sq_l ?_ | refine ls_l ?_ | refine tp_t ?_ | refine w_not ?_ | refine w_addI ?_ | refine w_sub ?_ | refine w_xor ?_ | refine w_ltI ?_ | refine w_leI ?_ | refine w_gtI ?_ | refine w_geI ?_ | refine w_slT ?_ | refine w_slL ?_ | refine w_lenT ?_ | refine w_lenL ?_ | refine w_lenS ?_ | refine w_tupL ?_ | refine w_tupT ?_ | refine w_lstL ?_ | refine w_lstT ?_ | refine w_neg ?_ | refine w_isn ?_ | refine w_isnn ?_ | refine w_begun ?_ | refine w_ret ?_ | refine w_resE ?_) | (with_reducible refine w_var (by with_unfolding_all rfl) ?_) | (with_reducible refine w_peekV (by with_unfolding_all rfl) ?_) | (with_reducible refine w_peekO (by with_unfolding_all rfl) ?_) | (with_reducible refine w_app (by with_unfolding_all rfl) ?_) | (with_reducible refine w_frz (by with_unfolding_all rfl) ?_) | (with_reducible refine w_scr (by with_unfolding_all rfl) ?_) | (with_reducible refine w_tc (by with_unfolding_all rfl) ?_) | (with_reducible refine w_stc (by with_unfolding_all rfl) ?_) | (with_reducible refine w_tr (by with_unfolding_all rfl) ?_) | (with_reducible refine w_str (by with_unfolding_all rfl) ?_) | (with_reducible refine w_idxT (by with_unfolding_all rfl) ?_) | (with_reducible refine w_idxL (by with_unfolding_all rfl) ?_) | (with_reducible refine w_isi (by with_unfolding_all rfl) ?_) | ((with_reducible first | refine w_addT ?_ ?_ | refine w_addL ?_ ?_ | refine w_mulI ?_ ?_ | refine w_mulT ?_ ?_ | refine w_mulL ?_ ?_ | refine w_mod ?_ ?_ | refine w_div ?_ ?_ | refine w_pow ?_ ?_ | refine w_rng ?_ ?_); (first | decide | omega | (refine ⟨?_, ?_⟩ <;> omega) | (refine ⟨?_, ?_, ?_⟩ <;> omega) | (simp only [List.length_cons, List.length_nil, List.length_append, List.length_reverse, BL.cD_len, BL.iD_len, BL.mkx_len, BL.sizeL]; omega) | (refine ⟨List.cons_ne_nil _ _, ?_⟩; simp only [List.length_cons, List.length_nil]; omega))) | ((with_reducible first | refine w_eqD ?_ ?_ ?_ | refine w_neD ?_ ?_ ?_ | refine w_inT ?_ ?_ ?_ | refine w_inL ?_ ?_ ?_); (first | rfl | with_unfolding_all rfl); (first | rfl | with_unfolding_all rfl)) | ((with_reducible refine ift_of ?_ ?_); (with_unfolding_all rfl)) | ((with_reducible refine iff_of ?_ ?_); (with_unfolding_all rfl)) | ((with_reducible refine ift2_of ?_ ?_); (with_unfolding_all rfl)) | ((with_reducible refine iff2_of ?_ ?_); (with_unfolding_all rfl)) | ((with_reducible refine ift_of ?_ ?_); exact decide_eq_true (by omega)) | ((with_reducible refine iff_of ?_ ?_); exact decide_eq_false (by omega)) | ((with_reducible refine ift2_of ?_ ?_); exact decide_eq_true (by omega)) | ((with_reducible refine iff2_of ?_ ?_); exact decide_eq_false (by omega)))
variable {st : Sto}
theorem nd_le : ∀ (n : Nat) (l : List Int), l.Nodup → (∀ k ∈ l, 0 ≤ k ∧ k < (n : Int)) → l.length ≤ n
  | 0, l, _, h => by
    cases l with
    | nil => exact Nat.le_refl _
    | cons k r => have := h k (List.mem_cons_self ..); omega
  | n + 1, l, nd, h => by
    have ih := nd_le n (l.erase (n : Int)) (nd.erase _) fun k hk => by
      have h1 := (nd.mem_erase_iff).mp hk
      have h2 := h k h1.2
      have := h1.1
      omega
    by_cases hm : (n : Int) ∈ l
    · rw [List.length_erase_of_mem hm] at ih; omega
    · rw [List.erase_of_not_mem hm] at ih; omega
structure TOk (st : Sto) (t : Tn) : Prop where
  ex : ∃ c rs, t = (some (c, rs), st) ∧ (rs.map Prod.fst).Nodup ∧ ∀ k ∈ rs.map Prod.fst, (0 : Int) ≤ k ∧ k < ((64 : Nat) : Int)
theorem TOk.begun {st : Sto} : TOk st (some (0, []), st) := ⟨0, [], rfl, .nil, fun k h => nomatch h⟩
theorem rPut_keys (rs : List (Int × Int)) (k v : Int) : (rPut rs k v).map Prod.fst = if (rs.any fun p => decide (p.1 = k)) = true then rs.map Prod.fst else rs.map Prod.fst ++ [k] := by
  unfold rPut
  split
  · rw [List.map_map]
    refine List.map_congr_left fun p _ => ?_
    show (if p.1 = k then (p.1, v) else p).1 = p.1
    split <;> rfl
  · rw [List.map_append]; rfl
theorem atI_nat {α : Type} {xs : List α} {n : Nat} {x : α} (e : xs[n]? = some x) : atI xs (n : Int) = some x := by
  unfold atI ixN
  have hl : n < xs.length := (List.getElem?_eq_some_iff.mp e).1
  rw [if_pos (by omega), if_pos (by omega)]
  show xs[(n : Int).toNat]? = some x
  rw [Int.toNat_natCast]; exact e
theorem atI_of {α : Type} {xs : List α} {i : Int} (h0 : 0 ≤ i) (h1 : i < xs.length) : ∃ x, x ∈ xs ∧ atI xs i = some x ∧ xs[i.toNat]? = some x := by
  have hl : i.toNat < xs.length := by omega
  refine ⟨xs[i.toNat], List.getElem_mem hl, ?_, List.getElem?_eq_getElem hl⟩
  have := atI_nat (xs := xs) (n := i.toNat) (List.getElem?_eq_getElem hl)
  rw [Int.toNat_of_nonneg h0] at this
  exact this
/-- what is left of the draw's body when the number at the place is known -/
theorem draw_tail {ns : List Int} {m a n c : Int} {rs : List (Int × Int)} {Q : D → Tn → Prop} {b : Stm} {S : Sl} (hb : S = [.val (.scr ns), .val .town, .val (.int m), .val (.int a), .val (.int n), .un]) (nd : (rs.map Prod.fst).Nodup) (hk : ∀ k ∈ rs.map Prod.fst, (0 : Int) ≤ k ∧ k < ((64 : Nat) : Int)) (a0 : 0 ≤ a) (a1 : a < 64) (h0 : 0 < m) (h1 : m < 1073741824) (hQ : ∀ r t', 0 ≤ r → r < m → (TOk st) t' → Q (.int r) t') :
    W ((sSeq (sIf (eBin pGe (eVar 4) (eBin pPow (eC (.int 10)) (eC (.int 18)))) (sSeq (sTR 1 (eVar 3) (eBin pDiv (eVar 4) (eVar 2))) (sRet (eBin pMod (eVar 4) (eVar 2)))) sNil)
      (sSeq (sAsg 5 (eBin pMod (eBin pAdd (eVar 4) (eBin pMul (eC (.int 104729)) (eTC 1))) (eC (.int 4294967291))))
      (sSeq (sAsg 5 (eBin pMod (eBin pPow (eVar 5) (eC (.int 5))) (eC (.int 4294967279))))
      (sRet (eBin pMod (eBin pDiv (eBin pMod (eBin pAdd (eBin pMul (eBin pDiv (eVar 5) (eC (.int 64))) (eC (.int 69621))) (eVar 5)) (eC (.int 4294967231))) (eC (.int 8))) (eVar 2)))))) S (some (c, rs), st)) (Nx (fun _ t1 => Q .non t1) Q) := by
  subst hb
  repeat (first | infer_instance)
  refine ⟨fun _ => ?_, fun _ => ?_⟩
  · repeat (first | infer_instance)
    refine ⟨c, rs, st, rfl, ?_, ?_⟩
    · have := nd_le 64 _ nd hk
      rw [List.length_map] at this
      omega
    repeat (first | infer_instance)
    refine hQ _ _ (Int.emod_nonneg _ (Int.ne_of_gt h0)) (Int.emod_lt_of_pos _ h0) ⟨c, _, rfl, ?_, ?_⟩
    · rw [rPut_keys]
      split
      · exact nd
      · rename_i hn
        refine List.nodup_append.mpr ⟨nd, List.nodup_cons.mpr ⟨fun h => (nomatch h), List.nodup_nil⟩, fun x hx y hy => ?_⟩
        rw [List.mem_singleton] at hy
        subst hy
        intro e
        subst e
        obtain ⟨p, hp, rfl⟩ := List.mem_map.mp hx
        exact hn (List.any_eq_true.mpr ⟨p, hp, decide_eq_true rfl⟩)
    · rw [rPut_keys]
      split
      · exact hk
      · intro k hk'
        rcases List.mem_append.mp hk' with h | h
        · exact hk k h
        · rw [List.mem_singleton] at h; omega
  · repeat (first | infer_instance)
    exact hQ _ _ (Int.emod_nonneg _ (Int.ne_of_gt h0)) (Int.emod_lt_of_pos _ h0) ⟨c, rs, rfl, nd, hk⟩
theorem w_draw {ns : List Int} {m : Int} {t : Tn} {Q : D → Tn → Prop} (hl : ns.length ≤ 63) (ht : (TOk st) t) (h0 : 0 < m) (h1 : m < 1073741824) (hQ : ∀ r t', 0 ≤ r → r < m → (TOk st) t' → Q (.int r) t') : W (f_law_draw [.scr ns, .town, .int m] t) Q := by
  obtain ⟨c, rs, rfl, nd, hk⟩ := ht.ex
  refine w_fn ?_
  show W (b_law_draw [.val (.scr ns), .val .town, .val (.int m), .un, .un, .un] _) _
  unfold b_law_draw
  cases ns with
  | nil =>
    repeat (first | infer_instance)
    refine ⟨c, rs, st, rfl, ?_⟩
    repeat (first | infer_instance)
    refine ⟨c + 1, rs, st, rfl, ?_⟩
    refine nx_nx ?_
    cases rLook rs 0 with
    | none => exact draw_tail (b := sNil) rfl nd hk (by decide) (by decide) h0 h1 hQ
    | some v => exact draw_tail (b := sNil) rfl nd hk (by decide) (by decide) h0 h1 hQ
  | cons x r =>
    have hp : 0 < ((x :: r).length : Int) := by simp only [List.length_cons]; omega
    have a1 := Int.emod_nonneg (c + 1) (Int.ne_of_gt hp)
    have a2 := Int.emod_lt_of_pos (c + 1) hp
    obtain ⟨y, _, hy, _⟩ := atI_of a1 a2
    repeat (first | infer_instance)
    refine ⟨c, rs, st, rfl, ?_⟩
    repeat (first | infer_instance)
    refine w_idxS hy ?_
    refine ⟨c + 1, rs, st, rfl, ?_⟩
    refine nx_nx ?_
    cases rLook rs ((c + 1) % ((x :: r).length : Int)) with
    | none => exact draw_tail (b := sNil) rfl nd hk a1 (by omega) h0 h1 hQ
    | some v => exact draw_tail (b := sNil) rfl nd hk a1 (by omega) h0 h1 hQ
end BL
set_option Elab.async false
set_option linter.all false
set_option maxRecDepth 100000
set_option maxHeartbeats 4000000
namespace BL
open PySem BG L2
local macro_rules | `(tactic| infer_instance) => `(tactic| first | (with_reducible first | refine w_seq ?_ | refine w_asg ?_ | refine w_asgP ?_ | refine pr_i ?_ | refine w_eqI ?_ | refine w_neI ?_ | refine w_own ?_ | refine w_par ?_ | refine w_parO ?_ | refine w_expr ?_ | refine w_if ?_ | refine w_sret ?_ | refine w_nil ?_ | refine w_for ?_ | refine w_bin ?_ | refine w_un ?_ | refine w_tup ?_ | refine w_lst ?_ | refine w_call ?_ | refine w_and ?_ | refine w_or ?_ | refine w_ife ?_ | refine w_chain ?_ | refine w_slice ?_ | refine w_oN ?_ | refine w_oS ?_ | refine w_comp ?_ | refine w_itSeq ?_ | refine w_itR ?_ | refine w_evnil ?_ | refine w_evcons ?_ | refine w_evc1 ?_ | refine w_evc0 ?_ | refine w_c ?_ | refine nx_nx ?_ | refine nx_ret ?_ | refine bl_i ?_ | refine in_i ?_ | refine sq_t ?_ | refine sq_l ?_ | refine ls_l ?_ | refine tp_t ?_ | refine w_not ?_ | refine w_addI ?_ | refine w_sub ?_ | refine w_xor ?_ | refine w_ltI ?_ | refine w_leI ?_ | refine w_gtI ?_ | refine w_geI ?_ | refine w_slT ?_ | refine w_slL ?_ | refine w_lenT ?_ | refine w_lenL ?_ | refine w_lenS ?_ | refine w_tupL ?_ | refine w_tupT ?_ | refine w_lstL ?_ | refine w_lstT ?_ | refine w_neg ?_ | refine w_isn ?_ | refine w_isnn ?_ | refine w_begun ?_ | refine w_ret ?_ | refine w_resE ?_) | (with_reducible refine w_var (by with_unfolding_all rfl) ?_) | (with_reducible refine w_peekV (by with_unfolding_all rfl) ?_) | (with_reducible refine w_peekO (by with_unfolding_all rfl) ?_) | (with_reducible refine w_app (by with_unfolding_all rfl) ?_) | (with_reducible refine w_frz (by with_unfolding_all rfl) ?_) | (with_reducible refine w_scr (by with_unfolding_all rfl) ?_) | (with_reducible refine w_tc (by with_unfolding_all rfl) ?_) | (with_reducible refine w_stc (by with_unfolding_all rfl) ?_) | (with_reducible refine w_tr (by with_unfolding_all rfl) ?_) | (with_reducible refine w_str (by with_unfolding_all rfl) ?_) | (with_reducible refine w_idxT (by with_unfolding_all rfl) ?_) | (with_reducible refine w_idxL (by with_unfolding_all rfl) ?_) | (with_reducible refine w_isi (by with_unfolding_all rfl) ?_) | ((with_reducible first | refine w_addT ?_ ?_ | refine w_addL ?_ ?_ | refine w_mulI ?_ ?_ | refine w_mulT ?_ ?_ | refine w_mulL ?_ ?_ | refine w_mod ?_ ?_ | refine w_div ?_ ?_ | refine w_pow ?_ ?_ | refine w_rng ?_ ?_); (first | decide | omega | (refine ⟨?_, ?_⟩ <;> omega) | (refine ⟨?_, ?_, ?_⟩ <;> omega) | (simp only [List.length_cons, List.length_nil, List.length_append, List.length_reverse, BL.cD_len, BL.iD_len, BL.mkx_len, BL.sizeL]; omega) | (refine ⟨List.cons_ne_nil _ _, ?_⟩; simp only [List.length_cons, List.length_nil]; omega))) | ((with_reducible first | refine w_eqD ?_ ?_ ?_ | refine w_neD ?_ ?_ ?_ | refine w_inT ?_ ?_ ?_ | refine w_inL ?_ ?_ ?_); (first | rfl | with_unfolding_all rfl); (first | rfl | with_unfolding_all rfl)) | ((with_reducible refine ift_of ?_ ?_); (with_unfolding_all rfl)) | ((with_reducible refine iff_of ?_ ?_); (with_unfolding_all rfl)) | ((with_reducible refine ift2_of ?_ ?_); (with_unfolding_all rfl)) | ((with_reducible refine iff2_of ?_ ?_); (with_unfolding_all rfl)) | ((with_reducible refine ift_of ?_ ?_); exact decide_eq_true (by omega)) | ((with_reducible refine iff_of ?_ ?_); exact decide_eq_false (by omega)) | ((with_reducible refine ift2_of ?_ ?_); exact decide_eq_true (by omega)) | ((with_reducible refine iff2_of ?_ ?_); exact decide_eq_false (by omega)))
variable {st : Sto}
def gts : List D := [.tup [.str "both", .int 0, .int 1, .int 2], .tup [.str "both", .int 0, .int 2, .int 1], .tup [.str "both", .int 1, .int 2, .int 0], .tup [.str "if", .int 0, .int 1], .tup [.str "if", .int 0, .int 2], .tup [.str "if", .int 1, .int 0], .tup [.str "if", .int 1, .int 2], .tup [.str "if", .int 2, .int 0], .tup [.str "if", .int 2, .int 1], .tup [.str "not", .int 0], .tup [.str "not", .int 1], .tup [.str "not", .int 2], .tup [.str "pick", .int 0, .int 1, .int 2], .tup [.str "pick", .int 1, .int 0, .int 2], .tup [.str "pick", .int 2, .int 0, .int 1], .tup [.str "swap", .int 0, .int 1], .tup [.str "swap", .int 0, .int 2], .tup [.str "swap", .int 1, .int 2]]
theorem law_gates_eq : f_law_gates [] = ret (.lst gts) := by with_unfolding_all rfl
theorem gts_len : gts.length = 18 := by decide +kernel
theorem map_eq_all {α β : Type} {f g : α → β} {l : List α} (h : l.map f = l.map g) : ∀ x ∈ l, f x = g x := List.map_inj_left.mp h
theorem is_gate_eq : ∀ g ∈ gts, f_is_gate [g] = ret (.bl true) := map_eq_all (by with_unfolding_all rfl)
theorem all_of {α : Type} {p : α → Bool} {l : List α} (h : l.all p = true) : ∀ x ∈ l, p x = true := List.all_eq_true.mp h
def kindD : D → D
  | .tup (k :: _) => k
  | _ => .non
def gateShape : D → Bool
  | .tup (.str k :: ls) => okD (.tup (.str k :: ls)) 20 && nobl (.tup (.str k :: ls))
  | _ => false
theorem gts_shape : ∀ g ∈ gts, gateShape g = true := all_of (by decide +kernel)
theorem gts_kind {g : D} (h : g ∈ gts) : ∃ k ls, g = .tup (.str k :: ls) ∧ okD g 20 = true ∧ nobl g = true := by
  have := gts_shape g h
  unfold gateShape at this
  split at this
  · rw [Bool.and_eq_true] at this; exact ⟨_, _, rfl, this.1, this.2⟩
  · cases this
mutual
theorem okD_le : ∀ {d : D} {n m : Nat}, n ≤ m → okD d n = true → okD d m = true
  | .non, n, m, h, e => by cases n <;> cases m <;> rfl
  | .bl _, n, m, h, e => by cases n <;> cases m <;> rfl
  | .int _, n, m, h, e => by cases n <;> cases m <;> rfl
  | .str x, n, m, h, e => by unfold okD at e ⊢; exact e
  | .tup xs, 0, m, h, e => by cases e
  | .tup xs, n + 1, 0, h, e => by omega
  | .tup xs, n + 1, m + 1, h, e => okA_le (ds := xs) (n := n) (m := m) (by omega) e
  | .lst xs, 0, m, h, e => by cases e
  | .lst xs, n + 1, 0, h, e => by omega
  | .lst xs, n + 1, m + 1, h, e => okA_le (ds := xs) (n := n) (m := m) (by omega) e
  | .town, n, m, h, e => by unfold okD at e; cases e
  | .scr _, n, m, h, e => by unfold okD at e; cases e
  | .dct _ _, n, m, h, e => by unfold okD at e; cases e
  | .dTT _ _, n, m, h, e => by unfold okD at e; cases e
  | .hnd _, n, m, h, e => by unfold okD at e; cases e
theorem okA_le : ∀ {ds : List D} {n m : Nat}, n ≤ m → okA ds n = true → okA ds m = true
  | [], _, _, _, _ => rfl
  | d :: ds, n, m, h, e => by
    have e : (okD d n && okA ds n) = true := e
    show (okD d m && okA ds m) = true
    rw [Bool.and_eq_true] at e ⊢
    exact ⟨okD_le h e.1, okA_le h e.2⟩
end
theorem okA_of {ds : List D} {n : Nat} (h : ∀ d ∈ ds, okD d n = true) : okA ds n = true := by rw [okA_all]; exact List.all_eq_true.mpr h
theorem noblA_of : ∀ {ds : List D}, (∀ d ∈ ds, nobl d = true) → noblA ds = true
  | [], _ => rfl
  | d :: ds, h => by
    show (nobl d && noblA ds) = true
    rw [h d (List.mem_cons_self ..), noblA_of fun d hd => h d (List.mem_cons_of_mem _ hd)]; rfl
theorem atI_zero {α : Type} {x : α} {xs : List α} : atI (x :: xs) 0 = some x := atI_nat (n := 0) rfl
theorem perm_erase {α : Type} : ∀ {l : List α} {n : Nat} (h : n < l.length), (l[n] :: l.eraseIdx n).Perm l
  | x :: l, 0, _ => .refl _
  | x :: l, n + 1, h => by
    show (l[n]'(Nat.lt_of_succ_lt_succ h) :: x :: l.eraseIdx n).Perm (x :: l)
    exact (List.Perm.swap ..).trans ((perm_erase (l := l) (n := n) (Nat.lt_of_succ_lt_succ h)).cons x)
def gtsK (ks : List D) : List D := gts.filter fun g => inD (kindD g) ks
theorem gtsK_sub {ks : List D} {g : D} (h : g ∈ gtsK ks) : g ∈ gts := (List.mem_filter.mp h).1
theorem gtsK_len (ks : List D) : (gtsK ks).length ≤ 18 := by
  have := List.length_filter_le (fun g => inD (kindD g) ks) gts
  rw [gts_len] at this; exact this
theorem w_circuit {ns : List Int} {ks : List D} {most : Nat} {t : Tn} {Q : D → Tn → Prop} (hl : ns.length ≤ 63) (ht : (TOk st) t) (hm : most ≤ 1000) (hk : okA ks 60 = true) (hne : gtsK ks ≠ []) (hQ : ∀ cs t', cs.length ≤ most → (∀ g ∈ cs, g ∈ gtsK ks) → (TOk st) t' → Q (.tup cs) t') :
    W (f_law_circuit [.scr ns, .town, .tup ks, .int most] t) Q := by
  refine w_fn ?_
  show W (b_law_circuit [.val (.scr ns), .val .town, .val (.tup ks), .val (.int most), .un, .un, .un] _) _
  unfold b_law_circuit
  repeat (first | (with_reducible refine w_eq law_gates_eq ?_) | infer_instance)
  have hl18 := gtsK_len ks
  have hpos : 0 < (gtsK ks).length := List.length_pos_iff.mpr hne
  refine ⟨by decide +kernel, w_cmpP (fun g => inD (kindD g) ks) id (fun g hg => ?_) ?_⟩
  · obtain ⟨k, ls, rfl, ok, nb⟩ := gts_kind hg
    refine ⟨_, rfl, eq_of_W fun t => ?_, fun _ => eq_of_W fun t => ?_⟩
    · repeat (first | (with_reducible refine w_idxT atI_zero ?_) | infer_instance)
      have ok2 : okD (.str k) 60 = true := by
        have : (okD (.str k) 19 && okA ls 19) = true := ok
        rw [Bool.and_eq_true] at this
        exact okD_le (by decide) this.1
      refine w_inT ok2 hk ?_
      exact ⟨rfl, rfl⟩
    · repeat (first | infer_instance)
      exact ⟨rfl, rfl⟩
  rw [List.map_id]
  show Nx _ _ (.nx [.val (.scr ns), .val .town, .val (.tup ks), .val (.int most), .val (.lst (gtsK ks)), .un, .un]) _
  generalize gtsK ks = gs at *
  repeat (first | (with_reducible refine w_draw hl ht (by omega) (by omega) fun r t' r0 r1 ht' => ?_) | infer_instance)
  refine ⟨r0, by omega, ?_⟩
  refine ⟨by unfold rng; rw [List.length_map, List.length_range]; have : sizeLine = 16777216 := rfl; omega, ?_⟩
  refine w_cmpL (T := (TOk st)) (R := fun _ r => r ∈ gs) ht' (fun d hd t ht => ⟨_, rfl, rfl, ?_⟩) fun rs t2 ht2 he hR => ?_
  · show W (eBin pIdx (eVar 4) (eCall f_law_draw [(eVar 0), (eVar 1), (eUn bLen (eVar 4))]) [.val (.scr ns), .val .town, .val (.tup ks), .val (.int most), .val (.lst gs), .un, .val d] t) _
    repeat (first | (with_reducible refine w_draw hl ht (by omega) (by omega) fun r t' r0 r1 ht' => ?_) | infer_instance)
    obtain ⟨x, hx, e, _⟩ := atI_of r0 r1
    exact w_idxL e ⟨by assumption, hx⟩
  · repeat (first | infer_instance)
    refine hQ _ _ ?_ ?_ ht2
    · rw [← he]; unfold rng; rw [List.length_map, List.length_range]; omega
    · intro g hg
      obtain ⟨i, hi, e⟩ := List.mem_iff_getElem.mp hg
      have hi' : i < (rng r.toNat).length := by rw [he]; exact hi
      exact hR i _ g (List.getElem?_eq_getElem hi') (by rw [← e]; exact List.getElem?_eq_getElem hi)
theorem w_circuitI {ns : List Int} {ks : List D} {m : Int} {t : Tn} {Q : D → Tn → Prop} (hl : ns.length ≤ 63) (ht : (TOk st) t) (h0 : 0 ≤ m) (hm : m ≤ 1000) (hk : okA ks 60 = true) (hne : gtsK ks ≠ []) (hQ : ∀ cs t', cs.length ≤ m.toNat → (∀ g ∈ cs, g ∈ gtsK ks) → (TOk st) t' → Q (.tup cs) t') :
    W (f_law_circuit [.scr ns, .town, .tup ks, .int m] t) Q := by
  have e : m = (m.toNat : Int) := (Int.toNat_of_nonneg h0).symm
  rw [e]
  exact w_circuit hl ht (by omega) hk hne hQ
def iD (ws : List Nat) : List D := ws.map fun (w : Nat) => D.int (w : Int)
theorem iD_len (ws : List Nat) : (iD ws).length = ws.length := List.length_map _
theorem iD_app (a b : List Nat) : iD (a ++ b) = iD a ++ iD b := List.map_append
theorem sIx_le {n d k : Nat} (h : k ≤ n) : HT.sIx n d (some (k : Int)) = k := by rw [HT.sIx_nat]; omega
theorem cutD_take {ds : List D} {k : Nat} (h : k ≤ ds.length) : cutD ds none (some (k : Int)) = ds.take k := by
  unfold cutD
  rw [sIx_le h]
  show (ds.drop 0).take (k - 0) = _
  rw [List.drop_zero, Nat.sub_zero]
theorem cutD_drop {ds : List D} {k : Nat} (h : k ≤ ds.length) : cutD ds (some (k : Int)) none = ds.drop k := by
  unfold cutD
  rw [sIx_le h]
  show (ds.drop k).take (ds.length - k) = _
  rw [List.take_of_length_le]
  rw [List.length_drop]; exact Nat.le_refl _
theorem w_exchange {ns : List Int} {t : Tn} {Q : D → Tn → Prop} (hl : ns.length ≤ 63) (ht : (TOk st) t) (hQ : ∀ ws t', ws.Perm (List.range 8) → (TOk st) t' → Q (.tup (iD ws)) t') : W (f_law_exchange [.scr ns, .town] t) Q := by
  refine w_fn ?_
  show W (b_law_exchange [.val (.scr ns), .val .town, .un, .un, .un, .un] _) _
  unfold b_law_exchange
  repeat (first | infer_instance)
  refine ⟨by decide, by decide, ?_⟩
  refine w_forI (fun k S t => ∃ r f x4 x5, S = [.val (.scr ns), .val .town, .val (.lst (iD r)), .own (iD f), x4, x5] ∧ (f ++ r).Perm (List.range 8) ∧ f.length = k ∧ (TOk st) t) (k := 0) ⟨List.range 8, [], .un, .un, rfl, .refl _, rfl, ht⟩ (fun i d hd S t ⟨r, f, x4, x5, hS, hp, hf, ht⟩ => ?_) fun S t ⟨r, f, x4, x5, hS, hp, hf, ht⟩ => ?_
  · subst hS
    refine ⟨_, rfl, ?_⟩
    show W _ _
    have hi : i < 8 := (List.getElem?_eq_some_iff.mp hd).1
    have hlen : f.length + r.length = 8 := by have := hp.length_eq; rw [List.length_append, List.length_range] at this; exact this
    have hr : r.length ≤ 8 ∧ 0 < r.length := by omega
    have hr2 := iD_len r
    repeat (first | (with_reducible refine w_draw hl ht (by omega) (by omega) fun z t' z0 z1 ht' => ?_) | infer_instance)
    have z1' : z.toNat < r.length := by omega
    obtain ⟨y, hy⟩ : ∃ y, r[z.toNat]? = some y := ⟨_, List.getElem?_eq_getElem z1'⟩
    have e : atI (iD r) z = some (.int (y : Int)) := by
      have := atI_nat (xs := iD r) (n := z.toNat) (x := .int (y : Int)) (by unfold iD; rw [List.getElem?_map, hy]; rfl)
      rw [Int.toNat_of_nonneg z0] at this; exact this
    refine w_idxL e ?_
    refine ⟨by rw [iD_len]; have : sizeLine = 16777216 := rfl; omega, ?_⟩
    repeat (first | infer_instance)
    have e1 : z = (z.toNat : Int) := (Int.toNat_of_nonneg z0).symm
    have e2 : z + 1 = ((z.toNat + 1 : Nat) : Int) := by omega
    rw [e2, cutD_drop (by omega)]
    rw [e1, Int.toNat_natCast, cutD_take (by omega)]
    refine w_addL ?_ ?_
    · rw [List.length_take, List.length_drop, iD_len]; have : sizeLine = 16777216 := rfl; omega
    refine nx_nx ⟨r.eraseIdx z.toNat, f ++ [y], .val d, .val (.int z), ?_, ?_, ?_, ht'⟩
    · rw [List.eraseIdx_eq_take_drop_succ, iD_app, iD_app]
      unfold iD
      rw [List.map_take, List.map_drop, ← e1]
      rfl
    · refine List.Perm.trans ?_ hp
      rw [List.append_assoc]
      refine List.Perm.append_left f ?_
      have := perm_erase z1'
      rw [List.getElem?_eq_getElem z1'] at hy
      cases hy
      exact this
    · rw [List.length_append, hf]; rfl
  · subst hS
    have hr : r = [] := by
      have h2 := hp.length_eq
      rw [List.length_append, List.length_range, hf] at h2
      have h3 : (rng (8 : Int).toNat).length = 8 := by decide +kernel
      exact List.eq_nil_of_length_eq_zero (by omega)
    subst hr
    rw [List.append_nil] at hp
    repeat (first | infer_instance)
    exact hQ f t hp ht
end BL
set_option Elab.async false
set_option linter.all false
set_option maxRecDepth 100000
set_option maxHeartbeats 4000000
namespace BL
open PySem BG L2
local macro_rules | `(tactic| infer_instance) => `(tactic| first | (with_reducible first | refine w_seq ?_ | refine w_asg ?_ | refine w_asgP ?_ | refine pr_i ?_ | refine w_eqI ?_ | refine w_neI ?_ | refine w_own ?_ | refine w_par ?_ | refine w_parO ?_ | refine w_expr ?_ | refine w_if ?_ | refine w_sret ?_ | refine w_nil ?_ | refine w_for ?_ | refine w_bin ?_ | refine w_un ?_ | refine w_tup ?_ | refine w_lst ?_ | refine w_call ?_ | refine w_and ?_ | refine w_or ?_ | refine w_ife ?_ | refine w_chain ?_ | refine w_slice ?_ | refine w_oN ?_ | refine w_oS ?_ | refine w_comp ?_ | refine w_itSeq ?_ | refine w_itR ?_ | refine w_evnil ?_ | refine w_evcons ?_ | refine w_evc1 ?_ | refine w_evc0 ?_ | refine w_c ?_ | refine nx_nx ?_ | refine nx_ret ?_ | refine bl_i ?_ | refine in_i ?_ | refine sq_t ?_ | refine sq_l ?_ | refine ls_l ?_ | refine tp_t ?_ | refine w_not ?_ | refine w_addI ?_ | refine w_sub ?_ | refine w_xor ?_ | refine w_ltI ?_ | refine w_leI ?_ | refine w_gtI ?_ | refine w_geI ?_ | refine w_slT ?_ | refine w_slL ?_ | refine w_lenT ?_ | refine w_lenL ?_ | refine w_lenS ?_ | refine w_tupL ?_ | refine w_tupT ?_ | refine w_lstL ?_ | refine w_lstT ?_ | refine w_neg ?_ | refine w_isn ?_ | refine w_isnn ?_ | refine w_begun ?_ | refine w_ret ?_ | refine w_resE ?_) | (with_reducible refine w_var (by with_unfolding_all rfl) ?_) | (with_reducible refine w_peekV (by with_unfolding_all rfl) ?_) | (with_reducible refine w_peekO (by with_unfolding_all rfl) ?_) | (with_reducible refine w_app (by with_unfolding_all rfl) ?_) | (with_reducible refine w_frz (by with_unfolding_all rfl) ?_) | (with_reducible refine w_scr (by with_unfolding_all rfl) ?_) | (with_reducible refine w_tc (by with_unfolding_all rfl) ?_) | (with_reducible refine w_stc (by with_unfolding_all rfl) ?_) | (with_reducible refine w_tr (by with_unfolding_all rfl) ?_) | (with_reducible refine w_str (by with_unfolding_all rfl) ?_) | (with_reducible refine w_idxT (by with_unfolding_all rfl) ?_) | (with_reducible refine w_idxL (by with_unfolding_all rfl) ?_) | (with_reducible refine w_isi (by with_unfolding_all rfl) ?_) | ((with_reducible first | refine w_addT ?_ ?_ | refine w_addL ?_ ?_ | refine w_mulI ?_ ?_ | refine w_mulT ?_ ?_ | refine w_mulL ?_ ?_ | refine w_mod ?_ ?_ | refine w_div ?_ ?_ | refine w_pow ?_ ?_ | refine w_rng ?_ ?_); (first | decide | omega | (refine ⟨?_, ?_⟩ <;> omega) | (refine ⟨?_, ?_, ?_⟩ <;> omega) | (simp only [List.length_cons, List.length_nil, List.length_append, List.length_reverse, BL.cD_len, BL.iD_len, BL.mkx_len, BL.sizeL]; omega) | (refine ⟨List.cons_ne_nil _ _, ?_⟩; simp only [List.length_cons, List.length_nil]; omega))) | ((with_reducible first | refine w_eqD ?_ ?_ ?_ | refine w_neD ?_ ?_ ?_ | refine w_inT ?_ ?_ ?_ | refine w_inL ?_ ?_ ?_); (first | rfl | with_unfolding_all rfl); (first | rfl | with_unfolding_all rfl)) | ((with_reducible refine ift_of ?_ ?_); (with_unfolding_all rfl)) | ((with_reducible refine iff_of ?_ ?_); (with_unfolding_all rfl)) | ((with_reducible refine ift2_of ?_ ?_); (with_unfolding_all rfl)) | ((with_reducible refine iff2_of ?_ ?_); (with_unfolding_all rfl)) | ((with_reducible refine ift_of ?_ ?_); exact decide_eq_true (by omega)) | ((with_reducible refine iff_of ?_ ?_); exact decide_eq_false (by omega)) | ((with_reducible refine ift2_of ?_ ?_); exact decide_eq_true (by omega)) | ((with_reducible refine iff2_of ?_ ?_); exact decide_eq_false (by omega)))
def btw (lo hi : Int) : D → Bool
  | .int i => decide (lo ≤ i) && decide (i ≤ hi)
  | _ => false
def plain : D → Bool
  | .town => false
  | .scr _ => false
  | .dct _ _ => false
  | .dTT _ _ => false
  | .hnd _ => false
  | _ => true
theorem is_between_eq {d : D} {lo hi : Int} (h : plain d = true) : f_is_between [d, .int lo, .int hi] = ret (.bl (btw lo hi d)) := by
  refine eq_of_W fun t => w_fn ?_
  show W (b_is_between [.val d, .val (.int lo), .val (.int hi)] t) _
  unfold b_is_between
  cases d with
  | int i =>
    repeat (first | infer_instance)
    have e : btw lo hi (.int i) = (decide (lo ≤ i) && decide (i ≤ hi)) := rfl
    rw [e]
    refine ⟨fun h1 => ?_, fun h1 => ?_⟩
    · repeat (first | infer_instance)
      rw [h1]; exact ⟨rfl, rfl⟩
    · repeat (first | infer_instance)
      rw [h1]; exact ⟨rfl, rfl⟩
  | town => cases h
  | scr ns => cases h
  | dct _ _ => cases h
  | dTT _ _ => cases h
  | hnd _ => cases h
  | _ =>
    repeat (first | infer_instance)
    exact ⟨rfl, rfl⟩
theorem bools_map {α : Type} (f : α → Bool) : ∀ l : List α, bools (l.map fun x => D.bl (f x)) = some (l.map f)
  | [] => rfl
  | x :: l => by
    show (bools (l.map fun x => D.bl (f x))).map (f x :: ·) = _
    rw [bools_map f l]; rfl
theorem filter_true {α : Type} (l : List α) : l.filter (fun _ => true) = l := List.filter_eq_self.mpr fun _ _ => rfl
theorem all_map {α : Type} (f : α → Bool) (l : List α) : (l.map f).all id = l.all f := by rw [List.all_map]; rfl
/-- a circuit -/
def IsC (cs : List D) : Prop := cs.length ≤ 20 ∧ ∀ g ∈ cs, g ∈ gts
theorem sizeL : sizeLine = 16777216 := rfl
theorem intsD_map : ∀ l : List Int, intsD (l.map D.int) = some l
  | [] => rfl
  | x :: l => by
    show (intsD (l.map D.int)).map (x :: ·) = _
    rw [intsD_map l]; rfl
theorem is_exchange_no1 {d : D} (h : isTy .tuple d = some false) : f_is_exchange [d] = ret (.bl false) := by
  refine eq_of_W fun t => w_fn ?_
  show W (b_is_exchange [.val d, .un] t) _
  unfold b_is_exchange
  repeat (first | (with_reducible refine w_isi h ?_) | infer_instance)
  exact ⟨rfl, rfl⟩
theorem is_exchange_len {ds : List D} (h : ds.length ≠ 8) : f_is_exchange [.tup ds] = ret (.bl false) := by
  refine eq_of_W fun t => w_fn ?_
  show W (b_is_exchange [.val (.tup ds), .un] t) _
  unfold b_is_exchange
  repeat (first | infer_instance)
  exact ⟨rfl, rfl⟩
theorem is_exchange_eq {ds : List D} (h : ds.length = 8) (hp : ∀ d ∈ ds, plain d = true) : f_is_exchange [.tup ds] = ret (.bl (ds.all (btw 0 7) && match intsD ds with | some ns => decide ((ddp ns).length = 8) | none => false)) := by
  refine eq_of_W fun t => w_fn ?_
  show W (b_is_exchange [.val (.tup ds), .un] t) _
  unfold b_is_exchange
  repeat (first | infer_instance)
  refine ⟨by have := sizeL; omega, w_cmpP (fun _ => true) (fun d => .bl (btw 0 7 d)) (fun d hd => ⟨_, rfl, rfl, fun _ => ?_⟩) ?_⟩
  · refine eq_of_W fun t => ?_
    repeat (first | (with_reducible refine w_eq (is_between_eq (hp d hd)) ?_) | infer_instance)
    exact ⟨rfl, rfl⟩
  rw [filter_true]
  refine w_allL (bools_map (btw 0 7) ds) ?_
  rw [all_map]
  repeat (first | infer_instance)
  refine ⟨fun h1 => ?_, fun h1 => ?_⟩
  · have h2 : ds.all (btw 0 7) = false := by cases e : ds.all (btw 0 7) with | false => rfl | true => rw [e] at h1; cases h1
    repeat (first | infer_instance)
    rw [h2]; exact ⟨rfl, rfl⟩
  · have h2 : ds.all (btw 0 7) = true := by cases e : ds.all (btw 0 7) with | true => rfl | false => rw [e] at h1; cases h1
    have h3 : ∃ ns, intsD ds = some ns ∧ ns.length = ds.length := by
      clear h hp h1
      induction ds with
      | nil => exact ⟨[], rfl, rfl⟩
      | cons d ds ih =>
        rw [List.all_cons, Bool.and_eq_true] at h2
        obtain ⟨ns, e, l⟩ := ih h2.2
        cases d with
        | int i => exact ⟨i :: ns, by show (intsD ds).map (i :: ·) = _; rw [e]; rfl, by rw [List.length_cons, List.length_cons, l]⟩
        | _ => cases h2.1
    obtain ⟨ns, e, l⟩ := h3
    repeat (first | infer_instance)
    refine w_lenSet e (by omega) ?_
    repeat (first | infer_instance)
    rw [h2, e]
    refine ⟨?_, rfl⟩
    show D.bl _ = D.bl (true && decide _)
    rw [Bool.true_and]
    congr 2
    exact propext ⟨fun h => by omega, fun h => by omega⟩
theorem ddp_nodup : ∀ {l : List Int}, l.Nodup → ddp l = l
  | [], _ => rfl
  | x :: r, h => by
    rw [List.nodup_cons] at h
    unfold ddp
    rw [if_neg (by rw [List.contains_iff_mem]; exact h.1), ddp_nodup h.2]
/-- an exchange -/
def IsX (ws : List Nat) : Prop := ws.Perm (List.range 8)
theorem IsX.len {ws : List Nat} (h : IsX ws) : ws.length = 8 := by have := h.length_eq; rw [List.length_range] at this; exact this
theorem IsX.lt {ws : List Nat} (h : IsX ws) {w : Nat} (hw : w ∈ ws) : w < 8 := List.mem_range.mp (h.mem_iff.mp hw)
theorem IsX.nodup {ws : List Nat} (h : IsX ws) : ws.Nodup := h.nodup_iff.mpr List.nodup_range
theorem intsD_iD (ws : List Nat) : intsD (iD ws) = some (ws.map fun (w : Nat) => (w : Int)) := by
  have := intsD_map (ws.map fun (w : Nat) => (w : Int))
  rw [List.map_map] at this
  exact this
theorem nodup_cast {ws : List Nat} (h : ws.Nodup) : (ws.map fun (w : Nat) => (w : Int)).Nodup := List.Pairwise.map _ (fun a b hab e => hab (by omega)) h
theorem mem_iD {d : D} {ws : List Nat} (h : d ∈ iD ws) : ∃ w ∈ ws, d = .int (w : Int) := by
  obtain ⟨w, hw, rfl⟩ := List.mem_map.mp h; exact ⟨w, hw, rfl⟩
theorem is_exchange_yes {ws : List Nat} (h : IsX ws) : f_is_exchange [.tup (iD ws)] = ret (.bl true) := by
  rw [is_exchange_eq (by rw [iD_len]; exact h.len) fun d hd => by obtain ⟨w, _, rfl⟩ := mem_iD hd; rfl]
  have h1 : (iD ws).all (btw 0 7) = true := List.all_eq_true.mpr fun d hd => by
    obtain ⟨w, hw, rfl⟩ := mem_iD hd
    have := h.lt hw
    show (decide ((0 : Int) ≤ (w : Int)) && decide ((w : Int) ≤ 7)) = true
    rw [decide_eq_true (by omega), decide_eq_true (by omega)]; rfl
  rw [h1, intsD_iD]
  show ret (D.bl (true && decide ((ddp (ws.map fun (w : Nat) => (w : Int))).length = 8))) = _
  rw [ddp_nodup (nodup_cast h.nodup), List.length_map, h.len]
  rfl
end BL
set_option Elab.async false
set_option linter.all false
set_option maxRecDepth 100000
set_option maxHeartbeats 4000000
namespace BL
open PySem BG L2
local macro_rules | `(tactic| infer_instance) => `(tactic| first | (with_reducible first | refine w_seq ?_ | refine w_asg ?_ | refine w_asgP ?_ | refine pr_i ?_ | refine w_eqI ?_ | refine w_neI ?_ | refine w_own ?_ | refine w_par ?_ | refine w_parO ?_ | refine w_expr ?_ | refine w_if ?_ | refine w_sret ?_ | refine w_nil ?_ | refine w_for ?_ | refine w_bin ?_ | refine w_un ?_ | refine w_tup ?_ | refine w_lst ?_ | refine w_call ?_ | refine w_and ?_ | refine w_or ?_ | refine w_ife ?_ | refine w_chain ?_ | refine w_slice ?_ | refine w_oN ?_ | refine w_oS ?_ | refine w_comp ?_ | refine w_itSeq ?_ | refine w_itR ?_ | refine w_evnil ?_ | refine w_evcons ?_ | refine w_evc1 ?_ | refine w_evc0 ?_ | refine w_c ?_ | refine nx_nx ?_ | refine nx_ret ?_ | refine bl_i ?_ | refine in_i ?_ | refine sq_t ?_ | refine sq_l ?_ | refine ls_l ?_ | refine tp_t ?_ | refine w_not ?_ | refine w_addI ?_ | refine w_sub ?_ | refine w_xor ?_ | refine w_ltI ?_ | refine w_leI ?_ | refine w_gtI ?_ | refine w_geI ?_ | refine w_slT ?_ | refine w_slL ?_ | refine w_lenT ?_ | refine w_lenL ?_ | refine w_lenS ?_ | refine w_tupL ?_ | refine w_tupT ?_ | refine w_lstL ?_ | refine w_lstT ?_ | refine w_neg ?_ | refine w_isn ?_ | refine w_isnn ?_ | refine w_begun ?_ | refine w_ret ?_ | refine w_resE ?_) | (with_reducible refine w_var (by with_unfolding_all rfl) ?_) | (with_reducible refine w_peekV (by with_unfolding_all rfl) ?_) | (with_reducible refine w_peekO (by with_unfolding_all rfl) ?_) | (with_reducible refine w_app (by with_unfolding_all rfl) ?_) | (with_reducible refine w_frz (by with_unfolding_all rfl) ?_) | (with_reducible refine w_scr (by with_unfolding_all rfl) ?_) | (with_reducible refine w_tc (by with_unfolding_all rfl) ?_) | (with_reducible refine w_stc (by with_unfolding_all rfl) ?_) | (with_reducible refine w_tr (by with_unfolding_all rfl) ?_) | (with_reducible refine w_str (by with_unfolding_all rfl) ?_) | (with_reducible refine w_idxT (by with_unfolding_all rfl) ?_) | (with_reducible refine w_idxL (by with_unfolding_all rfl) ?_) | (with_reducible refine w_isi (by with_unfolding_all rfl) ?_) | ((with_reducible first | refine w_addT ?_ ?_ | refine w_addL ?_ ?_ | refine w_mulI ?_ ?_ | refine w_mulT ?_ ?_ | refine w_mulL ?_ ?_ | refine w_mod ?_ ?_ | refine w_div ?_ ?_ | refine w_pow ?_ ?_ | refine w_rng ?_ ?_); (first | decide | omega | (refine ⟨?_, ?_⟩ <;> omega) | (refine ⟨?_, ?_, ?_⟩ <;> omega) | (simp only [List.length_cons, List.length_nil, List.length_append, List.length_reverse, BL.cD_len, BL.iD_len, BL.mkx_len, BL.sizeL]; omega) | (refine ⟨List.cons_ne_nil _ _, ?_⟩; simp only [List.length_cons, List.length_nil]; omega))) | ((with_reducible first | refine w_eqD ?_ ?_ ?_ | refine w_neD ?_ ?_ ?_ | refine w_inT ?_ ?_ ?_ | refine w_inL ?_ ?_ ?_); (first | rfl | with_unfolding_all rfl); (first | rfl | with_unfolding_all rfl)) | ((with_reducible refine ift_of ?_ ?_); (with_unfolding_all rfl)) | ((with_reducible refine iff_of ?_ ?_); (with_unfolding_all rfl)) | ((with_reducible refine ift2_of ?_ ?_); (with_unfolding_all rfl)) | ((with_reducible refine iff2_of ?_ ?_); (with_unfolding_all rfl)) | ((with_reducible refine ift_of ?_ ?_); exact decide_eq_true (by omega)) | ((with_reducible refine iff_of ?_ ?_); exact decide_eq_false (by omega)) | ((with_reducible refine ift2_of ?_ ?_); exact decide_eq_true (by omega)) | ((with_reducible refine iff2_of ?_ ?_); exact decide_eq_false (by omega)))
/-- gate number i -/
def gk (i : Nat) : D := gts.getD i .non
def apT : List (List Nat) := [[0, 1, 2, 7, 4, 5, 6, 3], [0, 1, 2, 3, 4, 7, 6, 5], [0, 1, 2, 3, 4, 5, 7, 6], [0, 3, 2, 1, 4, 7, 6, 5], [0, 5, 2, 7, 4, 1, 6, 3], [0, 1, 3, 2, 4, 5, 7, 6], [0, 1, 6, 7, 4, 5, 2, 3], [0, 1, 2, 3, 5, 4, 7, 6], [0, 1, 2, 3, 6, 7, 4, 5], [1, 0, 3, 2, 5, 4, 7, 6], [2, 3, 0, 1, 6, 7, 4, 5], [4, 5, 6, 7, 0, 1, 2, 3], [0, 1, 2, 5, 4, 3, 6, 7], [0, 1, 2, 6, 4, 5, 3, 7], [0, 1, 2, 3, 4, 6, 5, 7], [0, 2, 1, 3, 4, 6, 5, 7], [0, 4, 2, 6, 1, 5, 3, 7], [0, 1, 4, 5, 2, 3, 6, 7]]
def ap (i w : Nat) : Nat := (apT.getD i []).getD w 0
theorem ap_lt : ∀ i, i < 18 → ∀ w, w < 8 → ap i w < 8 := by decide +kernel
theorem ap_ap : ∀ i, i < 18 → ∀ w, w < 8 → ap i (ap i w) = w := by decide +kernel
theorem gk_mem {i : Nat} (h : i < 18) : gk i ∈ gts := by
  have hl : i < gts.length := by rw [gts_len]; exact h
  unfold gk
  rw [List.getD_eq_getElem?_getD, List.getElem?_eq_getElem hl]
  exact List.getElem_mem hl
theorem gk_of {g : D} (h : g ∈ gts) : ∃ i, i < 18 ∧ g = gk i := by
  obtain ⟨i, hi, e⟩ := List.mem_iff_getElem.mp h
  refine ⟨i, by rw [gts_len] at hi; exact hi, ?_⟩
  unfold gk
  rw [List.getD_eq_getElem?_getD, List.getElem?_eq_getElem hi, e]; rfl
theorem applied_tab : (List.range 18).map (fun i => (List.range 8).map fun (w : Nat) => f_applied [gk i, .int (w : Int)]) = (List.range 18).map (fun i => (List.range 8).map fun (w : Nat) => ret (.int (ap i w : Int))) := by with_unfolding_all rfl
theorem applied_eq {i w : Nat} (hi : i < 18) (hw : w < 8) : f_applied [gk i, .int (w : Int)] = ret (.int (ap i w : Int)) :=
  map_eq_all (map_eq_all applied_tab i (List.mem_range.mpr hi)) w (List.mem_range.mpr hw)
abbrev Gs (c : List Nat) : Prop := ∀ i ∈ c, i < 18
def cD (c : List Nat) : List D := c.map gk
theorem cD_len (c : List Nat) : (cD c).length = c.length := List.length_map _
theorem cD_app (a b : List Nat) : cD (a ++ b) = cD a ++ cD b := List.map_append
theorem cD_of : ∀ {cs : List D}, (∀ g ∈ cs, g ∈ gts) → ∃ c, Gs c ∧ cs = cD c
  | [], _ => ⟨[], fun i h => (nomatch h), rfl⟩
  | g :: cs, h => by
    obtain ⟨i, hi, e⟩ := gk_of (h g (List.mem_cons_self ..))
    obtain ⟨c, hc, e2⟩ := cD_of fun g hg => h g (List.mem_cons_of_mem _ hg)
    refine ⟨i :: c, fun j hj => ?_, by rw [e, e2]; rfl⟩
    rcases List.mem_cons.mp hj with h | h
    · rw [h]; exact hi
    · exact hc j h
theorem cD_mem {c : List Nat} (h : Gs c) : ∀ g ∈ cD c, g ∈ gts := fun g hg => by
  obtain ⟨i, hi, rfl⟩ := List.mem_map.mp hg
  exact gk_mem (h i hi)
theorem IsC.of {c : List Nat} (h : Gs c) (hl : c.length ≤ 20) : IsC (cD c) := ⟨by rw [cD_len]; exact hl, cD_mem h⟩
theorem Gs.app {a b : List Nat} (ha : Gs a) (hb : Gs b) : Gs (a ++ b) := fun i hi => (List.mem_append.mp hi).elim (ha i) (hb i)
theorem Gs.take {a : List Nat} (ha : Gs a) (n : Nat) : Gs (a.take n) := fun i hi => ha i (List.mem_of_mem_take hi)
theorem Gs.drop {a : List Nat} (ha : Gs a) (n : Nat) : Gs (a.drop n) := fun i hi => ha i (List.mem_of_mem_drop hi)
/-- what a circuit makes of a word -/
def mkw (c : List Nat) (w : Nat) : Nat := c.foldl (fun w i => ap i w) w
theorem mkw_app (a b : List Nat) (w : Nat) : mkw (a ++ b) w = mkw b (mkw a w) := List.foldl_append
theorem mkw_lt : ∀ {c : List Nat}, Gs c → ∀ {w : Nat}, w < 8 → mkw c w < 8
  | [], _, _, h => h
  | i :: c, hc, w, h => mkw_lt (c := c) (fun j hj => hc j (List.mem_cons_of_mem _ hj)) (ap_lt i (hc i (List.mem_cons_self ..)) w h)
theorem mkw_rev : ∀ {c : List Nat}, Gs c → ∀ {w : Nat}, w < 8 → mkw c.reverse (mkw c w) = w
  | [], _, _, _ => rfl
  | i :: c, hc, w, h => by
    have hi := hc i (List.mem_cons_self ..)
    have e := mkw_rev (c := c) (fun j hj => hc j (List.mem_cons_of_mem _ hj)) (ap_lt i hi w h)
    rw [List.reverse_cons, mkw_app]
    show ap i (mkw c.reverse (mkw c (ap i w))) = w
    rw [e]
    exact ap_ap i hi w h
/-- the exchange that a circuit makes -/
def mkx (c : List Nat) : List Nat := (List.range 8).map (mkw c)
theorem mkx_len (c : List Nat) : (mkx c).length = 8 := by unfold mkx; rw [List.length_map, List.length_range]
theorem mkx_get {c : List Nat} {w : Nat} (h : w < 8) : (mkx c)[w]? = some (mkw c w) := by unfold mkx; rw [List.getElem?_map, List.getElem?_range h]; rfl
theorem perm_range : ∀ {n : Nat} {l : List Nat}, l.Nodup → (∀ x ∈ l, x < n) → l.length = n → l.Perm (List.range n)
  | 0, l, _, _, hl => by rw [List.eq_nil_of_length_eq_zero hl]; exact .refl _
  | n + 1, l, nd, hlt, hl => by
    have hm : n ∈ l := by
      refine Classical.byContradiction fun hn => ?_
      have : (l.map fun (x : Nat) => (x : Int)).length ≤ n := nd_le n _ (List.Pairwise.map _ (fun a b hab e => hab (by omega)) nd) fun k hk => by
        obtain ⟨x, hx, rfl⟩ := List.mem_map.mp hk
        have h1 := hlt x hx
        have h2 : x ≠ n := fun e => hn (by rw [← e]; exact hx)
        exact ⟨by omega, by omega⟩
      rw [List.length_map] at this
      omega
    have h1 := List.perm_cons_erase hm
    have h2 : (l.erase n).length = n := by rw [List.length_erase_of_mem hm, hl]; rfl
    have h3 := perm_range (n := n) (nd.erase n) (fun x hx => by
      have q := (nd.mem_erase_iff).mp hx
      have := hlt x q.2
      have := q.1
      omega) h2
    rw [List.range_succ]
    exact (h1.trans (h3.cons n)).trans (List.perm_append_comm (l₁ := [n]) (l₂ := List.range n))
theorem mkx_x {c : List Nat} (hc : Gs c) : IsX (mkx c) := by
  refine perm_range ?_ (fun x hx => ?_) (mkx_len c)
  · unfold mkx
    refine List.pairwise_map.mpr ?_
    refine List.Pairwise.imp_of_mem ?_ (List.nodup_range (n := 8))
    intro a b ha hb hab e
    rw [List.mem_range] at ha hb
    have := mkw_rev hc ha
    rw [e, mkw_rev hc hb] at this
    exact hab this.symm
  · obtain ⟨w, hw, rfl⟩ := List.mem_map.mp hx
    exact mkw_lt hc (List.mem_range.mp hw)
theorem made_eq {c : List Nat} (hc : Gs c) : f_made [.tup (cD c)] = ret (.tup (iD (mkx c))) := by
  refine eq_of_W fun t => w_fn ?_
  show W (b_made [.val (.tup (cD c)), .un, .un, .un] t) _
  unfold b_made c_SAME
  repeat (first | infer_instance)
  refine w_forI (fun k S t' => ∃ x2 x3, S = [.val (.tup (cD c)), .val (.lst (iD (mkx (c.take k)))), x2, x3] ∧ t' = t) (k := 0) ⟨_, _, rfl, rfl⟩ (fun k d hd S t' ⟨x2, x3, hS, ht⟩ => ?_) fun S t' ⟨x2, x3, hS, ht⟩ => ?_
  · subst hS ht
    unfold cD at hd
    rw [List.getElem?_map] at hd
    cases hk : c[k]? with
    | none => rw [hk] at hd; cases hd
    | some i =>
      rw [hk] at hd
      cases hd
      have hi := hc i (List.mem_of_getElem? hk)
      have hkl : k < c.length := (List.getElem?_eq_some_iff.mp hk).1
      refine ⟨_, rfl, ?_⟩
      rw [Nat.zero_add]
      repeat (first | infer_instance)
      refine ⟨by rw [iD_len, mkx_len]; decide, w_cmpP (fun _ => true) (fun d => match d with | .int z => .int (ap i z.toNat : Int) | _ => .non) (fun d hd => ?_) ?_⟩
      · obtain ⟨w, hw, rfl⟩ := mem_iD hd
        have hw8 : w < 8 := by
          obtain ⟨v, hv, rfl⟩ := List.mem_map.mp hw
          exact mkw_lt (hc.take k) (List.mem_range.mp hv)
        refine ⟨_, rfl, rfl, fun _ => eq_of_W fun t => ?_⟩
        repeat (first | (with_reducible refine w_eq (applied_eq hi hw8) ?_) | infer_instance)
        exact ⟨rfl, rfl⟩
      · rw [filter_true]
        have e : (iD (mkx (c.take k))).map (fun d => match d with | .int z => D.int (ap i z.toNat : Int) | _ => .non) = iD (mkx (c.take (k + 1))) := by
          unfold iD mkx
          rw [List.map_map, List.map_map, List.map_map]
          refine List.map_congr_left fun w _ => ?_
          show D.int (ap i (Int.toNat ((mkw (c.take k) w : Nat) : Int)) : Int) = D.int ((mkw (c.take (k + 1)) w : Nat) : Int)
          rw [Int.toNat_natCast, List.take_add_one, hk, mkw_app]
          rfl
        rw [e]
        exact nx_nx ⟨.val (gk i), x3, rfl, rfl⟩
  · subst hS ht
    rw [cD_len, Nat.zero_add, List.take_length]
    repeat (first | infer_instance)
    exact ⟨rfl, rfl⟩
theorem atI_iD {ws : List Nat} {w y : Nat} (h : ws[w]? = some y) : atI (iD ws) (w : Int) = some (.int (y : Int)) := atI_nat (by unfold iD; rw [List.getElem?_map, h]; rfl)
end BL
set_option Elab.async false
set_option linter.all false
set_option maxRecDepth 100000
set_option maxHeartbeats 1000000
namespace BL
open PySem BG L2
variable {st : Sto}
theorem w_lbegun {Q : D → Tn → Prop} (h : Q .town (some (0, []), st)) : W (f_law_begun [] (none, st)) Q := h
abbrev ks5 : List D := [.str "both", .str "if", .str "not", .str "pick", .str "swap"]
theorem ks5_ok : okA ks5 60 = true := by decide +kernel
theorem gtsK_len5 : (gtsK ks5).length = 18 := by decide +kernel
theorem gtsK_5 : gtsK ks5 ≠ [] := fun h => by
  have := gtsK_len5
  rw [h] at this
  cases this
theorem w_eq_yes {p q : D} {t : Tn} {Q : D → Tn → Prop} (e : p = q) (h1 : okD p 60 = true) (h2 : nobl p = true) (h : Q (.bl true) t) : W (pEq p q t) Q := by
  subst e
  refine w_eqD h1 h1 ?_
  rw [(eqv_iff h2 h2).mpr rfl]; exact h
theorem w_ne_no {p q : D} {t : Tn} {Q : D → Tn → Prop} (e : p = q) (h1 : okD p 60 = true) (h2 : nobl p = true) (h : Q (.bl false) t) : W (pNe p q t) Q := by
  subst e
  refine w_neD h1 h1 ?_
  rw [(eqv_iff h2 h2).mpr rfl]; exact h
theorem ok_iD (ws : List Nat) : okD (.tup (iD ws)) 60 = true := okA_of (n := 59) fun d hd => by obtain ⟨w, _, rfl⟩ := mem_iD hd; rfl
theorem nobl_iD (ws : List Nat) : nobl (.tup (iD ws)) = true := noblA_of fun d hd => by obtain ⟨w, _, rfl⟩ := mem_iD hd; rfl
theorem ok_cD {c : List Nat} (h : Gs c) : okD (.tup (cD c)) 60 = true := okA_of (n := 59) fun d hd => by
  obtain ⟨_, _, _, h1, _⟩ := gts_kind (cD_mem h d hd)
  exact okD_le (by decide) h1
theorem nobl_cD {c : List Nat} (h : Gs c) : nobl (.tup (cD c)) = true := noblA_of fun d hd => by
  obtain ⟨_, _, _, _, h2⟩ := gts_kind (cD_mem h d hd)
  exact h2
/-- the end of a law -/
theorem law_of {F : Fn} {ns : List Int} (h : W (F [.scr ns] (none, [])) fun d _ => d = .bl true) : ∃ t', F [.scr ns] (none, []) = some (.ok (.bl true) t') := by
  obtain ⟨a, t, e, rfl⟩ := h.ex
  exact ⟨t, e⟩
/-- a drawn circuit of all kinds, by numbers -/
theorem w_circ5 {ns : List Int} {m : Int} {t : Tn} {Q : D → Tn → Prop} (hl : ns.length ≤ 63) (ht : (TOk st) t) (h0 : 0 ≤ m) (hm : m ≤ 1000) (hQ : ∀ c t', Gs c → c.length ≤ m.toNat → (TOk st) t' → Q (.tup (cD c)) t') :
    W (f_law_circuit [.scr ns, .town, .tup ks5, .int m] t) Q := by
  refine w_circuitI hl ht h0 hm ks5_ok gtsK_5 fun cs t' h1 h2 ht' => ?_
  obtain ⟨c, hc, rfl⟩ := cD_of fun g hg => gtsK_sub (h2 g hg)
  rw [cD_len] at h1
  exact hQ c t' hc h1 ht'
end BL
set_option Elab.async false
set_option linter.all false
set_option maxRecDepth 100000
set_option maxHeartbeats 1000000
namespace BL
open PySem BG L2
local macro_rules | `(tactic| infer_instance) => `(tactic| first | (with_reducible first | refine w_seq ?_ | refine w_asg ?_ | refine w_asgP ?_ | refine pr_i ?_ | refine w_eqI ?_ | refine w_neI ?_ | refine w_own ?_ | refine w_par ?_ | refine w_parO ?_ | refine w_expr ?_ | refine w_if ?_ | refine w_sret ?_ | refine w_nil ?_ | refine w_for ?_ | refine w_bin ?_ | refine w_un ?_ | refine w_tup ?_ | refine w_lst ?_ | refine w_call ?_ | refine w_and ?_ | refine w_or ?_ | refine w_ife ?_ | refine w_chain ?_ | refine w_slice ?_ | refine w_oN ?_ | refine w_oS ?_ | refine w_comp ?_ | refine w_itSeq ?_ | refine w_itR ?_ | refine w_evnil ?_ | refine w_evcons ?_ | refine w_evc1 ?_ | refine w_evc0 ?_ | refine w_c ?_ | refine nx_nx ?_ | refine nx_ret ?_ | refine bl_i ?_ | refine in_i ?_ | refine sq_t ?_ | refine sq_l ?_ | refine ls_l ?_ | refine tp_t ?_ | refine w_not ?_ | refine w_addI ?_ | refine w_sub ?_ | refine w_xor ?_ | refine w_ltI ?_ | refine w_leI ?_ | refine w_gtI ?_ | refine w_geI ?_ | refine w_slT ?_ | refine w_slL ?_ | refine w_lenT ?_ | refine w_lenL ?_ | refine w_lenS ?_ | refine w_tupL ?_ | refine w_tupT ?_ | refine w_lstL ?_ | refine w_lstT ?_ | refine w_neg ?_ | refine w_isn ?_ | refine w_isnn ?_ | refine w_begun ?_ | refine w_ret ?_ | refine w_resE ?_) | (with_reducible refine w_var (by with_unfolding_all rfl) ?_) | (with_reducible refine w_peekV (by with_unfolding_all rfl) ?_) | (with_reducible refine w_peekO (by with_unfolding_all rfl) ?_) | (with_reducible refine w_app (by with_unfolding_all rfl) ?_) | (with_reducible refine w_frz (by with_unfolding_all rfl) ?_) | (with_reducible refine w_scr (by with_unfolding_all rfl) ?_) | (with_reducible refine w_tc (by with_unfolding_all rfl) ?_) | (with_reducible refine w_stc (by with_unfolding_all rfl) ?_) | (with_reducible refine w_tr (by with_unfolding_all rfl) ?_) | (with_reducible refine w_str (by with_unfolding_all rfl) ?_) | (with_reducible refine w_idxT (by with_unfolding_all rfl) ?_) | (with_reducible refine w_idxL (by with_unfolding_all rfl) ?_) | (with_reducible refine w_isi (by with_unfolding_all rfl) ?_) | ((with_reducible first | refine w_addT ?_ ?_ | refine w_addL ?_ ?_ | refine w_mulI ?_ ?_ | refine w_mulT ?_ ?_ | refine w_mulL ?_ ?_ | refine w_mod ?_ ?_ | refine w_div ?_ ?_ | refine w_pow ?_ ?_ | refine w_rng ?_ ?_); (first | decide | omega | (refine ⟨?_, ?_⟩ <;> omega) | (refine ⟨?_, ?_, ?_⟩ <;> omega) | (simp only [List.length_cons, List.length_nil, List.length_append, List.length_reverse, BL.cD_len, BL.iD_len, BL.mkx_len, BL.sizeL]; omega) | (refine ⟨List.cons_ne_nil _ _, ?_⟩; simp only [List.length_cons, List.length_nil]; omega))) | ((with_reducible first | refine w_eqD ?_ ?_ ?_ | refine w_neD ?_ ?_ ?_ | refine w_inT ?_ ?_ ?_ | refine w_inL ?_ ?_ ?_); (first | rfl | with_unfolding_all rfl); (first | rfl | with_unfolding_all rfl)) | ((with_reducible refine ift_of ?_ ?_); (with_unfolding_all rfl)) | ((with_reducible refine iff_of ?_ ?_); (with_unfolding_all rfl)) | ((with_reducible refine ift2_of ?_ ?_); (with_unfolding_all rfl)) | ((with_reducible refine iff2_of ?_ ?_); (with_unfolding_all rfl)) | ((with_reducible refine ift_of ?_ ?_); exact decide_eq_true (by omega)) | ((with_reducible refine iff_of ?_ ?_); exact decide_eq_false (by omega)) | ((with_reducible refine ift2_of ?_ ?_); exact decide_eq_true (by omega)) | ((with_reducible refine iff2_of ?_ ?_); exact decide_eq_false (by omega)))
theorem rz_fn {n : Nat} {body : Stm} {ds : List D} {c : Nat} (h : body (slots0 n ds) = raise c) : fnOf n body ds = raise c := by
  unfold fnOf
  rw [h]; rfl
/-- if not ..: raise -/
theorem rz_chk {f : Ex} {b : Stm} {S : Sl} {c : Nat} (h : f S = ret (.bl false)) : sIf (eUn oNot f) (sRaise c) b S = raise c := by unfold sIf eUn; rw [h]; rfl
theorem rt_chk {f : Ex} {S : Sl} {c : Nat} (h : f S = ret (.bl true)) : sIf (eUn oNot f) (sRaise c) sNil S = ret (.nx S) := by unfold sIf eUn; rw [h]; rfl
theorem check_exchange_no {d : D} (h : f_is_exchange [d] = ret (.bl false)) : f_check_exchange [d] = raise 3 := rz_fn (rz_chk h)
theorem check_gate_no {d : D} (h : f_is_gate [d] = ret (.bl false)) : f_check_gate [d] = raise 0 := rz_fn (rz_chk h)
theorem check_gate_yes {i : Nat} (h : i < 18) : f_check_gate [gk i] = ret .non := by
  have := is_gate_eq _ (gk_mem h)
  show bnd (sIf (eUn oNot (eCall f_is_gate [eVar 0])) (sRaise 0) sNil [.val (gk i)]) _ = _
  rw [rt_chk this]; rfl
theorem check_exchange_yes {ws : List Nat} (h : IsX ws) : f_check_exchange [.tup (iD ws)] = ret .non := by
  have := is_exchange_yes h
  show bnd (sIf (eUn oNot (eCall f_is_exchange [eVar 0])) (sRaise 3) sNil [.val (.tup (iD ws))]) _ = _
  rw [rt_chk this]; rfl
theorem law_apply_tab : (List.range 18).map (fun i => (List.range 8).map fun (w : Nat) => f_law_apply [gk i, .int (w : Int)]) = (List.range 18).map (fun i => (List.range 8).map fun (w : Nat) => ret (.int (ap i w : Int))) := by with_unfolding_all rfl
theorem law_apply_eq {i w : Nat} (hi : i < 18) (hw : w < 8) : f_law_apply [gk i, .int (w : Int)] = ret (.int (ap i w : Int)) :=
  map_eq_all (map_eq_all law_apply_tab i (List.mem_range.mpr hi)) w (List.mem_range.mpr hw)
theorem law_made_eq {c : List Nat} (hc : Gs c) : f_law_made [.tup (cD c)] = ret (.tup (iD (mkx c))) := by
  refine eq_of_W fun t => w_fn ?_
  show W (b_law_made [.val (.tup (cD c)), .un, .un, .un] t) _
  unfold b_law_made
  repeat (first | infer_instance)
  refine ⟨by decide, by decide, ?_⟩
  refine w_forI (fun k S t' => ∃ x2 x3, S = [.val (.tup (cD c)), .own (iD ((List.range k).map (mkw c))), x2, x3] ∧ t' = t) (k := 0) ⟨_, _, rfl, rfl⟩ (fun k d hd S t' ⟨x2, x3, hS, ht⟩ => ?_) fun S t' ⟨x2, x3, hS, ht⟩ => ?_
  · subst hS ht
    have hk : k < 8 ∧ d = .int (k : Int) := by
      have hd : (rng 8)[k]? = some d := hd
      unfold rng at hd
      rw [List.getElem?_map] at hd
      by_cases h : k < 8
      · rw [List.getElem?_range h] at hd; cases hd; exact ⟨h, rfl⟩
      · rw [List.getElem?_eq_none (by rw [List.length_range]; omega)] at hd; cases hd
    obtain ⟨hk8, rfl⟩ := hk
    refine ⟨_, rfl, ?_⟩
    rw [Nat.zero_add]
    repeat (first | infer_instance)
    refine w_forI (fun j S u => ∃ x3, S = [.val (.tup (cD c)), .own (iD ((List.range k).map (mkw c))), .val (.int (mkw (c.take j) k : Int)), x3] ∧ u = t') (k := 0) ⟨_, rfl, rfl⟩ (fun j d hd S u ⟨x3, hS, ht⟩ => ?_) fun S u ⟨x3, hS, ht⟩ => ?_
    · subst hS ht
      unfold cD at hd
      rw [List.getElem?_map] at hd
      cases hj : c[j]? with
      | none => rw [hj] at hd; cases hd
      | some i =>
        rw [hj] at hd
        cases hd
        have hi := hc i (List.mem_of_getElem? hj)
        refine ⟨_, rfl, ?_⟩
        rw [Nat.zero_add]
        repeat (first | (with_reducible refine w_eq (law_apply_eq hi (mkw_lt (hc.take j) hk8)) ?_) | infer_instance)
        refine ⟨.val (gk i), ?_, rfl⟩
        rw [List.take_add_one, hj, mkw_app]
        rfl
    · subst hS ht
      rw [cD_len, Nat.zero_add, List.take_length]
      repeat (first | infer_instance)
      refine ⟨by rw [iD_len, List.length_map, List.length_range, sizeL]; omega, .val (.int (mkw c k : Int)), x3, ?_, rfl⟩
      rw [List.range_succ, List.map_append, iD_app]
      rfl
  · subst hS ht
    have e : 0 + (rng 8).length = 8 := by decide
    have hS : 0 + (rng (Int.toNat 8)).length = 8 := e
    rw [hS]
    repeat (first | infer_instance)
    exact ⟨rfl, rfl⟩
end BL
set_option Elab.async false
set_option linter.all false
set_option maxRecDepth 100000
set_option maxHeartbeats 1000000
namespace BM
section
variable (cm : Nat → Nat → Bool)
/-- the pair is watched -/
def tk (a b : Nat) : Bool := !cm a b || decide (a = b)
abbrev Fm := Nat → Nat → List Nat
def hit (g a b : Nat) : Bool := tk cm a b && (decide (a = g) || decide (b = g))
/-- all watched pairs with g end with g -/
def rmv (g : Nat) (f : Fm) : Prop := ∀ a b, hit cm g a b = true → (f a b).getLast? = some g
def addF (g : Nat) (f : Fm) : Fm := fun a b => if hit cm g a b = true then f a b ++ [g] else f a b
def dropF (g : Nat) (f : Fm) : Fm := fun a b => if hit cm g a b = true then (f a b).dropLast else f a b
open Classical in
noncomputable def act (g : Nat) (f : Fm) : Fm := if rmv cm g f then dropF cm g f else addF cm g f
/-- no two letters cancel -/
def Red (w : List Nat) : Prop := ∀ u g m v, w = u ++ g :: (m ++ g :: v) → ∃ x ∈ m, cm g x = false
theorem Red.nil : Red cm [] := fun u g m v e => by
  have := congrArg List.length e
  simp at this
noncomputable def run (w : List Nat) (f : Fm) : Fm := w.foldl (fun f g => act cm g f) f
end
end BM
set_option Elab.async false
set_option linter.all false
set_option maxRecDepth 100000
set_option maxHeartbeats 1000000
namespace BL
open PySem BG L2
local macro_rules | `(tactic| infer_instance) => `(tactic| first | (with_reducible first | refine w_seq ?_ | refine w_asg ?_ | refine w_asgP ?_ | refine pr_i ?_ | refine w_eqI ?_ | refine w_neI ?_ | refine w_own ?_ | refine w_par ?_ | refine w_parO ?_ | refine w_expr ?_ | refine w_if ?_ | refine w_sret ?_ | refine w_nil ?_ | refine w_for ?_ | refine w_bin ?_ | refine w_un ?_ | refine w_tup ?_ | refine w_lst ?_ | refine w_call ?_ | refine w_and ?_ | refine w_or ?_ | refine w_ife ?_ | refine w_chain ?_ | refine w_slice ?_ | refine w_oN ?_ | refine w_oS ?_ | refine w_comp ?_ | refine w_itSeq ?_ | refine w_itR ?_ | refine w_evnil ?_ | refine w_evcons ?_ | refine w_evc1 ?_ | refine w_evc0 ?_ | refine w_c ?_ | refine nx_nx ?_ | refine nx_ret ?_ | refine bl_i ?_ | refine in_i ?_ | refine sq_t ?_ | refine sq_l ?_ | refine ls_l ?_ | refine tp_t ?_ | refine w_not ?_ | refine w_addI ?_ | refine w_sub ?_ | refine w_xor ?_ | refine w_ltI ?_ | refine w_leI ?_ | refine w_gtI ?_ | refine w_geI ?_ | refine w_slT ?_ | refine w_slL ?_ | refine w_lenT ?_ | refine w_lenL ?_ | refine w_lenS ?_ | refine w_tupL ?_ | refine w_tupT ?_ | refine w_lstL ?_ | refine w_lstT ?_ | refine w_neg ?_ | refine w_isn ?_ | refine w_isnn ?_ | refine w_begun ?_ | refine w_ret ?_ | refine w_resE ?_) | (with_reducible refine w_var (by with_unfolding_all rfl) ?_) | (with_reducible refine w_peekV (by with_unfolding_all rfl) ?_) | (with_reducible refine w_peekO (by with_unfolding_all rfl) ?_) | (with_reducible refine w_app (by with_unfolding_all rfl) ?_) | (with_reducible refine w_frz (by with_unfolding_all rfl) ?_) | (with_reducible refine w_scr (by with_unfolding_all rfl) ?_) | (with_reducible refine w_tc (by with_unfolding_all rfl) ?_) | (with_reducible refine w_stc (by with_unfolding_all rfl) ?_) | (with_reducible refine w_tr (by with_unfolding_all rfl) ?_) | (with_reducible refine w_str (by with_unfolding_all rfl) ?_) | (with_reducible refine w_idxT (by with_unfolding_all rfl) ?_) | (with_reducible refine w_idxL (by with_unfolding_all rfl) ?_) | (with_reducible refine w_isi (by with_unfolding_all rfl) ?_) | ((with_reducible first | refine w_addT ?_ ?_ | refine w_addL ?_ ?_ | refine w_mulI ?_ ?_ | refine w_mulT ?_ ?_ | refine w_mulL ?_ ?_ | refine w_mod ?_ ?_ | refine w_div ?_ ?_ | refine w_pow ?_ ?_ | refine w_rng ?_ ?_); (first | decide | omega | (refine ⟨?_, ?_⟩ <;> omega) | (refine ⟨?_, ?_, ?_⟩ <;> omega) | (simp only [List.length_cons, List.length_nil, List.length_append, List.length_reverse, BL.cD_len, BL.iD_len, BL.mkx_len, BL.sizeL]; omega) | (refine ⟨List.cons_ne_nil _ _, ?_⟩; simp only [List.length_cons, List.length_nil]; omega))) | ((with_reducible first | refine w_eqD ?_ ?_ ?_ | refine w_neD ?_ ?_ ?_ | refine w_inT ?_ ?_ ?_ | refine w_inL ?_ ?_ ?_); (first | rfl | with_unfolding_all rfl); (first | rfl | with_unfolding_all rfl)) | ((with_reducible refine ift_of ?_ ?_); (with_unfolding_all rfl)) | ((with_reducible refine iff_of ?_ ?_); (with_unfolding_all rfl)) | ((with_reducible refine ift2_of ?_ ?_); (with_unfolding_all rfl)) | ((with_reducible refine iff2_of ?_ ?_); (with_unfolding_all rfl)) | ((with_reducible refine ift_of ?_ ?_); exact decide_eq_true (by omega)) | ((with_reducible refine iff_of ?_ ?_); exact decide_eq_false (by omega)) | ((with_reducible refine ift2_of ?_ ?_); exact decide_eq_true (by omega)) | ((with_reducible refine iff2_of ?_ ?_); exact decide_eq_false (by omega)))
theorem gk_inj : ∀ i, i < 18 → ∀ j, j < 18 → (PyData.eqv (gk i).py (gk j).py = true ↔ i = j) := by
  have h : (List.range 18).map (fun i => (List.range 18).map fun j => PyData.eqv (gk i).py (gk j).py) = (List.range 18).map (fun i => (List.range 18).map fun j => decide (i = j)) := by decide +kernel
  intro i hi j hj
  have := map_eq_all (map_eq_all h i (List.mem_range.mpr hi)) j (List.mem_range.mpr hj)
  rw [this, decide_eq_true_eq]
theorem gk_ok {i : Nat} (h : i < 18) : okD (gk i) 60 = true := by
  obtain ⟨k, ls, e, h1, h2⟩ := gts_kind (gk_mem h)
  exact okD_le (by decide) h1
theorem gk_nobl {i : Nat} (h : i < 18) : nobl (gk i) = true := by
  obtain ⟨k, ls, e, h1, h2⟩ := gts_kind (gk_mem h)
  exact h2
end BL
set_option Elab.async false
set_option linter.all false
set_option maxRecDepth 100000
set_option maxHeartbeats 1000000
namespace BL
open PySem BG L2
local macro_rules | `(tactic| infer_instance) => `(tactic| first | (with_reducible first | refine w_seq ?_ | refine w_asg ?_ | refine w_asgP ?_ | refine pr_i ?_ | refine w_eqI ?_ | refine w_neI ?_ | refine w_own ?_ | refine w_par ?_ | refine w_parO ?_ | refine w_expr ?_ | refine w_if ?_ | refine w_sret ?_ | refine w_nil ?_ | refine w_for ?_ | refine w_bin ?_ | refine w_un ?_ | refine w_tup ?_ | refine w_lst ?_ | refine w_call ?_ | refine w_and ?_ | refine w_or ?_ | refine w_ife ?_ | refine w_chain ?_ | refine w_slice ?_ | refine w_oN ?_ | refine w_oS ?_ | refine w_comp ?_ | refine w_itSeq ?_ | refine w_itR ?_ | refine w_evnil ?_ | refine w_evcons ?_ | refine w_evc1 ?_ | refine w_evc0 ?_ | refine w_c ?_ | refine nx_nx ?_ | refine nx_ret ?_ | refine bl_i ?_ | refine in_i ?_ | refine sq_t ?_ | refine sq_l ?_ | refine ls_l ?_ | refine tp_t ?_ | refine w_not ?_ | refine w_addI ?_ | refine w_sub ?_ | refine w_xor ?_ | refine w_ltI ?_ | refine w_leI ?_ | refine w_gtI ?_ | refine w_geI ?_ | refine w_slT ?_ | refine w_slL ?_ | refine w_lenT ?_ | refine w_lenL ?_ | refine w_lenS ?_ | refine w_tupL ?_ | refine w_tupT ?_ | refine w_lstL ?_ | refine w_lstT ?_ | refine w_neg ?_ | refine w_isn ?_ | refine w_isnn ?_ | refine w_begun ?_ | refine w_ret ?_ | refine w_resE ?_) | (with_reducible refine w_var (by with_unfolding_all rfl) ?_) | (with_reducible refine w_peekV (by with_unfolding_all rfl) ?_) | (with_reducible refine w_peekO (by with_unfolding_all rfl) ?_) | (with_reducible refine w_app (by with_unfolding_all rfl) ?_) | (with_reducible refine w_frz (by with_unfolding_all rfl) ?_) | (with_reducible refine w_scr (by with_unfolding_all rfl) ?_) | (with_reducible refine w_tc (by with_unfolding_all rfl) ?_) | (with_reducible refine w_stc (by with_unfolding_all rfl) ?_) | (with_reducible refine w_tr (by with_unfolding_all rfl) ?_) | (with_reducible refine w_str (by with_unfolding_all rfl) ?_) | (with_reducible refine w_idxT (by with_unfolding_all rfl) ?_) | (with_reducible refine w_idxL (by with_unfolding_all rfl) ?_) | (with_reducible refine w_isi (by with_unfolding_all rfl) ?_) | ((with_reducible first | refine w_addT ?_ ?_ | refine w_addL ?_ ?_ | refine w_mulI ?_ ?_ | refine w_mulT ?_ ?_ | refine w_mulL ?_ ?_ | refine w_mod ?_ ?_ | refine w_div ?_ ?_ | refine w_pow ?_ ?_ | refine w_rng ?_ ?_); (first | decide | omega | (refine ⟨?_, ?_⟩ <;> omega) | (refine ⟨?_, ?_, ?_⟩ <;> omega) | (simp only [List.length_cons, List.length_nil, List.length_append, List.length_reverse, BL.cD_len, BL.iD_len, BL.mkx_len, BL.sizeL]; omega) | (refine ⟨List.cons_ne_nil _ _, ?_⟩; simp only [List.length_cons, List.length_nil]; omega))) | ((with_reducible first | refine w_eqD ?_ ?_ ?_ | refine w_neD ?_ ?_ ?_ | refine w_inT ?_ ?_ ?_ | refine w_inL ?_ ?_ ?_); (first | rfl | with_unfolding_all rfl); (first | rfl | with_unfolding_all rfl)) | ((with_reducible refine ift_of ?_ ?_); (with_unfolding_all rfl)) | ((with_reducible refine iff_of ?_ ?_); (with_unfolding_all rfl)) | ((with_reducible refine ift2_of ?_ ?_); (with_unfolding_all rfl)) | ((with_reducible refine iff2_of ?_ ?_); (with_unfolding_all rfl)) | ((with_reducible refine ift_of ?_ ?_); exact decide_eq_true (by omega)) | ((with_reducible refine iff_of ?_ ?_); exact decide_eq_false (by omega)) | ((with_reducible refine ift2_of ?_ ?_); exact decide_eq_true (by omega)) | ((with_reducible refine iff2_of ?_ ?_); exact decide_eq_false (by omega)))
variable {st : Sto}
theorem okA_iD (ws : List Nat) (n : Nat) : okA (iD ws) n = true := okA_of fun d hd => by obtain ⟨w, _, rfl⟩ := mem_iD hd; rfl
theorem w_tm {op : List D → D → M D} {a b : Ex} {S : Sl} {t : Tn} {Q : D → Tn → Prop} (h : W (a S t) (Tp fun ds t1 => W (b S t1) fun y t2 => W (op ds y t2) Q)) : W (eTM op a b S t) Q := w_bnd (h.mono fun d t1 q => by
  cases d with
  | tup ds => exact w_bnd q
  | _ => exact q.elim)
def fb (m : Int) : Int := if m ≤ 1 then 0 else if m ≤ 2 then 1 else if m ≤ 4 then 2 else 3
end BL
set_option Elab.async false
set_option linter.all false
set_option maxRecDepth 100000
set_option maxHeartbeats 1000000
namespace BL
open PySem BG L2
end BL
set_option Elab.async false
set_option linter.all false
namespace BM
/-- a as a function on all numbers -/
def fn (bs : List Nat) (u : Nat) : Nat := bs.getD u u
theorem fn_map (bs : List Nat) {n : Nat} (h : bs.length = n) : (List.range n).map (fn bs) = bs := by
  subst h
  refine List.ext_getElem (by simp) fun i h1 h2 => ?_
  rw [List.getElem_map, List.getElem_range]
  unfold fn
  rw [List.getD_eq_getElem?_getD, List.getElem?_eq_getElem h2]; rfl
theorem fn_inj {bs : List Nat} {n : Nat} (h : bs.Perm (List.range n)) : ∀ u v, fn bs u = fn bs v → u = v := fun u v e => by
  have hl : bs.length = n := by rw [h.length_eq, List.length_range]
  have nd : bs.Nodup := h.nodup_iff.mpr List.nodup_range
  have lt : ∀ i, i < n → fn bs i < n := fun i hi => by
    unfold fn
    rw [List.getD_eq_getElem?_getD, List.getElem?_eq_getElem (by omega)]
    exact List.mem_range.mp (h.mem_iff.mp (List.getElem_mem ..))
  have ge : ∀ i, ¬ i < n → fn bs i = i := fun i hi => by
    unfold fn
    rw [List.getD_eq_getElem?_getD, List.getElem?_eq_none (by omega)]; rfl
  by_cases hu : u < n <;> by_cases hv : v < n
  · unfold fn at e
    rw [List.getD_eq_getElem?_getD, List.getD_eq_getElem?_getD, List.getElem?_eq_getElem (by omega), List.getElem?_eq_getElem (by omega)] at e
    exact (List.getElem_inj nd).mp e
  · have := lt u hu; rw [e, ge v hv] at this; omega
  · have := lt v hv; rw [← e, ge u hu] at this; omega
  · rw [ge u hu, ge v hv] at e; exact e
end BM
set_option Elab.async false
set_option linter.all false
namespace BM
def ap8 (p w : Nat) : Nat := Nat.land (Nat.shiftRight p (Nat.mul 3 w)) 7
def isMin (p w : Nat) : Nat → Nat → Bool
  | 0, _ => false
  | f+1, c => match Nat.ble c w with
    | true => Nat.beq c w
    | false => isMin p w f (ap8 p c)
def mn (p w : Nat) : Bool := isMin p w 8 (ap8 p w)
def leaf (p : Nat) (b : Bool) : Bool := (b ^^ (mn p 0 ^^ (mn p 1 ^^ (mn p 2 ^^ (mn p 3 ^^ (mn p 4 ^^ (mn p 5 ^^ (mn p 6 ^^ mn p 7)))))))) == false
def each (k : Nat → List Nat → Bool → Bool) : List Nat → List Nat → Bool → Bool
  | pre, [], _ => true
  | pre, x :: r, b => k x (pre ++ r) b && each k (pre ++ [x]) r (!b)
def go : Nat → Nat → Nat → List Nat → Bool → Bool
  | 0, sh, p, rest, b => leaf p b
  | n+1, sh, p, rest, b => each (fun x r b' => go n (Nat.add sh 3) (Nat.add p (Nat.shiftLeft x sh)) r (b ^^ b')) [] rest false
end BM
set_option Elab.async false
set_option linter.all false
set_option Elab.async false
set_option linter.all false
set_option Elab.async false
set_option linter.all false
namespace BM
def it (f : Nat → Nat) : Nat → Nat → Nat
  | 0, w => w
  | n + 1, w => f (it f n w)
end BM
set_option Elab.async false
set_option linter.all false
namespace BM
/-- the least k ≥ 1 with it f k w = w (8 at most) -/
def olF (f : Nat → Nat) (w : Nat) : Nat → Nat → Nat
  | 0, k => k
  | n + 1, k => if it f k w = w then k else olF f w n (k + 1)
def ol (f : Nat → Nat) (w : Nat) : Nat := olF f w 8 1
/-- a permutation of 0..7, as a function on all numbers -/
structure Pm (f : Nat → Nat) : Prop where
  inj : ∀ u v, f u = f v → u = v
  lt : ∀ u, u < 8 → f u < 8
/-- the words of the orbit, in its order -/
def orb (f : Nat → Nat) (w : Nat) : List Nat := (List.range (ol f w)).map fun i => it f i w
end BM
set_option Elab.async false
set_option linter.all false
namespace BM
/-- w is the least of its orbit -/
def lst (f : Nat → Nat) (w : Nat) : Bool := (orb f w).all fun v => decide (w ≤ v)
end BM
set_option Elab.async false
set_option linter.all false
namespace BM
theorem fn_get {xs : List Nat} {w : Nat} (h : w < xs.length) : fn xs w = xs[w] := by
  unfold fn; rw [List.getD_eq_getElem?_getD, List.getElem?_eq_getElem h]; rfl
theorem pm_fn {xs : List Nat} (h : xs.Perm (List.range 8)) : Pm (fn xs) := ⟨fn_inj h, fun u hu => by
  have hl : xs.length = 8 := by rw [h.length_eq, List.length_range]
  rw [fn_get (by omega)]
  exact List.mem_range.mp (h.mem_iff.mp (List.getElem_mem ..))⟩
/-- the number of inversions -/
def inv : List Nat → Nat
  | [] => 0
  | x :: r => (r.filter fun v => decide (v < x)).length + inv r
end BM
set_option Elab.async false
set_option linter.all false
set_option Elab.async false
set_option linter.all false
set_option maxRecDepth 100000
set_option maxHeartbeats 1000000
namespace BL
open PySem BG L2
local macro_rules | `(tactic| infer_instance) => `(tactic| first | (with_reducible first | refine w_seq ?_ | refine w_asg ?_ | refine w_asgP ?_ | refine pr_i ?_ | refine w_eqI ?_ | refine w_neI ?_ | refine w_own ?_ | refine w_par ?_ | refine w_parO ?_ | refine w_expr ?_ | refine w_if ?_ | refine w_sret ?_ | refine w_nil ?_ | refine w_for ?_ | refine w_bin ?_ | refine w_un ?_ | refine w_tup ?_ | refine w_lst ?_ | refine w_call ?_ | refine w_and ?_ | refine w_or ?_ | refine w_ife ?_ | refine w_chain ?_ | refine w_slice ?_ | refine w_oN ?_ | refine w_oS ?_ | refine w_comp ?_ | refine w_itSeq ?_ | refine w_itR ?_ | refine w_evnil ?_ | refine w_evcons ?_ | refine w_evc1 ?_ | refine w_evc0 ?_ | refine w_c ?_ | refine nx_nx ?_ | refine nx_ret ?_ | refine bl_i ?_ | refine in_i ?_ | refine sq_t ?_ | refine sq_l ?_ | refine ls_l ?_ | refine tp_t ?_ | refine w_not ?_ | refine w_addI ?_ | refine w_sub ?_ | refine w_xor ?_ | refine w_ltI ?_ | refine w_leI ?_ | refine w_gtI ?_ | refine w_geI ?_ | refine w_slT ?_ | refine w_slL ?_ | refine w_lenT ?_ | refine w_lenL ?_ | refine w_lenS ?_ | refine w_tupL ?_ | refine w_tupT ?_ | refine w_lstL ?_ | refine w_lstT ?_ | refine w_neg ?_ | refine w_isn ?_ | refine w_isnn ?_ | refine w_begun ?_ | refine w_ret ?_ | refine w_resE ?_) | (with_reducible refine w_var (by with_unfolding_all rfl) ?_) | (with_reducible refine w_peekV (by with_unfolding_all rfl) ?_) | (with_reducible refine w_peekO (by with_unfolding_all rfl) ?_) | (with_reducible refine w_app (by with_unfolding_all rfl) ?_) | (with_reducible refine w_frz (by with_unfolding_all rfl) ?_) | (with_reducible refine w_scr (by with_unfolding_all rfl) ?_) | (with_reducible refine w_tc (by with_unfolding_all rfl) ?_) | (with_reducible refine w_stc (by with_unfolding_all rfl) ?_) | (with_reducible refine w_tr (by with_unfolding_all rfl) ?_) | (with_reducible refine w_str (by with_unfolding_all rfl) ?_) | (with_reducible refine w_idxT (by with_unfolding_all rfl) ?_) | (with_reducible refine w_idxL (by with_unfolding_all rfl) ?_) | (with_reducible refine w_isi (by with_unfolding_all rfl) ?_) | ((with_reducible first | refine w_addT ?_ ?_ | refine w_addL ?_ ?_ | refine w_mulI ?_ ?_ | refine w_mulT ?_ ?_ | refine w_mulL ?_ ?_ | refine w_mod ?_ ?_ | refine w_div ?_ ?_ | refine w_pow ?_ ?_ | refine w_rng ?_ ?_); (first | decide | omega | (refine ⟨?_, ?_⟩ <;> omega) | (refine ⟨?_, ?_, ?_⟩ <;> omega) | (simp only [List.length_cons, List.length_nil, List.length_append, List.length_reverse, BL.cD_len, BL.iD_len, BL.mkx_len, BL.sizeL]; omega) | (refine ⟨List.cons_ne_nil _ _, ?_⟩; simp only [List.length_cons, List.length_nil]; omega))) | ((with_reducible first | refine w_eqD ?_ ?_ ?_ | refine w_neD ?_ ?_ ?_ | refine w_inT ?_ ?_ ?_ | refine w_inL ?_ ?_ ?_); (first | rfl | with_unfolding_all rfl); (first | rfl | with_unfolding_all rfl)) | ((with_reducible refine ift_of ?_ ?_); (with_unfolding_all rfl)) | ((with_reducible refine iff_of ?_ ?_); (with_unfolding_all rfl)) | ((with_reducible refine ift2_of ?_ ?_); (with_unfolding_all rfl)) | ((with_reducible refine iff2_of ?_ ?_); (with_unfolding_all rfl)) | ((with_reducible refine ift_of ?_ ?_); exact decide_eq_true (by omega)) | ((with_reducible refine iff_of ?_ ?_); exact decide_eq_false (by omega)) | ((with_reducible refine ift2_of ?_ ?_); exact decide_eq_true (by omega)) | ((with_reducible refine iff2_of ?_ ?_); exact decide_eq_false (by omega)))
theorem fx_get {xs : List Nat} (hl : xs.length = 8) {w : Nat} (hw : w < 8) : xs[w]? = some (BM.fn xs w) := by
  rw [List.getElem?_eq_getElem (by omega), BM.fn_get (by omega)]
theorem fx_lt {xs : List Nat} (h : IsX xs) {w : Nat} (hw : w < 8) : BM.fn xs w < 8 := (BM.pm_fn h).lt w hw
theorem fx_map {xs : List Nat} (h : IsX xs) : (List.range 8).map (BM.fn xs) = xs := BM.fn_map xs h.len
def inN (f : Nat → Nat) : D → D
  | .int i => .int (f i.toNat : Int)
  | d => d
theorem iD_mapN (f : Nat → Nat) (a : List Nat) : (iD a).map (inN f) = iD (a.map f) := by
  unfold iD; rw [List.map_map, List.map_map]; rfl
theorem same_iD : c_SAME = .tup (iD (List.range 8)) := rfl
theorem then_eq {a b : List Nat} (ha : a.length ≤ 1000) (hw : ∀ w ∈ a, w < 8) (hb : b.length = 8) : f_then [.tup (iD a), .tup (iD b)] = ret (.tup (iD (a.map (BM.fn b)))) := by
  refine eq_of_W fun t => w_fn ?_
  show W (b_then [.val (.tup (iD a)), .val (.tup (iD b)), .un] t) _
  unfold b_then
  repeat (first | infer_instance)
  refine ⟨by rw [iD_len, sizeL]; omega, w_cmpM (inN (BM.fn b)) (fun d hd => ?_) ?_⟩
  · obtain ⟨w, hw', rfl⟩ := mem_iD hd
    refine ⟨_, rfl, eq_of_W fun t => ?_⟩
    repeat (first | (with_reducible refine w_idxT (atI_iD (fx_get hb (hw w hw'))) ?_) | infer_instance)
    exact ⟨rfl, rfl⟩
  · rw [iD_mapN]
    repeat (first | infer_instance)
    exact ⟨rfl, rfl⟩
abbrev thn (a b : List Nat) : List Nat := a.map (BM.fn b)
theorem thn_x {a b : List Nat} (ha : IsX a) (hb : IsX b) : IsX (thn a b) := by
  have h1 : (a.map (BM.fn b)).Perm ((List.range 8).map (BM.fn b)) := List.Perm.map _ ha
  rw [fx_map hb] at h1
  exact h1.trans hb
theorem thenX {a b : List Nat} (ha : IsX a) (hb : IsX b) : f_then [.tup (iD a), .tup (iD b)] = ret (.tup (iD (thn a b))) := then_eq (by rw [ha.len]; decide) (fun w hw => ha.lt hw) hb.len
theorem fx_thn {a b : List Nat} (ha : IsX a) (hb : IsX b) {w : Nat} (hw : w < 8) : BM.fn (thn a b) w = BM.fn b (BM.fn a w) := by
  have h1 := fx_get (thn_x ha hb).len hw
  rw [List.getElem?_map, fx_get ha.len hw] at h1
  exact (Option.some.inj h1).symm
theorem x_ext {a b : List Nat} (ha : IsX a) (hb : IsX b) (h : ∀ w, w < 8 → BM.fn a w = BM.fn b w) : a = b := by
  rw [← fx_map ha, ← fx_map hb]
  exact List.map_congr_left fun w hw => h w (List.mem_range.mp hw)
theorem range_x : IsX (List.range 8) := .refl _
theorem fx_range {w : Nat} (hw : w < 8) : BM.fn (List.range 8) w = w := by
  have h1 := fx_get range_x.len hw
  rw [List.getElem?_range hw] at h1
  exact (Option.some.inj h1).symm
theorem idx_cast {w : Nat} : ∀ {xs : List Nat}, (xs.map fun (v : Nat) => (v : Int)).idxOf (w : Int) = xs.idxOf w
  | [] => rfl
  | x :: xs => by
    rw [List.map_cons, List.idxOf_cons, List.idxOf_cons, idx_cast]
    by_cases e : x = w
    · subst e; simp
    · have e1 : ((x : Int) == (w : Int)) = false := beq_eq_false_iff_ne.mpr fun z => e (by omega)
      have e2 : (x == w) = false := beq_eq_false_iff_ne.mpr e
      rw [e1, e2]
theorem w_idxOf {xs : List Nat} {w : Nat} {t : Tn} {Q : D → Tn → Prop} (h : w ∈ xs) (q : Q (.int (xs.idxOf w : Nat)) t) : W (pIdxOf (iD xs) (.int (w : Int)) t) Q := by
  unfold pIdxOf
  rw [intsD_iD]
  show W ((if (w : Int) ∈ xs.map (fun (v : Nat) => (v : Int)) then ret (D.int ((xs.map fun (v : Nat) => (v : Int)).idxOf (w : Int) : Nat)) else stuck) t) Q
  rw [if_pos (List.mem_map.mpr ⟨w, h, rfl⟩), idx_cast]
  exact q
def bk (xs : List Nat) : List Nat := (List.range 8).map fun w => xs.idxOf w
theorem IsX.mem {xs : List Nat} (h : IsX xs) {w : Nat} (hw : w < 8) : w ∈ xs := h.mem_iff.mpr (List.mem_range.mpr hw)
theorem w_bkC {xs : List Nat} (hx : IsX xs) {S : Sl} {i j : Nat} (hi : S[i]? = some (.val (.tup (iD xs)))) (hj : j < S.length) (hij : i ≠ j) {t : Tn} {Q : List D → Tn → Prop} (q : Q (iD (bk xs)) t) : W (cmpL (gN j) (eC (.bl true)) (eTM pIdxOf (eVar i) (eVar j)) S (iD (List.range 8)) t) Q := by
  refine w_cmpM (inN fun w => xs.idxOf w) (fun d hd => ?_) (by rw [iD_mapN]; exact q)
  obtain ⟨w, hw', rfl⟩ := mem_iD hd
  refine ⟨S.set j (.val (.int (w : Int))), rfl, eq_of_W fun t => ?_⟩
  refine w_tm (w_var (by rw [List.getElem?_set_ne hij.symm]; exact hi) (tp_t (w_var (List.getElem?_set_self hj) (w_idxOf (hx.mem (List.mem_range.mp hw')) ⟨rfl, rfl⟩))))
theorem back_eq {xs : List Nat} (hx : IsX xs) : f_back [.tup (iD xs)] = ret (.tup (iD (bk xs))) := by
  refine eq_of_W fun t => w_fn ?_
  show W (b_back [.val (.tup (iD xs)), .un] t) _
  unfold b_back
  rw [same_iD]
  repeat (first | infer_instance)
  refine ⟨by decide, w_bkC hx rfl (show 1 < 2 by decide) (by decide) ?_⟩
  repeat (first | infer_instance)
  exact ⟨rfl, rfl⟩
theorem bk_len (xs : List Nat) : (bk xs).length = 8 := by unfold bk; rw [List.length_map, List.length_range]
theorem fx_bk0 {xs : List Nat} (h : IsX xs) {w : Nat} (hw : w < 8) : BM.fn (bk xs) w = xs.idxOf w := by
  have h1 := fx_get (bk_len xs) hw
  unfold bk at h1
  rw [List.getElem?_map, List.getElem?_range hw] at h1
  exact (Option.some.inj h1).symm
theorem fx_bk {xs : List Nat} (h : IsX xs) {w : Nat} (hw : w < 8) : BM.fn xs (BM.fn (bk xs) w) = w := by
  rw [fx_bk0 h hw]
  have hl : xs.idxOf w < xs.length := List.idxOf_lt_length_of_mem (h.mem hw)
  have e := fx_get h.len (w := xs.idxOf w) (by rw [← h.len]; exact hl)
  rw [List.getElem?_eq_getElem hl, List.getElem_idxOf hl] at e
  exact (Option.some.inj e).symm
theorem bk_lt {xs : List Nat} (h : IsX xs) {w : Nat} (hw : w < 8) : BM.fn (bk xs) w < 8 := by
  rw [fx_bk0 h hw]
  have := List.idxOf_lt_length_of_mem (h.mem hw)
  rw [h.len] at this; exact this
theorem bk_x {xs : List Nat} (h : IsX xs) : IsX (bk xs) := by
  refine perm_range ?_ ?_ (bk_len xs)
  · refine List.pairwise_map.mpr (List.Pairwise.imp_of_mem (fun {a b} ha hb hab e => hab ?_) List.nodup_range)
    have ha := List.mem_range.mp ha
    have hb := List.mem_range.mp hb
    have e1 := fx_bk h ha
    have e2 := fx_bk h hb
    rw [fx_bk0 h ha] at e1
    rw [fx_bk0 h hb] at e2
    have e : xs.idxOf a = xs.idxOf b := e
    rw [← e1, ← e2, e]
  · intro x hx
    obtain ⟨w, hw, rfl⟩ := List.mem_map.mp hx
    have hw := List.mem_range.mp hw
    have := bk_lt h hw
    rw [fx_bk0 h hw] at this; exact this
theorem bk_fx {xs : List Nat} (h : IsX xs) {w : Nat} (hw : w < 8) : BM.fn (bk xs) (BM.fn xs w) = w := (BM.pm_fn h).inj _ _ (fx_bk h (fx_lt h hw))
theorem thn_bk {xs : List Nat} (h : IsX xs) : thn xs (bk xs) = List.range 8 ∧ thn (bk xs) xs = List.range 8 := by
  refine ⟨x_ext (thn_x h (bk_x h)) range_x fun w hw => ?_, x_ext (thn_x (bk_x h) h) range_x fun w hw => ?_⟩
  · rw [fx_thn h (bk_x h) hw, bk_fx h hw, fx_range hw]
  · rw [fx_thn (bk_x h) h hw, fx_bk h hw, fx_range hw]
theorem iD_inj {a b : List Nat} (h : iD a = iD b) : a = b := by
  unfold iD at h
  exact (List.map_inj_right (fun x y e => by
    have e := D.int.inj e
    omega)).mp h
theorem w_eqX {a b : List Nat} {t : Tn} {Q : D → Tn → Prop} (h : Q (.bl (decide (a = b))) t) : W (pEq (.tup (iD a)) (.tup (iD b)) t) Q := by
  refine w_eqD (ok_iD _) (ok_iD _) ?_
  have : PyData.eqv (D.tup (iD a)).py (D.tup (iD b)).py = decide (a = b) := by
    rw [Bool.eq_iff_iff, eqv_iff (nobl_iD _) (nobl_iD _), decide_eq_true_eq]
    exact ⟨fun e => iD_inj (D.tup.inj e), fun e => by rw [e]⟩
  rw [this]; exact h
end BL
set_option Elab.async false
set_option linter.all false
set_option maxRecDepth 100000
set_option maxHeartbeats 1000000
namespace BL
open PySem BG L2
local macro_rules | `(tactic| infer_instance) => `(tactic| first | (with_reducible first | refine w_seq ?_ | refine w_asg ?_ | refine w_asgP ?_ | refine pr_i ?_ | refine w_eqI ?_ | refine w_neI ?_ | refine w_own ?_ | refine w_par ?_ | refine w_parO ?_ | refine w_expr ?_ | refine w_if ?_ | refine w_sret ?_ | refine w_nil ?_ | refine w_for ?_ | refine w_bin ?_ | refine w_un ?_ | refine w_tup ?_ | refine w_lst ?_ | refine w_call ?_ | refine w_and ?_ | refine w_or ?_ | refine w_ife ?_ | refine w_chain ?_ | refine w_slice ?_ | refine w_oN ?_ | refine w_oS ?_ | refine w_comp ?_ | refine w_itSeq ?_ | refine w_itR ?_ | refine w_evnil ?_ | refine w_evcons ?_ | refine w_evc1 ?_ | refine w_evc0 ?_ | refine w_c ?_ | refine nx_nx ?_ | refine nx_ret ?_ | refine bl_i ?_ | refine in_i ?_ | refine sq_t ?_ | refine sq_l ?_ | refine ls_l ?_ | refine tp_t ?_ | refine w_not ?_ | refine w_addI ?_ | refine w_sub ?_ | refine w_xor ?_ | refine w_ltI ?_ | refine w_leI ?_ | refine w_gtI ?_ | refine w_geI ?_ | refine w_slT ?_ | refine w_slL ?_ | refine w_lenT ?_ | refine w_lenL ?_ | refine w_lenS ?_ | refine w_tupL ?_ | refine w_tupT ?_ | refine w_lstL ?_ | refine w_lstT ?_ | refine w_neg ?_ | refine w_isn ?_ | refine w_isnn ?_ | refine w_begun ?_ | refine w_ret ?_ | refine w_resE ?_) | (with_reducible refine w_var (by with_unfolding_all rfl) ?_) | (with_reducible refine w_peekV (by with_unfolding_all rfl) ?_) | (with_reducible refine w_peekO (by with_unfolding_all rfl) ?_) | (with_reducible refine w_app (by with_unfolding_all rfl) ?_) | (with_reducible refine w_frz (by with_unfolding_all rfl) ?_) | (with_reducible refine w_scr (by with_unfolding_all rfl) ?_) | (with_reducible refine w_tc (by with_unfolding_all rfl) ?_) | (with_reducible refine w_stc (by with_unfolding_all rfl) ?_) | (with_reducible refine w_tr (by with_unfolding_all rfl) ?_) | (with_reducible refine w_str (by with_unfolding_all rfl) ?_) | (with_reducible refine w_idxT (by with_unfolding_all rfl) ?_) | (with_reducible refine w_idxL (by with_unfolding_all rfl) ?_) | (with_reducible refine w_isi (by with_unfolding_all rfl) ?_) | ((with_reducible first | refine w_addT ?_ ?_ | refine w_addL ?_ ?_ | refine w_mulI ?_ ?_ | refine w_mulT ?_ ?_ | refine w_mulL ?_ ?_ | refine w_mod ?_ ?_ | refine w_div ?_ ?_ | refine w_pow ?_ ?_ | refine w_rng ?_ ?_); (first | decide | omega | (refine ⟨?_, ?_⟩ <;> omega) | (refine ⟨?_, ?_, ?_⟩ <;> omega) | (simp only [List.length_cons, List.length_nil, List.length_append, List.length_reverse, BL.cD_len, BL.iD_len, BL.mkx_len, BL.sizeL]; omega) | (refine ⟨List.cons_ne_nil _ _, ?_⟩; simp only [List.length_cons, List.length_nil]; omega))) | ((with_reducible first | refine w_eqD ?_ ?_ ?_ | refine w_neD ?_ ?_ ?_ | refine w_inT ?_ ?_ ?_ | refine w_inL ?_ ?_ ?_); (first | rfl | with_unfolding_all rfl); (first | rfl | with_unfolding_all rfl)) | ((with_reducible refine ift_of ?_ ?_); (with_unfolding_all rfl)) | ((with_reducible refine iff_of ?_ ?_); (with_unfolding_all rfl)) | ((with_reducible refine ift2_of ?_ ?_); (with_unfolding_all rfl)) | ((with_reducible refine iff2_of ?_ ?_); (with_unfolding_all rfl)) | ((with_reducible refine ift_of ?_ ?_); exact decide_eq_true (by omega)) | ((with_reducible refine iff_of ?_ ?_); exact decide_eq_false (by omega)) | ((with_reducible refine ift2_of ?_ ?_); exact decide_eq_true (by omega)) | ((with_reducible refine iff2_of ?_ ?_); exact decide_eq_false (by omega)))
def row (f : Nat → Nat) (w n : Nat) : List Nat := (List.range n).map fun i => BM.it f i w
end BL
set_option Elab.async false
set_option linter.all false
set_option maxRecDepth 100000
set_option maxHeartbeats 1000000
namespace BL
open PySem BG L2
local macro_rules | `(tactic| infer_instance) => `(tactic| first | (with_reducible first | refine w_seq ?_ | refine w_asg ?_ | refine w_asgP ?_ | refine pr_i ?_ | refine w_eqI ?_ | refine w_neI ?_ | refine w_own ?_ | refine w_par ?_ | refine w_parO ?_ | refine w_expr ?_ | refine w_if ?_ | refine w_sret ?_ | refine w_nil ?_ | refine w_for ?_ | refine w_bin ?_ | refine w_un ?_ | refine w_tup ?_ | refine w_lst ?_ | refine w_call ?_ | refine w_and ?_ | refine w_or ?_ | refine w_ife ?_ | refine w_chain ?_ | refine w_slice ?_ | refine w_oN ?_ | refine w_oS ?_ | refine w_comp ?_ | refine w_itSeq ?_ | refine w_itR ?_ | refine w_evnil ?_ | refine w_evcons ?_ | refine w_evc1 ?_ | refine w_evc0 ?_ | refine w_c ?_ | refine nx_nx ?_ | refine nx_ret ?_ | refine bl_i ?_ | refine in_i ?_ | refine sq_t ?_ | refine sq_l ?_ | refine ls_l ?_ | refine tp_t ?_ | refine w_not ?_ | refine w_addI ?_ | refine w_sub ?_ | refine w_xor ?_ | refine w_ltI ?_ | refine w_leI ?_ | refine w_gtI ?_ | refine w_geI ?_ | refine w_slT ?_ | refine w_slL ?_ | refine w_lenT ?_ | refine w_lenL ?_ | refine w_lenS ?_ | refine w_tupL ?_ | refine w_tupT ?_ | refine w_lstL ?_ | refine w_lstT ?_ | refine w_neg ?_ | refine w_isn ?_ | refine w_isnn ?_ | refine w_begun ?_ | refine w_ret ?_ | refine w_resE ?_) | (with_reducible refine w_var (by with_unfolding_all rfl) ?_) | (with_reducible refine w_peekV (by with_unfolding_all rfl) ?_) | (with_reducible refine w_peekO (by with_unfolding_all rfl) ?_) | (with_reducible refine w_app (by with_unfolding_all rfl) ?_) | (with_reducible refine w_frz (by with_unfolding_all rfl) ?_) | (with_reducible refine w_scr (by with_unfolding_all rfl) ?_) | (with_reducible refine w_tc (by with_unfolding_all rfl) ?_) | (with_reducible refine w_stc (by with_unfolding_all rfl) ?_) | (with_reducible refine w_tr (by with_unfolding_all rfl) ?_) | (with_reducible refine w_str (by with_unfolding_all rfl) ?_) | (with_reducible refine w_idxT (by with_unfolding_all rfl) ?_) | (with_reducible refine w_idxL (by with_unfolding_all rfl) ?_) | (with_reducible refine w_isi (by with_unfolding_all rfl) ?_) | ((with_reducible first | refine w_addT ?_ ?_ | refine w_addL ?_ ?_ | refine w_mulI ?_ ?_ | refine w_mulT ?_ ?_ | refine w_mulL ?_ ?_ | refine w_mod ?_ ?_ | refine w_div ?_ ?_ | refine w_pow ?_ ?_ | refine w_rng ?_ ?_); (first | decide | omega | (refine ⟨?_, ?_⟩ <;> omega) | (refine ⟨?_, ?_, ?_⟩ <;> omega) | (simp only [List.length_cons, List.length_nil, List.length_append, List.length_reverse, BL.cD_len, BL.iD_len, BL.mkx_len, BL.sizeL]; omega) | (refine ⟨List.cons_ne_nil _ _, ?_⟩; simp only [List.length_cons, List.length_nil]; omega))) | ((with_reducible first | refine w_eqD ?_ ?_ ?_ | refine w_neD ?_ ?_ ?_ | refine w_inT ?_ ?_ ?_ | refine w_inL ?_ ?_ ?_); (first | rfl | with_unfolding_all rfl); (first | rfl | with_unfolding_all rfl)) | ((with_reducible refine ift_of ?_ ?_); (with_unfolding_all rfl)) | ((with_reducible refine iff_of ?_ ?_); (with_unfolding_all rfl)) | ((with_reducible refine ift2_of ?_ ?_); (with_unfolding_all rfl)) | ((with_reducible refine iff2_of ?_ ?_); (with_unfolding_all rfl)) | ((with_reducible refine ift_of ?_ ?_); exact decide_eq_true (by omega)) | ((with_reducible refine iff_of ?_ ?_); exact decide_eq_false (by omega)) | ((with_reducible refine ift2_of ?_ ?_); exact decide_eq_true (by omega)) | ((with_reducible refine iff2_of ?_ ?_); exact decide_eq_false (by omega)))
def lnT : List D := [.tup [.int 0, .int 1, .int 2], .tup [.int 0, .int 2, .int 1], .tup [.int 1, .int 0, .int 2], .tup [.int 1, .int 2, .int 0], .tup [.int 2, .int 0, .int 1], .tup [.int 2, .int 1, .int 0]]
def ln (j : Nat) : D := lnT.getD j .non
def mvT : List (List Nat) := [[0, 1, 2, 3, 4, 5, 6, 7], [0, 1, 4, 5, 2, 3, 6, 7], [0, 2, 1, 3, 4, 6, 5, 7], [0, 2, 4, 6, 1, 3, 5, 7], [0, 4, 1, 5, 2, 6, 3, 7], [0, 4, 2, 6, 1, 5, 3, 7]]
def mvl (j : Nat) : List Nat := mvT.getD j []
def mv (j w : Nat) : Nat := (mvl j).getD w 0
end BL
set_option Elab.async false
set_option linter.all false
namespace BM
def wt (w : Nat) : Nat := w % 2 + w / 2 % 2 + w / 4
/-- the condition of a name holds of a row -/
def hl : Nat → List Nat → (Nat → Nat) → Bool
  | 0, [], f => decide (f 0 ≠ 0)
  | 2, [], f => decide (f 7 ≠ 7)
  | 1, [x], f => decide (wt x ≤ 1) && decide (f x ≠ x)
  | 3, [x], f => decide (wt x ≠ wt (f x))
  | 6, [x], f => decide (x ^^^ f x ≠ f 0)
  | 8, [x], f => decide (wt x = 1) && decide (wt (f x) ≠ 1)
  | 4, [x, y], f => decide (wt (x ^^^ y) % 2 = 0) && decide (wt (f x ^^^ f y) % 2 = 1)
  | 5, [x, y], f => decide (wt (x ^^^ y) = 1) && decide (1 < wt (f x ^^^ f y))
  | 7, [x, y], f => decide (0 < x) && decide (f 0 ^^^ f x ^^^ f y ^^^ f (x ^^^ y) ≠ 0)
  | _, _, _ => false
end BM
set_option Elab.async false
set_option linter.all false
set_option maxRecDepth 100000
set_option maxHeartbeats 1000000
namespace BL
open PySem BG L2
local macro_rules | `(tactic| infer_instance) => `(tactic| first | (with_reducible first | refine w_seq ?_ | refine w_asg ?_ | refine w_asgP ?_ | refine pr_i ?_ | refine w_eqI ?_ | refine w_neI ?_ | refine w_own ?_ | refine w_par ?_ | refine w_parO ?_ | refine w_expr ?_ | refine w_if ?_ | refine w_sret ?_ | refine w_nil ?_ | refine w_for ?_ | refine w_bin ?_ | refine w_un ?_ | refine w_tup ?_ | refine w_lst ?_ | refine w_call ?_ | refine w_and ?_ | refine w_or ?_ | refine w_ife ?_ | refine w_chain ?_ | refine w_slice ?_ | refine w_oN ?_ | refine w_oS ?_ | refine w_comp ?_ | refine w_itSeq ?_ | refine w_itR ?_ | refine w_evnil ?_ | refine w_evcons ?_ | refine w_evc1 ?_ | refine w_evc0 ?_ | refine w_c ?_ | refine nx_nx ?_ | refine nx_ret ?_ | refine bl_i ?_ | refine in_i ?_ | refine sq_t ?_ | refine sq_l ?_ | refine ls_l ?_ | refine tp_t ?_ | refine w_not ?_ | refine w_addI ?_ | refine w_sub ?_ | refine w_xor ?_ | refine w_ltI ?_ | refine w_leI ?_ | refine w_gtI ?_ | refine w_geI ?_ | refine w_slT ?_ | refine w_slL ?_ | refine w_lenT ?_ | refine w_lenL ?_ | refine w_lenS ?_ | refine w_tupL ?_ | refine w_tupT ?_ | refine w_lstL ?_ | refine w_lstT ?_ | refine w_neg ?_ | refine w_isn ?_ | refine w_isnn ?_ | refine w_begun ?_ | refine w_ret ?_ | refine w_resE ?_) | (with_reducible refine w_var (by with_unfolding_all rfl) ?_) | (with_reducible refine w_peekV (by with_unfolding_all rfl) ?_) | (with_reducible refine w_peekO (by with_unfolding_all rfl) ?_) | (with_reducible refine w_app (by with_unfolding_all rfl) ?_) | (with_reducible refine w_frz (by with_unfolding_all rfl) ?_) | (with_reducible refine w_scr (by with_unfolding_all rfl) ?_) | (with_reducible refine w_tc (by with_unfolding_all rfl) ?_) | (with_reducible refine w_stc (by with_unfolding_all rfl) ?_) | (with_reducible refine w_tr (by with_unfolding_all rfl) ?_) | (with_reducible refine w_str (by with_unfolding_all rfl) ?_) | (with_reducible refine w_idxT (by with_unfolding_all rfl) ?_) | (with_reducible refine w_idxL (by with_unfolding_all rfl) ?_) | (with_reducible refine w_isi (by with_unfolding_all rfl) ?_) | ((with_reducible first | refine w_addT ?_ ?_ | refine w_addL ?_ ?_ | refine w_mulI ?_ ?_ | refine w_mulT ?_ ?_ | refine w_mulL ?_ ?_ | refine w_mod ?_ ?_ | refine w_div ?_ ?_ | refine w_pow ?_ ?_ | refine w_rng ?_ ?_); (first | decide | omega | (refine ⟨?_, ?_⟩ <;> omega) | (refine ⟨?_, ?_, ?_⟩ <;> omega) | (simp only [List.length_cons, List.length_nil, List.length_append, List.length_reverse, BL.cD_len, BL.iD_len, BL.mkx_len, BL.sizeL]; omega) | (refine ⟨List.cons_ne_nil _ _, ?_⟩; simp only [List.length_cons, List.length_nil]; omega))) | ((with_reducible first | refine w_eqD ?_ ?_ ?_ | refine w_neD ?_ ?_ ?_ | refine w_inT ?_ ?_ ?_ | refine w_inL ?_ ?_ ?_); (first | rfl | with_unfolding_all rfl); (first | rfl | with_unfolding_all rfl)) | ((with_reducible refine ift_of ?_ ?_); (with_unfolding_all rfl)) | ((with_reducible refine iff_of ?_ ?_); (with_unfolding_all rfl)) | ((with_reducible refine ift2_of ?_ ?_); (with_unfolding_all rfl)) | ((with_reducible refine iff2_of ?_ ?_); (with_unfolding_all rfl)) | ((with_reducible refine ift_of ?_ ?_); exact decide_eq_true (by omega)) | ((with_reducible refine iff_of ?_ ?_); exact decide_eq_false (by omega)) | ((with_reducible refine ift2_of ?_ ?_); exact decide_eq_true (by omega)) | ((with_reducible refine iff2_of ?_ ?_); exact decide_eq_false (by omega)))
def kn (i : Nat) : Str := (["both", "if", "not", "pick", "swap"] : List Str).getD i ""
def ks (m : Nat) : List Str := ((List.range 5).filter fun i => Nat.testBit m i).map kn
def kd (m : Nat) : List D := (ks m).map D.str
def barN (i : Nat) : List Nat := [[2], [2, 1, 4], [2, 1, 0], [2, 1, 0], [1, 0], [1, 0, 3], [1, 0, 4, 3], [0, 3], [2, 1]].getD i []
/-- a name is allowed for kinds -/
def al (m i : Nat) : Bool := !(barN i).any fun k => Nat.testBit m k
theorem x_at {xs : List Nat} (hx : IsX xs) {w : Nat} (hw : w < 8) : atI (iD xs) (w : Int) = some (.int (BM.fn xs w : Nat)) := atI_iD (fx_get hx.len hw)
end BL
set_option Elab.async false
set_option linter.all false
set_option maxRecDepth 100000
set_option maxHeartbeats 1000000
namespace BL
open PySem BG L2
local macro_rules | `(tactic| infer_instance) => `(tactic| first | (with_reducible first | refine w_seq ?_ | refine w_asg ?_ | refine w_asgP ?_ | refine pr_i ?_ | refine w_eqI ?_ | refine w_neI ?_ | refine w_own ?_ | refine w_par ?_ | refine w_parO ?_ | refine w_expr ?_ | refine w_if ?_ | refine w_sret ?_ | refine w_nil ?_ | refine w_for ?_ | refine w_bin ?_ | refine w_un ?_ | refine w_tup ?_ | refine w_lst ?_ | refine w_call ?_ | refine w_and ?_ | refine w_or ?_ | refine w_ife ?_ | refine w_chain ?_ | refine w_slice ?_ | refine w_oN ?_ | refine w_oS ?_ | refine w_comp ?_ | refine w_itSeq ?_ | refine w_itR ?_ | refine w_evnil ?_ | refine w_evcons ?_ | refine w_evc1 ?_ | refine w_evc0 ?_ | refine w_c ?_ | refine nx_nx ?_ | refine nx_ret ?_ | refine bl_i ?_ | refine in_i ?_ | refine sq_t ?_ | refine sq_l ?_ | refine ls_l ?_ | refine tp_t ?_ | refine w_not ?_ | refine w_addI ?_ | refine w_sub ?_ | refine w_xor ?_ | refine w_ltI ?_ | refine w_leI ?_ | refine w_gtI ?_ | refine w_geI ?_ | refine w_slT ?_ | refine w_slL ?_ | refine w_lenT ?_ | refine w_lenL ?_ | refine w_lenS ?_ | refine w_tupL ?_ | refine w_tupT ?_ | refine w_lstL ?_ | refine w_lstT ?_ | refine w_neg ?_ | refine w_isn ?_ | refine w_isnn ?_ | refine w_begun ?_ | refine w_ret ?_ | refine w_resE ?_) | (with_reducible refine w_var (by with_unfolding_all rfl) ?_) | (with_reducible refine w_peekV (by with_unfolding_all rfl) ?_) | (with_reducible refine w_peekO (by with_unfolding_all rfl) ?_) | (with_reducible refine w_app (by with_unfolding_all rfl) ?_) | (with_reducible refine w_frz (by with_unfolding_all rfl) ?_) | (with_reducible refine w_scr (by with_unfolding_all rfl) ?_) | (with_reducible refine w_tc (by with_unfolding_all rfl) ?_) | (with_reducible refine w_stc (by with_unfolding_all rfl) ?_) | (with_reducible refine w_tr (by with_unfolding_all rfl) ?_) | (with_reducible refine w_str (by with_unfolding_all rfl) ?_) | (with_reducible refine w_idxT (by with_unfolding_all rfl) ?_) | (with_reducible refine w_idxL (by with_unfolding_all rfl) ?_) | (with_reducible refine w_isi (by with_unfolding_all rfl) ?_) | ((with_reducible first | refine w_addT ?_ ?_ | refine w_addL ?_ ?_ | refine w_mulI ?_ ?_ | refine w_mulT ?_ ?_ | refine w_mulL ?_ ?_ | refine w_mod ?_ ?_ | refine w_div ?_ ?_ | refine w_pow ?_ ?_ | refine w_rng ?_ ?_); (first | decide | omega | (refine ⟨?_, ?_⟩ <;> omega) | (refine ⟨?_, ?_, ?_⟩ <;> omega) | (simp only [List.length_cons, List.length_nil, List.length_append, List.length_reverse, BL.cD_len, BL.iD_len, BL.mkx_len, BL.sizeL]; omega) | (refine ⟨List.cons_ne_nil _ _, ?_⟩; simp only [List.length_cons, List.length_nil]; omega))) | ((with_reducible first | refine w_eqD ?_ ?_ ?_ | refine w_neD ?_ ?_ ?_ | refine w_inT ?_ ?_ ?_ | refine w_inL ?_ ?_ ?_); (first | rfl | with_unfolding_all rfl); (first | rfl | with_unfolding_all rfl)) | ((with_reducible refine ift_of ?_ ?_); (with_unfolding_all rfl)) | ((with_reducible refine iff_of ?_ ?_); (with_unfolding_all rfl)) | ((with_reducible refine ift2_of ?_ ?_); (with_unfolding_all rfl)) | ((with_reducible refine iff2_of ?_ ?_); (with_unfolding_all rfl)) | ((with_reducible refine ift_of ?_ ?_); exact decide_eq_true (by omega)) | ((with_reducible refine iff_of ?_ ?_); exact decide_eq_false (by omega)) | ((with_reducible refine ift2_of ?_ ?_); exact decide_eq_true (by omega)) | ((with_reducible refine iff2_of ?_ ?_); exact decide_eq_false (by omega)))
end BL
set_option Elab.async false
set_option linter.all false
set_option maxRecDepth 100000
set_option maxHeartbeats 1000000
namespace BL
open PySem BG L2
local macro_rules | `(tactic| infer_instance) => `(tactic| first | (with_reducible first | refine w_seq ?_ | refine w_asg ?_ | refine w_asgP ?_ | refine pr_i ?_ | refine w_eqI ?_ | refine w_neI ?_ | refine w_own ?_ | refine w_par ?_ | refine w_parO ?_ | refine w_expr ?_ | refine w_if ?_ | refine w_sret ?_ | refine w_nil ?_ | refine w_for ?_ | refine w_bin ?_ | refine w_un ?_ | refine w_tup ?_ | refine w_lst ?_ | refine w_call ?_ | refine w_and ?_ | refine w_or ?_ | refine w_ife ?_ | refine w_chain ?_ | refine w_slice ?_ | refine w_oN ?_ | refine w_oS ?_ | refine w_comp ?_ | refine w_itSeq ?_ | refine w_itR ?_ | refine w_evnil ?_ | refine w_evcons ?_ | refine w_evc1 ?_ | refine w_evc0 ?_ | refine w_c ?_ | refine nx_nx ?_ | refine nx_ret ?_ | refine bl_i ?_ | refine in_i ?_ | refine sq_t ?_ | refine sq_l ?_ | refine ls_l ?_ | refine tp_t ?_ | refine w_not ?_ | refine w_addI ?_ | refine w_sub ?_ | refine w_xor ?_ | refine w_ltI ?_ | refine w_leI ?_ | refine w_gtI ?_ | refine w_geI ?_ | refine w_slT ?_ | refine w_slL ?_ | refine w_lenT ?_ | refine w_lenL ?_ | refine w_lenS ?_ | refine w_tupL ?_ | refine w_tupT ?_ | refine w_lstL ?_ | refine w_lstT ?_ | refine w_neg ?_ | refine w_isn ?_ | refine w_isnn ?_ | refine w_begun ?_ | refine w_ret ?_ | refine w_resE ?_) | (with_reducible refine w_var (by with_unfolding_all rfl) ?_) | (with_reducible refine w_peekV (by with_unfolding_all rfl) ?_) | (with_reducible refine w_peekO (by with_unfolding_all rfl) ?_) | (with_reducible refine w_app (by with_unfolding_all rfl) ?_) | (with_reducible refine w_frz (by with_unfolding_all rfl) ?_) | (with_reducible refine w_scr (by with_unfolding_all rfl) ?_) | (with_reducible refine w_tc (by with_unfolding_all rfl) ?_) | (with_reducible refine w_stc (by with_unfolding_all rfl) ?_) | (with_reducible refine w_tr (by with_unfolding_all rfl) ?_) | (with_reducible refine w_str (by with_unfolding_all rfl) ?_) | (with_reducible refine w_idxT (by with_unfolding_all rfl) ?_) | (with_reducible refine w_idxL (by with_unfolding_all rfl) ?_) | (with_reducible refine w_isi (by with_unfolding_all rfl) ?_) | ((with_reducible first | refine w_addT ?_ ?_ | refine w_addL ?_ ?_ | refine w_mulI ?_ ?_ | refine w_mulT ?_ ?_ | refine w_mulL ?_ ?_ | refine w_mod ?_ ?_ | refine w_div ?_ ?_ | refine w_pow ?_ ?_ | refine w_rng ?_ ?_); (first | decide | omega | (refine ⟨?_, ?_⟩ <;> omega) | (refine ⟨?_, ?_, ?_⟩ <;> omega) | (simp only [List.length_cons, List.length_nil, List.length_append, List.length_reverse, BL.cD_len, BL.iD_len, BL.mkx_len, BL.sizeL]; omega) | (refine ⟨List.cons_ne_nil _ _, ?_⟩; simp only [List.length_cons, List.length_nil]; omega))) | ((with_reducible first | refine w_eqD ?_ ?_ ?_ | refine w_neD ?_ ?_ ?_ | refine w_inT ?_ ?_ ?_ | refine w_inL ?_ ?_ ?_); (first | rfl | with_unfolding_all rfl); (first | rfl | with_unfolding_all rfl)) | ((with_reducible refine ift_of ?_ ?_); (with_unfolding_all rfl)) | ((with_reducible refine iff_of ?_ ?_); (with_unfolding_all rfl)) | ((with_reducible refine ift2_of ?_ ?_); (with_unfolding_all rfl)) | ((with_reducible refine iff2_of ?_ ?_); (with_unfolding_all rfl)) | ((with_reducible refine ift_of ?_ ?_); exact decide_eq_true (by omega)) | ((with_reducible refine iff_of ?_ ?_); exact decide_eq_false (by omega)) | ((with_reducible refine ift2_of ?_ ?_); exact decide_eq_true (by omega)) | ((with_reducible refine iff2_of ?_ ?_); exact decide_eq_false (by omega)))
end BL
set_option Elab.async false
set_option linter.all false
set_option maxRecDepth 100000
set_option maxHeartbeats 1000000
namespace BL
open PySem BG L2
local macro_rules | `(tactic| infer_instance) => `(tactic| first | (with_reducible first | refine w_seq ?_ | refine w_asg ?_ | refine w_asgP ?_ | refine pr_i ?_ | refine w_eqI ?_ | refine w_neI ?_ | refine w_own ?_ | refine w_par ?_ | refine w_parO ?_ | refine w_expr ?_ | refine w_if ?_ | refine w_sret ?_ | refine w_nil ?_ | refine w_for ?_ | refine w_bin ?_ | refine w_un ?_ | refine w_tup ?_ | refine w_lst ?_ | refine w_call ?_ | refine w_and ?_ | refine w_or ?_ | refine w_ife ?_ | refine w_chain ?_ | refine w_slice ?_ | refine w_oN ?_ | refine w_oS ?_ | refine w_comp ?_ | refine w_itSeq ?_ | refine w_itR ?_ | refine w_evnil ?_ | refine w_evcons ?_ | refine w_evc1 ?_ | refine w_evc0 ?_ | refine w_c ?_ | refine nx_nx ?_ | refine nx_ret ?_ | refine bl_i ?_ | refine in_i ?_ | refine sq_t ?_ | refine sq_l ?_ | refine ls_l ?_ | refine tp_t ?_ | refine w_not ?_ | refine w_addI ?_ | refine w_sub ?_ | refine w_xor ?_ | refine w_ltI ?_ | refine w_leI ?_ | refine w_gtI ?_ | refine w_geI ?_ | refine w_slT ?_ | refine w_slL ?_ | refine w_lenT ?_ | refine w_lenL ?_ | refine w_lenS ?_ | refine w_tupL ?_ | refine w_tupT ?_ | refine w_lstL ?_ | refine w_lstT ?_ | refine w_neg ?_ | refine w_isn ?_ | refine w_isnn ?_ | refine w_begun ?_ | refine w_ret ?_ | refine w_resE ?_) | (with_reducible refine w_var (by with_unfolding_all rfl) ?_) | (with_reducible refine w_peekV (by with_unfolding_all rfl) ?_) | (with_reducible refine w_peekO (by with_unfolding_all rfl) ?_) | (with_reducible refine w_app (by with_unfolding_all rfl) ?_) | (with_reducible refine w_frz (by with_unfolding_all rfl) ?_) | (with_reducible refine w_scr (by with_unfolding_all rfl) ?_) | (with_reducible refine w_tc (by with_unfolding_all rfl) ?_) | (with_reducible refine w_stc (by with_unfolding_all rfl) ?_) | (with_reducible refine w_tr (by with_unfolding_all rfl) ?_) | (with_reducible refine w_str (by with_unfolding_all rfl) ?_) | (with_reducible refine w_idxT (by with_unfolding_all rfl) ?_) | (with_reducible refine w_idxL (by with_unfolding_all rfl) ?_) | (with_reducible refine w_isi (by with_unfolding_all rfl) ?_) | ((with_reducible first | refine w_addT ?_ ?_ | refine w_addL ?_ ?_ | refine w_mulI ?_ ?_ | refine w_mulT ?_ ?_ | refine w_mulL ?_ ?_ | refine w_mod ?_ ?_ | refine w_div ?_ ?_ | refine w_pow ?_ ?_ | refine w_rng ?_ ?_); (first | decide | omega | (refine ⟨?_, ?_⟩ <;> omega) | (refine ⟨?_, ?_, ?_⟩ <;> omega) | (simp only [List.length_cons, List.length_nil, List.length_append, List.length_reverse, BL.cD_len, BL.iD_len, BL.mkx_len, BL.sizeL]; omega) | (refine ⟨List.cons_ne_nil _ _, ?_⟩; simp only [List.length_cons, List.length_nil]; omega))) | ((with_reducible first | refine w_eqD ?_ ?_ ?_ | refine w_neD ?_ ?_ ?_ | refine w_inT ?_ ?_ ?_ | refine w_inL ?_ ?_ ?_); (first | rfl | with_unfolding_all rfl); (first | rfl | with_unfolding_all rfl)) | ((with_reducible refine ift_of ?_ ?_); (with_unfolding_all rfl)) | ((with_reducible refine iff_of ?_ ?_); (with_unfolding_all rfl)) | ((with_reducible refine ift2_of ?_ ?_); (with_unfolding_all rfl)) | ((with_reducible refine iff2_of ?_ ?_); (with_unfolding_all rfl)) | ((with_reducible refine ift_of ?_ ?_); exact decide_eq_true (by omega)) | ((with_reducible refine iff_of ?_ ?_); exact decide_eq_false (by omega)) | ((with_reducible refine ift2_of ?_ ?_); exact decide_eq_true (by omega)) | ((with_reducible refine iff2_of ?_ ?_); exact decide_eq_false (by omega)))
variable {st : Sto}
def apL (i : Nat) : List Nat := apT.getD i []
theorem apL_x : ∀ i, i < 18 → IsX (apL i) := fun i hi => by
  have h : ∀ i, i < 18 → (apL i).Nodup ∧ (∀ x ∈ apL i, x < 8) ∧ (apL i).length = 8 := by decide +kernel
  obtain ⟨h1, h2, h3⟩ := h i hi
  exact perm_range h1 h2 h3
theorem fx_mkx {c : List Nat} {w : Nat} (hw : w < 8) : BM.fn (mkx c) w = mkw c w := by
  have h := fx_get (mkx_len c) hw
  rw [mkx_get hw] at h
  exact (Option.some.inj h).symm
theorem thn_assoc {a b c : List Nat} (ha : IsX a) (hb : IsX b) (hc : IsX c) : thn (thn a b) c = thn a (thn b c) := by
  refine x_ext (thn_x (thn_x ha hb) hc) (thn_x ha (thn_x hb hc)) fun w hw => ?_
  rw [fx_thn (thn_x ha hb) hc hw, fx_thn ha hb hw, fx_thn ha (thn_x hb hc) hw, fx_thn hb hc (fx_lt ha hw)]
theorem thn_id {a : List Nat} (ha : IsX a) : thn a (List.range 8) = a ∧ thn (List.range 8) a = a := by
  refine ⟨x_ext (thn_x ha range_x) ha fun w hw => ?_, x_ext (thn_x range_x ha) ha fun w hw => ?_⟩
  · rw [fx_thn ha range_x hw, fx_range (fx_lt ha hw)]
  · rw [fx_thn range_x ha hw, fx_range hw]
def kg (i : Nat) : Nat := if i < 3 then 0 else if i < 9 then 1 else if i < 12 then 2 else if i < 15 then 3 else 4
end BL
set_option Elab.async false
set_option linter.all false
set_option maxRecDepth 100000
set_option maxHeartbeats 2000000
namespace BL
open PySem BG L2
local macro_rules | `(tactic| infer_instance) => `(tactic| first | (with_reducible first | refine w_seq ?_ | refine w_asg ?_ | refine w_asgP ?_ | refine pr_i ?_ | refine w_eqI ?_ | refine w_neI ?_ | refine w_own ?_ | refine w_par ?_ | refine w_parO ?_ | refine w_expr ?_ | refine w_if ?_ | refine w_sret ?_ | refine w_nil ?_ | refine w_for ?_ | refine w_bin ?_ | refine w_un ?_ | refine w_tup ?_ | refine w_lst ?_ | refine w_call ?_ | refine w_and ?_ | refine w_or ?_ | refine w_ife ?_ | refine w_chain ?_ | refine w_slice ?_ | refine w_oN ?_ | refine w_oS ?_ | refine w_comp ?_ | refine w_itSeq ?_ | refine w_itR ?_ | refine w_evnil ?_ | refine w_evcons ?_ | refine w_evc1 ?_ | refine w_evc0 ?_ | refine w_c ?_ | refine nx_nx ?_ | refine nx_ret ?_ | refine bl_i ?_ | refine in_i ?_ | refine sq_t ?_ | refine sq_l ?_ | refine ls_l ?_ | refine tp_t ?_ | refine w_not ?_ | refine w_addI ?_ | refine w_sub ?_ | refine w_xor ?_ | refine w_ltI ?_ | refine w_leI ?_ | refine w_gtI ?_ | refine w_geI ?_ | refine w_slT ?_ | refine w_slL ?_ | refine w_lenT ?_ | refine w_lenL ?_ | refine w_lenS ?_ | refine w_tupL ?_ | refine w_tupT ?_ | refine w_lstL ?_ | refine w_lstT ?_ | refine w_neg ?_ | refine w_isn ?_ | refine w_isnn ?_ | refine w_begun ?_ | refine w_ret ?_ | refine w_resE ?_) | (with_reducible refine w_var (by with_unfolding_all rfl) ?_) | (with_reducible refine w_peekV (by with_unfolding_all rfl) ?_) | (with_reducible refine w_peekO (by with_unfolding_all rfl) ?_) | (with_reducible refine w_app (by with_unfolding_all rfl) ?_) | (with_reducible refine w_frz (by with_unfolding_all rfl) ?_) | (with_reducible refine w_scr (by with_unfolding_all rfl) ?_) | (with_reducible refine w_tc (by with_unfolding_all rfl) ?_) | (with_reducible refine w_stc (by with_unfolding_all rfl) ?_) | (with_reducible refine w_tr (by with_unfolding_all rfl) ?_) | (with_reducible refine w_str (by with_unfolding_all rfl) ?_) | (with_reducible refine w_idxT (by with_unfolding_all rfl) ?_) | (with_reducible refine w_idxL (by with_unfolding_all rfl) ?_) | (with_reducible refine w_isi (by with_unfolding_all rfl) ?_) | ((with_reducible first | refine w_addT ?_ ?_ | refine w_addL ?_ ?_ | refine w_mulI ?_ ?_ | refine w_mulT ?_ ?_ | refine w_mulL ?_ ?_ | refine w_mod ?_ ?_ | refine w_div ?_ ?_ | refine w_pow ?_ ?_ | refine w_rng ?_ ?_); (first | decide | omega | (refine ⟨?_, ?_⟩ <;> omega) | (refine ⟨?_, ?_, ?_⟩ <;> omega) | (simp only [List.length_cons, List.length_nil, List.length_append, List.length_reverse, BL.cD_len, BL.iD_len, BL.mkx_len, BL.sizeL]; omega) | (refine ⟨List.cons_ne_nil _ _, ?_⟩; simp only [List.length_cons, List.length_nil]; omega))) | ((with_reducible first | refine w_eqD ?_ ?_ ?_ | refine w_neD ?_ ?_ ?_ | refine w_inT ?_ ?_ ?_ | refine w_inL ?_ ?_ ?_); (first | rfl | with_unfolding_all rfl); (first | rfl | with_unfolding_all rfl)) | ((with_reducible refine ift_of ?_ ?_); (with_unfolding_all rfl)) | ((with_reducible refine iff_of ?_ ?_); (with_unfolding_all rfl)) | ((with_reducible refine ift2_of ?_ ?_); (with_unfolding_all rfl)) | ((with_reducible refine iff2_of ?_ ?_); (with_unfolding_all rfl)) | ((with_reducible refine ift_of ?_ ?_); exact decide_eq_true (by omega)) | ((with_reducible refine iff_of ?_ ?_); exact decide_eq_false (by omega)) | ((with_reducible refine ift2_of ?_ ?_); exact decide_eq_true (by omega)) | ((with_reducible refine iff2_of ?_ ?_); exact decide_eq_false (by omega)))
def code (f : List Nat) : Nat := f.foldl (fun a w => 8 * a + w) 0
end BL
set_option Elab.async false
set_option linter.all false
set_option maxRecDepth 100000
namespace BL
end BL
set_option Elab.async false
set_option linter.all false
set_option maxRecDepth 100000
namespace BL
end BL
set_option Elab.async false
set_option linter.all false
set_option maxRecDepth 100000
namespace BL
end BL
set_option Elab.async false
set_option linter.all false
set_option maxRecDepth 100000
namespace BL
end BL
set_option Elab.async false
set_option linter.all false
set_option maxRecDepth 100000
set_option maxHeartbeats 2000000
namespace BL
open PySem BG L2
/-- reached by gates of the kinds m -/
inductive Rch (m : Nat) : List Nat → Prop
  | same : Rch m (List.range 8)
  | step {f : List Nat} {i : Nat} : Rch m f → i < 18 → Nat.testBit m (kg i) = true → Rch m (thn f (apL i))
theorem ap_twice : ∀ i, i < 18 → thn (apL i) (apL i) = List.range 8 := by decide +kernel
theorem thn_twice {f : List Nat} (hf : IsX f) {i : Nat} (hi : i < 18) : thn (thn f (apL i)) (apL i) = f := by
  rw [thn_assoc hf (apL_x i hi) (apL_x i hi), ap_twice i hi, (thn_id hf).1]
theorem Rch.back {m : Nat} {f : List Nat} (hf : IsX f) {i : Nat} (hi : i < 18) (hk : Nat.testBit m (kg i) = true) (h : Rch m (thn f (apL i))) : Rch m f := by
  have := Rch.step h hi hk
  rw [thn_twice hf hi] at this
  exact this
/-- the kinds that stand for the others with the same exchanges -/
def bs (m : Nat) : Nat := if m = 22 then 6 else if m = 18 then 2 else if m = 9 then 1 else if m = 25 then 17 else if m = 28 then 12 else m
end BL
set_option Elab.async false
set_option linter.all false
set_option maxRecDepth 100000
set_option maxHeartbeats 2000000
namespace BL
open PySem BG L2
local macro_rules | `(tactic| infer_instance) => `(tactic| first | (with_reducible first | refine w_seq ?_ | refine w_asg ?_ | refine w_asgP ?_ | refine pr_i ?_ | refine w_eqI ?_ | refine w_neI ?_ | refine w_own ?_ | refine w_par ?_ | refine w_parO ?_ | refine w_expr ?_ | refine w_if ?_ | refine w_sret ?_ | refine w_nil ?_ | refine w_for ?_ | refine w_bin ?_ | refine w_un ?_ | refine w_tup ?_ | refine w_lst ?_ | refine w_call ?_ | refine w_and ?_ | refine w_or ?_ | refine w_ife ?_ | refine w_chain ?_ | refine w_slice ?_ | refine w_oN ?_ | refine w_oS ?_ | refine w_comp ?_ | refine w_itSeq ?_ | refine w_itR ?_ | refine w_evnil ?_ | refine w_evcons ?_ | refine w_evc1 ?_ | refine w_evc0 ?_ | refine w_c ?_ | refine nx_nx ?_ | refine nx_ret ?_ | refine bl_i ?_ | refine in_i ?_ | refine sq_t ?_ | refine sq_l ?_ | refine ls_l ?_ | refine tp_t ?_ | refine w_not ?_ | refine w_addI ?_ | refine w_sub ?_ | refine w_xor ?_ | refine w_ltI ?_ | refine w_leI ?_ | refine w_gtI ?_ | refine w_geI ?_ | refine w_slT ?_ | refine w_slL ?_ | refine w_lenT ?_ | refine w_lenL ?_ | refine w_lenS ?_ | refine w_tupL ?_ | refine w_tupT ?_ | refine w_lstL ?_ | refine w_lstT ?_ | refine w_neg ?_ | refine w_isn ?_ | refine w_isnn ?_ | refine w_begun ?_ | refine w_ret ?_ | refine w_resE ?_) | (with_reducible refine w_var (by with_unfolding_all rfl) ?_) | (with_reducible refine w_peekV (by with_unfolding_all rfl) ?_) | (with_reducible refine w_peekO (by with_unfolding_all rfl) ?_) | (with_reducible refine w_app (by with_unfolding_all rfl) ?_) | (with_reducible refine w_frz (by with_unfolding_all rfl) ?_) | (with_reducible refine w_scr (by with_unfolding_all rfl) ?_) | (with_reducible refine w_tc (by with_unfolding_all rfl) ?_) | (with_reducible refine w_stc (by with_unfolding_all rfl) ?_) | (with_reducible refine w_tr (by with_unfolding_all rfl) ?_) | (with_reducible refine w_str (by with_unfolding_all rfl) ?_) | (with_reducible refine w_idxT (by with_unfolding_all rfl) ?_) | (with_reducible refine w_idxL (by with_unfolding_all rfl) ?_) | (with_reducible refine w_isi (by with_unfolding_all rfl) ?_) | ((with_reducible first | refine w_addT ?_ ?_ | refine w_addL ?_ ?_ | refine w_mulI ?_ ?_ | refine w_mulT ?_ ?_ | refine w_mulL ?_ ?_ | refine w_mod ?_ ?_ | refine w_div ?_ ?_ | refine w_pow ?_ ?_ | refine w_rng ?_ ?_); (first | decide | omega | (refine ⟨?_, ?_⟩ <;> omega) | (refine ⟨?_, ?_, ?_⟩ <;> omega) | (simp only [List.length_cons, List.length_nil, List.length_append, List.length_reverse, BL.cD_len, BL.iD_len, BL.mkx_len, BL.sizeL]; omega) | (refine ⟨List.cons_ne_nil _ _, ?_⟩; simp only [List.length_cons, List.length_nil]; omega))) | ((with_reducible first | refine w_eqD ?_ ?_ ?_ | refine w_neD ?_ ?_ ?_ | refine w_inT ?_ ?_ ?_ | refine w_inL ?_ ?_ ?_); (first | rfl | with_unfolding_all rfl); (first | rfl | with_unfolding_all rfl)) | ((with_reducible refine ift_of ?_ ?_); (with_unfolding_all rfl)) | ((with_reducible refine iff_of ?_ ?_); (with_unfolding_all rfl)) | ((with_reducible refine ift2_of ?_ ?_); (with_unfolding_all rfl)) | ((with_reducible refine iff2_of ?_ ?_); (with_unfolding_all rfl)) | ((with_reducible refine ift_of ?_ ?_); exact decide_eq_true (by omega)) | ((with_reducible refine iff_of ?_ ?_); exact decide_eq_false (by omega)) | ((with_reducible refine ift2_of ?_ ?_); exact decide_eq_true (by omega)) | ((with_reducible refine iff2_of ?_ ?_); exact decide_eq_false (by omega)))
def xT (ks : List (List Nat)) : List D := ks.map fun f => D.tup (iD f)
def gI (m : Nat) : List Nat := (List.range 18).filter fun i => Nat.testBit m (kg i)
theorem mem_gI {m i : Nat} : i ∈ gI m ↔ i < 18 ∧ Nat.testBit m (kg i) = true := by
  unfold gI
  rw [List.mem_filter, List.mem_range]
/-- within a turn: the first gates are done for h -/
structure AJ (m : Nat) (h : List Nat) (is : List Nat) (ks w : List (List Nat)) : Prop where
  nd : ks.Nodup
  rc : ∀ f ∈ ks, Rch m f
  sm : List.range 8 ∈ ks
  wk : ∀ f ∈ w, f ∈ ks
  hk : h ∈ ks
  cl : ∀ f ∈ ks, f ∈ w ∨ f = h ∨ ∀ i ∈ gI m, thn f (apL i) ∈ ks
  dn : ∀ i ∈ is, thn h (apL i) ∈ ks
theorem AJ.new {m : Nat} {is : List Nat} {ks w : List (List Nat)} {h : List Nat} {i : Nat} (a : AJ m h is ks w) (hi : i ∈ gI m) (hn : thn h (apL i) ∉ ks) : AJ m h (is ++ [i]) (ks ++ [thn h (apL i)]) (w ++ [thn h (apL i)]) where
  nd := List.nodup_append.mpr ⟨a.nd, by simp, fun x hx y hy => by rw [List.mem_singleton] at hy; subst hy; exact fun e => hn (e ▸ hx)⟩
  rc := fun f hf => by
    rcases List.mem_append.mp hf with z | z
    · exact a.rc f z
    · rw [List.mem_singleton] at z
      rw [z]
      exact .step (a.rc h a.hk) (mem_gI.mp hi).1 (mem_gI.mp hi).2
  sm := List.mem_append_left _ a.sm
  wk := fun f hf => by
    rcases List.mem_append.mp hf with z | z
    · exact List.mem_append_left _ (a.wk f z)
    · exact List.mem_append_right _ z
  hk := List.mem_append_left _ a.hk
  cl := fun f hf => by
    rcases List.mem_append.mp hf with z | z
    · rcases a.cl f z with y | y | y
      · exact .inl (List.mem_append_left _ y)
      · exact .inr (.inl y)
      · exact .inr (.inr fun j hj => List.mem_append_left _ (y j hj))
    · exact .inl (List.mem_append_right _ z)
  dn := fun j hj => by
    rcases List.mem_append.mp hj with z | z
    · exact List.mem_append_left _ (a.dn j z)
    · rw [List.mem_singleton] at z
      rw [z]
      exact List.mem_append_right _ (List.mem_singleton.mpr rfl)
theorem ok_xT : ∀ w : List (List Nat), okA (xT w) 59 = true
  | [] => rfl
  | f :: w => by
    show (okD (.tup (iD f)) 59 && okA (xT w) 59) = true
    rw [ok_xT w, Bool.and_true]
    exact okA_iD f 58
end BL
set_option Elab.async false
set_option linter.all false
set_option maxRecDepth 100000
set_option maxHeartbeats 2000000
namespace BL
open PySem BG L2
/-- exchanges with circuits to them -/
theorem mem_gI' {m i : Nat} : i ∈ gI m ↔ i < 18 ∧ Nat.testBit m (kg i) = true := by
  unfold gI
  rw [List.mem_filter, List.mem_range]
abbrev Ent := List (List Nat × List Nat)
/-- a circuit of the kinds m -/
def Wd (m : Nat) (c : List Nat) : Prop := ∀ i ∈ c, i < 18 ∧ Nat.testBit m (kg i) = true
theorem Wd.gs {m : Nat} {c : List Nat} (h : Wd m c) : Gs c := fun i hi => (h i hi).1
theorem Wd.nil {m : Nat} : Wd m [] := fun _ h => nomatch h
theorem Wd.app {m : Nat} {a b : List Nat} (ha : Wd m a) (hb : Wd m b) : Wd m (a ++ b) := fun i hi => (List.mem_append.mp hi).elim (ha i) (hb i)
theorem Wd.left {m : Nat} {a b : List Nat} (h : Wd m (a ++ b)) : Wd m a := fun i hi => h i (List.mem_append_left _ hi)
theorem Wd.right {m : Nat} {a b : List Nat} (h : Wd m (a ++ b)) : Wd m b := fun i hi => h i (List.mem_append_right _ hi)
theorem Wd.one {m i : Nat} (hi : i < 18) (hk : Nat.testBit m (kg i) = true) : Wd m [i] := fun j hj => by rw [List.mem_singleton] at hj; subst hj; exact ⟨hi, hk⟩
theorem mkx_app {a b : List Nat} (ha : Gs a) (hb : Gs b) : mkx (a ++ b) = thn (mkx a) (mkx b) := by
  refine x_ext (mkx_x (ha.app hb)) (thn_x (mkx_x ha) (mkx_x hb)) fun w hw => ?_
  rw [fx_mkx hw, fx_thn (mkx_x ha) (mkx_x hb) hw, fx_mkx hw, fx_mkx (mkw_lt ha hw), mkw_app]
theorem mk1 : ∀ i, i < 18 → mkx [i] = apL i := by decide +kernel
theorem mkx_snoc {c : List Nat} {i : Nat} (hc : Gs c) (hi : i < 18) : mkx (c ++ [i]) = thn (mkx c) (apL i) := by
  rw [mkx_app hc (fun j hj => by rw [List.mem_singleton] at hj; subst hj; exact hi), mk1 i hi]
theorem mkx_nil : mkx [] = List.range 8 := by decide +kernel
theorem rch_wd {m : Nat} {f : List Nat} : Rch m f ↔ ∃ c, Wd m c ∧ f = mkx c := by
  constructor
  · intro r
    induction r with
    | same => exact ⟨[], .nil, mkx_nil.symm⟩
    | step r hi hk ih =>
      obtain ⟨c, hc, rfl⟩ := ih
      exact ⟨c ++ [_], hc.app (.one hi hk), (mkx_snoc hc.gs hi).symm⟩
  · rintro ⟨c, hc, rfl⟩
    have go : ∀ (n : Nat) (c : List Nat), c.length = n → Wd m c → Rch m (mkx c) := by
      intro n
      induction n with
      | zero => intro c hl hc; rw [List.eq_nil_of_length_eq_zero hl, mkx_nil]; exact .same
      | succ n ih =>
        intro c hl hc
        have hne : c ≠ [] := fun z => by rw [z] at hl; cases hl
        have e := List.dropLast_concat_getLast hne
        rw [← e] at hc ⊢
        have h1 := hc.right _ (List.mem_singleton.mpr rfl)
        rw [mkx_snoc hc.left.gs h1.1]
        exact .step (ih _ (by rw [List.length_dropLast, hl]; rfl) hc.left) h1.1 h1.2
    exact go _ c rfl hc
def lk (L : Ent) (h : List Nat) : List Nat := ((L.find? fun q => decide (q.1 = h)).map (·.2)).getD []
def gadd (h c : List Nat) (s : Ent × List (List Nat)) (i : Nat) : Ent × List (List Nat) := if thn h (apL i) ∈ s.1.map (·.1) then s else (s.1 ++ [(thn h (apL i), c ++ [i])], s.2 ++ [thn h (apL i)])
structure GI (m : Nat) (L0 : Ent) (lev : List (List Nat)) (s : Ent × List (List Nat)) : Prop where
  app : ∃ E, s.1 = L0 ++ E ∧ E.map (·.1) = s.2
  nd : (s.1.map (·.1)).Nodup
  new : ∀ q ∈ s.1, q ∈ L0 ∨ ∃ h c i, h ∈ lev ∧ (h, c) ∈ L0 ∧ i ∈ gI m ∧ q = (thn h (apL i), c ++ [i]) ∧ q.1 ∉ L0.map (·.1)
section
variable {m : Nat} {L0 : Ent} {lev : List (List Nat)}
theorem GI.add {s : Ent × List (List Nat)} {h c : List Nat} {i : Nat} (g : GI m L0 lev s) (hh : h ∈ lev) (hc : (h, c) ∈ L0) (hi : i ∈ gI m) : GI m L0 lev (gadd h c s i) ∧ thn h (apL i) ∈ (gadd h c s i).1.map (·.1) ∧ ∀ f ∈ s.1.map (·.1), f ∈ (gadd h c s i).1.map (·.1) := by
  unfold gadd
  by_cases z : thn h (apL i) ∈ s.1.map (·.1)
  · rw [if_pos z]; exact ⟨g, z, fun _ h => h⟩
  · rw [if_neg z]
    obtain ⟨E, e1, e2⟩ := g.app
    refine ⟨⟨⟨E ++ [(thn h (apL i), c ++ [i])], by rw [e1, List.append_assoc], by rw [List.map_append, e2]; rfl⟩, ?_, fun q hq => ?_⟩, ?_, fun f hf => ?_⟩
    · show ((s.1 ++ [(thn h (apL i), c ++ [i])]).map (·.1)).Nodup
      rw [List.map_append]
      refine List.nodup_append.mpr ⟨g.nd, by simp, fun x hx y hy => ?_⟩
      rw [List.map_singleton, List.mem_singleton] at hy
      subst hy
      exact fun e => z (by have e : x = thn h (apL i) := e; rw [← e]; exact hx)
    · rcases List.mem_append.mp hq with hq | hq
      · exact g.new q hq
      · rw [List.mem_singleton] at hq
        subst hq
        refine .inr ⟨h, c, i, hh, hc, hi, rfl, fun k => z ?_⟩
        rw [e1, List.map_append]
        exact List.mem_append_left _ k
    · show thn h (apL i) ∈ (s.1 ++ [(thn h (apL i), c ++ [i])]).map (·.1)
      rw [List.map_append]
      exact List.mem_append_right _ (List.mem_singleton.mpr rfl)
    · show f ∈ (s.1 ++ [(thn h (apL i), c ++ [i])]).map (·.1)
      rw [List.map_append]
      exact List.mem_append_left _ hf
end
structure Bfs (m : Nat) (s0 : List Nat) (L : Ent) (lev : List (List Nat)) (d : Nat) : Prop where
  nd : (L.map (·.1)).Nodup
  ok : ∀ q ∈ L, Wd m q.2 ∧ q.1 = thn s0 (mkx q.2) ∧ q.2.length ≤ d ∧ ∀ c, Wd m c → thn s0 (mkx c) = q.1 → q.2.length ≤ c.length
  all : ∀ c, Wd m c → c.length ≤ d → thn s0 (mkx c) ∈ L.map (·.1)
  lev : ∀ f, f ∈ lev ↔ ∃ c, (f, c) ∈ L ∧ c.length = d
theorem Bfs.start {m : Nat} {s0 : List Nat} (hs : IsX s0) : Bfs m s0 [(s0, [])] [s0] 0 where
  nd := by simp
  ok := fun q hq => by
    rw [List.mem_singleton] at hq
    subst hq
    exact ⟨.nil, by show s0 = thn s0 (mkx []); rw [mkx_nil, (thn_id hs).1], Nat.le_refl _, fun _ _ _ => Nat.zero_le _⟩
  all := fun c _ hl => by
    rw [List.eq_nil_of_length_eq_zero (Nat.le_zero.mp hl), mkx_nil, (thn_id hs).1]
    exact List.mem_singleton.mpr rfl
  lev := fun f => by
    rw [List.mem_singleton]
    constructor
    · rintro rfl
      exact ⟨[], List.mem_singleton.mpr rfl, rfl⟩
    · rintro ⟨c, h, _⟩
      rw [List.mem_singleton] at h
      cases h; rfl
section
variable {m : Nat} {s0 : List Nat} {L : Ent} {lev : List (List Nat)} {d : Nat}
theorem Bfs.key (b : Bfs m s0 L lev d) {f : List Nat} (h : f ∈ lev) : f ∈ L.map (·.1) := by
  obtain ⟨c, h1, _⟩ := (b.lev f).mp h
  exact List.mem_map.mpr ⟨_, h1, rfl⟩
end
end BL
set_option Elab.async false
set_option linter.all false
set_option maxRecDepth 100000
set_option maxHeartbeats 2000000
namespace BL
open PySem BG L2
variable {st : Sto}
theorem law_is_eq (b : Bool) : f_law_is [.bl b, .bl b] = ret (.bl true) := by cases b <;> with_unfolding_all rfl
end BL
set_option Elab.async false
set_option linter.all false
set_option maxRecDepth 100000
set_option maxHeartbeats 2000000
namespace BL
open PySem BG L2
local macro_rules | `(tactic| infer_instance) => `(tactic| first | (with_reducible first | refine w_seq ?_ | refine w_asg ?_ | refine w_asgP ?_ | refine pr_i ?_ | refine w_eqI ?_ | refine w_neI ?_ | refine w_own ?_ | refine w_par ?_ | refine w_parO ?_ | refine w_expr ?_ | refine w_if ?_ | refine w_sret ?_ | refine w_nil ?_ | refine w_for ?_ | refine w_bin ?_ | refine w_un ?_ | refine w_tup ?_ | refine w_lst ?_ | refine w_call ?_ | refine w_and ?_ | refine w_or ?_ | refine w_ife ?_ | refine w_chain ?_ | refine w_slice ?_ | refine w_oN ?_ | refine w_oS ?_ | refine w_comp ?_ | refine w_itSeq ?_ | refine w_itR ?_ | refine w_evnil ?_ | refine w_evcons ?_ | refine w_evc1 ?_ | refine w_evc0 ?_ | refine w_c ?_ | refine nx_nx ?_ | refine nx_ret ?_ | refine bl_i ?_ | refine in_i ?_ | refine sq_t ?_ | refine sq_l ?_ | refine ls_l ?_ | refine tp_t ?_ | refine w_not ?_ | refine w_addI ?_ | refine w_sub ?_ | refine w_xor ?_ | refine w_ltI ?_ | refine w_leI ?_ | refine w_gtI ?_ | refine w_geI ?_ | refine w_slT ?_ | refine w_slL ?_ | refine w_lenT ?_ | refine w_lenL ?_ | refine w_lenS ?_ | refine w_tupL ?_ | refine w_tupT ?_ | refine w_lstL ?_ | refine w_lstT ?_ | refine w_neg ?_ | refine w_isn ?_ | refine w_isnn ?_ | refine w_begun ?_ | refine w_ret ?_ | refine w_resE ?_) | (with_reducible refine w_var (by with_unfolding_all rfl) ?_) | (with_reducible refine w_peekV (by with_unfolding_all rfl) ?_) | (with_reducible refine w_peekO (by with_unfolding_all rfl) ?_) | (with_reducible refine w_app (by with_unfolding_all rfl) ?_) | (with_reducible refine w_frz (by with_unfolding_all rfl) ?_) | (with_reducible refine w_scr (by with_unfolding_all rfl) ?_) | (with_reducible refine w_tc (by with_unfolding_all rfl) ?_) | (with_reducible refine w_stc (by with_unfolding_all rfl) ?_) | (with_reducible refine w_tr (by with_unfolding_all rfl) ?_) | (with_reducible refine w_str (by with_unfolding_all rfl) ?_) | (with_reducible refine w_idxT (by with_unfolding_all rfl) ?_) | (with_reducible refine w_idxL (by with_unfolding_all rfl) ?_) | (with_reducible refine w_isi (by with_unfolding_all rfl) ?_) | ((with_reducible first | refine w_addT ?_ ?_ | refine w_addL ?_ ?_ | refine w_mulI ?_ ?_ | refine w_mulT ?_ ?_ | refine w_mulL ?_ ?_ | refine w_mod ?_ ?_ | refine w_div ?_ ?_ | refine w_pow ?_ ?_ | refine w_rng ?_ ?_); (first | decide | omega | (refine ⟨?_, ?_⟩ <;> omega) | (refine ⟨?_, ?_, ?_⟩ <;> omega) | (simp only [List.length_cons, List.length_nil, List.length_append, List.length_reverse, BL.cD_len, BL.iD_len, BL.mkx_len, BL.sizeL]; omega) | (refine ⟨List.cons_ne_nil _ _, ?_⟩; simp only [List.length_cons, List.length_nil]; omega))) | ((with_reducible first | refine w_eqD ?_ ?_ ?_ | refine w_neD ?_ ?_ ?_ | refine w_inT ?_ ?_ ?_ | refine w_inL ?_ ?_ ?_); (first | rfl | with_unfolding_all rfl); (first | rfl | with_unfolding_all rfl)) | ((with_reducible refine ift_of ?_ ?_); (with_unfolding_all rfl)) | ((with_reducible refine iff_of ?_ ?_); (with_unfolding_all rfl)) | ((with_reducible refine ift2_of ?_ ?_); (with_unfolding_all rfl)) | ((with_reducible refine iff2_of ?_ ?_); (with_unfolding_all rfl)) | ((with_reducible refine ift_of ?_ ?_); exact decide_eq_true (by omega)) | ((with_reducible refine iff_of ?_ ?_); exact decide_eq_false (by omega)) | ((with_reducible refine ift2_of ?_ ?_); exact decide_eq_true (by omega)) | ((with_reducible refine iff2_of ?_ ?_); exact decide_eq_false (by omega)))
section
variable {S : Sl} {t : Tn} {n : Nat} {ks : List (List Int × D)} {v : Nat}
theorem w_obAt {α : Type} {o : Ob × Nat} {k : Ob → M α} {Q : α → Tn → Prop} (e : t.2[n]? = some o) (h : W (k o.1 t) Q) : W (bnd (obAt (.hnd n)) k t) Q := by rw [bnd_ok (obAt_ok e)]; exact h
theorem w_setOb {α : Type} {o : Ob} {q : Ob × Nat} {k : Unit → M α} {Q : α → Tn → Prop} (e : t.2[n]? = some q) (h : W (k () (t.1, t.2.set n (o, q.2 + 1))) Q) : W (bnd (setOb (.hnd n) o) k t) Q := by rw [bnd_ok (setOb_ok e)]; exact h
end
end BL
set_option Elab.async false
set_option linter.all false
set_option maxRecDepth 100000
set_option maxHeartbeats 2000000
namespace BL
open PySem BG L2
local macro_rules | `(tactic| infer_instance) => `(tactic| first | (with_reducible first | refine w_seq ?_ | refine w_asg ?_ | refine w_asgP ?_ | refine pr_i ?_ | refine w_eqI ?_ | refine w_neI ?_ | refine w_own ?_ | refine w_par ?_ | refine w_parO ?_ | refine w_expr ?_ | refine w_if ?_ | refine w_sret ?_ | refine w_nil ?_ | refine w_for ?_ | refine w_bin ?_ | refine w_un ?_ | refine w_tup ?_ | refine w_lst ?_ | refine w_call ?_ | refine w_and ?_ | refine w_or ?_ | refine w_ife ?_ | refine w_chain ?_ | refine w_slice ?_ | refine w_oN ?_ | refine w_oS ?_ | refine w_comp ?_ | refine w_itSeq ?_ | refine w_itR ?_ | refine w_evnil ?_ | refine w_evcons ?_ | refine w_evc1 ?_ | refine w_evc0 ?_ | refine w_c ?_ | refine nx_nx ?_ | refine nx_ret ?_ | refine bl_i ?_ | refine in_i ?_ | refine sq_t ?_ | refine sq_l ?_ | refine ls_l ?_ | refine tp_t ?_ | refine w_not ?_ | refine w_addI ?_ | refine w_sub ?_ | refine w_xor ?_ | refine w_ltI ?_ | refine w_leI ?_ | refine w_gtI ?_ | refine w_geI ?_ | refine w_slT ?_ | refine w_slL ?_ | refine w_lenT ?_ | refine w_lenL ?_ | refine w_lenS ?_ | refine w_tupL ?_ | refine w_tupT ?_ | refine w_lstL ?_ | refine w_lstT ?_ | refine w_neg ?_ | refine w_isn ?_ | refine w_isnn ?_ | refine w_begun ?_ | refine w_ret ?_ | refine w_resE ?_) | (with_reducible refine w_var (by with_unfolding_all rfl) ?_) | (with_reducible refine w_peekV (by with_unfolding_all rfl) ?_) | (with_reducible refine w_peekO (by with_unfolding_all rfl) ?_) | (with_reducible refine w_app (by with_unfolding_all rfl) ?_) | (with_reducible refine w_frz (by with_unfolding_all rfl) ?_) | (with_reducible refine w_scr (by with_unfolding_all rfl) ?_) | (with_reducible refine w_tc (by with_unfolding_all rfl) ?_) | (with_reducible refine w_stc (by with_unfolding_all rfl) ?_) | (with_reducible refine w_tr (by with_unfolding_all rfl) ?_) | (with_reducible refine w_str (by with_unfolding_all rfl) ?_) | (with_reducible refine w_idxT (by with_unfolding_all rfl) ?_) | (with_reducible refine w_idxL (by with_unfolding_all rfl) ?_) | (with_reducible refine w_isi (by with_unfolding_all rfl) ?_) | ((with_reducible first | refine w_addT ?_ ?_ | refine w_addL ?_ ?_ | refine w_mulI ?_ ?_ | refine w_mulT ?_ ?_ | refine w_mulL ?_ ?_ | refine w_mod ?_ ?_ | refine w_div ?_ ?_ | refine w_pow ?_ ?_ | refine w_rng ?_ ?_); (first | decide | omega | (refine ⟨?_, ?_⟩ <;> omega) | (refine ⟨?_, ?_, ?_⟩ <;> omega) | (simp only [List.length_cons, List.length_nil, List.length_append, List.length_reverse, BL.cD_len, BL.iD_len, BL.mkx_len, BL.sizeL]; omega) | (refine ⟨List.cons_ne_nil _ _, ?_⟩; simp only [List.length_cons, List.length_nil]; omega))) | ((with_reducible first | refine w_eqD ?_ ?_ ?_ | refine w_neD ?_ ?_ ?_ | refine w_inT ?_ ?_ ?_ | refine w_inL ?_ ?_ ?_); (first | rfl | with_unfolding_all rfl); (first | rfl | with_unfolding_all rfl)) | ((with_reducible refine ift_of ?_ ?_); (with_unfolding_all rfl)) | ((with_reducible refine iff_of ?_ ?_); (with_unfolding_all rfl)) | ((with_reducible refine ift2_of ?_ ?_); (with_unfolding_all rfl)) | ((with_reducible refine iff2_of ?_ ?_); (with_unfolding_all rfl)) | ((with_reducible refine ift_of ?_ ?_); exact decide_eq_true (by omega)) | ((with_reducible refine iff_of ?_ ?_); exact decide_eq_false (by omega)) | ((with_reducible refine ift2_of ?_ ?_); exact decide_eq_true (by omega)) | ((with_reducible refine iff2_of ?_ ?_); exact decide_eq_false (by omega)))
theorem w_resR {nm : Nat → Str} {al : Nat → Bool} {m : M D} {t : Tn} {Q : D → Tn → Prop} (h : W (m t) fun d t' => Q (.tup [.str "returns", d]) t') : W (eResM nm al m t) Q := by
  obtain ⟨d, t', e, q⟩ := h.ex
  unfold eResM
  rw [e]; exact q
theorem w_cmpMP {tg : Tg} {cond elt : Ex} {S : Sl} {t : Tn} {n v : Nat} {o : Ob × Nat} (eo : t.2[n]? = some o) (hv : o.2 = v) {Q : List D → Tn → Prop} (p : D → Bool) (e : D → D) : ∀ {ds : List D}, (∀ d ∈ ds, ∃ S', tg d S = some S' ∧ cond S' = ret (.bl (p d)) ∧ (p d = true → elt S' = ret (e d))) → cmpM n v tg cond elt S ds t = some (.ok ((ds.filter p).map e) t)
  | [], _ => by
    show bnd (verAt n v) (fun _ => ret []) t = _
    rw [bnd_ok (verAt_ok eo hv)]; rfl
  | d :: ds, h => by
    obtain ⟨S', e1, e2, e3⟩ := h d (List.mem_cons_self ..)
    have ih := w_cmpMP eo hv (Q := Q) p e (ds := ds) fun d hd => h d (List.mem_cons_of_mem _ hd)
    show bnd (verAt n v) (fun _ => match tg d S with
      | none => stuck
      | some S' => bnd (calm (cond S')) fun b => match b with
        | .bl true => bnd (calm (elt S')) fun r => bnd (cmpM n v tg cond elt S ds) fun rs => ret (r :: rs)
        | .bl false => cmpM n v tg cond elt S ds
        | _ => stuck) t = _
    rw [bnd_ok (verAt_ok eo hv), e1]
    show bnd (calm (cond S')) _ t = _
    rw [e2]
    cases hp : p d with
    | true =>
      show bnd (calm (elt S')) _ t = _
      rw [e3 hp, List.filter_cons_of_pos hp, List.map_cons]
      show bnd (cmpM n v tg cond elt S ds) _ t = _
      rw [bnd_ok ih]; rfl
    | false =>
      show cmpM n v tg cond elt S ds t = _
      rw [ih, List.filter_cons_of_neg (by rw [hp]; decide)]
theorem w_gtI {i j : Int} {t : Tn} {Q : D → Tn → Prop} (h : Q (.bl (decide (j < i))) t) : W (pGt (.int i) (.int j) t) Q := h
end BL
set_option Elab.async false
set_option linter.all false
set_option maxRecDepth 100000
set_option maxHeartbeats 2000000
namespace BL
open PySem BG L2
theorem okX (l : List (List Nat)) : okD (.tup (xT l)) 60 = true ∧ okD (.lst (xT l)) 60 = true := ⟨ok_xT l, ok_xT l⟩
end BL
set_option Elab.async false
set_option linter.all false
set_option maxRecDepth 100000
set_option maxHeartbeats 2000000
namespace BL
open PySem BG L2
local macro_rules | `(tactic| infer_instance) => `(tactic| first | (with_reducible first | refine w_seq ?_ | refine w_asg ?_ | refine w_asgP ?_ | refine pr_i ?_ | refine w_eqI ?_ | refine w_neI ?_ | refine w_own ?_ | refine w_par ?_ | refine w_parO ?_ | refine w_expr ?_ | refine w_if ?_ | refine w_sret ?_ | refine w_nil ?_ | refine w_for ?_ | refine w_bin ?_ | refine w_un ?_ | refine w_tup ?_ | refine w_lst ?_ | refine w_call ?_ | refine w_and ?_ | refine w_or ?_ | refine w_ife ?_ | refine w_chain ?_ | refine w_slice ?_ | refine w_oN ?_ | refine w_oS ?_ | refine w_comp ?_ | refine w_itSeq ?_ | refine w_itR ?_ | refine w_evnil ?_ | refine w_evcons ?_ | refine w_evc1 ?_ | refine w_evc0 ?_ | refine w_c ?_ | refine nx_nx ?_ | refine nx_ret ?_ | refine bl_i ?_ | refine in_i ?_ | refine sq_t ?_ | refine sq_l ?_ | refine ls_l ?_ | refine tp_t ?_ | refine w_not ?_ | refine w_addI ?_ | refine w_sub ?_ | refine w_xor ?_ | refine w_ltI ?_ | refine w_leI ?_ | refine w_gtI ?_ | refine w_geI ?_ | refine w_slT ?_ | refine w_slL ?_ | refine w_lenT ?_ | refine w_lenL ?_ | refine w_lenS ?_ | refine w_tupL ?_ | refine w_tupT ?_ | refine w_lstL ?_ | refine w_lstT ?_ | refine w_neg ?_ | refine w_isn ?_ | refine w_isnn ?_ | refine w_begun ?_ | refine w_ret ?_ | refine w_resE ?_) | (with_reducible refine w_var (by with_unfolding_all rfl) ?_) | (with_reducible refine w_peekV (by with_unfolding_all rfl) ?_) | (with_reducible refine w_peekO (by with_unfolding_all rfl) ?_) | (with_reducible refine w_app (by with_unfolding_all rfl) ?_) | (with_reducible refine w_frz (by with_unfolding_all rfl) ?_) | (with_reducible refine w_scr (by with_unfolding_all rfl) ?_) | (with_reducible refine w_tc (by with_unfolding_all rfl) ?_) | (with_reducible refine w_stc (by with_unfolding_all rfl) ?_) | (with_reducible refine w_tr (by with_unfolding_all rfl) ?_) | (with_reducible refine w_str (by with_unfolding_all rfl) ?_) | (with_reducible refine w_idxT (by with_unfolding_all rfl) ?_) | (with_reducible refine w_idxL (by with_unfolding_all rfl) ?_) | (with_reducible refine w_isi (by with_unfolding_all rfl) ?_) | ((with_reducible first | refine w_addT ?_ ?_ | refine w_addL ?_ ?_ | refine w_mulI ?_ ?_ | refine w_mulT ?_ ?_ | refine w_mulL ?_ ?_ | refine w_mod ?_ ?_ | refine w_div ?_ ?_ | refine w_pow ?_ ?_ | refine w_rng ?_ ?_); (first | decide | omega | (refine ⟨?_, ?_⟩ <;> omega) | (refine ⟨?_, ?_, ?_⟩ <;> omega) | (simp only [List.length_cons, List.length_nil, List.length_append, List.length_reverse, BL.cD_len, BL.iD_len, BL.mkx_len, BL.sizeL]; omega) | (refine ⟨List.cons_ne_nil _ _, ?_⟩; simp only [List.length_cons, List.length_nil]; omega))) | ((with_reducible first | refine w_eqD ?_ ?_ ?_ | refine w_neD ?_ ?_ ?_ | refine w_inT ?_ ?_ ?_ | refine w_inL ?_ ?_ ?_); (first | rfl | with_unfolding_all rfl); (first | rfl | with_unfolding_all rfl)) | ((with_reducible refine ift_of ?_ ?_); (with_unfolding_all rfl)) | ((with_reducible refine iff_of ?_ ?_); (with_unfolding_all rfl)) | ((with_reducible refine ift2_of ?_ ?_); (with_unfolding_all rfl)) | ((with_reducible refine iff2_of ?_ ?_); (with_unfolding_all rfl)) | ((with_reducible refine ift_of ?_ ?_); exact decide_eq_true (by omega)) | ((with_reducible refine iff_of ?_ ?_); exact decide_eq_false (by omega)) | ((with_reducible refine ift2_of ?_ ?_); exact decide_eq_true (by omega)) | ((with_reducible refine iff2_of ?_ ?_); exact decide_eq_false (by omega)))
end BL
set_option Elab.async false
set_option linter.all false
set_option maxRecDepth 100000
set_option maxHeartbeats 2000000
namespace BL
open PySem BG L2
theorem thn_bkR {a b : List Nat} (ha : IsX a) (hb : IsX b) : thn a (thn (bk a) b) = b := by
  rw [← thn_assoc ha (bk_x ha) hb, (thn_bk ha).1, (thn_id hb).2]
theorem Wd.cons {m i : Nat} {c : List Nat} (hi : i ∈ gI m) (hc : Wd m c) : Wd m (i :: c) := fun j hj => (List.mem_cons.mp hj).elim (fun e => by rw [e]; exact mem_gI'.mp hi) (hc j)
theorem Wd.head {m i : Nat} {c : List Nat} (h : Wd m (i :: c)) : i ∈ gI m := mem_gI'.mpr (h i (List.mem_cons_self ..))
theorem ex_min {p : Nat → Prop} : (∃ n, p n) → ∃ n, p n ∧ ∀ k, p k → n ≤ k := by
  rintro ⟨n, hn⟩
  induction n using Nat.strongRecOn with
  | _ n ih =>
    by_cases h : ∃ k, k < n ∧ p k
    · obtain ⟨k, h1, h2⟩ := h
      exact ih k h1 h2
    · exact ⟨n, hn, fun k hk => Nat.le_of_not_lt fun z => h ⟨k, z, hk⟩⟩
def Ln (m : Nat) (f : List Nat) (n : Nat) : Prop := ∃ c, Wd m c ∧ mkx c = f ∧ c.length = n
open Classical in
noncomputable def ds (m : Nat) (f : List Nat) : Nat := if h : ∃ n, Ln m f n then Classical.choose (ex_min h) else 1000
theorem Rch.thn {m : Nat} {a b : List Nat} (ha : Rch m a) (hb : Rch m b) : Rch m (thn a b) := by
  obtain ⟨c, h1, h2⟩ := rch_wd.mp ha
  obtain ⟨e, k1, k2⟩ := rch_wd.mp hb
  exact rch_wd.mpr ⟨c ++ e, h1.app k1, by rw [mkx_app h1.gs k1.gs, ← h2, ← k2]⟩
noncomputable def fg (m : Nat) (g : List Nat) : Nat := ((gI m).find? fun i => decide (ds m (thn (bk (apL i)) g) + 1 = ds m g)).getD 0
noncomputable def fc (m : Nat) : Nat → List Nat → List Nat
  | 0, _ => []
  | n + 1, g => fg m g :: fc m n (thn (bk (apL (fg m g))) g)
end BL
set_option Elab.async false
set_option linter.all false
set_option maxRecDepth 100000
set_option maxHeartbeats 2000000
namespace BL
open PySem BG L2
section
variable {S : Sl} {t : Tn}
theorem w_fld {x : Str} {f : Ex} {Q : D → Tn → Prop} (h : W (f S t) fun d t1 => ∃ n fs v r, d = .hnd n ∧ t1.2[n]? = some (.ins fs, v) ∧ fs.lookup x = some r ∧ Q r t1) : W (eFld x f S t) Q := by
  unfold eFld
  refine w_bnd (h.mono fun d t1 ⟨n, fs, v, r, e1, e2, e3, q⟩ => ?_)
  subst e1
  refine w_obAt e2 ?_
  show W ((match fs.lookup x with | some d => ret d | none => stuck) t1) Q
  rw [e3]
  exact q
theorem w_sfld {x : Str} {d e : Ex} {Q : Fl → Tn → Prop} (h : W (e S t) fun v t1 => W (d S t1) fun dd t2 => ∃ n fs ver, dd = .hnd n ∧ t2.2[n]? = some (.ins fs, ver) ∧ fs.length < 1000 ∧ Q (.nx S) (t2.1, t2.2.set n (.ins (putFD x v fs), ver + 1))) : W (sFldD x d e S t) Q := by
  unfold sFldD
  refine w_bnd (h.mono fun v t1 h => w_bnd (W.mono h fun dd t2 ⟨n, fs, ver, e1, e2, e3, q⟩ => ?_))
  subst e1
  refine w_obAt e2 ?_
  show W ((if fs.length < 1000 then bnd (setOb (.hnd n) (.ins (putFD x v fs))) fun _ => ret (Fl.nx S) else stuck) t2) Q
  rw [if_pos e3]
  exact w_setOb e2 q
theorem w_meth {m : Str} {F : Fn} {o : Ex} {fs : List Ex} {Q : D → Tn → Prop} (h : W (o S t) fun d t1 => ∃ n at_ v, d = .hnd n ∧ t1.2[n]? = some (.ins at_, v) ∧ at_.lookup m = none ∧ W (evs fs S t1) fun ds t2 => W (F (.hnd n :: ds) t2) Q) : W (eMeth m F o fs S t) Q := by
  unfold eMeth
  refine w_bnd (h.mono fun d t1 ⟨n, at_, v, e1, e2, e3, q⟩ => ?_)
  subst e1
  refine w_obAt e2 ?_
  show W ((match at_.lookup m with | none => bnd (evs fs S) fun ds => F (.hnd n :: ds) | some _ => stuck) t1) Q
  rw [e3]
  exact w_bnd q
theorem w_make {F : Fn} {fs : List Ex} {Q : D → Tn → Prop} (h : W (evs fs S t) fun ds t1 => W (F (.hnd t1.2.length :: ds) (t1.1, t1.2 ++ [(.ins [], 0)])) fun r t2 => r = .non ∧ Q (.hnd t1.2.length) t2) : W (eMake F fs S t) Q := by
  unfold eMake
  refine w_bnd (h.mono fun ds t1 h => ?_)
  show W (bnd (F (.hnd t1.2.length :: ds)) (fun r => match r with | .non => ret (.hnd t1.2.length) | _ => stuck) (t1.1, t1.2 ++ [(.ins [], 0)])) Q
  refine w_bnd (W.mono h fun r t2 ⟨e, q⟩ => ?_)
  subst e
  exact q
theorem okW {α : Type} {r : Option (Out α)} {a : α} {t : Tn} (h : W r fun x t' => x = a ∧ t' = t) : r = some (.ok a t) := by
  obtain ⟨x, t', e, rfl, rfl⟩ := h.ex
  exact e
end
end BL
set_option Elab.async false
set_option linter.all false
set_option maxRecDepth 100000
set_option maxHeartbeats 2000000
namespace BL
open PySem BG L2
section
variable {S : Sl} {t : Tn}
theorem w_okE {α : Type} {m : M α} {a : α} {t' : Tn} {Q : α → Tn → Prop} (e : m t = some (.ok a t')) (h : Q a t') : W (m t) Q := by rw [e]; exact h
theorem w_adopt {f : Ex} {Q : D → Tn → Prop} (h : W (f S t) (Ls fun ds t1 => Q (.hnd t1.2.length) (t1.1, t1.2 ++ [(.li ds, 0)]))) : W (eAdopt f S t) Q := by
  unfold eAdopt
  refine w_bnd (h.mono fun d t1 q => ?_)
  cases d with
  | lst ds => exact q
  | _ => exact q.elim
theorem w_mapp {d e : Ex} {Q : Fl → Tn → Prop} (h : W (d S t) fun dd t1 => ∃ n ds0 v0, dd = .hnd n ∧ t1.2[n]? = some (.li ds0, v0) ∧ W (e S t1) fun x t2 => ∃ ds v, t2.2[n]? = some (.li ds, v) ∧ ds.length < sizeLine ∧ Q (.nx S) (t2.1, t2.2.set n (.li (ds ++ [x]), v + 1))) : W (sMApp d e S t) Q := by
  unfold sMApp
  refine w_bnd (h.mono fun dd t1 ⟨n, ds0, v0, e1, e2, h⟩ => ?_)
  subst e1
  refine w_obAt e2 ?_
  refine w_bnd (w_ret ?_)
  refine w_bnd (W.mono h fun x t2 ⟨ds, v, e3, e4, q⟩ => ?_)
  refine w_obAt e3 ?_
  show W ((if ds.length < sizeLine then bnd (setOb (.hnd n) (.li (ds ++ [x]))) fun _ => ret (Fl.nx S) else stuck) t2) Q
  rw [if_pos e4]
  exact w_setOb e3 q
theorem w_compM2 {it : Ob → Option (List D)} {vs : List Nat} {f : Ex} {tg : Tg} {cond elt : Ex} {Q : D → Tn → Prop} (h : W (f S t) fun d t1 => ∃ n o ds, d = .hnd n ∧ t1.2[n]? = some o ∧ it o.1 = some ds ∧ ds.length ≤ sizeLine ∧ ∃ (p : D → Bool) (e : D → D), (∀ d ∈ ds, ∃ S', tg d (wipeS S vs) = some S' ∧ cond S' = ret (.bl (p d)) ∧ (p d = true → elt S' = ret (e d))) ∧ Q (.lst ((ds.filter p).map e)) t1) : W (eCompM it vs f tg cond elt S t) Q := by
  unfold eCompM
  refine w_bnd (h.mono fun d t1 ⟨n, o, ds, e1, eo, ei, hl, p, e, h2, q⟩ => ?_)
  subst e1
  rw [items_ok eo ei, if_pos hl]
  rw [bnd_ok (w_cmpMP eo rfl (Q := fun _ _ => True) p e h2)]
  exact q
theorem w_fmtI {f : Ex} {Q : D → Tn → Prop} (h : W (f S t) fun d t1 => ∃ i : Int, d = .int i ∧ i.natAbs.log2 < 1920 ∧ Q (.str (toString i)) t1) : W (eFmt f S t) Q := by
  unfold eFmt
  refine w_bnd (h.mono fun d t1 ⟨y, e1, e2, q⟩ => ?_)
  subst e1
  show W ((if y.natAbs.log2 < 1920 then ret (D.str (toString y)) else stuck) t1) Q
  rw [if_pos e2]; exact q
theorem w_jnil {acc : Str} {Q : D → Tn → Prop} (h : Q (.str acc) t) : W (eJoin [] acc S t) Q := h
theorem w_jcons {f : Ex} {fs : List Ex} {acc : Str} {Q : D → Tn → Prop} (h : W (f S t) fun d t1 => ∃ y, d = .str y ∧ (acc ++ y).length ≤ sizeLine ∧ W (eJoin fs (acc ++ y) S t1) Q) : W (eJoin (f :: fs) acc S t) Q := by
  show W (bnd (f S) (fun d => match d with | .str y => if (acc ++ y).length ≤ sizeLine then eJoin fs (acc ++ y) S else stuck | _ => stuck) t) Q
  refine w_bnd (h.mono fun d t1 ⟨y, e1, e2, q⟩ => ?_)
  subst e1
  show W ((if (acc ++ y).length ≤ sizeLine then eJoin fs (acc ++ y) S else stuck) t1) Q
  rw [if_pos e2]; exact q
theorem w_lenO {F : Fn} {o : Ex} {Q : D → Tn → Prop} (h : W (o S t) fun d t1 => ∃ n fs v, d = .hnd n ∧ t1.2[n]? = some (.ins fs, v) ∧ W (F [.hnd n] t1) fun r t2 => ∃ i : Int, r = .int i ∧ (0 ≤ i ∧ i < 2 ^ 63) ∧ Q (.int i) t2) : W (eLenO F o S t) Q := by
  unfold eLenO
  refine w_bnd (h.mono fun d t1 ⟨n, fs, v, e1, e2, h⟩ => ?_)
  subst e1
  refine w_obAt e2 ?_
  refine w_bnd (w_ret ?_)
  refine w_bnd (W.mono h fun r t2 ⟨i, e3, e4, q⟩ => ?_)
  subst e3
  show W ((if 0 ≤ i ∧ i < 2 ^ 63 then ret (D.int i) else stuck) t2) Q
  rw [if_pos e4]; exact q
theorem w_strO {F : Fn} {o : Ex} {Q : D → Tn → Prop} (h : W (o S t) fun d t1 => ∃ n fs v, d = .hnd n ∧ t1.2[n]? = some (.ins fs, v) ∧ W (F [.hnd n] t1) fun r t2 => ∃ y, r = .str y ∧ Q (.str y) t2) : W (eStrO F o S t) Q := by
  unfold eStrO
  refine w_bnd (h.mono fun d t1 ⟨n, fs, v, e1, e2, h⟩ => ?_)
  subst e1
  refine w_obAt e2 ?_
  refine w_bnd (w_ret ?_)
  refine w_bnd (W.mono h fun r t2 ⟨y, e3, q⟩ => ?_)
  subst e3
  exact q
theorem w_resM {nm : Nat → Str} {al : Nat → Bool} {F : Fn} {fs : List Ex} {ds : List D} {Q : D → Tn → Prop} (hf : evs fs S = ret ds) (h : W (eResM nm al (bnd (newOb (.ins [])) fun h => bnd (F (h :: ds)) fun r => match r with | .non => ret h | _ => stuck) t) Q) : W (eRes nm al (eMake F fs) S t) Q := by
  unfold eRes eMake
  rw [hf, ret_bnd]
  exact h
end
end BL
set_option Elab.async false
set_option linter.all false
set_option maxRecDepth 100000
set_option maxHeartbeats 2000000
namespace BL
open PySem BG L2
theorem w_cmpTI {α : Type} {S : Sl} {t : Tn} {tg : Tg} {cond elt : Ex} {Q : List D → Tn → Prop} (F : α → D) (p : α → Bool) (e : α → D) : ∀ {is : List α}, (∀ i ∈ is, ∃ S', tg (F i) S = some S' ∧ cond S' t = some (.ok (.bl (p i)) t) ∧ (p i = true → elt S' t = some (.ok (e i) t))) → Q ((is.filter p).map e) t → W (cmpL tg cond elt S (is.map F) t) Q
  | [], _, q => q
  | i :: is, h, q => by
    obtain ⟨S', e1, e2, e3⟩ := h i (List.mem_cons_self ..)
    rw [List.map_cons]
    unfold cmpL
    rw [e1]
    have e2' : calm (cond S') t = some (.ok (.bl (p i)) t) := by unfold calm; rw [e2]
    show W (bnd (calm (cond S')) _ t) Q
    rw [bnd_ok e2']
    cases hp : p i with
    | true =>
      have e3 := e3 hp
      have e3' : calm (elt S') t = some (.ok (e i) t) := by unfold calm; rw [e3]
      show W (bnd (calm (elt S')) _ t) Q
      rw [bnd_ok e3']
      rw [List.filter_cons_of_pos hp, List.map_cons] at q
      exact w_bnd (w_cmpTI (Q := fun rs t' => W (ret (e i :: rs) t') Q) F p e (fun d hd => h d (List.mem_cons_of_mem _ hd)) q)
    | false =>
      rw [List.filter_cons_of_neg (by rw [hp]; decide)] at q
      exact w_cmpTI F p e (fun d hd => h d (List.mem_cons_of_mem _ hd)) q
end BL
set_option Elab.async false
set_option linter.all false
set_option maxRecDepth 100000
set_option maxHeartbeats 2000000
namespace BL
open PySem BG L2
def opD : Option Nat → D
  | some i => .tup [.str "add", gk i]
  | none => .tup [.str "drop"]
abbrev Opn := Option Nat × List Nat
def hD (l : List Opn) : List D := l.map fun p => .tup [opD p.1, .tup (cD p.2)]
def sesF (g c : List Nat) (d u : Nat) : List (Str × D) := [("goal", .tup (iD g)), ("gates", .tup (cD c)), ("done", .hnd d), ("undone", .hnd u)]
section
variable (g c : List Nat) (d u : Nat)
theorem ses_goal : (sesF g c d u).lookup ("goal" : Str) = some (.tup (iD g)) := by with_unfolding_all rfl
theorem ses_gates : (sesF g c d u).lookup ("gates" : Str) = some (.tup (cD c)) := by with_unfolding_all rfl
theorem ses_done : (sesF g c d u).lookup ("done" : Str) = some (.hnd d) := by with_unfolding_all rfl
theorem ses_no : ∀ x ∈ (["become", "add", "drop", "undo", "redo", "circuit", "rest", "is_done", "wrong", "history"] : List Str), (sesF g c d u).lookup x = none := by
  intro x hx
  simp only [List.mem_cons, List.not_mem_nil, or_false] at hx
  rcases hx with rfl | rfl | rfl | rfl | rfl | rfl | rfl | rfl | rfl | rfl <;> with_unfolding_all rfl
theorem ses_put_gates (c' : List Nat) : putFD "gates" (.tup (cD c')) (sesF g c d u) = sesF g c' d u := by
  unfold sesF putFD
  rw [if_neg (by decide +kernel)]
  unfold putFD
  rw [if_pos rfl]
theorem ses_put_undone (u' : Nat) : putFD "undone" (.hnd u') (sesF g c d u) = sesF g c d u' := by
  unfold sesF putFD
  rw [if_neg (by decide +kernel)]
  unfold putFD
  rw [if_neg (by decide +kernel)]
  unfold putFD
  rw [if_neg (by decide +kernel)]
  unfold putFD
  rw [if_pos rfl]
end
def OpOk (o : Option Nat) : Prop := ∀ i, o = some i → i < 18
def HOk (l : List Opn) : Prop := ∀ p ∈ l, OpOk p.1 ∧ Gs p.2
theorem HOk.nil : HOk [] := fun _ h => nomatch h
theorem HOk.snoc {l : List Opn} {o : Option Nat} {c : List Nat} (h : HOk l) (ho : OpOk o) (hc : Gs c) : HOk (l ++ [(o, c)]) := fun p hp => by
  rcases List.mem_append.mp hp with hp | hp
  · exact h p hp
  · rw [List.mem_singleton] at hp; subst hp; exact ⟨ho, hc⟩
theorem gk_ok20 {i : Nat} (h : i < 18) : okD (gk i) 20 = true := by
  obtain ⟨k, ls, _, h2, _⟩ := gts_kind (gk_mem h)
  exact h2
theorem ok_op {o : Option Nat} (h : OpOk o) : okD (opD o) 21 = true ∧ nobl (opD o) = true := by
  cases o with
  | none => exact ⟨by decide +kernel, by decide +kernel⟩
  | some i =>
    refine ⟨okA_of (n := 20) fun d hd => ?_, noblA_of fun d hd => ?_⟩
    · rcases List.mem_cons.mp hd with rfl | hd
      · decide +kernel
      · rw [List.mem_singleton] at hd; subst hd; exact gk_ok20 (h i rfl)
    · rcases List.mem_cons.mp hd with rfl | hd
      · rfl
      · rw [List.mem_singleton] at hd; subst hd; exact gk_nobl (h i rfl)
/-- a session stands at n, its lists at d and u -/
structure SesAt (st : Sto) (n d u : Nat) (g c : List Nat) (dn un : List Opn) : Prop where
  at_ : ∃ v, st[n]? = some (.ins (sesF g c d u), v)
  dn_ : ∃ v, st[d]? = some (.li (hD dn), v)
  un_ : ∃ v, st[u]? = some (.li (hD un), v)
  nd : n ≠ d
  nu : n ≠ u
  du : d ≠ u
  gx : IsX g
  cg : Gs c
  hd : HOk dn
  hu : HOk un
  ld : dn.length ≤ 1000
  lu : un.length ≤ 1000
  lc : c.length ≤ 20
theorem SesAt.keep {st st' : Sto} {n d u : Nat} {g c : List Nat} {dn un : List Opn} (h : SesAt st n d u g c dn un) (e : ∀ m, m = n ∨ m = d ∨ m = u → st'[m]? = st[m]?) : SesAt st' n d u g c dn un where
  at_ := by rw [e n (.inl rfl)]; exact h.at_
  dn_ := by rw [e d (.inr (.inl rfl))]; exact h.dn_
  un_ := by rw [e u (.inr (.inr rfl))]; exact h.un_
  nd := h.nd
  nu := h.nu
  du := h.du
  gx := h.gx
  cg := h.cg
  hd := h.hd
  hu := h.hu
  ld := h.ld
  lu := h.lu
  lc := h.lc
theorem SesAt.lt {st : Sto} {n d u : Nat} {g c : List Nat} {dn un : List Opn} (h : SesAt st n d u g c dn un) : n < st.length ∧ d < st.length ∧ u < st.length := by
  obtain ⟨_, h1⟩ := h.at_
  obtain ⟨_, h2⟩ := h.dn_
  obtain ⟨_, h3⟩ := h.un_
  exact ⟨(List.getElem?_eq_some_iff.mp h1).1, (List.getElem?_eq_some_iff.mp h2).1, (List.getElem?_eq_some_iff.mp h3).1⟩
/-- nothing that stood is changed but what is told -/
def Fr (st st' : Sto) (I : List Nat) : Prop := st.length ≤ st'.length ∧ ∀ m, m < st.length → m ∉ I → st'[m]? = st[m]?
theorem Fr.refl (st : Sto) (I : List Nat) : Fr st st I := ⟨Nat.le_refl _, fun _ _ _ => rfl⟩
theorem Fr.trans {a b c : Sto} {I : List Nat} (h : Fr a b I) (k : Fr b c I) : Fr a c I := ⟨Nat.le_trans h.1 k.1, fun m hm hi => (k.2 m (Nat.lt_of_lt_of_le hm h.1) hi).trans (h.2 m hm hi)⟩
theorem SesAt.fr {st st' : Sto} {n d u : Nat} {g c : List Nat} {dn un : List Opn} {I : List Nat} (h : SesAt st n d u g c dn un) (f : Fr st st' I) (e : n ∉ I ∧ d ∉ I ∧ u ∉ I) : SesAt st' n d u g c dn un := h.keep fun m hm => by
  obtain ⟨l1, l2, l3⟩ := h.lt
  rcases hm with rfl | rfl | rfl
  · exact f.2 _ l1 e.1
  · exact f.2 _ l2 e.2.1
  · exact f.2 _ l3 e.2.2
section
variable {t : Tn} {n d u : Nat} {g c : List Nat} {dn un : List Opn} {S : Sl} {i : Nat}
theorem w_fgoal (h : SesAt t.2 n d u g c dn un) (e : S[i]? = some (.val (.hnd n))) {Q : D → Tn → Prop} (q : Q (.tup (iD g)) t) : W (eFld "goal" (eVar i) S t) Q := by
  obtain ⟨v, h1⟩ := h.at_
  exact w_fld (w_var e ⟨n, _, v, _, rfl, h1, ses_goal _ _ _ _, q⟩)
theorem w_fgates (h : SesAt t.2 n d u g c dn un) (e : S[i]? = some (.val (.hnd n))) {Q : D → Tn → Prop} (q : Q (.tup (cD c)) t) : W (eFld "gates" (eVar i) S t) Q := by
  obtain ⟨v, h1⟩ := h.at_
  exact w_fld (w_var e ⟨n, _, v, _, rfl, h1, ses_gates _ _ _ _, q⟩)
theorem w_fdone (h : SesAt t.2 n d u g c dn un) (e : S[i]? = some (.val (.hnd n))) {Q : D → Tn → Prop} (q : Q (.hnd d) t) : W (eFld "done" (eVar i) S t) Q := by
  obtain ⟨v, h1⟩ := h.at_
  exact w_fld (w_var e ⟨n, _, v, _, rfl, h1, ses_done _ _ _ _, q⟩)
/-- a method without arguments that only tells -/
theorem w_m0 {m : Str} (h : SesAt t.2 n d u g c dn un) (hm : m ∈ (["become", "add", "drop", "undo", "redo", "circuit", "rest", "is_done", "wrong", "history"] : List Str)) {F : Fn} {r : D} {o : Ex} {Q : D → Tn → Prop} (ho : o S = ret (.hnd n)) (hF : F [.hnd n] t = some (.ok r t)) (q : Q r t) : W (eMeth m F o [] S t) Q := by
  obtain ⟨v, h1⟩ := h.at_
  refine w_meth ?_
  rw [ho]
  exact ⟨n, _, v, rfl, h1, ses_no _ _ _ _ m hm, w_evnil (w_okE hF q)⟩
theorem circuit_eq (h : SesAt t.2 n d u g c dn un) : f_Session_circuit [.hnd n] t = some (.ok (.tup (cD c)) t) := okW (by
  unfold f_Session_circuit
  with_reducible refine w_fn ?_
  rw [show slots0 1 [D.hnd n] = [.val (.hnd n)] from rfl]
  unfold b_Session_circuit
  exact w_sret (w_fgates h rfl (nx_ret ⟨rfl, rfl⟩)))
theorem rest_eq (h : SesAt t.2 n d u g c dn un) : f_Session_rest [.hnd n] t = some (.ok (.tup (iD (thn (bk (mkx c)) g))) t) := okW (by
  unfold f_Session_rest
  with_reducible refine w_fn ?_
  rw [show slots0 1 [D.hnd n] = [.val (.hnd n)] from rfl]
  unfold b_Session_rest
  refine w_sret (w_call (w_evcons (w_call (w_evcons (w_call (w_evcons (w_fgates h rfl (w_evnil ?_))))))))
  with_reducible refine w_eq (made_eq h.cg) ?_
  refine w_evnil ?_
  with_reducible refine w_eq (back_eq (mkx_x h.cg)) ?_
  refine w_evcons (w_fgoal h rfl (w_evnil ?_))
  with_reducible refine w_eq (thenX (bk_x (mkx_x h.cg)) h.gx) ?_
  exact nx_ret ⟨rfl, rfl⟩)
theorem is_done_eq (h : SesAt t.2 n d u g c dn un) : f_Session_is_done [.hnd n] t = some (.ok (.bl (decide (thn (bk (mkx c)) g = List.range 8))) t) := okW (by
  unfold f_Session_is_done
  with_reducible refine w_fn ?_
  rw [show slots0 1 [D.hnd n] = [.val (.hnd n)] from rfl]
  unfold b_Session_is_done
  refine w_sret (w_bin (w_m0 h (by simp) rfl (rest_eq h) (w_c ?_)))
  rw [same_iD]
  exact w_eqX (nx_ret ⟨rfl, rfl⟩))
/-- the words that are wrong -/
def wrg (c g : List Nat) : List Nat := (List.range 8).filter fun w => decide (mkw c w ≠ BM.fn g w)
theorem wrg_len (c g : List Nat) : (wrg c g).length ≤ 8 := Nat.le_trans (List.length_filter_le _ _) (by rw [List.length_range]; exact Nat.le_refl _)
theorem w_neN {a b : Nat} {t : Tn} {Q : D → Tn → Prop} (q : Q (.bl (decide (a ≠ b))) t) : W (pNe (.int (a : Int)) (.int (b : Int)) t) Q := by
  refine w_neI ?_
  rw [show decide (((a : Nat) : Int) ≠ ((b : Nat) : Int)) = decide (a ≠ b) from decide_eq_decide.mpr (not_congr Int.ofNat_inj)]
  exact q
theorem mkx_at {c : List Nat} {w : Nat} (h : w < 8) : atI (iD (mkx c)) (w : Int) = some (.int (mkw c w : Nat)) := atI_iD (mkx_get h)
theorem wrong_eq (h : SesAt t.2 n d u g c dn un) : f_Session_wrong [.hnd n] t = some (.ok (.tup (iD (wrg c g))) t) := okW (by
  have hsz := sizeL
  unfold f_Session_wrong
  with_reducible refine w_fn ?_
  rw [show slots0 3 [D.hnd n] = [.val (.hnd n), .un, .un] from rfl]
  unfold b_Session_wrong
  refine w_seq (w_asg (w_call (w_evcons (w_fgates h rfl (w_evnil ?_)))))
  with_reducible refine w_eq (made_eq h.cg) ?_
  refine nx_nx ?_
  dsimp only [List.set]
  refine w_sret (w_un (w_comp (w_itSeq (w_c ?_))))
  rw [same_iD]
  refine sq_t ⟨by rw [iD_len, List.length_range]; omega, ?_⟩
  unfold iD
  refine w_cmpTI (fun (w : Nat) => D.int (w : Int)) (fun w => decide (mkw c w ≠ BM.fn g w)) (fun w => D.int (w : Int)) (fun w hw => ⟨_, rfl, okW ?_, fun _ => okW (w_var rfl ⟨rfl, rfl⟩)⟩) (w_tupL (nx_ret ⟨rfl, rfl⟩))
  have h8 := List.mem_range.mp hw
  refine w_bin (w_bin (w_var rfl (w_var rfl (w_idxT (mkx_at h8) (w_bin (w_fgoal h rfl (w_var rfl (w_idxT (x_at h.gx h8) ?_))))))))
  exact w_neN ⟨rfl, rfl⟩)
def fst2 : D → D
  | .tup [a, _] => a
  | d => d
theorem fst_hD (l : List Opn) : ((hD l).filter fun _ => true).map fst2 = l.map fun p => opD p.1 := by
  rw [filter_true]
  unfold hD
  rw [List.map_map]
  rfl
theorem hD_len (l : List Opn) : (hD l).length = l.length := List.length_map _
theorem mem_hD {l : List Opn} {d : D} (h : d ∈ hD l) : ∃ p ∈ l, d = .tup [opD p.1, .tup (cD p.2)] := by
  unfold hD at h
  obtain ⟨p, hp, rfl⟩ := List.mem_map.mp h
  exact ⟨p, hp, rfl⟩
theorem history_eq (h : SesAt t.2 n d u g c dn un) : f_Session_history [.hnd n] t = some (.ok (.tup (dn.map fun p => opD p.1)) t) := okW (by
  have hsz := sizeL
  have l1 := h.ld
  unfold f_Session_history
  with_reducible refine w_fn ?_
  rw [show slots0 3 [D.hnd n] = [.val (.hnd n), .un, .un] from rfl]
  unfold b_Session_history
  obtain ⟨v, h1⟩ := h.dn_
  refine w_sret (w_un (w_compM2 (w_fdone h rfl ⟨d, _, hD dn, rfl, h1, rfl, by rw [hD_len]; omega, fun _ => true, fst2, fun x hx => ?_, ?_⟩)))
  · obtain ⟨p, hp, rfl⟩ := mem_hD hx
    exact ⟨_, rfl, rfl, fun _ => rfl⟩
  · rw [fst_hD]
    exact w_tupL (nx_ret ⟨rfl, rfl⟩))
theorem len_eq (h : SesAt t.2 n d u g c dn un) : f_Session_len [.hnd n] t = some (.ok (.int (c.length : Nat)) t) := okW (by
  unfold f_Session_len
  with_reducible refine w_fn ?_
  rw [show slots0 1 [D.hnd n] = [.val (.hnd n)] from rfl]
  unfold b_Session_len
  refine w_sret (w_un (w_fgates h rfl (w_lenT ?_)))
  rw [cD_len]
  exact nx_ret ⟨rfl, rfl⟩)
def strN (a b : Nat) : Str := (((Str.empty ++ (toString ((a : Nat) : Int) : Str)) ++ " gates, ") ++ (toString ((b : Nat) : Int) : Str)) ++ " words wrong"
theorem str_tab : ∀ a, a < 21 → ∀ b, b < 9 → (Str.empty ++ (toString ((a : Nat) : Int) : Str)).length ≤ sizeLine ∧ ((Str.empty ++ (toString ((a : Nat) : Int) : Str)) ++ " gates, ").length ≤ sizeLine ∧ (((Str.empty ++ (toString ((a : Nat) : Int) : Str)) ++ " gates, ") ++ (toString ((b : Nat) : Int) : Str)).length ≤ sizeLine ∧ ((((Str.empty ++ (toString ((a : Nat) : Int) : Str)) ++ " gates, ") ++ (toString ((b : Nat) : Int) : Str)) ++ " words wrong").length ≤ sizeLine ∧ ((a : Nat) : Int).natAbs.log2 < 1920 ∧ ((b : Nat) : Int).natAbs.log2 < 1920 := by decide +kernel
/-- .. gates, .. words wrong -/
theorem w_text {a b : Nat} (ha : a ≤ 20) (hb : b ≤ 8) {e1 e2 : Ex} {Q : D → Tn → Prop} (h1 : ∀ Q' : D → Tn → Prop, Q' (.int ((a : Nat) : Int)) t → W (e1 S t) Q') (h2 : ∀ Q' : D → Tn → Prop, Q' (.int ((b : Nat) : Int)) t → W (e2 S t) Q') (q : Q (.str (strN a b)) t) : W (eJoin [(eFmt e1), (eC (.str " gates, ")), (eFmt e2), (eC (.str " words wrong"))] Str.empty S t) Q := by
  obtain ⟨z1, z2, z3, z4, z5, z6⟩ := str_tab a (by omega) b (by omega)
  with_reducible refine w_jcons (w_fmtI ?_)
  with_reducible refine h1 _ ⟨_, rfl, z5, ?_⟩
  with_reducible refine ⟨_, rfl, z1, ?_⟩
  with_reducible refine w_jcons (w_c ?_)
  with_reducible refine ⟨_, rfl, z2, ?_⟩
  with_reducible refine w_jcons (w_fmtI ?_)
  with_reducible refine h2 _ ⟨_, rfl, z6, ?_⟩
  with_reducible refine ⟨_, rfl, z3, ?_⟩
  with_reducible refine w_jcons (w_c ?_)
  with_reducible refine ⟨_, rfl, z4, ?_⟩
  with_reducible refine w_jnil ?_
  exact q
theorem strS_eq (h : SesAt t.2 n d u g c dn un) : f_Session_str [.hnd n] t = some (.ok (.str (strN c.length (wrg c g).length)) t) := okW (by
  unfold f_Session_str
  with_reducible refine w_fn ?_
  rw [show slots0 1 [D.hnd n] = [.val (.hnd n)] from rfl]
  unfold b_Session_str
  refine w_sret (w_text h.lc (wrg_len c g) (fun Q' q' => w_un (w_fgates h rfl (w_lenT (by rw [cD_len]; exact q')))) (fun Q' q' => w_un (w_m0 h (by simp) rfl (wrong_eq h) (w_lenT (by rw [iD_len]; exact q')))) (nx_ret ⟨rfl, rfl⟩)))
end
end BL
set_option Elab.async false
set_option linter.all false
set_option maxRecDepth 100000
set_option maxHeartbeats 2000000
namespace BL
open PySem BG L2
theorem get_set {st : Sto} {i m : Nat} {x : Ob × Nat} : (st.set i x)[m]? = if i = m ∧ m < st.length then some x else st[m]? := by
  rw [List.getElem?_set]
  by_cases h : i = m
  · subst h
    by_cases hl : i < st.length
    · rw [if_pos rfl, if_pos hl, if_pos ⟨rfl, hl⟩]
    · rw [if_pos rfl, if_neg hl, if_neg (fun z => hl z.2), List.getElem?_eq_none (by omega)]
  · rw [if_neg h, if_neg (fun z => h z.1)]
theorem get_app {st : Sto} {m : Nat} {x : Ob × Nat} : (st ++ [x])[m]? = if m = st.length then some x else st[m]? := by
  by_cases h : m = st.length
  · subst h
    rw [if_pos rfl, List.getElem?_append_right (Nat.le_refl _), Nat.sub_self]; rfl
  · rw [if_neg h]
    by_cases hl : m < st.length
    · rw [List.getElem?_append_left hl]
    · rw [List.getElem?_append_right (by omega), List.getElem?_eq_none (by show 1 ≤ m - st.length; omega), List.getElem?_eq_none (by omega)]
theorem cD_inj : ∀ {a b : List Nat}, Gs a → Gs b → cD a = cD b → a = b
  | [], [], _, _, _ => rfl
  | [], y :: b, _, _, h => by cases h
  | x :: a, [], _, _, h => by cases h
  | x :: a, y :: b, ha, hb, h => by
    have h : gk x :: cD a = gk y :: cD b := h
    injection h with h1 h2
    have hx := ha x (List.mem_cons_self ..)
    have hy := hb y (List.mem_cons_self ..)
    have e : x = y := (gk_inj x hx y hy).mp (by rw [h1]; exact (gk_inj y hy y hy).mpr rfl)
    rw [e, cD_inj (fun i hi => ha i (List.mem_cons_of_mem _ hi)) (fun i hi => hb i (List.mem_cons_of_mem _ hi)) h2]
theorem w_eqC {a b : List Nat} {t : Tn} {Q : D → Tn → Prop} (ha : Gs a) (hb : Gs b) (h : Q (.bl (decide (a = b))) t) : W (pEq (.tup (cD a)) (.tup (cD b)) t) Q := by
  refine w_eqD (ok_cD ha) (ok_cD hb) ?_
  have e : PyData.eqv (D.tup (cD a)).py (D.tup (cD b)).py = decide (a = b) := by
    rw [Bool.eq_iff_iff, decide_eq_true_eq, eqv_iff (nobl_cD ha) (nobl_cD hb)]
    exact ⟨fun e => cD_inj ha hb (by injection e), fun e => by rw [e]⟩
  rw [e]; exact h
theorem sIx_neg1 (n d : Nat) : HT.sIx n d (some (-1)) = n - 1 := by
  have h := HT.clip_eq (-1) n d
  rw [if_pos (by decide)] at h
  by_cases z : n = 0
  · subst z
    have : (0 : Int) = ((HT.sIx 0 d (some (-1)) : Nat) : Int) := h
    omega
  · have e : max (-1 + (n : Int)) 0 = ((n - 1 : Nat) : Int) := by omega
    rw [e] at h
    omega
theorem cutD_neg1 (ds : List D) : cutD ds none (some (-1)) = ds.take (ds.length - 1) := by
  unfold cutD
  rw [sIx_neg1, HT.sIx_none, List.drop_zero, Nat.sub_zero]
abbrev sf2 (g : List Nat) : List (Str × D) := [("goal", .tup (iD g)), ("gates", .tup [])]
abbrev sf3 (g : List Nat) (k : Nat) : List (Str × D) := [("goal", .tup (iD g)), ("gates", .tup []), ("done", .hnd k)]
theorem w_mkSes {g : List Nat} (hg : IsX g) {fs : List Ex} {S : Sl} {t : Tn} {Q : D → Tn → Prop} (hf : evs fs S = ret [.tup (iD g)])
    (q : ∀ t', t'.1 = t.1 → SesAt t'.2 t.2.length (t.2.length + 1) (t.2.length + 2) g [] [] [] → Fr t.2 t'.2 [] → t'.2.length = t.2.length + 3 → Q (.hnd t.2.length) t') : W (eMake f_Session_init fs S t) Q := by
  refine w_make ?_
  rw [hf]
  refine w_ret ?_
  obtain ⟨tw, st⟩ := t
  unfold f_Session_init
  with_reducible refine w_fn ?_
  rw [show slots0 2 [D.hnd ((tw, st) : Tn).2.length, D.tup (iD g)] = [.val (.hnd st.length), .val (.tup (iD g))] from rfl]
  unfold b_Session_init
  have g0 : ∀ {x : Ob × Nat} {r : Sto}, (st ++ x :: r)[st.length]? = some x := fun {x r} => by rw [List.getElem?_append_right (Nat.le_refl _), Nat.sub_self]; rfl
  have s0 : ∀ {x y : Ob × Nat} {r : Sto}, (st ++ x :: r).set st.length y = st ++ y :: r := fun {x y r} => by rw [List.set_append_right _ _ (Nat.le_refl _), Nat.sub_self]; rfl
  refine w_seq (w_expr (w_call (w_evcons (w_var rfl (w_evnil ?_)))))
  with_reducible refine w_eq (check_exchange_yes hg) ?_
  refine nx_nx ?_
  refine w_seq (w_sfld (w_var rfl (w_var rfl ⟨_, [], 0, rfl, g0, by decide, nx_nx ?_⟩)))
  have h1 : (st ++ [((Ob.ins []), 0)]).set st.length (Ob.ins (putFD "goal" (.tup (iD g)) []), 0 + 1) = st ++ [(Ob.ins [("goal", .tup (iD g))], 1)] := s0
  show W (sSeq _ _ _ (tw, (st ++ [((Ob.ins []), 0)]).set st.length (Ob.ins (putFD "goal" (.tup (iD g)) []), 0 + 1))) _
  rw [h1]
  refine w_seq (w_sfld (w_tup (w_evnil (w_var rfl ⟨_, _, 1, rfl, g0, (by show 1 < 1000; decide), nx_nx ?_⟩))))
  have h2 : (st ++ [(Ob.ins [("goal", D.tup (iD g))], 1)]).set st.length (Ob.ins (putFD "gates" (.tup []) [("goal", D.tup (iD g))]), 1 + 1) = st ++ [(Ob.ins (sf2 g), 2)] := by
    have e : putFD "gates" (.tup []) [("goal", D.tup (iD g))] = sf2 g := by
      unfold putFD
      rw [if_neg (by decide +kernel)]
      rfl
    rw [e]; exact s0
  show W (sSeq _ _ _ (tw, (st ++ [(Ob.ins [("goal", D.tup (iD g))], 1)]).set st.length (Ob.ins (putFD "gates" (.tup []) [("goal", D.tup (iD g))]), 1 + 1))) _
  rw [h2]
  refine w_seq (w_sfld (w_adopt (w_lst (w_evnil (ls_l (w_var rfl ⟨_, sf2 g, 2, rfl, ?_, (by show 2 < 1000; decide), nx_nx ?_⟩))))))
  · show (st ++ [_] ++ [_])[st.length]? = _
    rw [List.append_assoc]; exact g0
  have l1 : (st ++ [(Ob.ins (sf2 g), 2)]).length = st.length + 1 := by rw [List.length_append]; rfl
  have h3 : (st ++ [(Ob.ins (sf2 g), 2)] ++ [((Ob.li []), 0)]).set st.length (Ob.ins (putFD "done" (.hnd (st ++ [(Ob.ins (sf2 g), 2)]).length) (sf2 g)), 2 + 1) = st ++ [(Ob.ins (sf3 g (st.length + 1)), 3), ((Ob.li []), 0)] := by
    rw [l1]
    have e : putFD "done" (.hnd (st.length + 1)) (sf2 g) = sf3 g (st.length + 1) := by
      unfold putFD
      rw [if_neg (by decide +kernel)]
      unfold putFD
      rw [if_neg (by decide +kernel)]
      rfl
    rw [e, List.append_assoc]; exact s0
  show W (sFldD _ _ _ _ (tw, (st ++ [(Ob.ins (sf2 g), 2)] ++ [((Ob.li []), 0)]).set st.length (Ob.ins (putFD "done" (.hnd (st ++ [(Ob.ins (sf2 g), 2)]).length) (sf2 g)), 2 + 1))) _
  rw [h3]
  refine w_sfld (w_adopt (w_lst (w_evnil (ls_l (w_var rfl ⟨_, sf3 g (st.length + 1), 3, rfl, ?_, (by show 3 < 1000; decide), nx_nx ?_⟩)))))
  · show (st ++ [_, _] ++ [_])[st.length]? = _
    rw [List.append_assoc]; exact g0
  have l2 : (st ++ [(Ob.ins (sf3 g (st.length + 1)), 3), ((Ob.li []), 0)]).length = st.length + 2 := by rw [List.length_append]; rfl
  have h4 : (st ++ [(Ob.ins (sf3 g (st.length + 1)), 3), ((Ob.li []), 0)] ++ [((Ob.li []), 0)]).set st.length (Ob.ins (putFD "undone" (.hnd (st ++ [(Ob.ins (sf3 g (st.length + 1)), 3), ((Ob.li []), 0)]).length) (sf3 g (st.length + 1))), 3 + 1) = st ++ [(Ob.ins (sesF g [] (st.length + 1) (st.length + 2)), 4), ((Ob.li []), 0), ((Ob.li []), 0)] := by
    rw [l2]
    have e : putFD "undone" (.hnd (st.length + 2)) (sf3 g (st.length + 1)) = sesF g [] (st.length + 1) (st.length + 2) := by
      unfold putFD
      rw [if_neg (by decide +kernel)]
      unfold putFD
      rw [if_neg (by decide +kernel)]
      unfold putFD
      rw [if_neg (by decide +kernel)]
      rfl
    rw [e, List.append_assoc]; exact s0
  refine ⟨rfl, ?_⟩
  show Q (.hnd st.length) (tw, (st ++ [(Ob.ins (sf3 g (st.length + 1)), 3), ((Ob.li []), 0)] ++ [((Ob.li []), 0)]).set st.length (Ob.ins (putFD "undone" (.hnd (st ++ [(Ob.ins (sf3 g (st.length + 1)), 3), ((Ob.li []), 0)]).length) (sf3 g (st.length + 1))), 3 + 1))
  rw [h4]
  refine q _ rfl ?_ ⟨?_, fun m hm _ => ?_⟩ ?_
  · refine ⟨⟨4, g0⟩, ⟨0, ?_⟩, ⟨0, ?_⟩, by show st.length ≠ st.length + 1; omega, by show st.length ≠ st.length + 2; omega, by show st.length + 1 ≠ st.length + 2; omega, hg, (fun _ h => nomatch h), .nil, .nil, Nat.zero_le _, Nat.zero_le _, Nat.zero_le _⟩
    · show (st ++ [_, _, _])[st.length + 1]? = _
      rw [List.getElem?_append_right (by omega), show st.length + 1 - st.length = 1 from by omega]; rfl
    · show (st ++ [_, _, _])[st.length + 2]? = _
      rw [List.getElem?_append_right (by omega), show st.length + 2 - st.length = 2 from by omega]; rfl
  · show st.length ≤ (st ++ [_, _, _]).length
    rw [List.length_append]; omega
  · show (st ++ [_, _, _])[m]? = _
    exact List.getElem?_append_left hm
  · show (st ++ [_, _, _]).length = st.length + 3
    rw [List.length_append]; rfl
section
variable {t : Tn} {n d u : Nat} {g c : List Nat} {dn un : List Opn}
theorem hD_snoc (l : List Opn) (o : Option Nat) (c : List Nat) : hD (l ++ [(o, c)]) = hD l ++ [.tup [opD o, .tup (cD c)]] := by unfold hD; rw [List.map_append]; rfl
theorem w_become (h : SesAt t.2 n d u g c dn un) {o : Option Nat} (ho : OpOk o) {c' : List Nat} (hc' : Gs c') (hl : c'.length ≤ 20) (hdn : dn.length < 1000) {Q : D → Tn → Prop}
    (q : ∀ t', t'.1 = t.1 → SesAt t'.2 n d t.2.length g c' (dn ++ [(o, c)]) [] → Fr t.2 t'.2 [n, d] → Q (.int ((wrg c' g).length : Nat)) t') : W (f_Session_become [.hnd n, opD o, .tup (cD c')] t) Q := by
  have hsz := sizeL
  obtain ⟨tw, st⟩ := t
  obtain ⟨v0, a0⟩ := h.at_
  obtain ⟨v1, a1⟩ := h.dn_
  obtain ⟨v2, a2⟩ := h.un_
  obtain ⟨k0, k1, k2⟩ := h.lt
  have nd := h.nd
  have a0 : st[n]? = some (.ins (sesF g c d u), v0) := a0
  have a1 : st[d]? = some (.li (hD dn), v1) := a1
  have k0 : n < st.length := k0
  have k1 : d < st.length := k1
  unfold f_Session_become
  with_reducible refine w_fn ?_
  rw [show slots0 3 [D.hnd n, opD o, D.tup (cD c')] = [.val (.hnd n), .val (opD o), .val (.tup (cD c'))] from rfl]
  unfold b_Session_become
  refine w_seq (w_mapp (w_fdone h rfl ⟨d, hD dn, v1, rfl, a1, w_tup (w_evcons (w_var rfl (w_evcons (w_fgates h rfl (w_evnil ⟨hD dn, v1, a1, by rw [hD_len]; omega, nx_nx ?_⟩)))))⟩))
  rw [← hD_snoc]
  show W (sSeq _ _ _ (tw, st.set d (.li (hD (dn ++ [(o, c)])), v1 + 1))) _
  have b0 : (st.set d (.li (hD (dn ++ [(o, c)])), v1 + 1))[n]? = some (.ins (sesF g c d u), v0) := by rw [get_set, if_neg (fun z => nd z.1.symm)]; exact a0
  have ln : (st.set d (.li (hD (dn ++ [(o, c)])), v1 + 1)).length = st.length := List.length_set
  refine w_seq (w_sfld (w_adopt (w_lst (w_evnil (ls_l (w_var rfl ⟨n, sesF g c d u, v0, rfl, ?_, (by show 4 < 1000; decide), nx_nx ?_⟩))))))
  · show (st.set d (.li (hD (dn ++ [(o, c)])), v1 + 1) ++ [_])[n]? = _
    rw [get_app, if_neg (by rw [ln]; omega)]; exact b0
  show W (sSeq _ _ _ (tw, (st.set d (.li (hD (dn ++ [(o, c)])), v1 + 1) ++ [((Ob.li []), 0)]).set n (.ins (putFD "undone" (.hnd (st.set d (.li (hD (dn ++ [(o, c)])), v1 + 1)).length) (sesF g c d u)), v0 + 1))) _
  rw [ses_put_undone, ln]
  refine w_seq (w_sfld (w_var rfl (w_var rfl ⟨n, sesF g c d st.length, v0 + 1, rfl, ?_, (by show 4 < 1000; decide), nx_nx ?_⟩)))
  · show (((st.set d _) ++ [_]).set n _)[n]? = _
    rw [get_set, if_pos ⟨rfl, by rw [List.length_append, ln]; omega⟩]
  rw [ses_put_gates]
  show W (sRet _ _ (tw, (((st.set d (.li (hD (dn ++ [(o, c)])), v1 + 1) ++ [((Ob.li []), 0)]).set n (.ins (sesF g c d st.length), v0 + 1)).set n (.ins (sesF g c' d st.length), v0 + 1 + 1)))) _
  generalize hst : (((st.set d (.li (hD (dn ++ [(o, c)])), v1 + 1) ++ [((Ob.li []), 0)]).set n (.ins (sesF g c d st.length), v0 + 1)).set n (.ins (sesF g c' d st.length), v0 + 1 + 1)) = st'
  have e : ∀ m, st'[m]? = if n = m then some (.ins (sesF g c' d st.length), v0 + 1 + 1) else if m = st.length then some ((Ob.li []), 0) else if d = m then some (.li (hD (dn ++ [(o, c)])), v1 + 1) else st[m]? := fun m => by
    rw [← hst, get_set, get_set, get_app, get_set, List.length_set, List.length_append, ln]
    by_cases z1 : n = m
    · subst z1
      rw [if_pos ⟨rfl, by show n < st.length + 1; omega⟩, if_pos rfl]
    · rw [if_neg (fun z => z1 z.1), if_neg (fun z => z1 z.1), if_neg z1]
      by_cases z2 : m = st.length
      · rw [if_pos z2, if_pos z2]
      · rw [if_neg z2, if_neg z2]
        by_cases z3 : d = m
        · subst z3
          rw [if_pos ⟨rfl, k1⟩, if_pos rfl]
        · rw [if_neg (fun z => z3 z.1), if_neg z3]
  have hs : SesAt st' n d st.length g c' (dn ++ [(o, c)]) [] := by
    refine ⟨⟨_, by rw [e, if_pos rfl]⟩, ⟨_, by rw [e, if_neg nd, if_neg (by omega), if_pos rfl]⟩, ⟨0, by rw [e, if_neg (by omega), if_pos rfl]; rfl⟩, nd, by omega, by omega, h.gx, hc', h.hd.snoc ho h.cg, .nil, by rw [List.length_append]; show dn.length + 1 ≤ 1000; omega, Nat.zero_le _, hl⟩
  refine w_sret (w_un (w_m0 (t := (tw, st')) hs (by simp) rfl (wrong_eq hs) (w_lenT ?_)))
  rw [iD_len]
  refine nx_ret (q _ rfl hs ⟨?_, fun m hm hi => ?_⟩)
  · show st.length ≤ st'.length
    rw [← hst, List.length_set, List.length_set, List.length_append, ln]; omega
  · show st'[m]? = st[m]?
    have hm : m < st.length := hm
    rw [e, if_neg (fun z => hi (by rw [z]; simp)), if_neg (by omega), if_neg (fun z => hi (by rw [z]; simp))]
/-- a method with one argument -/
theorem w_m1 {m : Str} (h : SesAt t.2 n d u g c dn un) (hm : m ∈ (["become", "add", "drop", "undo", "redo", "circuit", "rest", "is_done", "wrong", "history"] : List Str)) {F : Fn} {fs : List Ex} {S : Sl} {i : Nat} {Q : D → Tn → Prop} (e : S[i]? = some (.val (.hnd n))) (q : W (evs fs S t) fun ds t2 => W (F (.hnd n :: ds) t2) Q) : W (eMeth m F (eVar i) fs S t) Q := by
  obtain ⟨v, h1⟩ := h.at_
  exact w_meth (w_var e ⟨n, _, v, rfl, h1, ses_no _ _ _ _ m hm, q⟩)
theorem gs_snoc {c : List Nat} {i : Nat} (h : Gs c) (hi : i < 18) : Gs (c ++ [i]) := h.app fun j hj => by rw [List.mem_singleton] at hj; subst hj; exact hi
theorem w_add (h : SesAt t.2 n d u g c dn un) {i : Nat} (hi : i < 18) (hl : c.length < 20) (hdn : dn.length < 1000) {Q : D → Tn → Prop}
    (q : ∀ t', t'.1 = t.1 → SesAt t'.2 n d t.2.length g (c ++ [i]) (dn ++ [(some i, c)]) [] → Fr t.2 t'.2 [n, d] → Q (.int ((wrg (c ++ [i]) g).length : Nat)) t') : W (f_Session_add [.hnd n, gk i] t) Q := by
  have hsz := sizeL
  unfold f_Session_add
  with_reducible refine w_fn ?_
  rw [show slots0 2 [D.hnd n, gk i] = [.val (.hnd n), .val (gk i)] from rfl]
  unfold b_Session_add
  refine w_seq (w_expr (w_call (w_evcons (w_var rfl (w_evnil ?_)))))
  with_reducible refine w_eq (check_gate_yes hi) ?_
  refine nx_nx ?_
  refine w_seq (w_if (w_bin (w_un (w_fgates h rfl (w_lenT (w_c (w_eqI ?_)))))))
  rw [cD_len, decide_eq_false (by omega)]
  refine bl_i ⟨(fun z => nomatch z), fun _ => w_nil (nx_nx ?_)⟩
  refine w_sret (w_m1 h (by simp) rfl (w_evcons (w_tup (w_evcons (w_c (w_evcons (w_var rfl (w_evnil (w_evcons (w_bin (w_fgates h rfl (w_tup (w_evcons (w_var rfl (w_evnil (w_addT (by rw [cD_len]; show c.length + 1 ≤ sizeLine; omega) (w_evnil ?_)))))))))))))))))
  have e : cD c ++ [gk i] = cD (c ++ [i]) := by rw [cD_app]; rfl
  rw [e]
  exact w_become h (o := some i) (fun j hj => by cases hj; exact hi) (gs_snoc h.cg hi) (by rw [List.length_append]; show c.length + 1 ≤ 20; omega) hdn fun t' e1 e2 e3 => nx_ret (q t' e1 e2 e3)
theorem w_drop (h : SesAt t.2 n d u g c dn un) (hne : c ≠ []) (hdn : dn.length < 1000) {Q : D → Tn → Prop}
    (q : ∀ t', t'.1 = t.1 → SesAt t'.2 n d t.2.length g c.dropLast (dn ++ [(none, c)]) [] → Fr t.2 t'.2 [n, d] → Q (.int ((wrg c.dropLast g).length : Nat)) t') : W (f_Session_drop [.hnd n] t) Q := by
  unfold f_Session_drop
  with_reducible refine w_fn ?_
  rw [show slots0 1 [D.hnd n] = [.val (.hnd n)] from rfl]
  unfold b_Session_drop
  refine w_seq (w_if (w_bin (w_fgates h rfl (w_tup (w_evnil ?_)))))
  refine w_eqC (b := []) h.cg (fun _ z => nomatch z) ?_
  rw [decide_eq_false hne]
  refine bl_i ⟨(fun z => nomatch z), fun _ => w_nil (nx_nx ?_)⟩
  refine w_sret (w_m1 h (by simp) rfl (w_evcons (w_tup (w_evcons (w_c (w_evnil (w_evcons (w_slice (w_fgates h rfl (w_oN (w_oS (w_un (w_c (w_neg (in_i (w_slT (w_evnil ?_)))))))))))))))))
  have hp : 0 < c.length := List.length_pos_iff.mpr hne
  have e : cutD (cD c) none (some (-1)) = cD c.dropLast := by
    rw [cutD_neg1, cD_len]
    unfold cD
    rw [← List.map_take, List.dropLast_eq_take]
  rw [e]
  exact w_become h (o := none) (fun j hj => by cases hj) (fun i hi => h.cg i (List.dropLast_subset _ hi)) (by rw [List.length_dropLast]; have := h.lc; omega) hdn fun t' e1 e2 e3 => nx_ret (q t' e1 e2 e3)
end
end BL
set_option Elab.async false
set_option linter.all false
set_option maxRecDepth 100000
set_option maxHeartbeats 2000000
namespace BL
open PySem BG L2
section
variable {t : Tn} {n d u : Nat} {g c : List Nat} {dn un : List Opn}
theorem rs_fn {n : Nat} {b : Stm} {ds : List D} {t : Tn} {c : Nat} (h : b (slots0 n ds) t = some (.exc c t)) : fnOf n b ds t = some (.exc c t) := by
  unfold fnOf
  exact bnd_exc h
theorem rs_seq {a b : Stm} {S : Sl} {t : Tn} {c : Nat} (h : a S t = some (.exc c t)) : sSeq a b S t = some (.exc c t) := bnd_exc h
theorem rs_seq2 {a b : Stm} {S S' : Sl} {t : Tn} {c : Nat} (h : a S t = some (.ok (.nx S') t)) (k : b S' t = some (.exc c t)) : sSeq a b S t = some (.exc c t) := (bnd_ok h).trans k
theorem rs_if {f : Ex} {b : Stm} {S : Sl} {t : Tn} {c : Nat} (h : f S t = some (.ok (.bl true) t)) : sIf f (sRaise c) b S t = some (.exc c t) := bnd_ok h
theorem drop_no (h : SesAt t.2 n d u g [] dn un) : f_Session_drop [.hnd n] t = some (.exc 10 t) := by
  unfold f_Session_drop
  refine rs_fn ?_
  rw [show slots0 1 [D.hnd n] = [.val (.hnd n)] from rfl]
  unfold b_Session_drop
  exact rs_seq (rs_if (okW (w_bin (w_fgates h rfl (w_tup (w_evnil (w_eqC (a := []) (b := []) (fun _ z => nomatch z) (fun _ z => nomatch z) ⟨rfl, rfl⟩)))))))
theorem add_bad {x : D} (hx : f_is_gate [x] = ret (.bl false)) : f_Session_add [.hnd n, x] t = some (.exc 0 t) := by
  unfold f_Session_add
  refine rs_fn ?_
  rw [show slots0 2 [D.hnd n, x] = [.val (.hnd n), .val x] from rfl]
  unfold b_Session_add
  refine rs_seq ?_
  show bnd (bnd (evs [eVar 1] _) f_check_gate) _ t = _
  have e : bnd (evs [eVar 1] [SV.val (D.hnd n), SV.val x]) f_check_gate = f_check_gate [x] := rfl
  rw [e, check_gate_no hx]; rfl
theorem add_full (h : SesAt t.2 n d u g c dn un) {i : Nat} (hi : i < 18) (hl : c.length = 20) : f_Session_add [.hnd n, gk i] t = some (.exc 9 t) := by
  unfold f_Session_add
  refine rs_fn ?_
  rw [show slots0 2 [D.hnd n, gk i] = [.val (.hnd n), .val (gk i)] from rfl]
  unfold b_Session_add
  refine rs_seq2 (S' := [.val (.hnd n), .val (gk i)]) (okW (w_expr (w_call (w_evcons (w_var rfl (w_evnil (w_eq (check_gate_yes hi) ⟨rfl, rfl⟩))))))) (rs_seq (rs_if (okW (w_bin (w_un (w_fgates h rfl (w_lenT (w_c (w_eqI ?_)))))))))
  rw [cD_len, decide_eq_true (by omega)]
  exact ⟨rfl, rfl⟩
theorem fn_ret {n : Nat} {e : Ex} {ds : List D} {t : Tn} : fnOf n (sRet e) ds t = e (slots0 n ds) t := by
  unfold fnOf sRet bnd
  cases e (slots0 n ds) t with
  | none => rfl
  | some o => cases o <;> rfl
theorem meth_at {m : Str} (h : SesAt t.2 n d u g c dn un) (hm : m ∈ (["become", "add", "drop", "undo", "redo", "circuit", "rest", "is_done", "wrong", "history"] : List Str)) {F : Fn} {o : Ex} {fs : List Ex} {ds : List D} {S : Sl} (ho : o S = ret (.hnd n)) (hf : evs fs S = ret ds) : eMeth m F o fs S t = F (.hnd n :: ds) t := by
  obtain ⟨v, h1⟩ := h.at_
  unfold eMeth
  rw [ho, ret_bnd, bnd_ok (obAt_ok h1)]
  show (match (sesF g c d u).lookup m with | none => bnd (evs fs S) (fun ds => F (.hnd n :: ds)) | some _ => stuck) t = _
  rw [ses_no _ _ _ _ m hm, hf]
  rfl
theorem call_add (h : SesAt t.2 n d u g c dn un) (x : D) : f_law_call [.hnd n, .tup [.str "add", x]] t = f_Session_add [.hnd n, x] t := by
  unfold f_law_call b_law_call
  rw [fn_ret]
  have e : ∀ S : Sl, S = [SV.val (D.hnd n), SV.val (D.tup [D.str "add", x])] → eBin pEq (eBin pIdx (eVar 1) (eC (D.int 0))) (eC (D.str "drop")) S = ret (.bl false) := fun S hS => by
    subst hS
    with_unfolding_all rfl
  show eIf _ _ _ [SV.val (D.hnd n), SV.val (D.tup [D.str "add", x])] t = _
  unfold eIf
  rw [e _ rfl, ret_bnd]
  exact meth_at h (by simp) rfl rfl
theorem call_drop (h : SesAt t.2 n d u g c dn un) : f_law_call [.hnd n, .tup [.str "drop"]] t = f_Session_drop [.hnd n] t := by
  unfold f_law_call b_law_call
  rw [fn_ret]
  have e : ∀ S : Sl, S = [SV.val (D.hnd n), SV.val (D.tup [D.str "drop"])] → eBin pEq (eBin pIdx (eVar 1) (eC (D.int 0))) (eC (D.str "drop")) S = ret (.bl true) := fun S hS => by
    subst hS
    with_unfolding_all rfl
  show eIf _ _ _ [SV.val (D.hnd n), SV.val (D.tup [D.str "drop"])] t = _
  unfold eIf
  rw [e _ rfl, ret_bnd]
  exact meth_at h (by simp) rfl rfl
theorem res_exc {nm : Nat → Str} {al : Nat → Bool} {m : M D} {t : Tn} {k : Nat} (h : m t = some (.exc k t)) (ha : al k = true) : eResM nm al m t = some (.ok (.tup [.str (nm k)]) t) := by
  unfold eResM
  rw [h]
  show (if al k = true then _ else _) = _
  rw [if_pos ha]
end
abbrev opsD (l : List Opn) : List D := l.map fun p => opD p.1
theorem ok_ops {l : List Opn} (h : HOk l) : okA (opsD l) 58 = true ∧ noblA (opsD l) = true := ⟨okA_of fun d hd => by
  obtain ⟨p, hp, rfl⟩ := List.mem_map.mp hd
  exact okD_le (by decide) (ok_op (h p hp).1).1, noblA_of fun d hd => by
  obtain ⟨p, hp, rfl⟩ := List.mem_map.mp hd
  exact (ok_op (h p hp).1).2⟩
end BL
set_option Elab.async false
set_option linter.all false
set_option maxRecDepth 100000
set_option maxHeartbeats 2000000
namespace BL
open PySem BG L2
theorem tok_of {st : Sto} {t t' : Tn} (h : TOk st t) (e : t'.1 = t.1) : TOk t'.2 t' := by
  obtain ⟨c, rs, e1, h1, h2⟩ := h.ex
  obtain ⟨tw, st'⟩ := t'
  subst e1
  have e : tw = some (c, rs) := e
  subst e
  exact ⟨c, rs, rfl, h1, h2⟩
theorem tok_st {st : Sto} {t : Tn} (h : TOk st t) : t.2 = st := by
  obtain ⟨c, rs, rfl, _⟩ := h.ex
  rfl
theorem w_eq_no {p q : D} {t : Tn} {Q : D → Tn → Prop} (e : p ≠ q) (h1 : okD p 60 = true) (h2 : nobl p = true) (h3 : okD q 60 = true) (h4 : nobl q = true) (h : Q (.bl false) t) : W (pEq p q t) Q := by
  refine w_eqD h1 h3 ?_
  rw [show PyData.eqv p.py q.py = false from Bool.eq_false_iff.mpr fun z => e ((eqv_iff h2 h4).mp z)]
  exact h
theorem w_ninL {p : D} {ds : List D} {t : Tn} {Q : D → Tn → Prop} (hp : okD p 60 = true) (hq : okA ds 60 = true) (h : Q (.bl (!inD p ds)) t) : W (pNotIn p (.lst ds) t) Q := by
  show W ((if okD p 60 = true ∧ okA ds 60 = true then ret (.bl (!inD p ds)) else stuck) t) Q
  rw [if_pos ⟨hp, hq⟩]; exact h
theorem w_asgS3 {i j k : Nat} {e : Ex} {S : Sl} {t : Tn} {Q : Fl → Tn → Prop} (h : W (e S t) (Tp fun ds t1 => ∃ a b c, ds = [a, b, c] ∧ Q (.nx (((S.set i (.val a)).set j (.val b)).set k (.val c))) t1)) : W (sAsgS (gsTup 3 (gsCons (gsN i) (gsCons (gsN j) (gsCons (gsN k) gsNil)))) e S t) Q := by
  unfold sAsgS
  refine w_bnd (h.mono fun d t1 q => ?_)
  cases d with
  | tup ds =>
    obtain ⟨a, b, c, rfl, q⟩ := q
    exact q
  | _ => exact q.elim
/-- a statement, then the rest, with what holds between -/
theorem w_cut {a b : Stm} {S : Sl} {t : Tn} {Q : Fl → Tn → Prop} (I : Sl → Tn → Prop) (h : W (a S t) (Nx I fun _ _ => False)) (k : ∀ S' t', I S' t' → W (b S' t') Q) : W (sSeq a b S t) Q :=
  w_seq (W.mono h fun fl t' q => by
    cases fl with
    | nx S' => exact k S' t' q
    | ret d => exact q.elim)
theorem cut_dl (c : List Nat) : cutD (cD c) none (some (-1)) = cD c.dropLast := by
  rw [cutD_neg1, cD_len]
  unfold cD
  rw [← List.map_take, List.dropLast_eq_take]
theorem wrg_nil {c g : List Nat} : wrg c g = [] ↔ ∀ w, w < 8 → mkw c w = BM.fn g w := by
  unfold wrg
  rw [List.filter_eq_nil_iff]
  constructor
  · intro h w hw
    have := h w (List.mem_range.mpr hw)
    exact Classical.byContradiction fun z => this (decide_eq_true z)
  · intro h w hw
    rw [decide_eq_true_eq]
    exact fun z => z (h w (List.mem_range.mp hw))
theorem wrg_eq {c g : List Nat} (hc : Gs c) (hg : IsX g) : wrg c g = [] ↔ mkx c = g := by
  rw [wrg_nil]
  constructor
  · intro h
    exact x_ext (mkx_x hc) hg fun w hw => by rw [fx_mkx hw]; exact h w hw
  · rintro rfl w hw
    exact (fx_mkx hw).symm
theorem done_iff {c g : List Nat} (hc : Gs c) (hg : IsX g) : thn (bk (mkx c)) g = List.range 8 ↔ wrg c g = [] := by
  rw [wrg_eq hc hg]
  constructor
  · intro h
    have := thn_bkR (mkx_x hc) hg
    rw [h, (thn_id (mkx_x hc)).1] at this
    exact this
  · rintro rfl
    exact (thn_bk (mkx_x hc)).2
/-- [e for word in range(8) if there[word] != goal[word]] -/
theorem w_wrgC {c g : List Nat} (hg : IsX g) {S : Sl} {t : Tn} {i k j : Nat} {elt : Ex} {e : Nat → D} (hi : ∀ x, (S.set j x)[i]? = some (.val (.tup (iD (mkx c))))) (hk : ∀ x, (S.set j x)[k]? = some (.val (.tup (iD g)))) (hj : j < S.length) (he : ∀ w : Nat, elt (S.set j (.val (.int (w : Int)))) = ret (e w))
    {Q : List D → Tn → Prop} (q : Q ((wrg c g).map e) t) : W (cmpL (gN j) (eBin pNe (eBin pIdx (eVar i) (eVar j)) (eBin pIdx (eVar k) (eVar j))) elt S (rng 8) t) Q := by
  show W (cmpL _ _ _ _ ((List.range 8).map fun (w : Nat) => D.int (w : Int)) t) Q
  refine w_cmpTI (fun (w : Nat) => D.int (w : Int)) (fun w => decide (mkw c w ≠ BM.fn g w)) e (fun w hw => ⟨_, rfl, okW ?_, fun _ => by rw [he]; rfl⟩) q
  have h8 := List.mem_range.mp hw
  have hs : (S.set j (.val (.int (w : Int))))[j]? = some (.val (.int (w : Int))) := List.getElem?_set_self hj
  exact w_bin (w_bin (w_var (hi _) (w_var hs (w_idxT (mkx_at h8) (w_bin (w_var (hk _) (w_var hs (w_idxT (x_at hg h8) (w_neN ⟨rfl, rfl⟩)))))))))
theorem ok_opsT {l : List Opn} (h : HOk l) : okD (.tup (opsD l)) 60 = true ∧ nobl (.tup (opsD l)) = true := ⟨okD_le (n := 59) (by decide) (ok_ops h).1, (ok_ops h).2⟩
theorem ok_strN : ∀ a, a < 21 → ∀ b, b < 9 → okD (.str (strN a b)) 60 = true := by decide +kernel
end BL
set_option Elab.async false
set_option linter.all false
set_option maxRecDepth 100000
set_option maxHeartbeats 2000000
namespace K23
open PySem BG BL L2
def bads : List D := [.non, .tup [.str "not", .int 3]]
theorem bads_ok : ∀ x ∈ bads, okD x 59 = true ∧ nobl x = true ∧ inD x gts = false := by decide +kernel
theorem bads_gate : ∀ x ∈ bads, f_is_gate [x] = ret (.bl false) := map_eq_all (f := fun x => f_is_gate [x]) (g := fun _ => (ret (D.bl false) : M D)) (by with_unfolding_all rfl)
theorem gts_in : ∀ i, i < 18 → inD (gk i) gts = true := by decide +kernel
theorem gts_okA : okA gts 60 = true := by decide +kernel
theorem drop_ok : okD (.tup [.str "drop"]) 60 = true ∧ nobl (.tup [.str "drop"]) = true := by decide +kernel
theorem add_ok {x : D} (h : okD x 59 = true) (h2 : nobl x = true) : okD (.tup [.str "add", x]) 60 = true ∧ nobl (.tup [.str "add", x]) = true := by
  constructor
  · show (okD (.str "add") 59 && (okD x 59 && true)) = true
    rw [h, show okD (.str "add") 59 = true by decide +kernel]; rfl
  · show (nobl (.str "add") && (nobl x && true)) = true
    rw [h2]; rfl
theorem due_drop {c : List Nat} (hc : Gs c) : f_law_due [opD none, .tup (cD c)] = ret (.tup [if c = [] then .tup [.str "empty"] else .tup [], .tup (cD c.dropLast)]) := by
  refine eq_of_W fun t => ?_
  unfold f_law_due
  with_reducible refine w_fn ?_
  rw [show slots0 2 [opD none, D.tup (cD c)] = [.val (opD none), .val (.tup (cD c))] from rfl]
  unfold b_law_due
  refine w_seq (w_if (w_bin (w_var rfl (w_tup (w_evcons (w_c (w_evnil (w_eq_yes rfl drop_ok.1 drop_ok.2 (bl_i ⟨fun _ => ?_, fun z => nomatch z⟩)))))))))
  have tail : ∀ r : D, r = (if c = [] then .tup [.str "empty"] else .tup []) → W (evs [(eSlice (eVar 1) none (some (eUn pNeg (eC (.int 1)))))] [.val (opD none), .val (.tup (cD c))] t) (fun ds t' => D.tup (r :: ds) = .tup [if c = [] then .tup [.str "empty"] else .tup [], .tup (cD c.dropLast)] ∧ t' = t) := fun r hr => by
    refine w_evcons (w_slice (w_var rfl (w_oN (w_oS (w_un (w_c (w_neg (in_i (w_slT (w_evnil ?_))))))))))
    rw [cut_dl, hr]
    exact ⟨rfl, rfl⟩
  refine w_sret (w_tup (w_evcons (w_ife (w_bin (w_var rfl (w_tup (w_evnil (w_eqC (b := []) hc (fun _ z => nomatch z) (bl_i ⟨fun h => ?_, fun h => ?_⟩)))))))))
  · refine w_tup (w_evcons (w_c (w_evnil (W.mono (tail _ (by rw [if_pos (of_decide_eq_true h)])) fun ds t' q => nx_ret (nx_ret q)))))
  · refine w_tup (w_evnil (W.mono (tail _ (by rw [if_neg (of_decide_eq_false h)])) fun ds t' q => nx_ret (nx_ret q)))
theorem due_head {x : D} (hx : okD x 59 = true) (hn : nobl x = true) {c : List Nat} {b : Stm} {t : Tn} {Q : Fl → Tn → Prop} (q : W (b [.val (.tup [.str "add", x]), .val (.tup (cD c))] t) Q) : W (sSeq (sIf (eBin pEq (eVar 0) (eTup [(eC (.str "drop"))])) (sRet (eTup [(eIf (eBin pEq (eVar 1) (eTup [])) (eTup [(eC (.str "empty"))]) (eTup [])), (eSlice (eVar 1) none (some (eUn pNeg (eC (.int 1)))))])) sNil) b [.val (.tup [.str "add", x]), .val (.tup (cD c))] t) Q := by
  obtain ⟨a1, a2⟩ := add_ok hx hn
  exact w_seq (w_if (w_bin (w_var rfl (w_tup (w_evcons (w_c (w_evnil (w_eq_no (fun z => by injection z with z; injection z with _ z; cases z) a1 a2 drop_ok.1 drop_ok.2 (bl_i ⟨(fun z => nomatch z), fun _ => w_nil (nx_nx q)⟩)))))))))
theorem due_bad {x : D} (hx : x ∈ bads) {c : List Nat} : f_law_due [.tup [.str "add", x], .tup (cD c)] = ret (.tup [.tup [.str "gate"], .tup (cD c)]) := by
  obtain ⟨o1, o2, o3⟩ := bads_ok x hx
  refine eq_of_W fun t => ?_
  unfold f_law_due
  with_reducible refine w_fn ?_
  rw [show slots0 2 [D.tup [D.str "add", x], D.tup (cD c)] = [.val (.tup [.str "add", x]), .val (.tup (cD c))] from rfl]
  unfold b_law_due
  refine due_head o1 o2 ?_
  refine w_seq (w_if (w_bin (w_bin (w_var rfl (w_c (w_idxT (atI_nat (n := 1) rfl) (w_call (w_evnil (w_eq law_gates_eq (w_ninL (okD_le (by decide) o1) gts_okA ?_))))))))))
  rw [o3]
  exact bl_i ⟨fun _ => w_sret (w_tup (w_evcons (w_tup (w_evcons (w_c (w_evnil (w_evcons (w_var rfl (w_evnil (nx_ret (nx_ret ⟨rfl, rfl⟩))))))))))), fun z => nomatch z⟩
theorem due_add {i : Nat} (hi : i < 18) {c : List Nat} (hl : c.length ≤ 20) : f_law_due [opD (some i), .tup (cD c)] = ret (if c.length = 20 then .tup [.tup [.str "many"], .tup (cD c)] else .tup [.tup [], .tup (cD (c ++ [i]))]) := by
  have hsz := sizeL
  refine eq_of_W fun t => ?_
  unfold f_law_due
  with_reducible refine w_fn ?_
  rw [show slots0 2 [opD (some i), D.tup (cD c)] = [.val (.tup [.str "add", gk i]), .val (.tup (cD c))] from rfl]
  unfold b_law_due
  refine due_head (okD_le (by decide) (gk_ok20 hi)) (gk_nobl hi) ?_
  refine w_seq (w_if (w_bin (w_bin (w_var rfl (w_c (w_idxT (atI_nat (n := 1) rfl) (w_call (w_evnil (w_eq law_gates_eq (w_ninL (gk_ok hi) gts_okA ?_))))))))))
  rw [gts_in i hi]
  refine bl_i ⟨(fun z => nomatch z), fun _ => w_nil (nx_nx ?_)⟩
  refine w_seq (w_if (w_bin (w_un (w_var rfl (w_lenT (w_c (w_eqI ?_)))))))
  rw [cD_len]
  refine bl_i ⟨fun h => ?_, fun h => w_nil (nx_nx ?_)⟩
  · have h : c.length = 20 := by have := of_decide_eq_true h; omega
    rw [if_pos h]
    exact w_sret (w_tup (w_evcons (w_tup (w_evcons (w_c (w_evnil (w_evcons (w_var rfl (w_evnil (nx_ret (nx_ret ⟨rfl, rfl⟩)))))))))))
  · have h : ¬ c.length = 20 := fun z => of_decide_eq_false h (by omega)
    rw [if_neg h]
    refine w_sret (w_tup (w_evcons (w_tup (w_evnil (w_evcons (w_bin (w_var rfl (w_tup (w_evcons (w_bin (w_var rfl (w_c (w_idxT (atI_nat (n := 1) rfl) (w_evnil (w_addT (by rw [cD_len]; show c.length + 1 ≤ sizeLine; omega) (w_evnil ?_))))))))))))))))
    rw [cD_app]
    exact nx_ret ⟨rfl, rfl⟩
theorem law_agrees_eq {t : Tn} {n d u : Nat} {g c : List Nat} {dn un : List Opn} (h : SesAt t.2 n d u g c dn un) : f_law_agrees [.hnd n, .tup (iD g), .tup (cD c), .tup (opsD dn)] t = some (.ok (.bl true) t) := okW (by
  have hsz := sizeL
  obtain ⟨v, at_⟩ := h.at_
  obtain ⟨po, pn⟩ := ok_opsT h.hd
  unfold f_law_agrees
  with_reducible refine w_fn ?_
  rw [show slots0 7 [D.hnd n, D.tup (iD g), D.tup (cD c), D.tup (opsD dn)] = [.val (.hnd n), .val (.tup (iD g)), .val (.tup (cD c)), .val (.tup (opsD dn)), .un, .un, .un] from rfl]
  unfold b_law_agrees
  refine w_seq (w_asg (w_call (w_evcons (w_var rfl (w_evnil ?_)))))
  with_reducible refine w_eq (law_made_eq h.cg) ?_
  refine nx_nx ?_
  dsimp only [List.set]
  refine w_seq (w_asg (w_un (w_comp (w_itR (w_c (in_i ⟨by decide, by decide, (by decide +kernel), ?_⟩))))))
  refine w_wrgC (e := fun w => D.int (w : Int)) h.gx (fun _ => rfl) (fun _ => rfl) (by show 6 < 7; decide) (fun _ => rfl) (w_tupL (nx_nx ?_))
  dsimp only [List.set]
  rw [show (wrg c g).map (fun (w : Nat) => D.int (w : Int)) = iD (wrg c g) from rfl]
  refine w_seq (w_if (w_or (w_bin (w_m0 h (by simp) rfl (circuit_eq h) (w_var rfl (w_ne_no rfl (ok_cD h.cg) (nobl_cD h.cg) (bl_i ⟨fun _ => ?_, fun z => nomatch z⟩)))))))
  refine w_or (w_bin (w_m0 h (by simp) rfl (wrong_eq h) (w_var rfl (w_ne_no rfl (ok_iD _) (nobl_iD _) (bl_i ⟨fun _ => ?_, fun z => nomatch z⟩)))))
  refine w_bin (w_m0 h (by simp) rfl (history_eq h) (w_var rfl (w_ne_no rfl po pn (bl_i ⟨(fun z => nomatch z), fun _ => w_nil (nx_nx ?_)⟩))))
  refine w_seq (w_if (w_bin (w_m0 h (by simp) rfl (rest_eq h) (w_un (w_comp (w_itR (w_c (in_i ⟨by decide, by decide, (by decide +kernel), ?_⟩))))))))
  show W (cmpL _ _ _ _ ((List.range 8).map fun (w : Nat) => D.int (w : Int)) t) _
  refine w_cmpTI (fun (w : Nat) => D.int (w : Int)) (fun _ => true) (fun w => D.int (BM.fn g ((mkx c).idxOf w) : Nat)) (fun w hw => ⟨_, rfl, rfl, fun _ => okW ?_⟩) (w_tupL ?_)
  · have h8 := List.mem_range.mp hw
    have hx := mkx_x h.cg
    have hl : (mkx c).idxOf w < 8 := by rw [← fx_bk0 hx h8]; exact bk_lt hx h8
    exact w_bin (w_var rfl (w_tm (w_var rfl (tp_t (w_var rfl (w_idxOf (hx.mem h8) (w_idxT (x_at h.gx hl) ⟨rfl, rfl⟩)))))))
  have er : ((List.range 8).filter fun _ => true).map (fun w => D.int (BM.fn g ((mkx c).idxOf w) : Nat)) = iD (thn (bk (mkx c)) g) := by
    rw [filter_true]
    unfold iD BL.thn bk
    rw [List.map_map, List.map_map]
    rfl
  rw [er]
  refine w_ne_no rfl (ok_iD _) (nobl_iD _) (bl_i ⟨(fun z => nomatch z), fun _ => w_nil (nx_nx ?_)⟩)
  refine w_seq (w_if (w_or (w_un (w_call (w_evcons (w_m0 h (by simp) rfl (is_done_eq h) (w_evcons (w_bin (w_var rfl (w_tup (w_evnil (w_eqX (b := []) (w_evnil ?_)))))))))))))
  rw [decide_eq_decide.mpr (done_iff h.cg h.gx)]
  with_reducible refine w_eq (law_is_eq _) ?_
  refine w_not (bl_i ⟨fun _ => ?_, fun z => nomatch z⟩)
  refine w_bin (w_lenO (w_var rfl ⟨n, _, v, rfl, at_, w_okE (len_eq h) ⟨_, rfl, ⟨by omega, by have := h.lc; omega⟩, w_un (w_var rfl (w_lenT (w_neI ?_)))⟩⟩))
  rw [cD_len, decide_eq_false (fun z => z rfl)]
  refine bl_i ⟨(fun z => nomatch z), fun _ => w_nil (nx_nx ?_)⟩
  have l1 := h.lc
  have l2 := wrg_len c g
  with_reducible refine w_sret ?_
  with_reducible refine w_bin ?_
  with_reducible refine w_strO ?_
  with_reducible refine w_var rfl ?_
  with_reducible refine ⟨n, _, v, rfl, at_, ?_⟩
  with_reducible refine w_okE (strS_eq h) ?_
  with_reducible refine ⟨_, rfl, ?_⟩
  with_reducible refine w_text l1 l2 (fun Q' q' => w_un (w_var rfl (w_lenT ?_))) (fun Q' q' => w_un (w_var rfl (w_lenT ?_))) ?_
  · rw [cD_len]; exact q'
  · rw [iD_len]; exact q'
  · have o4 := ok_strN c.length (by omega) (wrg c g).length (by omega)
    generalize strN c.length (wrg c g).length = y at *
    exact w_eq_yes rfl o4 rfl (nx_ret ⟨rfl, rfl⟩))
theorem init_no {x : D} (hx : f_is_exchange [x] = ret (.bl false)) (n : Nat) (t : Tn) : f_Session_init [.hnd n, x] t = some (.exc 3 t) := by
  unfold f_Session_init
  refine rs_fn ?_
  rw [show slots0 2 [D.hnd n, x] = [.val (.hnd n), .val x] from rfl]
  unfold b_Session_init
  refine rs_seq ?_
  show bnd (bnd (evs [eVar 1] _) f_check_exchange) _ t = _
  have e : bnd (evs [eVar 1] [SV.val (D.hnd n), SV.val x]) f_check_exchange = f_check_exchange [x] := rfl
  rw [e, check_exchange_no hx]; rfl
theorem mk_exc {x : D} (hx : f_is_exchange [x] = ret (.bl false)) (t : Tn) : eResM resNm al12 (bnd (newOb (.ins [])) fun h => bnd (f_Session_init (h :: [x])) fun r => match r with | .non => ret h | _ => stuck) t = some (.ok (.tup [.str "exchange"]) (t.1, t.2 ++ [(.ins [], 0)])) := by
  unfold eResM
  have e : (bnd (newOb (.ins [])) fun h => bnd (f_Session_init (h :: [x])) fun r => match r with | .non => ret h | _ => stuck) t = some (.exc 3 (t.1, t.2 ++ [(.ins [], 0)])) := by
    show bnd (f_Session_init (.hnd t.2.length :: [x])) (fun r => match r with | .non => ret (D.hnd t.2.length) | _ => stuck) (t.1, t.2 ++ [(.ins [], 0)]) = _
    exact bnd_exc (init_no hx _ _)
  rw [e]
  rfl
theorem iter_eq (kk : Nat) : ∃ N : Nat, N ≤ 24 ∧ ∀ S : Sl, S[3]? = some (.val (.int (kk : Int))) → (eIf (eBin pLt (eVar 3) (eC (.int 3))) (eC (.int 8)) (eC (.int 24))) S = ret (.int (N : Int)) := by
  by_cases h : (kk : Int) < 3
  · refine ⟨8, by decide, fun S e => eq_of_W fun t => ?_⟩
    refine w_ife (w_bin (w_var e (w_c (w_ltI ?_))))
    rw [decide_eq_true h]
    exact bl_i ⟨fun _ => w_c ⟨rfl, rfl⟩, fun z => nomatch z⟩
  · refine ⟨24, by decide, fun S e => eq_of_W fun t => ?_⟩
    refine w_ife (w_bin (w_var e (w_c (w_ltI ?_))))
    rw [decide_eq_false h]
    exact bl_i ⟨(fun z => nomatch z), fun _ => w_c ⟨rfl, rfl⟩⟩
theorem gts_at {z : Int} (h0 : 0 ≤ z) (h1 : z < 18) : ∃ i, i < 18 ∧ atI gts z = some (gk i) := by
  obtain ⟨x, hx, e, _⟩ := atI_of (xs := gts) h0 (by rw [gts_len]; exact h1)
  obtain ⟨i, hi, rfl⟩ := gk_of hx
  exact ⟨i, hi, e⟩
def Op (op : D) : Prop := (∃ i, i < 18 ∧ op = opD (some i)) ∨ op = opD none ∨ ∃ x ∈ bads, op = .tup [.str "add", x]
theorem op3 {z : Int} (h0 : 0 ≤ z) (h1 : z < 3) : ∃ op, Op op ∧ atI [.tup [.str "drop"], .tup [.str "add", .non], .tup [.str "add", .tup [.str "not", .int 3]]] z = some op := by
  rcases (by omega : z = 0 ∨ z = 1 ∨ z = 2) with rfl | rfl | rfl
  · exact ⟨_, .inr (.inl rfl), rfl⟩
  · exact ⟨_, .inr (.inr ⟨.non, List.mem_cons_self .., rfl⟩), rfl⟩
  · exact ⟨_, .inr (.inr ⟨.tup [.str "not", .int 3], List.mem_cons_of_mem _ (List.mem_cons_self ..), rfl⟩), rfl⟩
/-- what an operation comes to -/
theorem op_cases {t : Tn} {n d u : Nat} {g c : List Nat} {dn un : List Opn} (h : SesAt t.2 n d u g c dn un) (hdn : dn.length < 1000) {op : D} (ho : Op op) :
    (∃ k nm, al12 k = true ∧ resNm k = nm ∧ okD (.str nm) 58 = true ∧ f_law_due [op, .tup (cD c)] = ret (.tup [.tup [.str nm], .tup (cD c)]) ∧ f_law_call [.hnd n, op] t = some (.exc k t)) ∨
    (∃ o c', op = opD o ∧ f_law_due [op, .tup (cD c)] = ret (.tup [.tup [], .tup (cD c')]) ∧ Gs c' ∧ ∀ Q : D → Tn → Prop, (∀ t', t'.1 = t.1 → SesAt t'.2 n d t.2.length g c' (dn ++ [(o, c)]) [] → Q (.int ((wrg c' g).length : Nat)) t') → W (f_law_call [.hnd n, op] t) Q) := by
  rcases ho with ⟨i, hi, rfl⟩ | rfl | ⟨x, hx, rfl⟩
  · by_cases hl : c.length = 20
    · exact .inl ⟨9, _, rfl, rfl, by decide +kernel, by rw [due_add hi h.lc, if_pos hl]; rfl, (call_add h _).trans (add_full h hi hl)⟩
    · refine .inr ⟨some i, c ++ [i], rfl, by rw [due_add hi h.lc, if_neg hl], gs_snoc h.cg hi, fun Q q => ?_⟩
      have := h.lc
      rw [show opD (some i) = .tup [.str "add", gk i] from rfl, call_add h]
      exact w_add h hi (by omega) hdn fun t' e1 e2 _ => q t' e1 e2
  · by_cases hc : c = []
    · subst hc
      exact .inl ⟨10, _, rfl, rfl, by decide +kernel, by rw [due_drop h.cg, if_pos rfl]; rfl, (call_drop h).trans (drop_no h)⟩
    · refine .inr ⟨none, c.dropLast, rfl, by rw [due_drop h.cg, if_neg hc], fun i hi => h.cg i (List.dropLast_subset _ hi), fun Q q => ?_⟩
      rw [show opD none = .tup [.str "drop"] from rfl, call_drop h]
      exact w_drop h hc hdn fun t' e1 e2 _ => q t' e1 e2
  · exact .inl ⟨0, _, rfl, rfl, by decide +kernel, by rw [due_bad hx]; rfl, (call_add h _).trans (add_bad (bads_gate x hx))⟩
theorem law_true (ns : List Int) (hl : ns.length ≤ 63) : ∃ t', f_law [.scr ns] (none, []) = some (.ok (.bl true) t') := by
  refine law_of ?_
  have hsz := sizeL
  unfold f_law
  with_reducible refine w_fn ?_
  rw [show slots0 14 [D.scr ns] = [.val (.scr ns), .un, .un, .un, .un, .un, .un, .un, .un, .un, .un, .un, .un, .un] from rfl]
  unfold b_law
  refine w_seq (w_asg (w_call (w_evnil (w_lbegun (nx_nx ?_)))))
  dsimp only [List.set]
  refine w_seq (w_asg (w_call (w_evnil (w_eq law_gates_eq (nx_nx ?_)))))
  dsimp only [List.set]
  with_reducible refine w_seq ?_
  with_reducible refine w_for ?_
  refine w_itR (w_c (in_i ⟨by decide, by decide, ?_⟩))
  refine w_forC (fun S t => ∃ st x3 x4 x5 x6 x7 x8 x9 x10 x11 x12 x13, S = [.val (.scr ns), .val .town, .val (.lst gts), x3, x4, x5, x6, x7, x8, x9, x10, x11, x12, x13] ∧ TOk st t) ⟨_, _, _, _, _, _, _, _, _, _, _, _, rfl, .begun⟩ (fun k hk S t ⟨st, x3, x4, x5, x6, x7, x8, x9, x10, x11, x12, x13, hS, ht⟩ => ?_) fun S t ⟨st, x3, x4, x5, x6, x7, x8, x9, x10, x11, x12, x13, hS, ht⟩ => ?_
  · subst hS
    obtain ⟨kk, rfl⟩ : ∃ kk : Nat, k = .int (kk : Int) := by
      unfold rng at hk
      obtain ⟨a, _, rfl⟩ := List.mem_map.mp hk
      exact ⟨a, rfl⟩
    refine ⟨_, rfl, ?_⟩
    dsimp only [List.set]
    refine w_seq (w_asg (w_call (w_evcons (w_var rfl (w_evcons (w_var rfl (w_evnil ?_)))))))
    refine w_exchange hl ht fun g0 t1 hg0 ht1 => nx_nx ?_
    dsimp only [List.set]
    -- the goal
    refine w_cut (fun S t => ∃ g, IsX g ∧ S = [.val (.scr ns), .val .town, .val (.lst gts), .val (.int (kk : Int)), .val (.tup (iD g)), x5, x6, x7, x8, x9, x10, x11, x12, x13] ∧ TOk st t) ?_ ?_
    · refine w_if (w_bin (w_call (w_evcons (w_var rfl (w_evcons (w_var rfl (w_evcons (w_c (w_evnil ?_)))))))))
      refine w_draw hl ht1 (by decide) (by decide) fun z t2 z0 z1 ht2 => ?_
      refine w_c (w_eqI (bl_i ⟨fun _ => ?_, fun _ => w_nil (nx_nx ⟨g0, hg0, rfl, ht2⟩)⟩))
      refine w_asg (w_call (w_evcons (w_call (w_evcons (w_var rfl (w_evcons (w_var rfl (w_evcons (w_tup (w_evcons (w_c (w_evcons (w_c (w_evcons (w_c (w_evcons (w_c (w_evcons (w_c (w_evnil (w_evcons (w_c (w_evnil ?_)))))))))))))))))))))))
      refine w_circ5 hl ht2 (by decide) (by decide) fun c0 t3 hc0 lc0 ht3 => w_evnil ?_
      with_reducible refine w_eq (law_made_eq hc0) ?_
      exact nx_nx ⟨_, mkx_x hc0, rfl, ht3⟩
    rintro S t3 ⟨g, hg, rfl, ht3⟩
    -- a session
    refine w_seq (w_asgS3 (w_tup (w_evcons (w_mkSes hg rfl fun t4 e4 hs4 f4 l4 => w_evcons (w_tup (w_evnil (w_evcons (w_tup (w_evnil (w_evnil (tp_t ⟨_, _, _, rfl, nx_nx ?_⟩)))))))))))
    dsimp only [List.set]
    have ht4 := tok_of ht3 e4
    generalize t3.2.length = n at *
    generalize n + 1 = d at *
    generalize n + 2 = u0 at *
    obtain ⟨N, hN, eN⟩ := iter_eq kk
    with_reducible refine w_seq ?_
    with_reducible refine w_for ?_
    with_reducible refine w_itR ?_
    with_reducible refine w_eq (eN _ rfl) ?_
    refine in_i ⟨by omega, by omega, ?_⟩
    refine w_forI (fun i S t => ∃ st u c dn x8 x9 x10 x11 x12 x13, S = [.val (.scr ns), .val .town, .val (.lst gts), .val (.int (kk : Int)), .val (.tup (iD g)), .val (.hnd n), .val (.tup (cD c)), .val (.tup (opsD dn)), x8, x9, x10, x11, x12, x13] ∧ TOk st t ∧ SesAt st n d u g c dn [] ∧ dn.length ≤ i) (k := 0) ⟨t4.2, u0, [], [], _, _, _, _, _, _, rfl, ht4, hs4, Nat.le_refl _⟩ (fun i j hj S t ⟨st5, u, c, dn, x8, x9, x10, x11, x12, x13, hS, ht5, hs5, hi⟩ => ?_) fun S t ⟨st5, u, c, dn, x8, x9, x10, x11, x12, x13, hS, ht5, hs5, hi⟩ => ?_
    · subst hS
      rw [Nat.zero_add] at hi ⊢
      have hi24 : i < 24 := by
        have := (List.getElem?_eq_some_iff.mp hj).1
        unfold rng at this
        rw [List.length_map, List.length_range] at this
        omega
      refine ⟨_, rfl, ?_⟩
      dsimp only [List.set]
      refine w_seq (w_asg (w_tup (w_evcons (w_c (w_evcons (w_bin (w_var rfl (w_call (w_evcons (w_var rfl (w_evcons (w_var rfl (w_evcons (w_c (w_evnil ?_)))))))))))))))
      refine w_draw hl ht5 (by decide) (by decide) fun z t6 z0 z1 ht6 => ?_
      obtain ⟨i0, hi0, ei0⟩ := gts_at z0 z1
      refine w_idxL ei0 (w_evnil (nx_nx ?_))
      dsimp only [List.set]
      refine w_cut (fun S t => ∃ op, Op op ∧ S = [.val (.scr ns), .val .town, .val (.lst gts), .val (.int (kk : Int)), .val (.tup (iD g)), .val (.hnd n), .val (.tup (cD c)), .val (.tup (opsD dn)), .val j, x9, .val op, x11, x12, x13] ∧ TOk st5 t) ?_ ?_
      · refine w_if (w_and (w_bin (w_call (w_evcons (w_var rfl (w_evcons (w_var rfl (w_evcons (w_c (w_evnil ?_))))))))))
        refine w_draw hl ht6 (by decide) (by decide) fun z t7 z0 z1 ht7 => ?_
        have no : ∀ t, TOk st5 t → ∃ op, Op op ∧ [SV.val (.scr ns), .val .town, .val (.lst gts), .val (.int (kk : Int)), .val (.tup (iD g)), .val (.hnd n), .val (.tup (cD c)), .val (.tup (opsD dn)), .val j, x9, .val (.tup [.str "add", gk i0]), x11, x12, x13] = [.val (.scr ns), .val .town, .val (.lst gts), .val (.int (kk : Int)), .val (.tup (iD g)), .val (.hnd n), .val (.tup (cD c)), .val (.tup (opsD dn)), .val j, x9, .val op, x11, x12, x13] ∧ TOk st5 t := fun t h => ⟨_, .inl ⟨i0, hi0, rfl⟩, rfl, h⟩
        refine w_c (w_eqI (bl_i ⟨fun _ => ?_, fun _ => bl_i ⟨(fun z => nomatch z), fun _ => w_nil (nx_nx (no _ ht7))⟩⟩))
        refine w_bin (w_var rfl (w_c (w_ltI (bl_i ⟨fun _ => ?_, fun _ => w_nil (nx_nx (no _ ht7))⟩))))
        have e3 : ∀ S : Sl, (eTup [(eTup [(eC (.str "drop"))]), (eTup [(eC (.str "add")), (eC .non)]), (eTup [(eC (.str "add")), (eTup [(eC (.str "not")), (eC (.int 3))])])]) S = ret (.tup [.tup [.str "drop"], .tup [.str "add", .non], .tup [.str "add", .tup [.str "not", .int 3]]]) := fun _ => rfl
        refine w_asg (w_bin (w_eq (e3 _) (w_call (w_evcons (w_var rfl (w_evcons (w_var rfl (w_evcons (w_c (w_evnil ?_))))))))))
        refine w_draw hl ht7 (by decide) (by decide) fun z t8 z0 z1 ht8 => ?_
        obtain ⟨op, hop, eop⟩ := op3 z0 z1
        exact w_idxT eop (nx_nx ⟨op, hop, rfl, ht8⟩)
      rintro S t8 ⟨op, hop, rfl, ht8⟩
      have es := tok_st ht8
      subst es
      rcases op_cases hs5 (by omega) hop with ⟨k, nm, hal, hnm, onm, hdue, hexc⟩ | ⟨o, c', rfl, hdue, hc', hcall⟩
      · have o1 : okD (.tup [.str nm]) 60 = true := by
          show (okD (.str nm) 59 && true) = true
          rw [show okD (.str nm) 59 = okD (.str nm) 58 from rfl, onm]; rfl
        refine w_seq (w_asgP (w_call (w_evcons (w_var rfl (w_evcons (w_var rfl (w_evnil (w_eq hdue (pr_i (nx_nx ?_))))))))))
        dsimp only [List.set]
        refine w_seq (w_if (w_bin (w_var rfl (w_tup (w_evnil (w_eq_no (fun z => by injection z with z; cases z) o1 rfl rfl rfl (bl_i ⟨(fun z => nomatch z), fun _ => w_nil (nx_nx ?_)⟩)))))))
        refine w_seq (w_if (w_bin (w_resE (w_evcons (w_var rfl (w_evcons (w_var rfl (w_evnil (w_okE (res_exc hexc hal) (w_var rfl ?_))))))))))
        rw [hnm]
        refine w_ne_no rfl o1 rfl (bl_i ⟨(fun z => nomatch z), fun _ => w_nil (nx_nx ?_)⟩)
        refine w_if (w_un (w_call (w_evcons (w_var rfl (w_evcons (w_var rfl (w_evcons (w_var rfl (w_evcons (w_var rfl (w_evnil (w_okE (law_agrees_eq hs5) (w_not (bl_i ⟨(fun z => nomatch z), fun _ => w_nil (nx_nx ?_)⟩))))))))))))))
        exact ⟨_, u, c, dn, _, _, _, _, _, _, rfl, ht8, hs5, by omega⟩
      · refine w_seq (w_asgP (w_call (w_evcons (w_var rfl (w_evcons (w_var rfl (w_evnil (w_eq hdue (pr_i (nx_nx ?_))))))))))
        dsimp only [List.set]
        refine w_seq (w_if (w_bin (w_var rfl (w_tup (w_evnil (w_eq_yes rfl rfl rfl (bl_i ⟨fun _ => ?_, fun z => nomatch z⟩)))))))
        have lh : (opsD dn).length = dn.length := List.length_map _
        refine w_seq (w_asg (w_bin (w_var rfl (w_tup (w_evcons (w_var rfl (w_evnil (w_addT (by rw [lh]; show dn.length + 1 ≤ sizeLine; omega) (nx_nx ?_)))))))))
        rw [show opsD dn ++ [opD o] = opsD (dn ++ [(o, c)]) by unfold opsD; rw [List.map_append]; rfl]
        dsimp only [List.set]
        refine w_seq (w_asg (w_call (w_evcons (w_var rfl (w_evnil (w_eq (law_made_eq hc') (nx_nx ?_)))))))
        dsimp only [List.set]
        refine w_asg (w_tup (w_evcons (w_c (w_evcons (w_un (w_comp (w_itR (w_c (in_i ⟨by decide, by decide, (by decide +kernel), ?_⟩)))))))))
        refine w_wrgC (c := c') (e := fun _ => D.int 1) hg (fun _ => rfl) (fun _ => rfl) (by show 13 < 14; decide) (fun _ => rfl) (w_lenL (w_evnil (nx_nx ?_)))
        rw [List.length_map]
        dsimp only [List.set]
        refine w_seq (w_if (w_bin (w_resE (w_evcons (w_var rfl (w_evcons (w_var rfl (w_evnil (w_resR (hcall _ fun t9 e9 hs9 => ?_))))))))))
        have o2 : okD (.tup [.str "returns", .int ((wrg c' g).length : Nat)]) 60 = true := by
          show (okD (.str "returns") 59 && (true && true)) = true
          rw [show okD (.str "returns") 59 = true by decide +kernel]; rfl
        refine w_var rfl (w_ne_no rfl o2 rfl (bl_i ⟨(fun z => nomatch z), fun _ => w_nil (nx_nx ?_)⟩))
        have ht9 := tok_of ht8 e9
        refine w_if (w_un (w_call (w_evcons (w_var rfl (w_evcons (w_var rfl (w_evcons (w_var rfl (w_evcons (w_var rfl (w_evnil (w_okE (law_agrees_eq hs9) (w_not (bl_i ⟨(fun z => nomatch z), fun _ => w_nil (nx_nx ?_)⟩))))))))))))))
        exact ⟨_, _, c', dn ++ [(o, c)], _, _, _, _, _, _, rfl, ht9, hs9, by rw [List.length_append]; show dn.length + 1 ≤ i + 1; omega⟩
    · subst hS
      have hl8 := hg.len
      have e7 : f_is_exchange [.tup (cutD (iD g) (some 1) none)] = ret (.bl false) := is_exchange_len (by
        have := cutD_drop (ds := iD g) (k := 1) (by rw [iD_len]; omega)
        rw [show cutD (iD g) (some 1) none = (iD g).drop 1 from this, List.length_drop, iD_len]; omega)
      refine nx_nx ?_
      refine w_for (w_itSeq (w_tup (w_evcons (w_c (w_evcons (w_tup (w_evnil (w_evcons (w_slice (w_var rfl (w_oS (w_c (in_i (w_oN (w_slT (w_evcons (w_un (w_var rfl (w_lstT (w_evnil (sq_t ?_)))))))))))))))))))))
      refine w_forC (fun S t' => ∃ st x9, S = [.val (.scr ns), .val .town, .val (.lst gts), .val (.int (kk : Int)), .val (.tup (iD g)), .val (.hnd n), .val (.tup (cD c)), .val (.tup (opsD dn)), x8, x9, x10, x11, x12, x13] ∧ TOk st t') ⟨_, _, rfl, ht5⟩ (fun x hx S t' ⟨st', x9', hS, ht'⟩ => ?_) fun S t' ⟨st', x9', hS, ht'⟩ => ?_
      · subst hS
        have ex : f_is_exchange [x] = ret (.bl false) := by
          simp only [List.mem_cons, List.not_mem_nil, or_false] at hx
          rcases hx with rfl | rfl | rfl | rfl
          · exact is_exchange_no1 rfl
          · exact is_exchange_len (by decide)
          · exact e7
          · exact is_exchange_no1 rfl
        refine ⟨_, rfl, ?_⟩
        dsimp only [List.set]
        have o3 : okD (.tup [.str "exchange"]) 60 = true := by decide +kernel
        refine w_if (w_bin (w_resM (ds := [x]) rfl (w_okE (mk_exc ex t') (w_tup (w_evcons (w_c (w_evnil (w_ne_no rfl o3 rfl (bl_i ⟨(fun z => nomatch z), fun _ => w_nil (nx_nx ?_)⟩)))))))))
        exact ⟨_, _, rfl, tok_of ht' rfl⟩
      · subst hS
        exact nx_nx ⟨st', _, _, _, _, _, _, _, _, _, _, _, rfl, ht'⟩
  · subst hS
    exact nx_nx (w_sret (w_c (nx_ret rfl)))
end K23
set_option Elab.async false
set_option linter.all false
set_option maxRecDepth 100000
set_option maxHeartbeats 4000000
namespace K23
open PySem PySem.Spec PyProof.Rows L2 BG BL
theorem all_mk {l : PySem.W.OpenLaw} {w : World} {K : PySem.W.Frag} {h : Heap} {mg : Str → Option Value} {fa : Addr} (X : K.In h) (G : h.Ns mainGlobals mg) (hfa : mg "law" = some (.ref fa))
    {f_cl : Addr}
    {od_is_between an_is_between : Option Addr} {sl_is_between : Array (Option Value)} {oc_is_between kV_is_between dc_is_between pm_is_between ct_is_between : Value} {f_a_is_between : Addr}
    {cd_is_between : Value}
    {od_is_gate an_is_gate : Option Addr} {sl_is_gate : Array (Option Value)} {oc_is_gate kV_is_gate dc_is_gate pm_is_gate ct_is_gate : Value} {f_a_is_gate : Addr}
    {cd_is_gate : Value}
    {od_is_exchange an_is_exchange : Option Addr} {sl_is_exchange : Array (Option Value)} {oc_is_exchange kV_is_exchange dc_is_exchange pm_is_exchange ct_is_exchange : Value} {f_a_is_exchange : Addr}
    {cd_is_exchange : Value}
    {od_check_gate an_check_gate : Option Addr} {sl_check_gate : Array (Option Value)} {oc_check_gate kV_check_gate dc_check_gate pm_check_gate ct_check_gate : Value} {f_a_check_gate : Addr}
    {cd_check_gate : Value}
    {od_check_exchange an_check_exchange : Option Addr} {sl_check_exchange : Array (Option Value)} {oc_check_exchange kV_check_exchange dc_check_exchange pm_check_exchange ct_check_exchange : Value} {f_a_check_exchange : Addr}
    {cd_check_exchange : Value}
    {od_weight_of an_weight_of : Option Addr} {sl_weight_of : Array (Option Value)} {oc_weight_of kV_weight_of dc_weight_of pm_weight_of ct_weight_of : Value} {f_a_weight_of : Addr}
    {cd_weight_of : Value}
    {od_bit an_bit : Option Addr} {sl_bit : Array (Option Value)} {oc_bit kV_bit dc_bit pm_bit ct_bit : Value} {f_a_bit : Addr}
    {cd_bit : Value}
    {od_applied an_applied : Option Addr} {sl_applied : Array (Option Value)} {oc_applied kV_applied dc_applied pm_applied ct_applied : Value} {f_a_applied : Addr}
    {cd_applied : Value}
    {od_made an_made : Option Addr} {sl_made : Array (Option Value)} {oc_made kV_made dc_made pm_made ct_made : Value} {f_a_made : Addr}
    {cd_made : Value}
    {od_then an_then : Option Addr} {sl_then : Array (Option Value)} {oc_then kV_then dc_then pm_then ct_then : Value} {f_a_then : Addr}
    {cd_then : Value}
    {od_back an_back : Option Addr} {sl_back : Array (Option Value)} {oc_back kV_back dc_back pm_back ct_back : Value} {f_a_back : Addr}
    {cd_back : Value}
    {od_Session_init an_Session_init : Option Addr} {sl_Session_init : Array (Option Value)} {oc_Session_init kV_Session_init dc_Session_init pm_Session_init ct_Session_init : Value} {f_a_Session_init : Addr}
    {cd_Session_init : Value}
    {od_Session_wrong an_Session_wrong : Option Addr} {sl_Session_wrong : Array (Option Value)} {oc_Session_wrong kV_Session_wrong dc_Session_wrong pm_Session_wrong ct_Session_wrong : Value} {f_a_Session_wrong : Addr}
    {cd_Session_wrong : Value}
    {od_Session_become an_Session_become : Option Addr} {sl_Session_become : Array (Option Value)} {oc_Session_become kV_Session_become dc_Session_become pm_Session_become ct_Session_become : Value} {f_a_Session_become : Addr}
    {cd_Session_become : Value}
    {od_Session_add an_Session_add : Option Addr} {sl_Session_add : Array (Option Value)} {oc_Session_add kV_Session_add dc_Session_add pm_Session_add ct_Session_add : Value} {f_a_Session_add : Addr}
    {cd_Session_add : Value}
    {od_Session_drop an_Session_drop : Option Addr} {sl_Session_drop : Array (Option Value)} {oc_Session_drop kV_Session_drop dc_Session_drop pm_Session_drop ct_Session_drop : Value} {f_a_Session_drop : Addr}
    {cd_Session_drop : Value}
    {od_Session_circuit an_Session_circuit : Option Addr} {sl_Session_circuit : Array (Option Value)} {oc_Session_circuit kV_Session_circuit dc_Session_circuit pm_Session_circuit ct_Session_circuit : Value} {f_a_Session_circuit : Addr}
    {cd_Session_circuit : Value}
    {od_Session_rest an_Session_rest : Option Addr} {sl_Session_rest : Array (Option Value)} {oc_Session_rest kV_Session_rest dc_Session_rest pm_Session_rest ct_Session_rest : Value} {f_a_Session_rest : Addr}
    {cd_Session_rest : Value}
    {od_Session_is_done an_Session_is_done : Option Addr} {sl_Session_is_done : Array (Option Value)} {oc_Session_is_done kV_Session_is_done dc_Session_is_done pm_Session_is_done ct_Session_is_done : Value} {f_a_Session_is_done : Addr}
    {cd_Session_is_done : Value}
    {od_Session_history an_Session_history : Option Addr} {sl_Session_history : Array (Option Value)} {oc_Session_history kV_Session_history dc_Session_history pm_Session_history ct_Session_history : Value} {f_a_Session_history : Addr}
    {cd_Session_history : Value}
    {od_Session_len an_Session_len : Option Addr} {sl_Session_len : Array (Option Value)} {oc_Session_len kV_Session_len dc_Session_len pm_Session_len ct_Session_len : Value} {f_a_Session_len : Addr}
    {cd_Session_len : Value}
    {od_Session_str an_Session_str : Option Addr} {sl_Session_str : Array (Option Value)} {oc_Session_str kV_Session_str dc_Session_str pm_Session_str ct_Session_str : Value} {f_a_Session_str : Addr}
    {cd_Session_str : Value}
    {od_law_is an_law_is : Option Addr} {sl_law_is : Array (Option Value)} {oc_law_is kV_law_is dc_law_is pm_law_is ct_law_is : Value} {f_a_law_is : Addr}
    {cd_law_is : Value}
    {od_law_draw an_law_draw : Option Addr} {sl_law_draw : Array (Option Value)} {oc_law_draw kV_law_draw dc_law_draw pm_law_draw ct_law_draw : Value} {f_a_law_draw : Addr}
    {cd_law_draw : Value}
    {od_law_begun an_law_begun : Option Addr} {sl_law_begun : Array (Option Value)} {oc_law_begun kV_law_begun dc_law_begun pm_law_begun ct_law_begun : Value} {f_a_law_begun : Addr}
    {cd_law_begun : Value}
    {od_law_gates an_law_gates : Option Addr} {sl_law_gates : Array (Option Value)} {oc_law_gates kV_law_gates dc_law_gates pm_law_gates ct_law_gates : Value} {f_a_law_gates : Addr}
    {cd_law_gates : Value}
    {od_law_circuit an_law_circuit : Option Addr} {sl_law_circuit : Array (Option Value)} {oc_law_circuit kV_law_circuit dc_law_circuit pm_law_circuit ct_law_circuit : Value} {f_a_law_circuit : Addr}
    {cd_law_circuit : Value}
    {od_law_apply an_law_apply : Option Addr} {sl_law_apply : Array (Option Value)} {oc_law_apply kV_law_apply dc_law_apply pm_law_apply ct_law_apply : Value} {f_a_law_apply : Addr}
    {cd_law_apply : Value}
    {od_law_made an_law_made : Option Addr} {sl_law_made : Array (Option Value)} {oc_law_made kV_law_made dc_law_made pm_law_made ct_law_made : Value} {f_a_law_made : Addr}
    {cd_law_made : Value}
    {od_law_exchange an_law_exchange : Option Addr} {sl_law_exchange : Array (Option Value)} {oc_law_exchange kV_law_exchange dc_law_exchange pm_law_exchange ct_law_exchange : Value} {f_a_law_exchange : Addr}
    {cd_law_exchange : Value}
    {od_law_call an_law_call : Option Addr} {sl_law_call : Array (Option Value)} {oc_law_call kV_law_call dc_law_call pm_law_call ct_law_call : Value} {f_a_law_call : Addr}
    {cd_law_call : Value}
    {od_law_agrees an_law_agrees : Option Addr} {sl_law_agrees : Array (Option Value)} {oc_law_agrees kV_law_agrees dc_law_agrees pm_law_agrees ct_law_agrees : Value} {f_a_law_agrees : Addr}
    {cd_law_agrees : Value}
    {od_law_due an_law_due : Option Addr} {sl_law_due : Array (Option Value)} {oc_law_due kV_law_due dc_law_due pm_law_due ct_law_due : Value} {f_a_law_due : Addr}
    {cd_law_due : Value}
    {od_law an_law : Option Addr} {sl_law : Array (Option Value)} {oc_law kV_law dc_law pm_law ct_law : Value} {f_a_law : Addr}
    {ca_law P_law : Addr}
    {oo_law : Value} {ox_law : Option Addr} {vs_law : Array Value} {so_law : Array (Option Value)}
    {od_law_result an_law_result : Option Addr} {sl_law_result : Array (Option Value)} {oc_law_result kV_law_result dc_law_result pm_law_result ct_law_result : Value} {f_a_law_result : Addr}
    {cd_law_result : Value}
    {a_cKINDS : Addr} {n_cKINDS : Nat} {sl_cKINDS : Array (Option Value)} {t0_KINDS t1_KINDS t2_KINDS t3_KINDS t4_KINDS : Tok}
    {t_cLONGEST : Tok}
    {a_cSAME : Addr} {n_cSAME : Nat} {sl_cSAME : Array (Option Value)} {t0_SAME t1_SAME t2_SAME t3_SAME t4_SAME t5_SAME t6_SAME t7_SAME : Tok}
    {a_GE : Addr}
    {a_eInvalidCircuit : Addr}
    {a_eInvalidWord : Addr}
    {a_eInvalidLines : Addr}
    {a_eInvalidKinds : Addr}
    {a_eInvalidFunction : Addr}
    {a_eInvalidAnswers : Addr}
    {a_eInvalidText : Addr}
    {a_eNothingToUndo : Addr}
    {a_eInvalidGate : Addr}
    {a_eInvalidExchange : Addr}
    {a_eTooMany : Addr}
    {a_eEmpty : Addr}
    (a_cl : PySem.W.nsIn K mainGlobals "Session" = some (some (.ref f_cl)))
    (pg_cl : PySem.W.plainGet K f_cl Str.empty = true)
    (hd_cl : PySem.W.hasDictIn K f_cl = true)
    (po_cl : PySem.W.plainOver K f_cl = true)
    (sa_cl : PySem.W.findIn K (.ref f_cl) "__setattr__" = some (some (.builtin "object.__setattr__")))
    (mk_cl : PySem.W.makesIn K f_cl = true)
    (kc_cl : PySem.W.keepIn K (.ref f_cl) = true)
    (na_done : PySem.W.findIn K (.ref f_cl) "done" = some none)
    (na_gates : PySem.W.findIn K (.ref f_cl) "gates" = some none)
    (na_goal : PySem.W.findIn K (.ref f_cl) "goal" = some none)
    (na_undone : PySem.W.findIn K (.ref f_cl) "undone" = some none)
    (a_is_between : PySem.W.nsIn K mainGlobals "is_between" = some (some (.ref f_a_is_between)))
    (l_is_between : K.lookup f_a_is_between = some ⟨oc_is_between, od_is_between, .func (PySem.W.fnOf "is_between" "is_between" (defArgs s_is_between) (defBody s_is_between) (defScope s_is_between) .none kV_is_between dc_is_between pm_is_between an_is_between cd_is_between ct_is_between), sl_is_between⟩)
    (c_is_between : PySem.W.codeIn K cd_is_between "is_between" = true)
    (k_is_between : PySem.W.keepIn K (.ref f_a_is_between) = true)
    (a_is_gate : PySem.W.nsIn K mainGlobals "is_gate" = some (some (.ref f_a_is_gate)))
    (l_is_gate : K.lookup f_a_is_gate = some ⟨oc_is_gate, od_is_gate, .func (PySem.W.fnOf "is_gate" "is_gate" (defArgs s_is_gate) (defBody s_is_gate) (defScope s_is_gate) .none kV_is_gate dc_is_gate pm_is_gate an_is_gate cd_is_gate ct_is_gate), sl_is_gate⟩)
    (c_is_gate : PySem.W.codeIn K cd_is_gate "is_gate" = true)
    (k_is_gate : PySem.W.keepIn K (.ref f_a_is_gate) = true)
    (a_is_exchange : PySem.W.nsIn K mainGlobals "is_exchange" = some (some (.ref f_a_is_exchange)))
    (l_is_exchange : K.lookup f_a_is_exchange = some ⟨oc_is_exchange, od_is_exchange, .func (PySem.W.fnOf "is_exchange" "is_exchange" (defArgs s_is_exchange) (defBody s_is_exchange) (defScope s_is_exchange) .none kV_is_exchange dc_is_exchange pm_is_exchange an_is_exchange cd_is_exchange ct_is_exchange), sl_is_exchange⟩)
    (c_is_exchange : PySem.W.codeIn K cd_is_exchange "is_exchange" = true)
    (k_is_exchange : PySem.W.keepIn K (.ref f_a_is_exchange) = true)
    (a_check_gate : PySem.W.nsIn K mainGlobals "check_gate" = some (some (.ref f_a_check_gate)))
    (l_check_gate : K.lookup f_a_check_gate = some ⟨oc_check_gate, od_check_gate, .func (PySem.W.fnOf "check_gate" "check_gate" (defArgs s_check_gate) (defBody s_check_gate) (defScope s_check_gate) .none kV_check_gate dc_check_gate pm_check_gate an_check_gate cd_check_gate ct_check_gate), sl_check_gate⟩)
    (c_check_gate : PySem.W.codeIn K cd_check_gate "check_gate" = true)
    (k_check_gate : PySem.W.keepIn K (.ref f_a_check_gate) = true)
    (a_check_exchange : PySem.W.nsIn K mainGlobals "check_exchange" = some (some (.ref f_a_check_exchange)))
    (l_check_exchange : K.lookup f_a_check_exchange = some ⟨oc_check_exchange, od_check_exchange, .func (PySem.W.fnOf "check_exchange" "check_exchange" (defArgs s_check_exchange) (defBody s_check_exchange) (defScope s_check_exchange) .none kV_check_exchange dc_check_exchange pm_check_exchange an_check_exchange cd_check_exchange ct_check_exchange), sl_check_exchange⟩)
    (c_check_exchange : PySem.W.codeIn K cd_check_exchange "check_exchange" = true)
    (k_check_exchange : PySem.W.keepIn K (.ref f_a_check_exchange) = true)
    (a_weight_of : PySem.W.nsIn K mainGlobals "weight_of" = some (some (.ref f_a_weight_of)))
    (l_weight_of : K.lookup f_a_weight_of = some ⟨oc_weight_of, od_weight_of, .func (PySem.W.fnOf "weight_of" "weight_of" (defArgs s_weight_of) (defBody s_weight_of) (defScope s_weight_of) .none kV_weight_of dc_weight_of pm_weight_of an_weight_of cd_weight_of ct_weight_of), sl_weight_of⟩)
    (c_weight_of : PySem.W.codeIn K cd_weight_of "weight_of" = true)
    (k_weight_of : PySem.W.keepIn K (.ref f_a_weight_of) = true)
    (a_bit : PySem.W.nsIn K mainGlobals "bit" = some (some (.ref f_a_bit)))
    (l_bit : K.lookup f_a_bit = some ⟨oc_bit, od_bit, .func (PySem.W.fnOf "bit" "bit" (defArgs s_bit) (defBody s_bit) (defScope s_bit) .none kV_bit dc_bit pm_bit an_bit cd_bit ct_bit), sl_bit⟩)
    (c_bit : PySem.W.codeIn K cd_bit "bit" = true)
    (k_bit : PySem.W.keepIn K (.ref f_a_bit) = true)
    (a_applied : PySem.W.nsIn K mainGlobals "applied" = some (some (.ref f_a_applied)))
    (l_applied : K.lookup f_a_applied = some ⟨oc_applied, od_applied, .func (PySem.W.fnOf "applied" "applied" (defArgs s_applied) (defBody s_applied) (defScope s_applied) .none kV_applied dc_applied pm_applied an_applied cd_applied ct_applied), sl_applied⟩)
    (c_applied : PySem.W.codeIn K cd_applied "applied" = true)
    (k_applied : PySem.W.keepIn K (.ref f_a_applied) = true)
    (a_made : PySem.W.nsIn K mainGlobals "made" = some (some (.ref f_a_made)))
    (l_made : K.lookup f_a_made = some ⟨oc_made, od_made, .func (PySem.W.fnOf "made" "made" (defArgs s_made) (defBody s_made) (defScope s_made) .none kV_made dc_made pm_made an_made cd_made ct_made), sl_made⟩)
    (c_made : PySem.W.codeIn K cd_made "made" = true)
    (k_made : PySem.W.keepIn K (.ref f_a_made) = true)
    (a_then : PySem.W.nsIn K mainGlobals "then" = some (some (.ref f_a_then)))
    (l_then : K.lookup f_a_then = some ⟨oc_then, od_then, .func (PySem.W.fnOf "then" "then" (defArgs s_then) (defBody s_then) (defScope s_then) .none kV_then dc_then pm_then an_then cd_then ct_then), sl_then⟩)
    (c_then : PySem.W.codeIn K cd_then "then" = true)
    (k_then : PySem.W.keepIn K (.ref f_a_then) = true)
    (a_back : PySem.W.nsIn K mainGlobals "back" = some (some (.ref f_a_back)))
    (l_back : K.lookup f_a_back = some ⟨oc_back, od_back, .func (PySem.W.fnOf "back" "back" (defArgs s_back) (defBody s_back) (defScope s_back) .none kV_back dc_back pm_back an_back cd_back ct_back), sl_back⟩)
    (c_back : PySem.W.codeIn K cd_back "back" = true)
    (k_back : PySem.W.keepIn K (.ref f_a_back) = true)
    (a_Session_init : PySem.W.findIn K (.ref f_cl) "__init__" = some (some (.ref f_a_Session_init)))
    (i_Session_init : PySem.W.isFn K (.ref f_a_Session_init) = true)
    (l_Session_init : K.lookup f_a_Session_init = some ⟨oc_Session_init, od_Session_init, .func (PySem.W.fnOf "__init__" "Session.__init__" (defArgs s_Session_init) (defBody s_Session_init) (defScope s_Session_init) .none kV_Session_init dc_Session_init pm_Session_init an_Session_init cd_Session_init ct_Session_init), sl_Session_init⟩)
    (c_Session_init : PySem.W.codeIn K cd_Session_init "Session.__init__" = true)
    (k_Session_init : PySem.W.keepIn K (.ref f_a_Session_init) = true)
    (a_Session_wrong : PySem.W.findIn K (.ref f_cl) "wrong" = some (some (.ref f_a_Session_wrong)))
    (i_Session_wrong : PySem.W.isFn K (.ref f_a_Session_wrong) = true)
    (l_Session_wrong : K.lookup f_a_Session_wrong = some ⟨oc_Session_wrong, od_Session_wrong, .func (PySem.W.fnOf "wrong" "Session.wrong" (defArgs s_Session_wrong) (defBody s_Session_wrong) (defScope s_Session_wrong) .none kV_Session_wrong dc_Session_wrong pm_Session_wrong an_Session_wrong cd_Session_wrong ct_Session_wrong), sl_Session_wrong⟩)
    (c_Session_wrong : PySem.W.codeIn K cd_Session_wrong "Session.wrong" = true)
    (k_Session_wrong : PySem.W.keepIn K (.ref f_a_Session_wrong) = true)
    (a_Session_become : PySem.W.findIn K (.ref f_cl) "become" = some (some (.ref f_a_Session_become)))
    (i_Session_become : PySem.W.isFn K (.ref f_a_Session_become) = true)
    (l_Session_become : K.lookup f_a_Session_become = some ⟨oc_Session_become, od_Session_become, .func (PySem.W.fnOf "become" "Session.become" (defArgs s_Session_become) (defBody s_Session_become) (defScope s_Session_become) .none kV_Session_become dc_Session_become pm_Session_become an_Session_become cd_Session_become ct_Session_become), sl_Session_become⟩)
    (c_Session_become : PySem.W.codeIn K cd_Session_become "Session.become" = true)
    (k_Session_become : PySem.W.keepIn K (.ref f_a_Session_become) = true)
    (a_Session_add : PySem.W.findIn K (.ref f_cl) "add" = some (some (.ref f_a_Session_add)))
    (i_Session_add : PySem.W.isFn K (.ref f_a_Session_add) = true)
    (l_Session_add : K.lookup f_a_Session_add = some ⟨oc_Session_add, od_Session_add, .func (PySem.W.fnOf "add" "Session.add" (defArgs s_Session_add) (defBody s_Session_add) (defScope s_Session_add) .none kV_Session_add dc_Session_add pm_Session_add an_Session_add cd_Session_add ct_Session_add), sl_Session_add⟩)
    (c_Session_add : PySem.W.codeIn K cd_Session_add "Session.add" = true)
    (k_Session_add : PySem.W.keepIn K (.ref f_a_Session_add) = true)
    (a_Session_drop : PySem.W.findIn K (.ref f_cl) "drop" = some (some (.ref f_a_Session_drop)))
    (i_Session_drop : PySem.W.isFn K (.ref f_a_Session_drop) = true)
    (l_Session_drop : K.lookup f_a_Session_drop = some ⟨oc_Session_drop, od_Session_drop, .func (PySem.W.fnOf "drop" "Session.drop" (defArgs s_Session_drop) (defBody s_Session_drop) (defScope s_Session_drop) .none kV_Session_drop dc_Session_drop pm_Session_drop an_Session_drop cd_Session_drop ct_Session_drop), sl_Session_drop⟩)
    (c_Session_drop : PySem.W.codeIn K cd_Session_drop "Session.drop" = true)
    (k_Session_drop : PySem.W.keepIn K (.ref f_a_Session_drop) = true)
    (a_Session_circuit : PySem.W.findIn K (.ref f_cl) "circuit" = some (some (.ref f_a_Session_circuit)))
    (i_Session_circuit : PySem.W.isFn K (.ref f_a_Session_circuit) = true)
    (l_Session_circuit : K.lookup f_a_Session_circuit = some ⟨oc_Session_circuit, od_Session_circuit, .func (PySem.W.fnOf "circuit" "Session.circuit" (defArgs s_Session_circuit) (defBody s_Session_circuit) (defScope s_Session_circuit) .none kV_Session_circuit dc_Session_circuit pm_Session_circuit an_Session_circuit cd_Session_circuit ct_Session_circuit), sl_Session_circuit⟩)
    (c_Session_circuit : PySem.W.codeIn K cd_Session_circuit "Session.circuit" = true)
    (k_Session_circuit : PySem.W.keepIn K (.ref f_a_Session_circuit) = true)
    (a_Session_rest : PySem.W.findIn K (.ref f_cl) "rest" = some (some (.ref f_a_Session_rest)))
    (i_Session_rest : PySem.W.isFn K (.ref f_a_Session_rest) = true)
    (l_Session_rest : K.lookup f_a_Session_rest = some ⟨oc_Session_rest, od_Session_rest, .func (PySem.W.fnOf "rest" "Session.rest" (defArgs s_Session_rest) (defBody s_Session_rest) (defScope s_Session_rest) .none kV_Session_rest dc_Session_rest pm_Session_rest an_Session_rest cd_Session_rest ct_Session_rest), sl_Session_rest⟩)
    (c_Session_rest : PySem.W.codeIn K cd_Session_rest "Session.rest" = true)
    (k_Session_rest : PySem.W.keepIn K (.ref f_a_Session_rest) = true)
    (a_Session_is_done : PySem.W.findIn K (.ref f_cl) "is_done" = some (some (.ref f_a_Session_is_done)))
    (i_Session_is_done : PySem.W.isFn K (.ref f_a_Session_is_done) = true)
    (l_Session_is_done : K.lookup f_a_Session_is_done = some ⟨oc_Session_is_done, od_Session_is_done, .func (PySem.W.fnOf "is_done" "Session.is_done" (defArgs s_Session_is_done) (defBody s_Session_is_done) (defScope s_Session_is_done) .none kV_Session_is_done dc_Session_is_done pm_Session_is_done an_Session_is_done cd_Session_is_done ct_Session_is_done), sl_Session_is_done⟩)
    (c_Session_is_done : PySem.W.codeIn K cd_Session_is_done "Session.is_done" = true)
    (k_Session_is_done : PySem.W.keepIn K (.ref f_a_Session_is_done) = true)
    (a_Session_history : PySem.W.findIn K (.ref f_cl) "history" = some (some (.ref f_a_Session_history)))
    (i_Session_history : PySem.W.isFn K (.ref f_a_Session_history) = true)
    (l_Session_history : K.lookup f_a_Session_history = some ⟨oc_Session_history, od_Session_history, .func (PySem.W.fnOf "history" "Session.history" (defArgs s_Session_history) (defBody s_Session_history) (defScope s_Session_history) .none kV_Session_history dc_Session_history pm_Session_history an_Session_history cd_Session_history ct_Session_history), sl_Session_history⟩)
    (c_Session_history : PySem.W.codeIn K cd_Session_history "Session.history" = true)
    (k_Session_history : PySem.W.keepIn K (.ref f_a_Session_history) = true)
    (a_Session_len : PySem.W.findIn K (.ref f_cl) "__len__" = some (some (.ref f_a_Session_len)))
    (i_Session_len : PySem.W.isFn K (.ref f_a_Session_len) = true)
    (l_Session_len : K.lookup f_a_Session_len = some ⟨oc_Session_len, od_Session_len, .func (PySem.W.fnOf "__len__" "Session.__len__" (defArgs s_Session_len) (defBody s_Session_len) (defScope s_Session_len) .none kV_Session_len dc_Session_len pm_Session_len an_Session_len cd_Session_len ct_Session_len), sl_Session_len⟩)
    (c_Session_len : PySem.W.codeIn K cd_Session_len "Session.__len__" = true)
    (k_Session_len : PySem.W.keepIn K (.ref f_a_Session_len) = true)
    (a_Session_str : PySem.W.findIn K (.ref f_cl) "__str__" = some (some (.ref f_a_Session_str)))
    (i_Session_str : PySem.W.isFn K (.ref f_a_Session_str) = true)
    (l_Session_str : K.lookup f_a_Session_str = some ⟨oc_Session_str, od_Session_str, .func (PySem.W.fnOf "__str__" "Session.__str__" (defArgs s_Session_str) (defBody s_Session_str) (defScope s_Session_str) .none kV_Session_str dc_Session_str pm_Session_str an_Session_str cd_Session_str ct_Session_str), sl_Session_str⟩)
    (c_Session_str : PySem.W.codeIn K cd_Session_str "Session.__str__" = true)
    (k_Session_str : PySem.W.keepIn K (.ref f_a_Session_str) = true)
    (a_law_is : PySem.W.nsIn K mainGlobals "_law_is" = some (some (.ref f_a_law_is)))
    (l_law_is : K.lookup f_a_law_is = some ⟨oc_law_is, od_law_is, .func (PySem.W.fnOf "_law_is" "_law_is" (defArgs s_law_is) (defBody s_law_is) (defScope s_law_is) .none kV_law_is dc_law_is pm_law_is an_law_is cd_law_is ct_law_is), sl_law_is⟩)
    (c_law_is : PySem.W.codeIn K cd_law_is "_law_is" = true)
    (k_law_is : PySem.W.keepIn K (.ref f_a_law_is) = true)
    (a_law_draw : PySem.W.nsIn K mainGlobals "_law_draw" = some (some (.ref f_a_law_draw)))
    (l_law_draw : K.lookup f_a_law_draw = some ⟨oc_law_draw, od_law_draw, .func (PySem.W.fnOf "_law_draw" "_law_draw" (defArgs s_law_draw) (defBody s_law_draw) (defScope s_law_draw) .none kV_law_draw dc_law_draw pm_law_draw an_law_draw cd_law_draw ct_law_draw), sl_law_draw⟩)
    (c_law_draw : PySem.W.codeIn K cd_law_draw "_law_draw" = true)
    (k_law_draw : PySem.W.keepIn K (.ref f_a_law_draw) = true)
    (a_law_begun : PySem.W.nsIn K mainGlobals "_law_begun" = some (some (.ref f_a_law_begun)))
    (l_law_begun : K.lookup f_a_law_begun = some ⟨oc_law_begun, od_law_begun, .func (PySem.W.fnOf "_law_begun" "_law_begun" (defArgs s_law_begun) (defBody s_law_begun) (defScope s_law_begun) .none kV_law_begun dc_law_begun pm_law_begun an_law_begun cd_law_begun ct_law_begun), sl_law_begun⟩)
    (c_law_begun : PySem.W.codeIn K cd_law_begun "_law_begun" = true)
    (k_law_begun : PySem.W.keepIn K (.ref f_a_law_begun) = true)
    (a_law_gates : PySem.W.nsIn K mainGlobals "_law_gates" = some (some (.ref f_a_law_gates)))
    (l_law_gates : K.lookup f_a_law_gates = some ⟨oc_law_gates, od_law_gates, .func (PySem.W.fnOf "_law_gates" "_law_gates" (defArgs s_law_gates) (defBody s_law_gates) (defScope s_law_gates) .none kV_law_gates dc_law_gates pm_law_gates an_law_gates cd_law_gates ct_law_gates), sl_law_gates⟩)
    (c_law_gates : PySem.W.codeIn K cd_law_gates "_law_gates" = true)
    (k_law_gates : PySem.W.keepIn K (.ref f_a_law_gates) = true)
    (a_law_circuit : PySem.W.nsIn K mainGlobals "_law_circuit" = some (some (.ref f_a_law_circuit)))
    (l_law_circuit : K.lookup f_a_law_circuit = some ⟨oc_law_circuit, od_law_circuit, .func (PySem.W.fnOf "_law_circuit" "_law_circuit" (defArgs s_law_circuit) (defBody s_law_circuit) (defScope s_law_circuit) .none kV_law_circuit dc_law_circuit pm_law_circuit an_law_circuit cd_law_circuit ct_law_circuit), sl_law_circuit⟩)
    (c_law_circuit : PySem.W.codeIn K cd_law_circuit "_law_circuit" = true)
    (k_law_circuit : PySem.W.keepIn K (.ref f_a_law_circuit) = true)
    (a_law_apply : PySem.W.nsIn K mainGlobals "_law_apply" = some (some (.ref f_a_law_apply)))
    (l_law_apply : K.lookup f_a_law_apply = some ⟨oc_law_apply, od_law_apply, .func (PySem.W.fnOf "_law_apply" "_law_apply" (defArgs s_law_apply) (defBody s_law_apply) (defScope s_law_apply) .none kV_law_apply dc_law_apply pm_law_apply an_law_apply cd_law_apply ct_law_apply), sl_law_apply⟩)
    (c_law_apply : PySem.W.codeIn K cd_law_apply "_law_apply" = true)
    (k_law_apply : PySem.W.keepIn K (.ref f_a_law_apply) = true)
    (a_law_made : PySem.W.nsIn K mainGlobals "_law_made" = some (some (.ref f_a_law_made)))
    (l_law_made : K.lookup f_a_law_made = some ⟨oc_law_made, od_law_made, .func (PySem.W.fnOf "_law_made" "_law_made" (defArgs s_law_made) (defBody s_law_made) (defScope s_law_made) .none kV_law_made dc_law_made pm_law_made an_law_made cd_law_made ct_law_made), sl_law_made⟩)
    (c_law_made : PySem.W.codeIn K cd_law_made "_law_made" = true)
    (k_law_made : PySem.W.keepIn K (.ref f_a_law_made) = true)
    (a_law_exchange : PySem.W.nsIn K mainGlobals "_law_exchange" = some (some (.ref f_a_law_exchange)))
    (l_law_exchange : K.lookup f_a_law_exchange = some ⟨oc_law_exchange, od_law_exchange, .func (PySem.W.fnOf "_law_exchange" "_law_exchange" (defArgs s_law_exchange) (defBody s_law_exchange) (defScope s_law_exchange) .none kV_law_exchange dc_law_exchange pm_law_exchange an_law_exchange cd_law_exchange ct_law_exchange), sl_law_exchange⟩)
    (c_law_exchange : PySem.W.codeIn K cd_law_exchange "_law_exchange" = true)
    (k_law_exchange : PySem.W.keepIn K (.ref f_a_law_exchange) = true)
    (a_law_call : PySem.W.nsIn K mainGlobals "_law_call" = some (some (.ref f_a_law_call)))
    (l_law_call : K.lookup f_a_law_call = some ⟨oc_law_call, od_law_call, .func (PySem.W.fnOf "_law_call" "_law_call" (defArgs s_law_call) (defBody s_law_call) (defScope s_law_call) .none kV_law_call dc_law_call pm_law_call an_law_call cd_law_call ct_law_call), sl_law_call⟩)
    (c_law_call : PySem.W.codeIn K cd_law_call "_law_call" = true)
    (k_law_call : PySem.W.keepIn K (.ref f_a_law_call) = true)
    (a_law_agrees : PySem.W.nsIn K mainGlobals "_law_agrees" = some (some (.ref f_a_law_agrees)))
    (l_law_agrees : K.lookup f_a_law_agrees = some ⟨oc_law_agrees, od_law_agrees, .func (PySem.W.fnOf "_law_agrees" "_law_agrees" (defArgs s_law_agrees) (defBody s_law_agrees) (defScope s_law_agrees) .none kV_law_agrees dc_law_agrees pm_law_agrees an_law_agrees cd_law_agrees ct_law_agrees), sl_law_agrees⟩)
    (c_law_agrees : PySem.W.codeIn K cd_law_agrees "_law_agrees" = true)
    (k_law_agrees : PySem.W.keepIn K (.ref f_a_law_agrees) = true)
    (a_law_due : PySem.W.nsIn K mainGlobals "_law_due" = some (some (.ref f_a_law_due)))
    (l_law_due : K.lookup f_a_law_due = some ⟨oc_law_due, od_law_due, .func (PySem.W.fnOf "_law_due" "_law_due" (defArgs s_law_due) (defBody s_law_due) (defScope s_law_due) .none kV_law_due dc_law_due pm_law_due an_law_due cd_law_due ct_law_due), sl_law_due⟩)
    (c_law_due : PySem.W.codeIn K cd_law_due "_law_due" = true)
    (k_law_due : PySem.W.keepIn K (.ref f_a_law_due) = true)
    (a_law : PySem.W.nsIn K mainGlobals "law" = some (some (.ref f_a_law)))
    (l_law : K.lookup f_a_law = some ⟨oc_law, od_law, .func (PySem.W.fnOf "law" "law" (defArgs s_law) (defBody s_law) (defScope s_law) .none kV_law dc_law pm_law an_law (.ref ca_law) ct_law), sl_law⟩)
    (c_law : PySem.W.codeIn K (.ref ca_law) "law" = true)
    (k_law : PySem.W.keepIn K (.ref f_a_law) = true)
    (g_law : K.lookup ca_law = some ⟨oo_law, ox_law, .fields vs_law, so_law⟩)
    (v_law : vs_law[11]? = some (.ref P_law))
    (n_law : K.lookup P_law = none)
    (tb_law : PySem.W.tabIn K "law" = some (ca_law, P_law) → PySem.W.CodeHd h ca_law P_law ∧ h.get? P_law = some (PySem.W.tabObj #[]))
    (a_law_result : PySem.W.nsIn K mainGlobals "_law_result" = some (some (.ref f_a_law_result)))
    (l_law_result : K.lookup f_a_law_result = some ⟨oc_law_result, od_law_result, .func (PySem.W.fnOf "_law_result" "_law_result" (defArgs s_law_result) (defBody s_law_result) (defScope s_law_result) .none kV_law_result dc_law_result pm_law_result an_law_result cd_law_result ct_law_result), sl_law_result⟩)
    (c_law_result : PySem.W.codeIn K cd_law_result "_law_result" = true)
    (k_law_result : PySem.W.keepIn K (.ref f_a_law_result) = true)
    (z_len : PySem.W.nsIn K mainGlobals "len" = some none)
    (z_all : PySem.W.nsIn K mainGlobals "all" = some none)
    (z_any : PySem.W.nsIn K mainGlobals "any" = some none)
    (z_sum : PySem.W.nsIn K mainGlobals "sum" = some none)
    (z_sorted : PySem.W.nsIn K mainGlobals "sorted" = some none)
    (z_min : PySem.W.nsIn K mainGlobals "min" = some none)
    (z_max : PySem.W.nsIn K mainGlobals "max" = some none)
    (z_isinstance : PySem.W.nsIn K mainGlobals "isinstance" = some none)
    (z_tuple : PySem.W.nsIn K mainGlobals "tuple" = some none)
    (z_list : PySem.W.nsIn K mainGlobals "list" = some none)
    (z_int : PySem.W.nsIn K mainGlobals "int" = some none)
    (z_bool : PySem.W.nsIn K mainGlobals "bool" = some none)
    (z_str : PySem.W.nsIn K mainGlobals "str" = some none)
    (z_range : PySem.W.nsIn K mainGlobals "range" = some none)
    (z_set : PySem.W.nsIn K mainGlobals "set" = some none)
    (z_enumerate : PySem.W.nsIn K mainGlobals "enumerate" = some none)
    (z_zip : PySem.W.nsIn K mainGlobals "zip" = some none)
    (z_dict : PySem.W.nsIn K mainGlobals "dict" = some none)
    (z_abs : PySem.W.nsIn K mainGlobals "abs" = some none)
    (a_cKINDS_ : PySem.W.nsIn K mainGlobals "KINDS" = some (some (.ref a_cKINDS)))
    (l_cKINDS : K.lookup a_cKINDS = some ⟨.type "tuple", none, .seq #[.str "both" t0_KINDS, .str "if" t1_KINDS, .str "not" t2_KINDS, .str "pick" t3_KINDS, .str "swap" t4_KINDS] n_cKINDS, sl_cKINDS⟩)
    (a_cLONGEST_ : PySem.W.nsIn K mainGlobals "LONGEST" = some (some (.int 20 t_cLONGEST)))
    (a_cSAME_ : PySem.W.nsIn K mainGlobals "SAME" = some (some (.ref a_cSAME)))
    (l_cSAME : K.lookup a_cSAME = some ⟨.type "tuple", none, .seq #[.int 0 t0_SAME, .int 1 t1_SAME, .int 2 t2_SAME, .int 3 t3_SAME, .int 4 t4_SAME, .int 5 t5_SAME, .int 6 t6_SAME, .int 7 t7_SAME] n_cSAME, sl_cSAME⟩)
    (a_GE_ : PySem.W.nsIn K mainGlobals "GateError" = some (some (.ref a_GE)))
    (z_ValueError : PySem.W.nsIn K mainGlobals "ValueError" = some none)
    (a_eInvalidCircuit_ : PySem.W.nsIn K mainGlobals "InvalidCircuit" = some (some (.ref a_eInvalidCircuit)))
    (a_eInvalidWord_ : PySem.W.nsIn K mainGlobals "InvalidWord" = some (some (.ref a_eInvalidWord)))
    (a_eInvalidLines_ : PySem.W.nsIn K mainGlobals "InvalidLines" = some (some (.ref a_eInvalidLines)))
    (a_eInvalidKinds_ : PySem.W.nsIn K mainGlobals "InvalidKinds" = some (some (.ref a_eInvalidKinds)))
    (a_eInvalidFunction_ : PySem.W.nsIn K mainGlobals "InvalidFunction" = some (some (.ref a_eInvalidFunction)))
    (a_eInvalidAnswers_ : PySem.W.nsIn K mainGlobals "InvalidAnswers" = some (some (.ref a_eInvalidAnswers)))
    (a_eInvalidText_ : PySem.W.nsIn K mainGlobals "InvalidText" = some (some (.ref a_eInvalidText)))
    (a_eNothingToUndo_ : PySem.W.nsIn K mainGlobals "NothingToUndo" = some (some (.ref a_eNothingToUndo)))
    (a_eInvalidGate_ : PySem.W.nsIn K mainGlobals "InvalidGate" = some (some (.ref a_eInvalidGate)))
    (x_eInvalidGate : PySem.W.excIn K a_eInvalidGate [.type "ValueError", .type "Exception", .type "BaseException", .type "object"] "ValueError.__new__" = true)
    (k_eInvalidGate : PySem.W.keepIn K (.ref a_eInvalidGate) = true)
    (b_eInvalidGate : PySem.W.subIn K (.ref a_eInvalidGate) (.type "BaseException") = true)
    (t_eInvalidGate : PySem.W.typeIn K (.ref a_eInvalidGate) = some (.type "type"))
    (a_eInvalidExchange_ : PySem.W.nsIn K mainGlobals "InvalidExchange" = some (some (.ref a_eInvalidExchange)))
    (x_eInvalidExchange : PySem.W.excIn K a_eInvalidExchange [.type "ValueError", .type "Exception", .type "BaseException", .type "object"] "ValueError.__new__" = true)
    (k_eInvalidExchange : PySem.W.keepIn K (.ref a_eInvalidExchange) = true)
    (b_eInvalidExchange : PySem.W.subIn K (.ref a_eInvalidExchange) (.type "BaseException") = true)
    (t_eInvalidExchange : PySem.W.typeIn K (.ref a_eInvalidExchange) = some (.type "type"))
    (a_eTooMany_ : PySem.W.nsIn K mainGlobals "TooMany" = some (some (.ref a_eTooMany)))
    (x_eTooMany : PySem.W.excIn K a_eTooMany [.type "ValueError", .type "Exception", .type "BaseException", .type "object"] "ValueError.__new__" = true)
    (k_eTooMany : PySem.W.keepIn K (.ref a_eTooMany) = true)
    (b_eTooMany : PySem.W.subIn K (.ref a_eTooMany) (.type "BaseException") = true)
    (t_eTooMany : PySem.W.typeIn K (.ref a_eTooMany) = some (.type "type"))
    (a_eEmpty_ : PySem.W.nsIn K mainGlobals "Empty" = some (some (.ref a_eEmpty)))
    (x_eEmpty : PySem.W.excIn K a_eEmpty [.type "ValueError", .type "Exception", .type "BaseException", .type "object"] "ValueError.__new__" = true)
    (k_eEmpty : PySem.W.keepIn K (.ref a_eEmpty) = true)
    (b_eEmpty : PySem.W.subIn K (.ref a_eEmpty) (.type "BaseException") = true)
    (t_eEmpty : PySem.W.typeIn K (.ref a_eEmpty) = some (.type "type"))
    (exok : excOk K a_GE (fun c => match c with | 0 => a_eInvalidGate | 1 => a_eInvalidCircuit | 2 => a_eInvalidWord | 3 => a_eInvalidExchange | 4 => a_eInvalidLines | 5 => a_eInvalidKinds | 6 => a_eInvalidFunction | 7 => a_eInvalidAnswers | 8 => a_eInvalidText | 9 => a_eTooMany | 10 => a_eEmpty | 11 => a_eNothingToUndo | _ => 0) = true) :
    LamX.LawAtS l w K (L2.CX l.prog w) 11 63 "script" mg fa h := by
  have e := hfa.symm.trans (PySem.W.mg_of X G a_law)
  cases e
  have M : Mg K w mg ⟨[(P_law, "law" ++ ".<locals>." ++ "<lambda>")], (fun c => match c with | 0 => a_eInvalidGate | 1 => a_eInvalidCircuit | 2 => a_eInvalidWord | 3 => a_eInvalidExchange | 4 => a_eInvalidLines | 5 => a_eInvalidKinds | 6 => a_eInvalidFunction | 7 => a_eInvalidAnswers | 8 => a_eInvalidText | 9 => a_eTooMany | 10 => a_eEmpty | 11 => a_eNothingToUndo | _ => 0), K, f_cl⟩ := ⟨⟨PySem.W.mg_none_of X G z_len, PySem.W.mg_none_of X G z_all, PySem.W.mg_none_of X G z_any, PySem.W.mg_none_of X G z_sum, PySem.W.mg_none_of X G z_sorted, PySem.W.mg_none_of X G z_min, PySem.W.mg_none_of X G z_max, PySem.W.mg_none_of X G z_isinstance, PySem.W.mg_none_of X G z_tuple, PySem.W.mg_none_of X G z_list, PySem.W.mg_none_of X G z_int, PySem.W.mg_none_of X G z_bool, PySem.W.mg_none_of X G z_str, PySem.W.mg_none_of X G z_range, PySem.W.mg_none_of X G z_set, PySem.W.mg_none_of X G z_enumerate, PySem.W.mg_none_of X G z_zip, PySem.W.mg_none_of X G z_dict, PySem.W.mg_none_of X G z_abs⟩, rfl, ⟨pg_cl, hd_cl, po_cl, sa_cl⟩, na_done, na_gates, na_goal, na_undone, ⟨_, PySem.W.mg_of X G a_cKINDS_, fun g => .tup (xs := [.str "both", .str "if", .str "not", .str "pick", .str "swap"]) (.inr ⟨_, _, _, l_cKINDS, rfl, rfl, Nat.le_of_ble_eq_true rfl, (.cons ⟨_, rfl⟩ (.cons ⟨_, rfl⟩ (.cons ⟨_, rfl⟩ (.cons ⟨_, rfl⟩ (.cons ⟨_, rfl⟩ .nil))))), rfl⟩) (.cons (.str _) (.cons (.str _) (.cons (.str _) (.cons (.str _) (.cons (.str _) .nil)))))⟩, ⟨_, PySem.W.mg_of X G a_cLONGEST_⟩, ⟨_, PySem.W.mg_of X G a_cSAME_, fun g => .tup (xs := [.int 0, .int 1, .int 2, .int 3, .int 4, .int 5, .int 6, .int 7]) (.inr ⟨_, _, _, l_cSAME, rfl, rfl, Nat.le_of_ble_eq_true rfl, (.cons ⟨_, rfl⟩ (.cons ⟨_, rfl⟩ (.cons ⟨_, rfl⟩ (.cons ⟨_, rfl⟩ (.cons ⟨_, rfl⟩ (.cons ⟨_, rfl⟩ (.cons ⟨_, rfl⟩ (.cons ⟨_, rfl⟩ .nil)))))))), rfl⟩) (.cons (.int _) (.cons (.int _) (.cons (.int _) (.cons (.int _) (.cons (.int _) (.cons (.int _) (.cons (.int _) (.cons (.int _) .nil))))))))⟩, ⟨PySem.W.mg_of X G a_eInvalidGate_, x_eInvalidGate, k_eInvalidGate, b_eInvalidGate, t_eInvalidGate⟩, ⟨PySem.W.mg_of X G a_eInvalidExchange_, x_eInvalidExchange, k_eInvalidExchange, b_eInvalidExchange, t_eInvalidExchange⟩, ⟨PySem.W.mg_of X G a_eTooMany_, x_eTooMany, k_eTooMany, b_eTooMany, t_eTooMany⟩, ⟨PySem.W.mg_of X G a_eEmpty_, x_eEmpty, k_eEmpty, b_eEmpty, t_eEmpty⟩⟩
  have R : ResF K mg ⟨[(P_law, "law" ++ ".<locals>." ++ "<lambda>")], (fun c => match c with | 0 => a_eInvalidGate | 1 => a_eInvalidCircuit | 2 => a_eInvalidWord | 3 => a_eInvalidExchange | 4 => a_eInvalidLines | 5 => a_eInvalidKinds | 6 => a_eInvalidFunction | 7 => a_eInvalidAnswers | 8 => a_eInvalidText | 9 => a_eTooMany | 10 => a_eEmpty | 11 => a_eNothingToUndo | _ => 0), K, f_cl⟩ := ⟨⟨_, _, _, _, _, _, _, _, _, _, _, PySem.W.mg_of X G a_law_result, k_law_result, l_law_result, c_law_result, PySem.W.mg_of X G a_GE_, exok⟩, PySem.W.mg_of X G a_eInvalidGate_, PySem.W.mg_of X G a_eInvalidCircuit_, PySem.W.mg_of X G a_eInvalidWord_, PySem.W.mg_of X G a_eInvalidExchange_, PySem.W.mg_of X G a_eInvalidLines_, PySem.W.mg_of X G a_eInvalidKinds_, PySem.W.mg_of X G a_eInvalidFunction_, PySem.W.mg_of X G a_eInvalidAnswers_, PySem.W.mg_of X G a_eInvalidText_, PySem.W.mg_of X G a_eTooMany_, PySem.W.mg_of X G a_eEmpty_, PySem.W.mg_of X G a_eNothingToUndo_, PySem.W.mg_none_of X G z_ValueError⟩
  have tb_law := tb_law (tabIn_of a_law l_law rfl g_law v_law)
  refine ⟨PySem.W.fnOf "law" "law" (defArgs s_law) (defBody s_law) (defScope s_law) .none kV_law dc_law pm_law an_law (.ref ca_law) ct_law, [(ca_law, P_law)], spLawT K [(P_law, "law" ++ ".<locals>." ++ "<lambda>")], (List.forall_mem_cons.mpr ⟨tb_law.2, (fun _ z => nomatch z)⟩), (List.forall_mem_cons.mpr ⟨n_law, (fun _ z => nomatch z)⟩), (List.forall_mem_cons.mpr ⟨tb_law.1, (fun _ z => nomatch z)⟩), fun s v => .of_eq rfl, fun H a ns hl _ hT hS => ⟨a, ns, rfl, hS, hl, ?_, fun _ => rfl⟩, fun base _ _ TB => ?_⟩
  · exact (List.forall_mem_cons.mpr ⟨LamX.TabS.nil (hT _ (.head _)), (fun _ z => nomatch z)⟩)
  have Lm_law : LamD base mg ⟨[(P_law, "law" ++ ".<locals>." ++ "<lambda>")], (fun c => match c with | 0 => a_eInvalidGate | 1 => a_eInvalidCircuit | 2 => a_eInvalidWord | 3 => a_eInvalidExchange | 4 => a_eInvalidLines | 5 => a_eInvalidKinds | 6 => a_eInvalidFunction | 7 => a_eInvalidAnswers | 8 => a_eInvalidText | 9 => a_eTooMany | 10 => a_eEmpty | 11 => a_eNothingToUndo | _ => 0), K, f_cl⟩ "law" ca_law := ⟨P_law, TB _ (.head _), (.head _), fun p hp e => by
    simp only [List.mem_cons, List.not_mem_nil, or_false] at hp
    rcases hp with rfl <;> first | rfl | exact absurd e (by assumption) | exact absurd e.symm (by assumption)⟩
  have F_is_between := fun_mk (st := s_is_between) l_is_between c_is_between k_is_between
  have o_is_between := ok_is_between (P := l.prog) (w := w) (base := base) M F_is_between 
  have fd_is_between := Fd.of o_is_between (PySem.W.mg_of X G a_is_between) F_is_between.kp (F_is_between.binds (ps := ["value", "low", "high"]) fun _ _ _ _ _ _ us hl => match us, hl with | [_, _, _], _ => rfl)
  have F_is_gate := fun_mk (st := s_is_gate) l_is_gate c_is_gate k_is_gate
  have o_is_gate := ok_is_gate (P := l.prog) (w := w) (base := base) M F_is_gate fd_is_between
  have fd_is_gate := Fd.of o_is_gate (PySem.W.mg_of X G a_is_gate) F_is_gate.kp (F_is_gate.binds (ps := ["value"]) fun _ _ _ _ _ _ us hl => match us, hl with | [_], _ => rfl)
  have F_is_exchange := fun_mk (st := s_is_exchange) l_is_exchange c_is_exchange k_is_exchange
  have o_is_exchange := ok_is_exchange (P := l.prog) (w := w) (base := base) M F_is_exchange fd_is_between
  have fd_is_exchange := Fd.of o_is_exchange (PySem.W.mg_of X G a_is_exchange) F_is_exchange.kp (F_is_exchange.binds (ps := ["value"]) fun _ _ _ _ _ _ us hl => match us, hl with | [_], _ => rfl)
  have F_check_gate := fun_mk (st := s_check_gate) l_check_gate c_check_gate k_check_gate
  have o_check_gate := ok_check_gate (P := l.prog) (w := w) (base := base) M F_check_gate fd_is_gate
  have fd_check_gate := Fd.of o_check_gate (PySem.W.mg_of X G a_check_gate) F_check_gate.kp (F_check_gate.binds (ps := ["gate"]) fun _ _ _ _ _ _ us hl => match us, hl with | [_], _ => rfl)
  have F_check_exchange := fun_mk (st := s_check_exchange) l_check_exchange c_check_exchange k_check_exchange
  have o_check_exchange := ok_check_exchange (P := l.prog) (w := w) (base := base) M F_check_exchange fd_is_exchange
  have fd_check_exchange := Fd.of o_check_exchange (PySem.W.mg_of X G a_check_exchange) F_check_exchange.kp (F_check_exchange.binds (ps := ["exchange"]) fun _ _ _ _ _ _ us hl => match us, hl with | [_], _ => rfl)
  have F_weight_of := fun_mk (st := s_weight_of) l_weight_of c_weight_of k_weight_of
  have o_weight_of := ok_weight_of (P := l.prog) (w := w) (base := base) M F_weight_of 
  have fd_weight_of := Fd.of o_weight_of (PySem.W.mg_of X G a_weight_of) F_weight_of.kp (F_weight_of.binds (ps := ["line"]) fun _ _ _ _ _ _ us hl => match us, hl with | [_], _ => rfl)
  have F_bit := fun_mk (st := s_bit) l_bit c_bit k_bit
  have o_bit := ok_bit (P := l.prog) (w := w) (base := base) M F_bit fd_weight_of
  have fd_bit := Fd.of o_bit (PySem.W.mg_of X G a_bit) F_bit.kp (F_bit.binds (ps := ["word", "line"]) fun _ _ _ _ _ _ us hl => match us, hl with | [_, _], _ => rfl)
  have F_applied := fun_mk (st := s_applied) l_applied c_applied k_applied
  have o_applied := ok_applied (P := l.prog) (w := w) (base := base) M F_applied fd_bit fd_weight_of
  have fd_applied := Fd.of o_applied (PySem.W.mg_of X G a_applied) F_applied.kp (F_applied.binds (ps := ["gate", "word"]) fun _ _ _ _ _ _ us hl => match us, hl with | [_, _], _ => rfl)
  have F_made := fun_mk (st := s_made) l_made c_made k_made
  have o_made := ok_made (P := l.prog) (w := w) (base := base) M F_made fd_applied
  have fd_made := Fd.of o_made (PySem.W.mg_of X G a_made) F_made.kp (F_made.binds (ps := ["circuit"]) fun _ _ _ _ _ _ us hl => match us, hl with | [_], _ => rfl)
  have F_then := fun_mk (st := s_then) l_then c_then k_then
  have o_then := ok_then (P := l.prog) (w := w) (base := base) M F_then 
  have fd_then := Fd.of o_then (PySem.W.mg_of X G a_then) F_then.kp (F_then.binds (ps := ["one", "other"]) fun _ _ _ _ _ _ us hl => match us, hl with | [_, _], _ => rfl)
  have F_back := fun_mk (st := s_back) l_back c_back k_back
  have o_back := ok_back (P := l.prog) (w := w) (base := base) M F_back 
  have fd_back := Fd.of o_back (PySem.W.mg_of X G a_back) F_back.kp (F_back.binds (ps := ["exchange"]) fun _ _ _ _ _ _ us hl => match us, hl with | [_], _ => rfl)
  have F_Session_init := fun_mk (st := s_Session_init) l_Session_init c_Session_init k_Session_init
  have o_Session_init := ok_Session_init (P := l.prog) (w := w) (base := base) M F_Session_init fd_check_exchange
  have fik_Session_init : FdIK l.prog w K mg base ⟨[(P_law, "law" ++ ".<locals>." ++ "<lambda>")], (fun c => match c with | 0 => a_eInvalidGate | 1 => a_eInvalidCircuit | 2 => a_eInvalidWord | 3 => a_eInvalidExchange | 4 => a_eInvalidLines | 5 => a_eInvalidKinds | 6 => a_eInvalidFunction | 7 => a_eInvalidAnswers | 8 => a_eInvalidText | 9 => a_eTooMany | 10 => a_eEmpty | 11 => a_eNothingToUndo | _ => 0), K, f_cl⟩ 4 "Session" ["exchange"] f_Session_init := ⟨⟨_, _, _, o_Session_init, ⟨mk_cl, a_Session_init, i_Session_init, kc_cl⟩, F_Session_init.kb fun _ _ _ _ _ _ us ws h1 h2 => match us, ws, h1, h2 with | [_], [_], _, _ => rfl⟩, PySem.W.mg_of X G a_cl, rfl⟩
  have fi_Session_init : FdI l.prog w K mg base ⟨[(P_law, "law" ++ ".<locals>." ++ "<lambda>")], (fun c => match c with | 0 => a_eInvalidGate | 1 => a_eInvalidCircuit | 2 => a_eInvalidWord | 3 => a_eInvalidExchange | 4 => a_eInvalidLines | 5 => a_eInvalidKinds | 6 => a_eInvalidFunction | 7 => a_eInvalidAnswers | 8 => a_eInvalidText | 9 => a_eTooMany | 10 => a_eEmpty | 11 => a_eNothingToUndo | _ => 0), K, f_cl⟩ 4 "Session" 1 f_Session_init := ⟨⟨_, _, _, o_Session_init, ⟨mk_cl, a_Session_init, i_Session_init, kc_cl⟩, (F_Session_init.binds (ps := ["self", "exchange"]) fun _ _ _ _ _ _ us hl => match us, hl with | [_, _], _ => rfl)⟩, PySem.W.mg_of X G a_cl, rfl⟩
  have F_Session_wrong := fun_mk (st := s_Session_wrong) l_Session_wrong c_Session_wrong k_Session_wrong
  have o_Session_wrong := ok_Session_wrong (P := l.prog) (w := w) (base := base) M F_Session_wrong fd_made
  have fm_Session_wrong : FdM l.prog w K mg base ⟨[(P_law, "law" ++ ".<locals>." ++ "<lambda>")], (fun c => match c with | 0 => a_eInvalidGate | 1 => a_eInvalidCircuit | 2 => a_eInvalidWord | 3 => a_eInvalidExchange | 4 => a_eInvalidLines | 5 => a_eInvalidKinds | 6 => a_eInvalidFunction | 7 => a_eInvalidAnswers | 8 => a_eInvalidText | 9 => a_eTooMany | 10 => a_eEmpty | 11 => a_eNothingToUndo | _ => 0), K, f_cl⟩ 5 "wrong" 0 f_Session_wrong := ⟨⟨_, _, _, o_Session_wrong, ⟨a_Session_wrong, i_Session_wrong, k_Session_wrong⟩, (F_Session_wrong.binds (ps := ["self"]) fun _ _ _ _ _ _ us hl => match us, hl with | [_], _ => rfl)⟩, ⟨pg_cl, hd_cl, po_cl, sa_cl⟩, rfl⟩
  have F_Session_become := fun_mk (st := s_Session_become) l_Session_become c_Session_become k_Session_become
  have o_Session_become := ok_Session_become (P := l.prog) (w := w) (base := base) M F_Session_become fm_Session_wrong
  have fm_Session_become : FdM l.prog w K mg base ⟨[(P_law, "law" ++ ".<locals>." ++ "<lambda>")], (fun c => match c with | 0 => a_eInvalidGate | 1 => a_eInvalidCircuit | 2 => a_eInvalidWord | 3 => a_eInvalidExchange | 4 => a_eInvalidLines | 5 => a_eInvalidKinds | 6 => a_eInvalidFunction | 7 => a_eInvalidAnswers | 8 => a_eInvalidText | 9 => a_eTooMany | 10 => a_eEmpty | 11 => a_eNothingToUndo | _ => 0), K, f_cl⟩ 6 "become" 2 f_Session_become := ⟨⟨_, _, _, o_Session_become, ⟨a_Session_become, i_Session_become, k_Session_become⟩, (F_Session_become.binds (ps := ["self", "operation", "gates"]) fun _ _ _ _ _ _ us hl => match us, hl with | [_, _, _], _ => rfl)⟩, ⟨pg_cl, hd_cl, po_cl, sa_cl⟩, rfl⟩
  have F_Session_add := fun_mk (st := s_Session_add) l_Session_add c_Session_add k_Session_add
  have o_Session_add := ok_Session_add (P := l.prog) (w := w) (base := base) M F_Session_add fd_check_gate fm_Session_become
  have fm_Session_add : FdM l.prog w K mg base ⟨[(P_law, "law" ++ ".<locals>." ++ "<lambda>")], (fun c => match c with | 0 => a_eInvalidGate | 1 => a_eInvalidCircuit | 2 => a_eInvalidWord | 3 => a_eInvalidExchange | 4 => a_eInvalidLines | 5 => a_eInvalidKinds | 6 => a_eInvalidFunction | 7 => a_eInvalidAnswers | 8 => a_eInvalidText | 9 => a_eTooMany | 10 => a_eEmpty | 11 => a_eNothingToUndo | _ => 0), K, f_cl⟩ 7 "add" 1 f_Session_add := ⟨⟨_, _, _, o_Session_add, ⟨a_Session_add, i_Session_add, k_Session_add⟩, (F_Session_add.binds (ps := ["self", "gate"]) fun _ _ _ _ _ _ us hl => match us, hl with | [_, _], _ => rfl)⟩, ⟨pg_cl, hd_cl, po_cl, sa_cl⟩, rfl⟩
  have F_Session_drop := fun_mk (st := s_Session_drop) l_Session_drop c_Session_drop k_Session_drop
  have o_Session_drop := ok_Session_drop (P := l.prog) (w := w) (base := base) M F_Session_drop fm_Session_become
  have fm_Session_drop : FdM l.prog w K mg base ⟨[(P_law, "law" ++ ".<locals>." ++ "<lambda>")], (fun c => match c with | 0 => a_eInvalidGate | 1 => a_eInvalidCircuit | 2 => a_eInvalidWord | 3 => a_eInvalidExchange | 4 => a_eInvalidLines | 5 => a_eInvalidKinds | 6 => a_eInvalidFunction | 7 => a_eInvalidAnswers | 8 => a_eInvalidText | 9 => a_eTooMany | 10 => a_eEmpty | 11 => a_eNothingToUndo | _ => 0), K, f_cl⟩ 7 "drop" 0 f_Session_drop := ⟨⟨_, _, _, o_Session_drop, ⟨a_Session_drop, i_Session_drop, k_Session_drop⟩, (F_Session_drop.binds (ps := ["self"]) fun _ _ _ _ _ _ us hl => match us, hl with | [_], _ => rfl)⟩, ⟨pg_cl, hd_cl, po_cl, sa_cl⟩, rfl⟩
  have F_Session_circuit := fun_mk (st := s_Session_circuit) l_Session_circuit c_Session_circuit k_Session_circuit
  have o_Session_circuit := ok_Session_circuit (P := l.prog) (w := w) (base := base) M F_Session_circuit 
  have fm_Session_circuit : FdM l.prog w K mg base ⟨[(P_law, "law" ++ ".<locals>." ++ "<lambda>")], (fun c => match c with | 0 => a_eInvalidGate | 1 => a_eInvalidCircuit | 2 => a_eInvalidWord | 3 => a_eInvalidExchange | 4 => a_eInvalidLines | 5 => a_eInvalidKinds | 6 => a_eInvalidFunction | 7 => a_eInvalidAnswers | 8 => a_eInvalidText | 9 => a_eTooMany | 10 => a_eEmpty | 11 => a_eNothingToUndo | _ => 0), K, f_cl⟩ 1 "circuit" 0 f_Session_circuit := ⟨⟨_, _, _, o_Session_circuit, ⟨a_Session_circuit, i_Session_circuit, k_Session_circuit⟩, (F_Session_circuit.binds (ps := ["self"]) fun _ _ _ _ _ _ us hl => match us, hl with | [_], _ => rfl)⟩, ⟨pg_cl, hd_cl, po_cl, sa_cl⟩, rfl⟩
  have F_Session_rest := fun_mk (st := s_Session_rest) l_Session_rest c_Session_rest k_Session_rest
  have o_Session_rest := ok_Session_rest (P := l.prog) (w := w) (base := base) M F_Session_rest fd_made fd_back fd_then
  have fm_Session_rest : FdM l.prog w K mg base ⟨[(P_law, "law" ++ ".<locals>." ++ "<lambda>")], (fun c => match c with | 0 => a_eInvalidGate | 1 => a_eInvalidCircuit | 2 => a_eInvalidWord | 3 => a_eInvalidExchange | 4 => a_eInvalidLines | 5 => a_eInvalidKinds | 6 => a_eInvalidFunction | 7 => a_eInvalidAnswers | 8 => a_eInvalidText | 9 => a_eTooMany | 10 => a_eEmpty | 11 => a_eNothingToUndo | _ => 0), K, f_cl⟩ 5 "rest" 0 f_Session_rest := ⟨⟨_, _, _, o_Session_rest, ⟨a_Session_rest, i_Session_rest, k_Session_rest⟩, (F_Session_rest.binds (ps := ["self"]) fun _ _ _ _ _ _ us hl => match us, hl with | [_], _ => rfl)⟩, ⟨pg_cl, hd_cl, po_cl, sa_cl⟩, rfl⟩
  have F_Session_is_done := fun_mk (st := s_Session_is_done) l_Session_is_done c_Session_is_done k_Session_is_done
  have o_Session_is_done := ok_Session_is_done (P := l.prog) (w := w) (base := base) M F_Session_is_done fm_Session_rest
  have fm_Session_is_done : FdM l.prog w K mg base ⟨[(P_law, "law" ++ ".<locals>." ++ "<lambda>")], (fun c => match c with | 0 => a_eInvalidGate | 1 => a_eInvalidCircuit | 2 => a_eInvalidWord | 3 => a_eInvalidExchange | 4 => a_eInvalidLines | 5 => a_eInvalidKinds | 6 => a_eInvalidFunction | 7 => a_eInvalidAnswers | 8 => a_eInvalidText | 9 => a_eTooMany | 10 => a_eEmpty | 11 => a_eNothingToUndo | _ => 0), K, f_cl⟩ 6 "is_done" 0 f_Session_is_done := ⟨⟨_, _, _, o_Session_is_done, ⟨a_Session_is_done, i_Session_is_done, k_Session_is_done⟩, (F_Session_is_done.binds (ps := ["self"]) fun _ _ _ _ _ _ us hl => match us, hl with | [_], _ => rfl)⟩, ⟨pg_cl, hd_cl, po_cl, sa_cl⟩, rfl⟩
  have F_Session_history := fun_mk (st := s_Session_history) l_Session_history c_Session_history k_Session_history
  have o_Session_history := ok_Session_history (P := l.prog) (w := w) (base := base) M F_Session_history 
  have fm_Session_history : FdM l.prog w K mg base ⟨[(P_law, "law" ++ ".<locals>." ++ "<lambda>")], (fun c => match c with | 0 => a_eInvalidGate | 1 => a_eInvalidCircuit | 2 => a_eInvalidWord | 3 => a_eInvalidExchange | 4 => a_eInvalidLines | 5 => a_eInvalidKinds | 6 => a_eInvalidFunction | 7 => a_eInvalidAnswers | 8 => a_eInvalidText | 9 => a_eTooMany | 10 => a_eEmpty | 11 => a_eNothingToUndo | _ => 0), K, f_cl⟩ 1 "history" 0 f_Session_history := ⟨⟨_, _, _, o_Session_history, ⟨a_Session_history, i_Session_history, k_Session_history⟩, (F_Session_history.binds (ps := ["self"]) fun _ _ _ _ _ _ us hl => match us, hl with | [_], _ => rfl)⟩, ⟨pg_cl, hd_cl, po_cl, sa_cl⟩, rfl⟩
  have F_Session_len := fun_mk (st := s_Session_len) l_Session_len c_Session_len k_Session_len
  have o_Session_len := ok_Session_len (P := l.prog) (w := w) (base := base) M F_Session_len 
  have fm_Session_len : FdM l.prog w K mg base ⟨[(P_law, "law" ++ ".<locals>." ++ "<lambda>")], (fun c => match c with | 0 => a_eInvalidGate | 1 => a_eInvalidCircuit | 2 => a_eInvalidWord | 3 => a_eInvalidExchange | 4 => a_eInvalidLines | 5 => a_eInvalidKinds | 6 => a_eInvalidFunction | 7 => a_eInvalidAnswers | 8 => a_eInvalidText | 9 => a_eTooMany | 10 => a_eEmpty | 11 => a_eNothingToUndo | _ => 0), K, f_cl⟩ 1 "__len__" 0 f_Session_len := ⟨⟨_, _, _, o_Session_len, ⟨a_Session_len, i_Session_len, k_Session_len⟩, (F_Session_len.binds (ps := ["self"]) fun _ _ _ _ _ _ us hl => match us, hl with | [_], _ => rfl)⟩, ⟨pg_cl, hd_cl, po_cl, sa_cl⟩, rfl⟩
  have F_Session_str := fun_mk (st := s_Session_str) l_Session_str c_Session_str k_Session_str
  have o_Session_str := ok_Session_str (P := l.prog) (w := w) (base := base) M F_Session_str fm_Session_wrong
  have fm_Session_str : FdM l.prog w K mg base ⟨[(P_law, "law" ++ ".<locals>." ++ "<lambda>")], (fun c => match c with | 0 => a_eInvalidGate | 1 => a_eInvalidCircuit | 2 => a_eInvalidWord | 3 => a_eInvalidExchange | 4 => a_eInvalidLines | 5 => a_eInvalidKinds | 6 => a_eInvalidFunction | 7 => a_eInvalidAnswers | 8 => a_eInvalidText | 9 => a_eTooMany | 10 => a_eEmpty | 11 => a_eNothingToUndo | _ => 0), K, f_cl⟩ 6 "__str__" 0 f_Session_str := ⟨⟨_, _, _, o_Session_str, ⟨a_Session_str, i_Session_str, k_Session_str⟩, (F_Session_str.binds (ps := ["self"]) fun _ _ _ _ _ _ us hl => match us, hl with | [_], _ => rfl)⟩, ⟨pg_cl, hd_cl, po_cl, sa_cl⟩, rfl⟩
  have F_law_is := fun_mk (st := s_law_is) l_law_is c_law_is k_law_is
  have o_law_is := ok_law_is (P := l.prog) (w := w) (base := base) M F_law_is 
  have fd_law_is := Fd.of o_law_is (PySem.W.mg_of X G a_law_is) F_law_is.kp (F_law_is.binds (ps := ["found", "expected"]) fun _ _ _ _ _ _ us hl => match us, hl with | [_, _], _ => rfl)
  have F_law_draw := fun_mk (st := s_law_draw) l_law_draw c_law_draw k_law_draw
  have o_law_draw := ok_law_draw (P := l.prog) (w := w) (base := base) M F_law_draw 
  have fd_law_draw := Fd.of o_law_draw (PySem.W.mg_of X G a_law_draw) F_law_draw.kp (F_law_draw.binds (ps := ["script", "town", "many"]) fun _ _ _ _ _ _ us hl => match us, hl with | [_, _, _], _ => rfl)
  have F_law_begun := fun_mk (st := s_law_begun) l_law_begun c_law_begun k_law_begun
  have o_law_begun := ok_law_begun (P := l.prog) (w := w) (base := base) M F_law_begun 
  have fd_law_begun := Fd.of o_law_begun (PySem.W.mg_of X G a_law_begun) F_law_begun.kp (F_law_begun.binds (ps := []) fun _ _ _ _ _ _ us hl => match us, hl with | [], _ => rfl)
  have F_law_gates := fun_mk (st := s_law_gates) l_law_gates c_law_gates k_law_gates
  have o_law_gates := ok_law_gates (P := l.prog) (w := w) (base := base) M F_law_gates 
  have fd_law_gates := Fd.of o_law_gates (PySem.W.mg_of X G a_law_gates) F_law_gates.kp (F_law_gates.binds (ps := []) fun _ _ _ _ _ _ us hl => match us, hl with | [], _ => rfl)
  have F_law_circuit := fun_mk (st := s_law_circuit) l_law_circuit c_law_circuit k_law_circuit
  have o_law_circuit := ok_law_circuit (P := l.prog) (w := w) (base := base) M F_law_circuit fd_law_gates fd_law_draw
  have fd_law_circuit := Fd.of o_law_circuit (PySem.W.mg_of X G a_law_circuit) F_law_circuit.kp (F_law_circuit.binds (ps := ["script", "town", "kinds", "most"]) fun _ _ _ _ _ _ us hl => match us, hl with | [_, _, _, _], _ => rfl)
  have F_law_apply := fun_mk (st := s_law_apply) l_law_apply c_law_apply k_law_apply
  have o_law_apply := ok_law_apply (P := l.prog) (w := w) (base := base) M F_law_apply 
  have fd_law_apply := Fd.of o_law_apply (PySem.W.mg_of X G a_law_apply) F_law_apply.kp (F_law_apply.binds (ps := ["gate", "word"]) fun _ _ _ _ _ _ us hl => match us, hl with | [_, _], _ => rfl)
  have F_law_made := fun_mk (st := s_law_made) l_law_made c_law_made k_law_made
  have o_law_made := ok_law_made (P := l.prog) (w := w) (base := base) M F_law_made fd_law_apply
  have fd_law_made := Fd.of o_law_made (PySem.W.mg_of X G a_law_made) F_law_made.kp (F_law_made.binds (ps := ["circuit"]) fun _ _ _ _ _ _ us hl => match us, hl with | [_], _ => rfl)
  have F_law_exchange := fun_mk (st := s_law_exchange) l_law_exchange c_law_exchange k_law_exchange
  have o_law_exchange := ok_law_exchange (P := l.prog) (w := w) (base := base) M F_law_exchange fd_law_draw
  have fd_law_exchange := Fd.of o_law_exchange (PySem.W.mg_of X G a_law_exchange) F_law_exchange.kp (F_law_exchange.binds (ps := ["script", "town"]) fun _ _ _ _ _ _ us hl => match us, hl with | [_, _], _ => rfl)
  have F_law_call := fun_mk (st := s_law_call) l_law_call c_law_call k_law_call
  have o_law_call := ok_law_call (P := l.prog) (w := w) (base := base) M F_law_call fm_Session_drop fm_Session_add
  have fd_law_call := Fd.of o_law_call (PySem.W.mg_of X G a_law_call) F_law_call.kp (F_law_call.binds (ps := ["session", "operation"]) fun _ _ _ _ _ _ us hl => match us, hl with | [_, _], _ => rfl)
  have F_law_agrees := fun_mk (st := s_law_agrees) l_law_agrees c_law_agrees k_law_agrees
  have o_law_agrees := ok_law_agrees (P := l.prog) (w := w) (base := base) M F_law_agrees fd_law_made fm_Session_circuit fm_Session_wrong fm_Session_history fm_Session_rest fm_Session_is_done fd_law_is fm_Session_len fm_Session_str
  have fd_law_agrees := Fd.of o_law_agrees (PySem.W.mg_of X G a_law_agrees) F_law_agrees.kp (F_law_agrees.binds (ps := ["session", "goal", "circuit", "history"]) fun _ _ _ _ _ _ us hl => match us, hl with | [_, _, _, _], _ => rfl)
  have F_law_due := fun_mk (st := s_law_due) l_law_due c_law_due k_law_due
  have o_law_due := ok_law_due (P := l.prog) (w := w) (base := base) M F_law_due fd_law_gates
  have fd_law_due := Fd.of o_law_due (PySem.W.mg_of X G a_law_due) F_law_due.kp (F_law_due.binds (ps := ["operation", "circuit"]) fun _ _ _ _ _ _ us hl => match us, hl with | [_, _], _ => rfl)
  have F_law := fun_mk (st := s_law) l_law c_law k_law
  have o_law := ok_law (P := l.prog) (w := w) (base := base) M l_law c_law R Lm_law fd_law_begun fd_law_gates fd_law_exchange fd_law_draw fd_law_circuit fd_law_made fik_Session_init fd_law_due fd_law_agrees fd_law_call fi_Session_init
  exact o_law.imp (law_impT (C := ⟨[(P_law, "law" ++ ".<locals>." ++ "<lambda>")], (fun c => match c with | 0 => a_eInvalidGate | 1 => a_eInvalidCircuit | 2 => a_eInvalidWord | 3 => a_eInvalidExchange | 4 => a_eInvalidLines | 5 => a_eInvalidKinds | 6 => a_eInvalidFunction | 7 => a_eInvalidAnswers | 8 => a_eInvalidText | 9 => a_eTooMany | 10 => a_eEmpty | 11 => a_eNothingToUndo | _ => 0), K, f_cl⟩) law_true)
end K23
open PySem PySem.W PyProof.Rows
set_option maxHeartbeats 0 in
theorem PySem.Challenge.cw_backgates_k23_sessions_holds : PySem.Challenge.rw_backgates_k23_sessions.Holds := by
  w_on; o_law; k_head; (case hw => w_witness2)
  k_fill
  refine BG.walk_ofTab (l := PySem.Challenge.rw_backgates_k23_sessions) (n := 63) (k := 11) (x := "script") (CX := fun w => L2.CX PySem.Challenge.rw_backgates_k23_sessions.prog w) rfl (by decide) rfl ⟨rfl, by decide, by decide⟩ (fun w h Y => by first | exact PySem.W.kIn_of Y | exact PySem.W.km_in_of Y) ?F (fun _ _ _ _ _ h => BG.cx_no h)
  case F =>
    intro w mg fa h Y KX G hmg hTab
    refine' K23.all_mk KX G hmg ?a_cl ?pg_cl ?hd_cl ?po_cl ?sa_cl ?mk_cl ?kc_cl ?na_done ?na_gates ?na_goal ?na_undone ?a_is_between ?l_is_between ?c_is_between ?k_is_between ?a_is_gate ?l_is_gate ?c_is_gate ?k_is_gate ?a_is_exchange ?l_is_exchange ?c_is_exchange ?k_is_exchange ?a_check_gate ?l_check_gate ?c_check_gate ?k_check_gate ?a_check_exchange ?l_check_exchange ?c_check_exchange ?k_check_exchange ?a_weight_of ?l_weight_of ?c_weight_of ?k_weight_of ?a_bit ?l_bit ?c_bit ?k_bit ?a_applied ?l_applied ?c_applied ?k_applied ?a_made ?l_made ?c_made ?k_made ?a_then ?l_then ?c_then ?k_then ?a_back ?l_back ?c_back ?k_back ?a_Session_init ?i_Session_init ?l_Session_init ?c_Session_init ?k_Session_init ?a_Session_wrong ?i_Session_wrong ?l_Session_wrong ?c_Session_wrong ?k_Session_wrong ?a_Session_become ?i_Session_become ?l_Session_become ?c_Session_become ?k_Session_become ?a_Session_add ?i_Session_add ?l_Session_add ?c_Session_add ?k_Session_add ?a_Session_drop ?i_Session_drop ?l_Session_drop ?c_Session_drop ?k_Session_drop ?a_Session_circuit ?i_Session_circuit ?l_Session_circuit ?c_Session_circuit ?k_Session_circuit ?a_Session_rest ?i_Session_rest ?l_Session_rest ?c_Session_rest ?k_Session_rest ?a_Session_is_done ?i_Session_is_done ?l_Session_is_done ?c_Session_is_done ?k_Session_is_done ?a_Session_history ?i_Session_history ?l_Session_history ?c_Session_history ?k_Session_history ?a_Session_len ?i_Session_len ?l_Session_len ?c_Session_len ?k_Session_len ?a_Session_str ?i_Session_str ?l_Session_str ?c_Session_str ?k_Session_str ?a_law_is ?l_law_is ?c_law_is ?k_law_is ?a_law_draw ?l_law_draw ?c_law_draw ?k_law_draw ?a_law_begun ?l_law_begun ?c_law_begun ?k_law_begun ?a_law_gates ?l_law_gates ?c_law_gates ?k_law_gates ?a_law_circuit ?l_law_circuit ?c_law_circuit ?k_law_circuit ?a_law_apply ?l_law_apply ?c_law_apply ?k_law_apply ?a_law_made ?l_law_made ?c_law_made ?k_law_made ?a_law_exchange ?l_law_exchange ?c_law_exchange ?k_law_exchange ?a_law_call ?l_law_call ?c_law_call ?k_law_call ?a_law_agrees ?l_law_agrees ?c_law_agrees ?k_law_agrees ?a_law_due ?l_law_due ?c_law_due ?k_law_due ?a_law ?l_law ?c_law ?k_law ?g_law ?v_law ?n_law ?tb_law ?a_law_result ?l_law_result ?c_law_result ?k_law_result ?z_len ?z_all ?z_any ?z_sum ?z_sorted ?z_min ?z_max ?z_isinstance ?z_tuple ?z_list ?z_int ?z_bool ?z_str ?z_range ?z_set ?z_enumerate ?z_zip ?z_dict ?z_abs ?a_cKINDS_ ?l_cKINDS ?a_cLONGEST_ ?a_cSAME_ ?l_cSAME ?a_GE_ ?z_ValueError ?a_eInvalidCircuit_ ?a_eInvalidWord_ ?a_eInvalidLines_ ?a_eInvalidKinds_ ?a_eInvalidFunction_ ?a_eInvalidAnswers_ ?a_eInvalidText_ ?a_eNothingToUndo_ ?a_eInvalidGate_ ?x_eInvalidGate ?k_eInvalidGate ?b_eInvalidGate ?t_eInvalidGate ?a_eInvalidExchange_ ?x_eInvalidExchange ?k_eInvalidExchange ?b_eInvalidExchange ?t_eInvalidExchange ?a_eTooMany_ ?x_eTooMany ?k_eTooMany ?b_eTooMany ?t_eTooMany ?a_eEmpty_ ?x_eEmpty ?k_eEmpty ?b_eEmpty ?t_eEmpty ?exok
    (case a_cl => k_is); (case pg_cl => k_is); (case hd_cl => k_is); (case po_cl => k_is); (case sa_cl => k_is); (case mk_cl => k_is); (case kc_cl => k_is); (case na_done => k_is); (case na_gates => k_is); (case na_goal => k_is); (case na_undone => k_is); (case a_is_between => k_is); (case l_is_between => k_is); (case c_is_between => k_is); (case k_is_between => k_is); (case a_is_gate => k_is); (case l_is_gate => k_is); (case c_is_gate => k_is); (case k_is_gate => k_is); (case a_is_exchange => k_is); (case l_is_exchange => k_is); (case c_is_exchange => k_is); (case k_is_exchange => k_is); (case a_check_gate => k_is); (case l_check_gate => k_is); (case c_check_gate => k_is); (case k_check_gate => k_is); (case a_check_exchange => k_is); (case l_check_exchange => k_is); (case c_check_exchange => k_is); (case k_check_exchange => k_is); (case a_weight_of => k_is); (case l_weight_of => k_is); (case c_weight_of => k_is); (case k_weight_of => k_is); (case a_bit => k_is); (case l_bit => k_is); (case c_bit => k_is); (case k_bit => k_is); (case a_applied => k_is); (case l_applied => k_is); (case c_applied => k_is); (case k_applied => k_is); (case a_made => k_is); (case l_made => k_is); (case c_made => k_is); (case k_made => k_is); (case a_then => k_is); (case l_then => k_is); (case c_then => k_is); (case k_then => k_is); (case a_back => k_is); (case l_back => k_is); (case c_back => k_is); (case k_back => k_is); (case a_Session_init => k_is); (case i_Session_init => k_is); (case l_Session_init => k_is); (case c_Session_init => k_is); (case k_Session_init => k_is); (case a_Session_wrong => k_is); (case i_Session_wrong => k_is); (case l_Session_wrong => k_is); (case c_Session_wrong => k_is); (case k_Session_wrong => k_is); (case a_Session_become => k_is); (case i_Session_become => k_is); (case l_Session_become => k_is); (case c_Session_become => k_is); (case k_Session_become => k_is); (case a_Session_add => k_is); (case i_Session_add => k_is); (case l_Session_add => k_is); (case c_Session_add => k_is); (case k_Session_add => k_is); (case a_Session_drop => k_is); (case i_Session_drop => k_is); (case l_Session_drop => k_is); (case c_Session_drop => k_is); (case k_Session_drop => k_is); (case a_Session_circuit => k_is); (case i_Session_circuit => k_is); (case l_Session_circuit => k_is); (case c_Session_circuit => k_is); (case k_Session_circuit => k_is); (case a_Session_rest => k_is); (case i_Session_rest => k_is); (case l_Session_rest => k_is); (case c_Session_rest => k_is); (case k_Session_rest => k_is); (case a_Session_is_done => k_is); (case i_Session_is_done => k_is); (case l_Session_is_done => k_is); (case c_Session_is_done => k_is); (case k_Session_is_done => k_is); (case a_Session_history => k_is); (case i_Session_history => k_is); (case l_Session_history => k_is); (case c_Session_history => k_is); (case k_Session_history => k_is); (case a_Session_len => k_is); (case i_Session_len => k_is); (case l_Session_len => k_is); (case c_Session_len => k_is); (case k_Session_len => k_is); (case a_Session_str => k_is); (case i_Session_str => k_is); (case l_Session_str => k_is); (case c_Session_str => k_is); (case k_Session_str => k_is); (case a_law_is => k_is); (case l_law_is => k_is); (case c_law_is => k_is); (case k_law_is => k_is); (case a_law_draw => k_is); (case l_law_draw => k_is); (case c_law_draw => k_is); (case k_law_draw => k_is); (case a_law_begun => k_is); (case l_law_begun => k_is); (case c_law_begun => k_is); (case k_law_begun => k_is); (case a_law_gates => k_is); (case l_law_gates => k_is); (case c_law_gates => k_is); (case k_law_gates => k_is); (case a_law_circuit => k_is); (case l_law_circuit => k_is); (case c_law_circuit => k_is); (case k_law_circuit => k_is); (case a_law_apply => k_is); (case l_law_apply => k_is); (case c_law_apply => k_is); (case k_law_apply => k_is); (case a_law_made => k_is); (case l_law_made => k_is); (case c_law_made => k_is); (case k_law_made => k_is); (case a_law_exchange => k_is); (case l_law_exchange => k_is); (case c_law_exchange => k_is); (case k_law_exchange => k_is); (case a_law_call => k_is); (case l_law_call => k_is); (case c_law_call => k_is); (case k_law_call => k_is); (case a_law_agrees => k_is); (case l_law_agrees => k_is); (case c_law_agrees => k_is); (case k_law_agrees => k_is); (case a_law_due => k_is); (case l_law_due => k_is); (case c_law_due => k_is); (case k_law_due => k_is); (case a_law => k_is); (case l_law => k_is); (case c_law => k_is); (case k_law => k_is); (case g_law => k_is); (case v_law => rfl); (case n_law => kernel_rfl); (case tb_law => exact hTab _ _ _ (by decide +kernel)); (case a_law_result => k_is); (case l_law_result => k_is); (case c_law_result => k_is); (case k_law_result => k_is); (case z_len => k_is); (case z_all => k_is); (case z_any => k_is); (case z_sum => k_is); (case z_sorted => k_is); (case z_min => k_is); (case z_max => k_is); (case z_isinstance => k_is); (case z_tuple => k_is); (case z_list => k_is); (case z_int => k_is); (case z_bool => k_is); (case z_str => k_is); (case z_range => k_is); (case z_set => k_is); (case z_enumerate => k_is); (case z_zip => k_is); (case z_dict => k_is); (case z_abs => k_is); (case a_cKINDS_ => k_is); (case l_cKINDS => k_is); (case a_cLONGEST_ => k_is); (case a_cSAME_ => k_is); (case l_cSAME => k_is); (case a_GE_ => k_is); (case z_ValueError => k_is); (case a_eInvalidCircuit_ => k_is); (case a_eInvalidWord_ => k_is); (case a_eInvalidLines_ => k_is); (case a_eInvalidKinds_ => k_is); (case a_eInvalidFunction_ => k_is); (case a_eInvalidAnswers_ => k_is); (case a_eInvalidText_ => k_is); (case a_eNothingToUndo_ => k_is); (case a_eInvalidGate_ => k_is); (case x_eInvalidGate => k_exc); (case k_eInvalidGate => k_is); (case b_eInvalidGate => k_is); (case t_eInvalidGate => k_is); (case a_eInvalidExchange_ => k_is); (case x_eInvalidExchange => k_exc); (case k_eInvalidExchange => k_is); (case b_eInvalidExchange => k_is); (case t_eInvalidExchange => k_is); (case a_eTooMany_ => k_is); (case x_eTooMany => k_exc); (case k_eTooMany => k_is); (case b_eTooMany => k_is); (case t_eTooMany => k_is); (case a_eEmpty_ => k_is); (case x_eEmpty => k_exc); (case k_eEmpty => k_is); (case b_eEmpty => k_is); (case t_eEmpty => k_is); (case exok => kernel_rfl)
